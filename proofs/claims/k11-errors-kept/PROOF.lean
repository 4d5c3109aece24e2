import PyProof.Rows.All
import Wide.All
import OpenK.AllK
import Wide.FinOn
import HandS.ForMost
import HandS.ForExc
import HandS.Flow
import HandS.IsInst
import HandS.CallSlots
import HandS.SlotsOwn
import HandS.Strs
import HandS.Set
import KE.SortData
import HandS.TupAny
import HandS.Iter
import HandS.ListItems
import KE.KDictZip
import HandS.NoneIn
import HandS.DeepEq
import KE.KEqNest
import HandS.Zip
import KE.GoesMore
import KE.GoesZip
import HandS.Star
import HandS.SortKw
import KE.DatumOrd
import HandS.Style
import HandS.More
import HandS.CallRecv
import HandS.ListEq
import HandS.Exc
import HandS.ExcInit
import HandS.ExcField
import HandS.ExcOwn
import KE.KExcIs
import HandS.ExcIs
import HandS.HotCalls
import HandS.Defaults
import PySem.Challenge.RW_exitswin_k11_errors_kept
set_option Elab.async false
set_option linter.all false
set_option maxRecDepth 100000
set_option maxHeartbeats 2000000
/-! # The data layer. Python values as trees; lists that are changed, and other things with an identity, stand in a store M -/
namespace DL
open PySem L2

/-- a value: a tree. obj: a thing with an identity (a list that is changed, the bag, a def, a class) -/
inductive D where
  | non | bl (b : Bool) | int (i : Int) | str (x : Str) | lst (xs : List D) | tup (xs : List D) | dct (kvs : List (Key × D)) | obj (a : Addr) | ty (n : String) | scr (ns : List Int)
  | ins (C : Str) (ds : List D) | dcT (kvs : List (List Key × D)) | exc (a : Addr) (dd : Option Addr) (C : Str) (fs : List (Str × D))
/-- what stands at an identity -/
inductive MO where
  | bag | lst (ds : List D) | ins (C : Str) (fs : List (Option D))
abbrev MS := Addr → Option MO
/-- what an expression gives: a value, or a list that nobody else holds -/
inductive R where
  | val (d : D) | new (ds : List D) | nst (ds : List D)
def R.toD : R → D
  | .val d => d
  | .new ds => .lst ds
  | .nst ds => .lst ds
/-- an error: its class, its fields -/
structure Xn where
  cls : Str
  fs : Option (List (Str × D))

section
variable (K : PySem.W.Frag)
mutual
inductive Dv : Hp → V → D → Prop
  | non {G} : Dv G .non .non
  | bl {G} (b : Bool) : Dv G (.bl b) (.bl b)
  | int {G} (i : Int) : Dv G (.int i) (.int i)
  | str {G} (x : Str) : Dv G (.str x) (.str x)
  | lst {G a xs ds} : G a = some (.lst xs) → DvAll G xs ds → Dv G (.ref a) (.lst ds)
  | tup {G a xs ds} : SqT K G a xs → DvAll G xs ds → Dv G (.ref a) (.tup ds)
  | dct {G a o ks xs ds} : G a = some (.frz o (.dK (List.zip ks xs))) → ks.length = xs.length → DvAll G xs ds → Dv G (.ref a) (.dct (List.zip ks ds))
  | obj {G} (a : Addr) : Dv G (.ref a) (.obj a)
  | ty {G} (n : String) : Dv G (.ty n) (.ty n)
  | scr {G a ns} : SqL K G a (ns.map V.int) → ns.length ≤ 63 → Dv G (.ref a) (.scr ns)
  | ins {G a c dx C vs ws ds} : PySem.W.nsIn K mainGlobals C = some (some (.ref c)) → G a = some (SlX.SlO a c dx vs) → (∀ (i : Nat) (v : V), ws[i]? = some v → vs[i]? = some (some v)) → G dx = some (.xd []) → DvAll G ws ds → Dv G (.ref a) (.ins C ds)
  | dcT {G a o ks xs ds} : G a = some (.frz o (.dT (List.zip ks xs))) → ks.length = xs.length → DvAll G xs ds → Dv G (.ref a) (.dcT (List.zip ks ds))
  | exc {G a dd C ks vs ds} : G dd = some (.xd (List.zip ks vs)) → ks.length = vs.length → DvAll G vs ds → Dv G (.ref a) (.exc a (some dd) C (List.zip ks ds))
  | excN {G a C} : Dv G (.ref a) (.exc a none C [])
inductive DvAll : Hp → List V → List D → Prop
  | nil {G} : DvAll G [] []
  | cons {G v vs d ds} : Dv G v d → DvAll G vs ds → DvAll G (v :: vs) (d :: ds)
end
end
def Sub (G H : Hp) : Prop := ∀ a o, G a = some o → H a = some o
theorem Sub.refl (G : Hp) : Sub G G := fun _ _ h => h
theorem Sub.trans {G H I : Hp} (a : Sub G H) (b : Sub H I) : Sub G I := fun c o h => b c o (a c o h)
theorem Sub.rd {G H : Hp} {a : Addr} {u : HO} (e : Sub G H) (h : Rd G a u) : Rd H a u := by
  rcases h with h | ⟨o, h⟩
  · exact Or.inl (e a _ h)
  · exact Or.inr ⟨o, e a _ h⟩
theorem Sub.sqL {K : PySem.W.Frag} {G H : Hp} {a : Addr} {xs : List V} (e : Sub G H) (h : SqL K G a xs) : SqL K H a xs := by
  rcases h with h | h
  · exact Or.inl (e.rd h)
  · exact Or.inr h
theorem Sub.sqT {K : PySem.W.Frag} {G H : Hp} {a : Addr} {xs : List V} (e : Sub G H) (h : SqT K G a xs) : SqT K H a xs := by
  rcases h with h | h
  · exact Or.inl (e.rd h)
  · exact Or.inr h
mutual
theorem Dv.mono {K : PySem.W.Frag} {G G' : Hp} (e : Sub G G') : ∀ {v : V} {d : D}, Dv K G v d → Dv K G' v d
  | _, _, .non => .non
  | _, _, .bl b => .bl b
  | _, _, .int i => .int i
  | _, _, .str x => .str x
  | _, _, .lst h t => .lst (e _ _ h) (DvAll.mono e t)
  | _, _, .tup h t => .tup (e.sqT h) (DvAll.mono e t)
  | _, _, .dct h l t => .dct (e _ _ h) l (DvAll.mono e t)
  | _, _, .obj a => .obj a
  | _, _, .ty n => .ty n
  | _, _, .scr h l => .scr (e.sqL h) l
  | _, _, .ins n h q g t => .ins n (e _ _ h) q (e _ _ g) (DvAll.mono e t)
  | _, _, .dcT h l t => .dcT (e _ _ h) l (DvAll.mono e t)
  | _, _, .exc h l t => .exc (e _ _ h) l (DvAll.mono e t)
  | _, _, .excN => .excN
theorem DvAll.mono {K : PySem.W.Frag} {G G' : Hp} (e : Sub G G') : ∀ {vs : List V} {ds : List D}, DvAll K G vs ds → DvAll K G' vs ds
  | _, _, .nil => .nil
  | _, _, .cons h t => .cons (Dv.mono e h) (DvAll.mono e t)
end
section
variable {K : PySem.W.Frag} {G : Hp}
theorem DvAll.length : ∀ {vs : List V} {ds : List D}, DvAll K G vs ds → vs.length = ds.length
  | _, _, .nil => rfl
  | _, _, .cons _ t => by simp [DvAll.length t]
theorem DvAll.get : ∀ {vs : List V} {ds : List D} {i : Nat} {d : D}, DvAll K G vs ds → ds[i]? = some d → ∃ v, vs[i]? = some v ∧ Dv K G v d
  | _, _, _, _, .nil, e => by simp at e
  | _, _, 0, _, .cons r _, e => by simp at e; subst e; exact ⟨_, rfl, r⟩
  | _, _, i + 1, x, .cons _ t, e => by
    obtain ⟨u, h1, h2⟩ := DvAll.get (i := i) t (by simpa using e)
    exact ⟨u, by simpa using h1, h2⟩
theorem DvAll.get' : ∀ {vs : List V} {ds : List D} {i : Nat} {v : V}, DvAll K G vs ds → vs[i]? = some v → ∃ d, ds[i]? = some d ∧ Dv K G v d
  | _, _, _, _, .nil, e => by simp at e
  | _, _, 0, _, .cons r _, e => by simp at e; subst e; exact ⟨_, rfl, r⟩
  | _, _, i + 1, x, .cons _ t, e => by
    obtain ⟨u, h1, h2⟩ := DvAll.get' (i := i) t (by simpa using e)
    exact ⟨u, by simpa using h1, h2⟩
theorem DvAll.append : ∀ {vs ws : List V} {ds es : List D}, DvAll K G vs ds → DvAll K G ws es → DvAll K G (vs ++ ws) (ds ++ es)
  | _, _, _, _, .nil, s => s
  | _, _, _, _, .cons r t, s => .cons r (DvAll.append t s)
theorem DvAll.take : ∀ {vs : List V} {ds : List D} (n : Nat), DvAll K G vs ds → DvAll K G (vs.take n) (ds.take n)
  | _, _, 0, _ => .nil
  | _, _, _ + 1, .nil => .nil
  | _, _, n + 1, .cons r t => .cons r (DvAll.take n t)
theorem DvAll.drop : ∀ {vs : List V} {ds : List D} (n : Nat), DvAll K G vs ds → DvAll K G (vs.drop n) (ds.drop n)
  | _, _, 0, r => r
  | _, _, _ + 1, .nil => .nil
  | _, _, n + 1, .cons _ t => DvAll.drop n t
theorem DvAll.set {v : V} {d : D} (r : Dv K G v d) : ∀ {vs : List V} {ds : List D} (i : Nat), DvAll K G vs ds → DvAll K G (vs.set i v) (ds.set i d)
  | _, _, _, .nil => .nil
  | _, _, 0, .cons _ t => .cons r t
  | _, _, i + 1, .cons q t => .cons q (DvAll.set r i t)
theorem DvAll.one {v : V} {d : D} (r : Dv K G v d) : DvAll K G [v] [d] := .cons r .nil
theorem DvAll.snoc {vs : List V} {ds : List D} {v : V} {d : D} (t : DvAll K G vs ds) (r : Dv K G v d) : DvAll K G (vs ++ [v]) (ds ++ [d]) := t.append (.one r)
end

/-- the bag that the law draws from: a list [rest, mixed, place, cells]; of its numbers little is said -/
def MOk (K : PySem.W.Frag) (G H : Hp) (a : Addr) : MO → Prop
  | .bag => ∃ (x0 x1 x2 : Int) (ns : List Int) (vs : List V), H a = some (.lst vs) ∧ DvAll K G vs [.int x0, .int x1, .int x2, .lst (ns.map D.int)] ∧ 0 ≤ x0 ∧ 0 ≤ x1 ∧ x1 < 2147483647 ∧ 0 ≤ x2 ∧ ∀ n ∈ ns, 0 ≤ n
  | .lst ds => ∃ vs, H a = some (.lst vs) ∧ DvAll K G vs ds
  | .ins C fs => ∃ (c dx : Addr) (vs : List (Option V)), PySem.W.nsIn K mainGlobals C = some (some (.ref c)) ∧ H a = some (SlX.SlO a c dx vs) ∧ G dx = some (.xd []) ∧ ∀ (i : Nat) (d : D), fs[i]? = some (some d) → ∃ v, vs[i]? = some (some v) ∧ Dv K G v d
structure OkS (K : PySem.W.Frag) (G : Hp) (M : MS) (H : Hp) : Prop where
  sub : Sub G H
  dis : ∀ a mo, M a = some mo → G a = none
  mok : ∀ a mo, M a = some mo → MOk K G H a mo
/-- from one state to a later one -/
structure Step (K : PySem.W.Frag) (G : Hp) (M : MS) (H : Hp) (G' : Hp) (M' : MS) (H' : Hp) : Prop where
  ok : OkS K G' M' H'
  sub : Sub G G'
  keep : ∀ a o, H a = some o → M a = none → H' a = some o
  newM : ∀ a mo, M a = none → M' a = some mo → H a = none
  dom : ∀ a, H' a = none → H a = none
  newG : ∀ a o, G a = none → G' a = some o → M a = none → H a = none
section
variable {K : PySem.W.Frag} {G G1 G2 : Hp} {M M1 M2 : MS} {H H1 H2 : Hp}
theorem MOk.there {a : Addr} {mo : MO} (h : MOk K G H a mo) : ∃ o, H a = some o := by
  cases mo with
  | bag => obtain ⟨_, _, _, _, _, h, _⟩ := h; exact ⟨_, h⟩
  | lst ds => obtain ⟨_, h, _⟩ := h; exact ⟨_, h⟩
  | ins C fs => obtain ⟨_, _, _, _, h, _⟩ := h; exact ⟨_, h⟩
theorem Step.refl (o : OkS K G M H) : Step K G M H G M H := ⟨o, Sub.refl G, fun _ _ h _ => h, fun a mo h q => (by rw [h] at q; cases q), fun _ h => h, fun a o h q _ => (by rw [h] at q; cases q)⟩
theorem Step.noM (s : Step K G M H G1 M1 H1) {a : Addr} {o : HO} (h : H a = some o) (hm : M a = none) : M1 a = none := by
  cases e : M1 a with
  | none => rfl
  | some mo =>
    have q := s.newM a mo hm e
    rw [h] at q; cases q
theorem Step.trans (a : Step K G M H G1 M1 H1) (b : Step K G1 M1 H1 G2 M2 H2) : Step K G M H G2 M2 H2 where
  ok := b.ok
  sub := a.sub.trans b.sub
  keep := fun x o h hm => b.keep x o (a.keep x o h hm) (a.noM h hm)
  newM := fun x mo hm h => by
    cases e : M1 x with
    | none => exact a.dom x (b.newM x mo e h)
    | some m1 => exact a.newM x m1 hm e
  dom := fun x h => a.dom x (b.dom x h)
  newG := fun x o hg h hm => by
    cases e : G1 x with
    | some u => exact a.newG x u hg e hm
    | none =>
      cases e2 : M1 x with
      | some mo => exact a.newM x mo hm e2
      | none => exact a.dom x (b.newG x o e h e2)
end
/-- a value as what is given; H0: the heap ahead of it -/
def Rv (K : PySem.W.Frag) (H0 G : Hp) (M : MS) (H : Hp) (v : V) : R → Prop
  | .val d => Dv K G v d
  | .new ds => ∃ p vs, v = .ref p ∧ H0 p = none ∧ H p = some (.lst vs) ∧ G p = none ∧ M p = none ∧ DvAll K G vs ds
  | .nst ds => ∃ p vs, v = .ref p ∧ H0 p = none ∧ H p = some (.lst vs) ∧ G p = none ∧ M p = none ∧ DvAll K G vs ds
theorem upd_sub {G H : Hp} {p : Addr} {o : HO} (s : Sub G H) (h : H p = some o) : Sub (upd G p o) H := fun a u e => by
  by_cases ha : a = p
  · subst ha; rw [upd_same] at e; cases e; exact h
  · rw [upd_ne ha] at e; exact s a u e
theorem sub_upd {G : Hp} {p : Addr} {o : HO} (h : G p = none) : Sub G (upd G p o) := fun a u e => by
  rw [upd_ne (ne_of_none e h)]; exact e
theorem MOk.mono {K : PySem.W.Frag} {G G' H : Hp} {a : Addr} (e : Sub G G') {mo : MO} (h : MOk K G H a mo) : MOk K G' H a mo := by
  cases mo with
  | bag => obtain ⟨x0, x1, x2, ns, vs, h1, h2, h3⟩ := h; exact ⟨x0, x1, x2, ns, vs, h1, h2.mono e, h3⟩
  | lst ds => obtain ⟨vs, h1, h2⟩ := h; exact ⟨vs, h1, h2.mono e⟩
  | ins C fs => obtain ⟨c, dx, vs, h0, h1, h2, h3⟩ := h; exact ⟨c, dx, vs, h0, h1, e _ _ h2, fun i d q => let ⟨v, z1, z2⟩ := h3 i d q; ⟨v, z1, z2.mono e⟩⟩
/-- an object is known still if its place in the heap is as it was -/
theorem MOk.at_ {K : PySem.W.Frag} {G H H' : Hp} {a : Addr} {mo : MO} (h : MOk K G H a mo) (e : H' a = H a) : MOk K G H' a mo := by
  cases mo with
  | bag => obtain ⟨x0, x1, x2, ns, vs, h1, h3⟩ := h; exact ⟨x0, x1, x2, ns, vs, e.trans h1, h3⟩
  | lst ds => obtain ⟨vs, h1, h2⟩ := h; exact ⟨vs, e.trans h1, h2⟩
  | ins C fs => obtain ⟨c, dx, vs, h0, h1, h2⟩ := h; exact ⟨c, dx, vs, h0, e.trans h1, h2⟩
section
variable {K : PySem.W.Frag} {H0 G G1 : Hp} {M M1 : MS} {H H1 : Hp} {v : V} {r : R}
/-- what nobody else holds may be taken as data -/
theorem Rv.adoptN {ds : List D} (s : Step K G M H G1 M1 H1) (h : Rv K H G1 M1 H1 v (.new ds)) : ∃ G2, Step K G M H G2 M1 H1 ∧ Dv K G2 v (.lst ds) := by
    obtain ⟨p, vs, rfl, h0, h1, hg, hm, t⟩ := h
    have e : Sub G1 (upd G1 p (.lst vs)) := sub_upd hg
    refine ⟨upd G1 p (.lst vs), ⟨⟨upd_sub s.ok.sub h1, fun a mo q => ?_, fun a mo q => (s.ok.mok a mo q).mono e⟩, s.sub.trans e, s.keep, s.newM, s.dom, fun a o hg' q hm' => ?_⟩, .lst upd_same (t.mono e)⟩
    · have ha : a ≠ p := fun z => by rw [z, hm] at q; cases q
      rw [upd_ne ha]; exact s.ok.dis a mo q
    · by_cases ha : a = p
      · rw [ha]; exact h0
      · rw [upd_ne ha] at q; exact s.newG a o hg' q hm'
theorem Rv.adopt (s : Step K G M H G1 M1 H1) (h : Rv K H G1 M1 H1 v r) : ∃ G2, Step K G M H G2 M1 H1 ∧ Dv K G2 v r.toD := by
  cases r with
  | val d => exact ⟨G1, s, h⟩
  | new ds => exact Rv.adoptN s h
  | nst ds => exact Rv.adoptN s h
end
def updM (M : MS) (a : Addr) (o : MO) : MS := fun b => if b = a then some o else M b
theorem updM_same {M : MS} {a : Addr} {o : MO} : updM M a o a = some o := by unfold updM; rw [if_pos rfl]
theorem updM_ne {M : MS} {a b : Addr} {o : MO} (h : b ≠ a) : updM M a o b = M b := by unfold updM; rw [if_neg h]
def dropM (M : MS) (a : Addr) : MS := fun b => if b = a then none else M b
theorem dropM_same {M : MS} {a : Addr} : dropM M a a = none := by unfold dropM; rw [if_pos rfl]
theorem dropM_ne {M : MS} {a b : Addr} (h : b ≠ a) : dropM M a b = M b := by unfold dropM; rw [if_neg h]
/-- M' without the lists that M does not know -/
def restrict (M M' : MS) : MS := fun a => match M' a with
  | some (.lst ds) => if (M a).isSome then some (.lst ds) else none
  | m => m

/-! ### slots -/
abbrev DEnv := List (Option D)
structure ER (K : PySem.W.Frag) (G : Hp) (σ : L2.St) (δ : DEnv) : Prop where
  len : σ.length = δ.length
  at_ : ∀ (i : Nat) (d : D), δ[i]? = some (some d) → ∃ v, σ[i]? = some (some v) ∧ Dv K G v d
theorem ER.mono {K : PySem.W.Frag} {G G' : Hp} {σ : L2.St} {δ : DEnv} (e : ER K G σ δ) (s : Sub G G') : ER K G' σ δ :=
  ⟨e.len, fun i d h => let ⟨v, h1, h2⟩ := e.at_ i d h; ⟨v, h1, h2.mono s⟩⟩
theorem ER.set {K : PySem.W.Frag} {G : Hp} {σ : L2.St} {δ : DEnv} (e : ER K G σ δ) (i : Nat) {v : V} {d : D} (h : Dv K G v d) : ER K G (σ.set i (some v)) (δ.set i (some d)) := by
  refine ⟨by simp [e.len], fun j d' q => ?_⟩
  by_cases hj : i = j
  · subst hj
    have hl : i < δ.length := by
      have := (List.getElem?_eq_some_iff.mp q).1
      simpa using this
    rw [List.getElem?_set_self hl] at q
    cases q
    exact ⟨v, by rw [List.getElem?_set_self (by rw [e.len]; exact hl)], h⟩
  · rw [List.getElem?_set_ne hj] at q ⊢
    exact e.at_ j d' q
theorem ER.unset {K : PySem.W.Frag} {G : Hp} {σ : L2.St} {δ : DEnv} (e : ER K G σ δ) (i : Nat) : ER K G (σ.set i none) (δ.set i none) := by
  refine ⟨by simp [e.len], fun j d' q => ?_⟩
  by_cases hj : i = j
  · subst hj
    have hl : i < δ.length := by
      have := (List.getElem?_eq_some_iff.mp q).1
      simpa using this
    rw [List.getElem?_set_self hl] at q
    cases q
  · rw [List.getElem?_set_ne hj] at q ⊢
    exact e.at_ j d' q
def wipeD (δ : DEnv) : List Nat → DEnv
  | [] => δ
  | v :: vs => (wipeD δ vs).set v none
theorem ER.wipe {K : PySem.W.Frag} {G : Hp} {σ : L2.St} {δ : DEnv} (e : ER K G σ δ) : ∀ vs : List Nat, ER K G (L2.wipe σ vs) (wipeD δ vs)
  | [] => e
  | v :: vs => (ER.wipe e vs).unset v
end DL
set_option maxRecDepth 100000
set_option maxHeartbeats 4000000
/-! # sets of texts, walked and sorted (no data layer in it) -/
namespace DL
open PySem PySem.Spec PyProof.Rows
/-- how many different texts -/
def newAt (xs : List Str) (i : Nat) : Bool := !(xs.take i).any (· == xs.getD i Str.empty)
def cntN (xs : List Str) (i : Nat) : Nat := ((List.range i).filter (newAt xs)).length
def ltS (a b : Str) : Bool := PySem.Spec.ltCps a.cps.toList b.cps.toList
/-- the different texts, ascending -/
def insU (x : Str) : List Str → List Str
  | [] => [x]
  | y :: r => if ltS x y = true then x :: y :: r else if ltS y x = true then y :: insU x r else y :: r
def sortU (xs : List Str) : List Str := xs.foldr insU []
theorem cntN_succ (xs : List Str) (i : Nat) : cntN xs (i + 1) = if (xs.take i).any (· == xs.getD i Str.empty) then cntN xs i else cntN xs i + 1 := by
  unfold cntN
  rw [List.range_succ, List.filter_append, List.length_append]
  have e : newAt xs i = !(xs.take i).any (· == xs.getD i Str.empty) := rfl
  cases h : (xs.take i).any (· == xs.getD i Str.empty)
  · rw [h] at e; rw [List.filter_cons, e]; rfl
  · rw [h] at e; rw [List.filter_cons, e]; rfl
theorem cntN_le (xs : List Str) (i : Nat) : cntN xs i ≤ i := by
  have := List.length_filter_le (newAt xs) (List.range i)
  rwa [List.length_range] at this
theorem take_any {xs : List Str} {i : Nat} (hi : i < xs.length) (k : Str) : ((xs.take i).any (· == k) || decide (k = xs.getD i Str.empty)) = (xs.take (i + 1)).any (· == k) := by
  have e : xs.getD i Str.empty = xs[i] := by
    rw [List.getD_eq_getElem?_getD, List.getElem?_eq_getElem hi]; rfl
  rw [List.take_add_one, List.getElem?_eq_getElem hi, e, List.any_append]
  congr 1
  show decide (k = xs[i]) = [xs[i]].any (· == k)
  by_cases h : k = xs[i]
  · simp [h]
  · have h2 : (xs[i] == k) = false := by simpa [beq_iff_eq] using fun z => h z.symm
    simp [h, h2]
def skey (e : Int × Value) : Str := match e.2 with
  | .str x _ => x
  | _ => Str.empty
def GoodS (w : World) (e : Int × Value) : Prop := ∃ x t, e.2 = Value.str x t ∧ e.1 = hashStr w x
/-- the set of texts at a: S its members, n their number; its table rises and can be walked -/
def SetS (w : World) (h : Heap) (a : Addr) (S : Str → Bool) (n : Nat) : Prop :=
  ∃ o es ep t, h.get? a = some o ∧ o.ExactSet ∧ o.data = .set es ep t ∧ (∀ e ∈ es.toList, GoodS w e) ∧ (es.toList.map skey).Nodup ∧ (∀ k, S k = true ↔ k ∈ es.toList.map skey) ∧
    es.size < scanBound ∧ t.fits es.size = true ∧ es.size = n ∧ L2.Ris t.place.toList ∧ (w.params.followText "set-order" = true ∨ t.led = true)
section
variable {P : Program} {w : World} {h h' : Heap} {a : Addr} {S : Str → Bool} {n : Nat}
theorem goodS_elems {l : List (Int × Value)} (g : ∀ e ∈ l, GoodS w e) : ElemsOf (PySem.strKind P w) l := fun e he => by
  obtain ⟨k, tk, h1, h2⟩ := g e he
  exact ⟨⟨k, by rw [h1]; exact strKind_is P w k tk, h2⟩, by rw [h1] <;> rfl⟩
theorem goodS_is {e : Int × Value} (g : GoodS w e) (k : Str) : (PySem.strKind P w).is k e.2 = true ↔ skey e = k := by
  obtain ⟨x, t, h1, _⟩ := g
  unfold skey
  rw [h1]
  constructor
  · intro z
    exact (PySem.strKind P w).inj _ _ _ (strKind_is P w x t) z
  · intro z
    have z' : x = k := z
    rw [z']; exact strKind_is P w k t
theorem goodS_mem {l : List (Int × Value)} (g : ∀ e ∈ l, GoodS w e) (k : Str) : k ∈ l.map skey ↔ ∃ e ∈ l, (PySem.strKind P w).is k e.2 = true := by
  rw [List.mem_map]
  constructor
  · rintro ⟨e, he, q⟩
    exact ⟨e, he, (goodS_is (g e he) k).2 q⟩
  · rintro ⟨e, he, q⟩
    exact ⟨e, he, (goodS_is (g e he) k).1 q⟩
theorem SetS.congr {S' : Str → Bool} {n' : Nat} (R : SetS w h a S n) (e : ∀ k, S k = S' k) (hn : n = n') : SetS w h a S' n' := by
  have q : S = S' := funext e
  rw [← q, ← hn]; exact R
end
section
variable {P : Program} {w : World} {A : Around} {E : Value → Shared → Prop} {s : Shared} {a : Addr} {S : Str → Bool} {n : Nat}
/-- the end of an addition: stored, and laid anew where the table is too full -/
theorem setS_tail {g : Bool → Sem Unit} (hg : ∀ (b : Bool) (s₁ : Shared) (Q' : Unit → Shared → Prop), Q' () s₁ → wpAny (model P w) A (g b) Q' E s₁)
    {o : Obj} {es : Array (Int × Value)} {ep : Nat} {t : SetTable} (ho : s.heap.get? a = some o) (hex : o.ExactSet) (hd : o.data = .set es ep t)
    {es1 : Array (Int × Value)} {t2 : SetTable} {S' : Str → Bool} (g1 : ∀ e ∈ es1.toList, GoodS w e) (nd1 : (es1.toList.map skey).Nodup) (m1 : ∀ k, S' k = true ↔ k ∈ es1.toList.map skey)
    (hb1 : es1.size < scanBound) (hf2 : t2.fits es1.size = true) (hr : L2.Ris t2.place.toList) (hl : w.params.followText "set-order" = true ∨ t2.led = true) {wasDummy : Bool} {R : Option Bool → Shared → Prop}
    (hR : ∀ h', Heap.SameBut a s.heap h' → SetS w h' a S' es1.size → R (some true) { s with heap := h' }) :
    wpAny (model P w) A (do
        storeSet a es1 t2
        if (!wasDummy && t2.tooFull) = true then do
            g (relayAll t2 es1 (SetTable.grown es1.size)).2.2
            storeSet a (relayAll t2 es1 (SetTable.grown es1.size)).1 (relayAll t2 es1 (SetTable.grown es1.size)).2.1
            pure (some true)
          else pure (some true)) R E s := by
  have sb1 := Heap.SameBut.update s.heap a (Obj.putSet es1 t2)
  have ho1 := L2.store_at (es' := es1) (t' := t2) ho hd
  refine wpAny_bind (wpAny_storeSet_of ho hd ?_ (fits_of_scanBound hb1))
  by_cases full : (!wasDummy && t2.tooFull) = true
  · rw [if_pos full]
    have pm := relayAll_perm t2 es1 (SetTable.grown es1.size)
    have hf3 := relayAll_fits t2 es1 (SetTable.grown es1.size)
    have hr3 := L2.relayAll_ris t2 es1 (SetTable.grown es1.size)
    have hl3 := L2.relayAll_led t2 es1 (SetTable.grown es1.size)
    generalize relayAll t2 es1 (SetTable.grown es1.size) = Z at pm hf3 hr3 hl3 ⊢
    obtain ⟨es2, t3, gave⟩ := Z
    have pk := List.Perm.map skey pm
    have hsz : es2.size = es1.size := by have z := pm.length_eq; simpa using z
    have hb2 : es2.size < scanBound := by omega
    refine wpAny_bind (hg _ _ _ (wpAny_bind (wpAny_storeSet_of ho1 rfl (wpAny_pure (hR _ (sb1.trans (Heap.SameBut.update _ a _)) ?_)) (fits_of_scanBound hb2))))
    refine ⟨_, es2, _, t3, L2.store_at (es' := es2) (t' := t3) ho1 rfl, hex, rfl, fun e he => g1 e (pm.mem_iff.mp he), pk.nodup_iff.mpr nd1, fun k => (m1 k).trans pk.mem_iff.symm, hb2, hf3, hsz, hr3, ?_⟩
    rcases hl with z | z
    · exact .inl z
    · exact .inr (hl3.trans z)
  · rw [if_neg full]
    exact wpAny_pure (hR _ sb1 ⟨_, es1, _, t2, ho1, hex, rfl, g1, nd1, m1, hb1, hf2, rfl, hr, hl⟩)
theorem setS_add {k : Str} {tk : Tok} {Q : Bool → Shared → Prop} (R : SetS w s.heap a S n) (room : n + 1 < scanBound)
    (hQ : ∀ h', Heap.SameBut a s.heap h' → SetS w h' a (fun j => S j || decide (j = k)) (if S k = true then n else n + 1) → Q (!S k) { s with heap := h' }) :
    wpAny (model P w) A (setAddHashed a (.str k tk) ((PySem.strKind P w).hash k)) Q E s := by
  obtain ⟨o, es, ep, t, ho, hex, hd, g, nd, hm, hb, hf, hn, hr, hl⟩ := R
  have hkey : (PySem.strKind P w).is k (.str k tk) = true := strKind_is P w k tk
  have hsc : (Value.str k tk).scannable = true := rfl
  have hel : ElemsOf (PySem.strKind P w) es.toList := goodS_elems g
  have gm := fun i => goodS_mem (P := P) g i
  unfold setAddHashed setAddHashedIn
  refine wpAny_holding (wpAny_bind (wpAny_setState_of ho hd hf ?_))
  dsimp only
  rw [byScan_of hsc hb hel]
  simp only [↓reduceIte]
  unfold setAddByScan
  refine wpAny_bind (wpAny_bind (wpAny_rule (wpAny_bind (wpAny_setScan_of hkey ho hd hf hel ?_))))
  cases hfi : List.findIdx? (fun e => (PySem.strKind P w).is k e.2) es.toList with
  | some j =>
    obtain ⟨hj, pj, _⟩ := List.findIdx?_eq_some_iff_getElem.mp hfi
    have hSk : S k = true := (hm k).2 ((gm k).2 ⟨es.toList[j], List.getElem_mem hj, pj⟩)
    refine wpAny_pure (wpAny_pure ?_)
    have q := hQ s.heap (Heap.SameBut.refl a s.heap) ⟨o, es, ep, t, ho, hex, hd, g, nd, fun i => by
      rw [← hm i]
      by_cases e : i = k
      · rw [e]; simp [hSk]
      · simp [e], hb, hf, by rw [if_pos hSk]; exact hn, hr, hl⟩
    rw [hSk] at q
    exact q
  | none =>
    have hnk : k ∉ es.toList.map skey := fun z => by
      obtain ⟨e, he, q⟩ := (gm k).1 z
      have c := List.findIdx?_eq_none_iff.mp hfi e he
      rw [q] at c
      cases c
    have hSk : S k = false := by
      cases q : S k with
      | false => rfl
      | true => exact absurd ((hm k).1 q) hnk
    have hgw : ∀ (b : Bool) {s₁ : Shared} {Q' : Unit → Shared → Prop}, Q' () s₁ → wpAny (model P w) A (match b with | true => rule "set.scan.the-table-gave-way" | false => pure ()) Q' E s₁ :=
      fun b s₁ Q' q => by cases b <;> first | exact wpAny_pure q | exact wpAny_rule q
    have pm := layNew_perm t es ((PySem.strKind P w).hash k) (.str k tk)
    have hf1 := layNew_fits t es ((PySem.strKind P w).hash k) (.str k tk)
    have hr1 := L2.layNew_ris t es ((PySem.strKind P w).hash k) (.str k tk) hr
    have hl1 := L2.layNew_led t es ((PySem.strKind P w).hash k) (.str k tk)
    generalize layNew t es ((PySem.strKind P w).hash k) (.str k tk) = Z at pm hf1 hr1 hl1 ⊢
    obtain ⟨es1, t1, wasDummy, gave⟩ := Z
    dsimp only at pm hf1 hr1 hl1 ⊢
    rw [Array.toList_push] at pm
    have pc := pm.trans (List.perm_append_singleton _ _)
    have pk : (es1.toList.map skey).Perm (k :: es.toList.map skey) := pc.map skey
    have g1 : ∀ e ∈ es1.toList, GoodS w e := fun e he => by
      rcases List.mem_cons.mp (pc.mem_iff.mp he) with z | z
      · rw [z]; exact ⟨k, tk, rfl, rfl⟩
      · exact g e z
    have nd1 : (es1.toList.map skey).Nodup := pk.nodup_iff.mpr (List.nodup_cons.mpr ⟨hnk, nd⟩)
    have m1 : ∀ i, (S i || decide (i = k)) = true ↔ i ∈ es1.toList.map skey := fun i => by
      rw [Bool.or_eq_true, decide_eq_true_eq, hm i, pk.mem_iff, List.mem_cons]
      exact Or.comm
    have hsz : es1.size = n + 1 := by have z := pc.length_eq; simp at z; omega
    have hb1 : es1.size < scanBound := by omega
    have hled : w.params.followText "set-order" = true ∨ t1.led = true := by
      rcases hl with z | z
      · exact .inl z
      · exact .inr (hl1.trans z)
    have fin : ∀ h', Heap.SameBut a s.heap h' → SetS w h' a (fun j => S j || decide (j = k)) es1.size → Q true { s with heap := h' } := fun h' sb r => by
      have q := hQ h' sb
      rw [hSk] at q
      rw [hsz] at r
      exact q r
    refine wpAny_bind (hgw _ ?_)
    split
    · refine wpAny_bind ?_
      rw [hashByValue_scannable 8 hsc]
      refine wpAny_pure ?_
      refine setS_tail ?_ ho hex hd g1 nd1 m1 hb1 ?_ ?_ ?_ ?_
      · intro b s₁ Q' q; cases b <;> first | exact wpAny_pure q | exact wpAny_rule q
      · first | (split <;> first | exact hf1 | exact SetTable.fits_plain_off hf1) | exact hf1
      · first | (split <;> exact hr1) | exact hr1
      · first | (split <;> exact hled) | exact hled
      · intro h' sb r; exact wpAny_pure (fin h' sb r)
    · refine wpAny_bind (wpAny_pure ?_)
      simp only [↓reduceIte]
      refine setS_tail ?_ ho hex hd g1 nd1 m1 hb1 hf1 hr1 hled ?_
      · intro b s₁ Q' q; cases b <;> first | exact wpAny_pure q | exact wpAny_rule q
      · intro h' sb r; exact wpAny_pure (fin h' sb r)
/-- a set of nothing yet -/
theorem setS_fresh {h : Heap} {led : Bool} (hl : w.params.followText "set-order" = true ∨ led = true) (e : h.get? a = some (⟨.type "set", none, .set #[] 0 (.fresh 0 0 led), #[]⟩ : Obj)) : SetS w h a (fun _ => false) 0 :=
  ⟨_, #[], 0, _, e, ⟨rfl, rfl, rfl⟩, rfl, (fun e he => by simp at he), (by simp), (fun k => by simp), (by decide), (by rfl), rfl, List.Pairwise.nil, hl⟩
theorem set_new_led (v : Value) {Q₁ : Value → Shared → Prop}
    (h : Q₁ (.ref s.heap.objs.size) { s with heap := s.heap.push ⟨.type "set", none, .set #[] 0 (.fresh 0 0 (!w.params.followText "set-order")), #[]⟩ }) :
    codeAny (model P w) A (.call (.builtin "set.__new__") ⟨[.type "set", v], []⟩) (wants Q₁ E) s := by
  refine codeAny_of_tree ?_
  show wpAny _ A.in1 (do checkBuiltinCall "set.__new__" ⟨[.type "set", v], []⟩; again (.builtin "set.__new__" ⟨[.type "set", v], []⟩)) _ _ s
  refine wpAny_bind (wpAny_of_eq (PySem.F.newCall_set_1 _) (wpAny_pure ⟨plainId_quiet PySem.F.plain_set_new _, codeAny_builtin PySem.F.entry_set_new ?_⟩))
  rw [Around.under_plainId PySem.F.plain_set_new _]
  unfold Builtin.«set.__new__» Builtin.Frozenset.newClass
  have hsub := sub_set_self
  obtain ⟨hp, g, d, tk, os⟩ := s
  dsimp only
  wp_walk
  refine wpAny_askSetting (wpAny_pure ?_)
  dsimp only
  simp only [newObj]
  refine wpAny_bind (wpAny_alloc (wpAny_pure ?_))
  exact wpAny_pure h
end
section
variable {P : Program} {w : World} {A : Around} {R : Result → Shared → Prop} {I : Addr} {fp wr : List Addr} {G : Array GenState → Array GenState → Prop} {n : Nat} {Pv : Nat → Value → Prop} {St : Nat → Shared → Prop}
/-- the texts go into the set, one by one -/
theorem setS_loop (W : WalksS P w A.in1 I fp wr G n Pv St) (S : Addr) (hSf : S ∉ fp) (xs : List Str) (hsz : xs.length = n) (hn : n ≤ 4000) (hval : ∀ i v, Pv i v → ∃ t, v = .str (xs.getD i Str.empty) t)
    (fin : ∀ s s', Moved (S :: wr) G s s' → SetS w s'.heap S (fun z => (xs.take n).any (· == z)) (cntN xs n) → True) :
    ∀ (k i : Nat) (s : Shared), n - i = k → i ≤ n → St i s → SetS w s.heap S (fun z => (xs.take i).any (· == z)) (cntN xs i) →
      (∀ s', Moved (S :: wr) G s s' → SetS w s'.heap S (fun z => (xs.take n).any (· == z)) (cntN xs n) → R (.ok (.ret .none)) s') →
      codeAny (model P w) A (.builtin "set.update.loop" ⟨[.ref S, .ref I], []⟩) R s
  | 0, i, s, hk, hi, hst, hS, hR => by
    obtain rfl : i = n := by omega
    have hSw : S ∉ wr := fun h => hSf (W.sub _ h)
    refine codeAny_builtin PyProof.Rows.F.entry_set_update_loop ?_
    rw [Around.under_plainId PyProof.Rows.F.plain_set_update_loop _]
    refine wpAny_bind (m := pyNext (.ref I)) (W.done s _ _ hst fun s' hm => ?_)
    refine wpAny_pure (hR s' (hm.mono fun b hb => List.mem_cons_of_mem _ hb) ?_)
    obtain ⟨o, es, ep, t, ho, r⟩ := hS
    exact ⟨o, es, ep, t, hm.heap S _ hSw ho, r⟩
  | k + 1, i, s, hk, hi, hst, hS, hR => by
    have hSw : S ∉ wr := fun h => hSf (W.sub _ h)
    have hlt : i < n := by omega
    refine codeAny_builtin PyProof.Rows.F.entry_set_update_loop ?_
    rw [Around.under_plainId PyProof.Rows.F.plain_set_update_loop _]
    refine wpAny_bind (m := pyNext (.ref I)) (W.item i s _ _ hlt hst fun v s' hP hst' hm => ?_)
    obtain ⟨t, rfl⟩ := hval i v hP
    have hS' : SetS w s'.heap S (fun z => (xs.take i).any (· == z)) (cntN xs i) := by
      obtain ⟨o, es, ep, tb, ho, r⟩ := hS
      exact ⟨o, es, ep, tb, hm.heap S _ hSw ho, r⟩
    refine wpAny_bind (m := holding [Value.str (xs.getD i Str.empty) t] (setAdd S (.str (xs.getD i Str.empty) t))) (wpAny_holding ?_)
    unfold setAdd
    refine wpAny_holding (wpAny_bind ((PySem.strKind P w).pyHash (k := xs.getD i Str.empty) (strKind_is _ _ _ _) ?_))
    have hc := cntN_le xs i
    refine setS_add (s := { s' with toks := s'.toks + 1 }) hS' (by unfold scanBound; omega) fun h' hsb hS2 => ?_
    have hSi : SetS w h' S (fun z => (xs.take (i + 1)).any (· == z)) (cntN xs (i + 1)) :=
      SetS.congr hS2 (fun z => take_any (by omega) z) (cntN_succ xs i).symm
    refine wpAny_pure ⟨plainId_quiet PyProof.Rows.F.plain_set_update_loop _, setS_loop W S hSf xs hsz hn hval fin k (i + 1) _ (by omega) hlt (W.frame _ s' _ _ hst' (Nat.le_succ _) fun b hb o e => ?_) hSi fun s2 hm2 hS3 => ?_⟩
    · exact (hsb.2 b fun h : b = S => hSf (by rw [← h]; exact hb)).trans e
    · refine hR s2 (Moved.trans W.gtrans ((hm.mono fun b hb => List.mem_cons_of_mem _ hb).then_heap (Nat.le_succ _) fun b o hb e => ?_) hm2) hS3
      exact (hsb.2 b fun h : b = S => hb (by rw [h]; exact List.mem_cons_self)).trans e
end
section
variable {P : Program} {w : World} {A : Around} {E : Value → Shared → Prop} {s : Shared}
theorem setS_of_list {l : Addr} {its : Array Value} {xs : List Str} {Q : Value → Shared → Prop} (hh : A.handled = none) (hl : s.heap.IsList l its) (hi : PyProof.Rows.StrsAre its.toList xs) (hn : xs.length ≤ 4000)
    (h : ∀ (h' : Heap) (tk : Nat), SetS w h' s.heap.objs.size (fun z => (xs.take its.size).any (· == z)) (cntN xs its.size) → (∀ b o, b < s.heap.objs.size → s.heap.get? b = some o → h'.get? b = some o) → Q (.ref s.heap.objs.size) { s with heap := h', toks := tk }) :
    wpAny (model P w) A (call (.type "set") [.ref l]) Q E s := by
  obtain ⟨c, tl, hmro⟩ := PySem.F.called_set.mro
  have hmade := PySem.F.called_set.made; have hsub := PySem.F.called_set.sub
  refine wpAny_call (codeAny_of_tree (show wpAny _ _ (callAny (.type "set") _) _ _ _ from wpAny_pure ⟨Code.quiet_builtin _ (by decide +kernel), codeAny_builtin PySem.F.entry_type_call ?_⟩))
  rw [Around.under_plain (weight_type_call_type "set" [.ref l] []) rfl]
  have h1 := PySem.F.called_set.notType; have h2 := PySem.F.called_set.canCreate; have hct := PySem.F.typeCall_set_1 (.ref l)
  repeat (any_goals (first | assumption | wp_step))
  refine codeAny_mono (set_new_led (.ref l) (E := E) (Q₁ := fun ob s1 => ∃ led : Bool, led = (!w.params.followText "set-order") ∧ ob = .ref s.heap.objs.size ∧ s1 = { s with heap := s.heap.push ⟨.type "set", none, .set #[] 0 (.fresh 0 0 led), #[]⟩ }) ⟨_, rfl, rfl, rfl⟩) fun r s1 hr => ?_
  cases r with
  | error e => exact hr
  | ok fl =>
    cases fl with
    | ret ob =>
      obtain ⟨led, hled, rfl, rfl⟩ := hr
      have hS : (s.heap.push (⟨.type "set", none, .set #[] 0 (.fresh 0 0 led), #[]⟩ : Obj)).get? s.heap.objs.size = some (⟨.type "set", none, .set #[] 0 (.fresh 0 0 led), #[]⟩ : Obj) := Heap.get?_push_size _ rfl
      have hT : Shared.TypeIs { s with heap := s.heap.push (⟨.type "set", none, .set #[] 0 (.fresh 0 0 led), #[]⟩ : Obj) } (.ref s.heap.objs.size) "set" := ⟨_, hS, rfl⟩
      have hli := PySem.F.called_set.init.lookup; have hbi := PySem.F.called_set.init.bind (.ref s.heap.objs.size)
      repeat (any_goals (first | assumption | wp_step))
      refine codeAny_mono (codeAny_call_builtin (R := wants (fun r s2 => r = .none ∧ ∃ h' tk, s2 = { s with heap := h', toks := tk } ∧ SetS w h' s.heap.objs.size (fun z => (xs.take its.size).any (· == z)) (cntN xs its.size) ∧
          (∀ b o, b < s.heap.objs.size → s.heap.get? b = some o → h'.get? b = some o)) E) PySem.F.called_set.init.plain PySem.F.entry_set_init (check_set_init_1 hT ?_)) fun r2 s2 hr2 => ?_
      · obtain ⟨⟨oc, od, oa, os⟩, hol, hcl, nl, hdl⟩ := hl
        simp only at hcl hdl
        subst hcl; subst hdl
        have hol' : (s.heap.push (⟨.type "set", none, .set #[] 0 (.fresh 0 0 led), #[]⟩ : Obj)).get? l = some ⟨.type "list", od, .seq its nl, os⟩ := Heap.get?_push_of_some _ hol
        have hsls := PySem.F.sub_list_set; have hslf := PySem.F.sub_list_frozenset
        have hne : (Value.type "list" == Value.type "dict") = false := by decide
        have hl1 : (s.heap.push (⟨.type "set", none, .set #[] 0 (.fresh 0 0 led), #[]⟩ : Obj)).IsList l its := ⟨_, hol', rfl, nl, rfl⟩
        unfold Builtin.«set.__init__» noKeywords Builtin.Frozenset.updateFrom
        generalize hPI : pyIter = PI
        wp_walk
        subst hPI
        refine wpAny_pyIter_list hl1 ?_
        refine wpAny_bind (wpAny_runValue ?_)
        have hlS : l < s.heap.objs.size := Heap.lt_size hol
        have hh3 : A.in1.in1.in1.handled = none := by simp [hh]
        have hsp : (s.heap.push (⟨.type "set", none, .set #[] 0 (.fresh 0 0 led), #[]⟩ : Obj)).objs.size = s.heap.objs.size + 1 := Heap.size_push _ _
        have hneI : l ≠ (s.heap.push (⟨.type "set", none, .set #[] 0 (.fresh 0 0 led), #[]⟩ : Obj)).objs.size := by rw [hsp]; exact Nat.ne_of_lt (Nat.lt_succ_of_lt hlS)
        have hSf : s.heap.objs.size ∉ [(s.heap.push (⟨.type "set", none, .set #[] 0 (.fresh 0 0 led), #[]⟩ : Obj)).objs.size, l] := by
          rw [hsp]; simp only [List.mem_cons, List.mem_singleton, List.not_mem_nil, or_false, not_or]
          exact ⟨Nat.ne_of_lt (Nat.lt_succ_self _), Nat.ne_of_gt hlS⟩
        have hsz : xs.length = its.size := by rw [← StrsAre.len_eq hi, Array.length_toList]
        have hval : ∀ (i : Nat) (v : Value), its[i]? = some v → ∃ t, v = .str (xs.getD i Str.empty) t := fun i v hv => SS.strs_at hi i v (by rw [Array.getElem?_toList]; exact hv)
        refine setS_loop ((Walks.list hh3 _ l hneI its).toS) s.heap.objs.size hSf xs hsz (by omega) hval (fun _ _ _ _ => trivial) (its.size - 0) 0 _ (by omega) (Nat.zero_le _) ⟨⟨_, Heap.get?_push_size _ rfl, rfl, rfl⟩, (hl1.push _)⟩ ?hS0 ?hR
        case hS0 =>
          have hget : ((s.heap.push (⟨.type "set", none, .set #[] 0 (.fresh 0 0 led), #[]⟩ : Obj)).push ⟨.type "list_iterator", none, .fields #[.ref l, .int 0 0], #[]⟩).get? s.heap.objs.size = some (⟨.type "set", none, .set #[] 0 (.fresh 0 0 led), #[]⟩ : Obj) := Heap.get?_push_of_some _ hS
          exact SetS.congr (setS_fresh (by rw [hled]; cases w.params.followText "set-order"; exact .inr rfl; exact .inl rfl) hget) (fun _ => rfl) rfl
        case hR =>
          intro s' hm hS'
          obtain ⟨h', g', d', tk', os'⟩ := s'
          obtain rfl : g' = s.gens := hm.gens
          obtain rfl : d' = s.drawn := hm.drawn
          obtain rfl : os' = s.os := hm.os
          refine wpAny_pure (show wpAny _ _ (ret Value.none) _ _ _ from wpAny_pure ⟨rfl, h', tk', rfl, hS', fun b o hb e => ?_⟩)
          refine hm.heap b o ?_ (Heap.get?_push_of_some _ (Heap.get?_push_of_some _ e))
          simp only [List.mem_cons, List.mem_singleton, List.not_mem_nil, or_false, not_or]
          exact ⟨Nat.ne_of_lt hb, by rw [hsp]; exact Nat.ne_of_lt (Nat.lt_succ_of_lt hb)⟩
      · cases r2 with
        | error e => exact hr2
        | ok fl2 =>
          cases fl2 with
          | ret r =>
            obtain ⟨rfl, h', tk, rfl, hS', hk'⟩ := hr2
            repeat (any_goals (first | assumption | wp_step))
            exact h _ _ hS' hk'
          | _ => exact hr2.elim
    | _ => exact hr.elim
end
section
variable {P : Program} {w : World} {A : Around} {E : Value → Shared → Prop} {s : Shared}
theorem setS_of_tuple {l : Addr} {its : Array Value} {xs : List Str} {Q : Value → Shared → Prop} (hh : A.handled = none) (hl : s.heap.IsTuple l its) (hi : PyProof.Rows.StrsAre its.toList xs) (hn : xs.length ≤ 4000)
    (h : ∀ (h' : Heap) (tk : Nat), SetS w h' s.heap.objs.size (fun z => (xs.take its.size).any (· == z)) (cntN xs its.size) → (∀ b o, b < s.heap.objs.size → s.heap.get? b = some o → h'.get? b = some o) → Q (.ref s.heap.objs.size) { s with heap := h', toks := tk }) :
    wpAny (model P w) A (call (.type "set") [.ref l]) Q E s := by
  obtain ⟨c, tl, hmro⟩ := PySem.F.called_set.mro
  have hmade := PySem.F.called_set.made; have hsub := PySem.F.called_set.sub
  refine wpAny_call (codeAny_of_tree (show wpAny _ _ (callAny (.type "set") _) _ _ _ from wpAny_pure ⟨Code.quiet_builtin _ (by decide +kernel), codeAny_builtin PySem.F.entry_type_call ?_⟩))
  rw [Around.under_plain (weight_type_call_type "set" [.ref l] []) rfl]
  have h1 := PySem.F.called_set.notType; have h2 := PySem.F.called_set.canCreate; have hct := PySem.F.typeCall_set_1 (.ref l)
  repeat (any_goals (first | assumption | wp_step))
  refine codeAny_mono (set_new_led (.ref l) (E := E) (Q₁ := fun ob s1 => ∃ led : Bool, led = (!w.params.followText "set-order") ∧ ob = .ref s.heap.objs.size ∧ s1 = { s with heap := s.heap.push ⟨.type "set", none, .set #[] 0 (.fresh 0 0 led), #[]⟩ }) ⟨_, rfl, rfl, rfl⟩) fun r s1 hr => ?_
  cases r with
  | error e => exact hr
  | ok fl =>
    cases fl with
    | ret ob =>
      obtain ⟨led, hled, rfl, rfl⟩ := hr
      have hS : (s.heap.push (⟨.type "set", none, .set #[] 0 (.fresh 0 0 led), #[]⟩ : Obj)).get? s.heap.objs.size = some (⟨.type "set", none, .set #[] 0 (.fresh 0 0 led), #[]⟩ : Obj) := Heap.get?_push_size _ rfl
      have hT : Shared.TypeIs { s with heap := s.heap.push (⟨.type "set", none, .set #[] 0 (.fresh 0 0 led), #[]⟩ : Obj) } (.ref s.heap.objs.size) "set" := ⟨_, hS, rfl⟩
      have hli := PySem.F.called_set.init.lookup; have hbi := PySem.F.called_set.init.bind (.ref s.heap.objs.size)
      repeat (any_goals (first | assumption | wp_step))
      refine codeAny_mono (codeAny_call_builtin (R := wants (fun r s2 => r = .none ∧ ∃ h' tk, s2 = { s with heap := h', toks := tk } ∧ SetS w h' s.heap.objs.size (fun z => (xs.take its.size).any (· == z)) (cntN xs its.size) ∧
          (∀ b o, b < s.heap.objs.size → s.heap.get? b = some o → h'.get? b = some o)) E) PySem.F.called_set.init.plain PySem.F.entry_set_init (check_set_init_1 hT ?_)) fun r2 s2 hr2 => ?_
      · obtain ⟨⟨oc, od, oa, os⟩, hol, hcl, nl, hdl⟩ := hl
        simp only at hcl hdl
        subst hcl; subst hdl
        have hol' : (s.heap.push (⟨.type "set", none, .set #[] 0 (.fresh 0 0 led), #[]⟩ : Obj)).get? l = some ⟨.type "tuple", od, .seq its nl, os⟩ := Heap.get?_push_of_some _ hol
        have hsls := PySem.F.sub_tuple_set; have hslf := PySem.F.sub_tuple_frozenset
        have hne : (Value.type "tuple" == Value.type "dict") = false := by decide
        have hl1 : (s.heap.push (⟨.type "set", none, .set #[] 0 (.fresh 0 0 led), #[]⟩ : Obj)).IsTuple l its := ⟨_, hol', rfl, nl, rfl⟩
        unfold Builtin.«set.__init__» noKeywords Builtin.Frozenset.updateFrom
        generalize hPI : pyIter = PI
        wp_walk
        subst hPI
        refine wpAny_pyIter_tuple hl1 ?_
        refine wpAny_bind (wpAny_runValue ?_)
        have hlS : l < s.heap.objs.size := Heap.lt_size hol
        have hh3 : A.in1.in1.in1.handled = none := by simp [hh]
        have hsp : (s.heap.push (⟨.type "set", none, .set #[] 0 (.fresh 0 0 led), #[]⟩ : Obj)).objs.size = s.heap.objs.size + 1 := Heap.size_push _ _
        have hneI : l ≠ (s.heap.push (⟨.type "set", none, .set #[] 0 (.fresh 0 0 led), #[]⟩ : Obj)).objs.size := by rw [hsp]; exact Nat.ne_of_lt (Nat.lt_succ_of_lt hlS)
        have hSf : s.heap.objs.size ∉ [(s.heap.push (⟨.type "set", none, .set #[] 0 (.fresh 0 0 led), #[]⟩ : Obj)).objs.size, l] := by
          rw [hsp]; simp only [List.mem_cons, List.mem_singleton, List.not_mem_nil, or_false, not_or]
          exact ⟨Nat.ne_of_lt (Nat.lt_succ_self _), Nat.ne_of_gt hlS⟩
        have hsz : xs.length = its.size := by rw [← StrsAre.len_eq hi, Array.length_toList]
        have hval : ∀ (i : Nat) (v : Value), its[i]? = some v → ∃ t, v = .str (xs.getD i Str.empty) t := fun i v hv => SS.strs_at hi i v (by rw [Array.getElem?_toList]; exact hv)
        refine setS_loop ((Walks.tuple hh3 _ l hneI its).toS) s.heap.objs.size hSf xs hsz (by omega) hval (fun _ _ _ _ => trivial) (its.size - 0) 0 _ (by omega) (Nat.zero_le _) ⟨⟨_, Heap.get?_push_size _ rfl, rfl, rfl⟩, (hl1.push _)⟩ ?hS0 ?hR
        case hS0 =>
          have hget : ((s.heap.push (⟨.type "set", none, .set #[] 0 (.fresh 0 0 led), #[]⟩ : Obj)).push ⟨.type "tuple_iterator", none, .fields #[.ref l, .int 0 0], #[]⟩).get? s.heap.objs.size = some (⟨.type "set", none, .set #[] 0 (.fresh 0 0 led), #[]⟩ : Obj) := Heap.get?_push_of_some _ hS
          exact SetS.congr (setS_fresh (by rw [hled]; cases w.params.followText "set-order"; exact .inr rfl; exact .inl rfl) hget) (fun _ => rfl) rfl
        case hR =>
          intro s' hm hS'
          obtain ⟨h', g', d', tk', os'⟩ := s'
          obtain rfl : g' = s.gens := hm.gens
          obtain rfl : d' = s.drawn := hm.drawn
          obtain rfl : os' = s.os := hm.os
          refine wpAny_pure (show wpAny _ _ (ret Value.none) _ _ _ from wpAny_pure ⟨rfl, h', tk', rfl, hS', fun b o hb e => ?_⟩)
          refine hm.heap b o ?_ (Heap.get?_push_of_some _ (Heap.get?_push_of_some _ e))
          simp only [List.mem_cons, List.mem_singleton, List.not_mem_nil, or_false, not_or]
          exact ⟨Nat.ne_of_lt hb, by rw [hsp]; exact Nat.ne_of_lt (Nat.lt_succ_of_lt hb)⟩
      · cases r2 with
        | error e => exact hr2
        | ok fl2 =>
          cases fl2 with
          | ret r =>
            obtain ⟨rfl, h', tk, rfl, hS', hk'⟩ := hr2
            repeat (any_goals (first | assumption | wp_step))
            exact h _ _ hS' hk'
          | _ => exact hr2.elim
    | _ => exact hr.elim
end
theorem ltCps_irr : ∀ a : List Nat, ltCps a a = false
  | [] => rfl
  | x :: r => by simp [ltCps, ltCps_irr r]
theorem ltCps_trans : ∀ a b c : List Nat, ltCps a b = true → ltCps b c = true → ltCps a c = true
  | [], [], _, h, _ => by simp [ltCps] at h
  | [], _ :: _, [], _, h => by simp [ltCps] at h
  | [], _ :: _, _ :: _, _, _ => by simp [ltCps]
  | _ :: _, [], _, h, _ => by simp [ltCps] at h
  | _ :: _, _ :: _, [], _, h => by simp [ltCps] at h
  | x :: a, y :: b, z :: c, h1, h2 => by
    have ih := ltCps_trans a b c
    simp only [ltCps] at h1 h2 ⊢
    grind
theorem ltCps_tri : ∀ a b : List Nat, ltCps a b = false → ltCps b a = false → a = b
  | [], [], _, _ => rfl
  | [], _ :: _, h, _ => by simp [ltCps] at h
  | _ :: _, [], _, h => by simp [ltCps] at h
  | x :: a, y :: b, h1, h2 => by
    have ih := ltCps_tri a b
    simp only [ltCps] at h1 h2
    grind
theorem ltS_irr (a : Str) : ltS a a = false := ltCps_irr _
theorem ltS_trans {a b c : Str} (h : ltS a b = true) (h2 : ltS b c = true) : ltS a c = true := ltCps_trans _ _ _ h h2
theorem ltS_tri {a b : Str} (h : ltS a b = false) (h2 : ltS b a = false) : a = b := by
  have e := ltCps_tri _ _ h h2
  obtain ⟨a⟩ := a; obtain ⟨b⟩ := b
  have e2 : a = b := Array.toList_inj.mp e
  rw [e2]
def Asc (xs : List Str) : Prop := xs.Pairwise fun a b => ltS a b = true
theorem mem_insU (x k : Str) : ∀ l, k ∈ insU x l ↔ k = x ∨ k ∈ l
  | [] => by simp [insU]
  | y :: r => by
    unfold insU
    split
    · simp
    · split
      · simp only [List.mem_cons, mem_insU x k r]
        constructor
        · rintro (h | h | h) <;> simp [h]
        · rintro (h | h | h) <;> simp [h]
      · rename_i h1 h2
        have e := ltS_tri (by simpa using h1) (by simpa using h2)
        rw [e]; simp
theorem asc_insU (x : Str) : ∀ l, Asc l → Asc (insU x l)
  | [], _ => by simp [insU, Asc]
  | y :: r, h => by
    obtain ⟨h1, h2⟩ := List.pairwise_cons.mp h
    unfold insU
    split
    · rename_i hx
      refine List.pairwise_cons.mpr ⟨fun z hz => ?_, h⟩
      rcases List.mem_cons.mp hz with e | e
      · rw [e]; exact hx
      · exact ltS_trans hx (h1 z e)
    · split
      · rename_i hx
        refine List.pairwise_cons.mpr ⟨fun z hz => ?_, asc_insU x r h2⟩
        rcases (mem_insU x z r).mp hz with e | e
        · rw [e]; exact hx
        · exact h1 z e
      · exact h
theorem mem_sortU (k : Str) : ∀ l, k ∈ sortU l ↔ k ∈ l
  | [] => by simp [sortU]
  | y :: r => by
    show k ∈ insU y (sortU r) ↔ _
    rw [mem_insU, mem_sortU k r, List.mem_cons]
theorem asc_sortU : ∀ l, Asc (sortU l)
  | [] => List.Pairwise.nil
  | y :: r => asc_insU y _ (asc_sortU r)
theorem Asc.ne {x : Str} {l : List Str} (h : ∀ z ∈ l, ltS x z = true) : x ∉ l := fun z => by
  have := h x z
  rw [ltS_irr] at this; cases this
theorem asc_uniq : ∀ {a b : List Str}, Asc a → Asc b → (∀ k, k ∈ a ↔ k ∈ b) → a = b
  | [], [], _, _, _ => rfl
  | [], y :: b, _, _, h => by have := (h y).2 (by simp); cases this
  | x :: a, [], _, _, h => by have := (h x).1 (by simp); cases this
  | x :: a, y :: b, ha, hb, h => by
    obtain ⟨a1, a2⟩ := List.pairwise_cons.mp ha
    obtain ⟨b1, b2⟩ := List.pairwise_cons.mp hb
    have e : x = y := by
      rcases List.mem_cons.mp ((h x).1 (by simp)) with z | z
      · exact z
      · rcases List.mem_cons.mp ((h y).2 (by simp)) with u | u
        · exact u.symm
        · have c := ltS_trans (a1 y u) (b1 x z)
          rw [ltS_irr] at c; cases c
    subst e
    congr 1
    refine asc_uniq a2 b2 fun k => ⟨fun hk => ?_, fun hk => ?_⟩
    · rcases List.mem_cons.mp ((h k).1 (List.mem_cons_of_mem _ hk)) with z | z
      · rw [z] at hk; exact absurd hk (Asc.ne a1)
      · exact z
    · rcases List.mem_cons.mp ((h k).2 (List.mem_cons_of_mem _ hk)) with z | z
      · rw [z] at hk; exact absurd hk (Asc.ne b1)
      · exact z
theorem asc_rise : ∀ (l : List Str) (p : Str), risingS p l = true → (p :: l).Nodup → Asc (p :: l)
  | [], p, _, _ => by simp [Asc]
  | x :: r, p, h, nd => by
    simp only [risingS, Bool.and_eq_true, Bool.not_eq_true'] at h
    obtain ⟨n1, n2⟩ := List.nodup_cons.mp nd
    have ih := asc_rise r x h.2 n2
    have hx : ltS p x = true := by
      cases e : ltS p x with
      | true => rfl
      | false => exact absurd (ltS_tri e h.1) fun z => n1 (by rw [z]; simp)
    obtain ⟨i1, i2⟩ := List.pairwise_cons.mp ih
    refine List.pairwise_cons.mpr ⟨fun z hz => ?_, ih⟩
    rcases List.mem_cons.mp hz with e | e
    · rw [e]; exact hx
    · exact ltS_trans hx (i1 z e)
theorem asc_of {l : List Str} (h : sortedS l = true) (nd : l.Nodup) : Asc l := by
  cases l with
  | nil => exact List.Pairwise.nil
  | cons x r => exact asc_rise r x h nd
section
variable {P : Program} {w : World} {A : Around} {E : Value → Shared → Prop} {s : Shared} {a : Addr}
theorem strs_sk (w : World) : ∀ {l : List Value} {es : List (Int × Value)}, (∀ e ∈ es, GoodS w e) → (∀ v ∈ l, ∃ e ∈ es, e.2 = v) → StrsAre l (l.map fun v => skey (0, v))
  | [], _, _, _ => .nil
  | v :: l, es, g, h => by
    obtain ⟨e, he, rfl⟩ := h v (by simp)
    obtain ⟨x, t, h1, _⟩ := g e he
    have e2 : skey (0, e.2) = x := by unfold skey; rw [h1]
    simp only [List.map_cons]
    rw [e2, h1]
    exact .cons x t (strs_sk w g fun v hv => h v (List.mem_cons_of_mem _ hv))
theorem sorted_setS {S : Str → Bool} {n : Nat} {Q : Value → Shared → Prop} (R : SetS w s.heap a S n) (hh : A.handled = none)
    (hQ : ∀ s' p (out : Array Value) (c : Nat) (ss : List Str), (∀ b o, s.heap.get? b = some o → s'.heap.get? b = some o) → s'.gens = s.gens → s'.os = s.os → s.heap.objs.size ≤ p →
      s'.heap.get? p = some (seqObj "list" out c) → StrsAre out.toList ss → Asc ss → (∀ k, k ∈ ss ↔ S k = true) → ss.length = n → Q (.ref p) s') :
    wpAny (model P w) A (call (.builtin "sorted") [.ref a]) Q E s := by
  obtain ⟨o, es, ep, t, ho, hex, hd, g, nd, hm, hb, hf, hn, hr, hl⟩ := R
  refine Calls.call_function_entry kind_sorted plain_sorted entry_sorted (args_sorted1 _) ?_
  unfold Builtin.«sorted»
  refine wpAny_bind (m := checkCount "sorted" 1 1 _) (wpAny_pure ?_)
  refine wpAny_bind (L2.collect_set (A := A.in1) hh ⟨o, ho, hex.1, hd⟩ hf hb hr hl fun s1 vs k1 hz g1 o1 pm => ?_)
  have hvl : vs.length = n := by rw [pm.length_eq, List.length_map, Array.length_toList]; exact hn
  have hI : StrsAre vs (vs.map fun v => skey (0, v)) := strs_sk w g fun v hv => by
    obtain ⟨e, he, q⟩ := List.mem_map.mp (pm.mem_iff.mp hv)
    exact ⟨e, he, q⟩
  have pk : (vs.map fun v => skey (0, v)).Perm (es.toList.map skey) := by
    have q := pm.map fun v => skey (0, v)
    rw [List.map_map] at q
    exact q
  have hle : vs.length ≤ sizeLine := by rw [hvl, ← hn]; exact fits_of_scanBound hb
  refine wpAny_bind (wpAny_newList ?_ hle)
  have hoL : (s1.heap.push (seqObj "list" vs.toArray 0)).get? s1.heap.objs.size = some (seqObj "list" vs.toArray 0) := Heap.get?_push_size _ rfl
  refine wpAny_bind (wpAny_holding (wpAny_call_entry slot_list_sort ⟨_, hoL, rfl⟩ entry_list_sort (list_sort_treeKAny strKind_oneLt hoL hI.keysOf (fun v₁ v₂ rest e => keyKind_strs (by rw [← e]; exact hI)) hle fun st' hp hs => ⟨_, rfl, ?_⟩) (args_list_sort _)))
  obtain ⟨ss', a1, a2, a3⟩ := sorted_out_str hI hp hs
  obtain ⟨c, hc⟩ := sortedHeap_at (vs := vs) (out := (arrOf st').map (·.2)) hoL
  have pn : ss'.Perm (es.toList.map skey) := a2.trans pk
  refine wpAny_pure ⟨_, rfl, hQ _ s1.heap.objs.size _ c ss' (fun b u e => ?_) g1 o1 hz hc a1 (asc_of a3 (pn.nodup_iff.mpr nd)) (fun k => by rw [pn.mem_iff, ← hm k]) ?_⟩
  · have q := k1 b u e
    have hlt := Heap.lt_size q
    show (sortedHeap (s1.heap.push (seqObj "list" vs.toArray 0)) s1.heap.objs.size vs _).get? b = some u
    rw [sortedHeap_old (Nat.ne_of_lt hlt) (by rw [size_push']; exact Nat.lt_succ_of_lt hlt)]
    exact Heap.get?_push_of_some _ q
  · rw [pn.length_eq, List.length_map, Array.length_toList]; exact hn
end
end DL
namespace DL
open PySem PySem.Spec PyProof.Rows L2
theorem vals_strs : ∀ {us : List Value} {ss : List Str}, StrsAre us ss → Vals (ss.map V.str) us
  | _, _, .nil => .nil
  | _, _, .cons y t h => .cons ⟨t, rfl⟩ (vals_strs h)
def tSset (K : PySem.W.Frag) (ta : TE) : TE := fun σ H Q => ta σ H fun x H1 => ∃ l, ∃ xs : List Str, x = .ref l ∧ (SqL K H1 l (xs.map V.str) ∨ SqT K H1 l (xs.map V.str)) ∧ xs.length ≤ 4000 ∧ ∀ p, H1 p = none → Q (.ref p) (upd H1 p (.lst ((sortU xs).map V.str)))
theorem pe_sset {X : Cx} {a : Expr} {ta : TE} {p p2 q pos : Pos} (hc : X.calm = true) (hg : Gl X "sorted") (hm : X.mg "sorted" = none) (hg2 : Gl X "set") (hm2 : X.mg "set" = none) (ha : PE X a ta)
    (na : starEach [a] X.env = (false, eval a X.env) :: starEach [] X.env) : PE X (.Call (.Name "sorted" p) [.Call (.Name "set" p2) [a] [] q] [] pos) (tSset X.K ta) := by
  refine ⟨fun pins s σ H Q I h => Call_ (ld_blt I hg hm boot_sorted (PyProof.Rows.callWith_builtin1 (PyProof.Rows.args_cons ?_ rfl) rfl rfl))⟩
  refine Call_ (ld_blt I hg2 hm2 boot_set (PyProof.Rows.callWith_type1 (PyProof.Rows.args_cons (thn (ha.run pins s σ H _ I h) fun v s1 ⟨x, H1, I1, r1, q1⟩ => PyProof.Rows.args_nil ?_) na) na rfl))
  obtain ⟨l, xs, rfl, hq, h1, q1⟩ := q1
  cases r1
  have fin : ∀ (its : List Value), Vals (xs.map V.str) its → ∀ (h' : Heap) (tk : Nat), SetS X.w h' s1.heap.objs.size (fun z => (xs.take its.toArray.size).any (· == z)) (cntN xs its.toArray.size) →
      (∀ b o, b < s1.heap.objs.size → s1.heap.get? b = some o → h'.get? b = some o) →
      wpAny (model X.prog X.w) X.A (spliced (backTo pos (starEach [] X.env))) (fun vs s₂ => wpAny (model X.prog X.w) X.A (call (.builtin "sorted") (Value.ref s1.heap.objs.size :: vs)) (EP X pins σ Q) X.xe s₂) X.xe { s1 with heap := h', toks := tk } := fun its r h' tk hS hk => by
    refine PyProof.Rows.args_nil ?_
    have hl : its.toArray.size = xs.length := by rw [List.size_toArray, ← r.length, List.length_map]
    rw [hl, List.take_length] at hS
    have I2 : Inv X pins σ H1 { s1 with heap := h', toks := tk } := I1.kept fun b o e => hk b o (Heap.lt_size e) e
    have hle := cntN_le xs xs.length
    have hS2 : SetS X.w ({ s1 with heap := h', toks := tk } : Shared).heap s1.heap.objs.size (fun z => xs.any (· == z)) (cntN xs xs.length) := hS
    generalize ({ s1 with heap := h', toks := tk } : Shared) = s2 at I2 hS2 ⊢
    refine sorted_setS hS2 (I2.ok.hd hc) fun s' p out c ss k g o hp hg hi hs hm hn => ?_
    have es : ss = sortU xs := asc_uniq hs (asc_sortU xs) fun k => by
      rw [hm k, mem_sortU]
      simp
    subst es
    have hlen : ((sortU xs).map V.str).length ≤ sizeLine := by rw [List.length_map, hn]; have := sizeLine_eq; omega
    have hnp : H1 p = none := I2.hok.fresh hp
    have J : Inv X pins σ (upd H1 p (.lst ((sortU xs).map V.str))) { s2 with heap := s'.heap, gens := s'.gens, drawn := s'.drawn, toks := s'.toks } :=
      I2.call (ch := []) (Un.laid k hp hnp) (I2.hok.laid k hp ⟨hlen, out.toList, c, vals_strs hi, hg⟩) (by rw [g]; exact I2.bare) (fun _ z => nomatch z)
    have e : s' = { s2 with heap := s'.heap, gens := s'.gens, drawn := s'.drawn, toks := s'.toks } := by
      cases s'
      cases s2
      cases o
      rfl
    rw [e]
    exact ⟨.ref p, _, J, rfl, q1 p hnp⟩
  rcases hq with hq | hq
  · obtain ⟨its, r, pl, hz⟩ := I1.list hq
    exact setS_of_list (I1.ok.hd hc) pl.isList (by simpa using L2.strsAre_of r) h1 fun h' tk hS hk => fin its r h' tk hS hk
  · obtain ⟨its, r, pl, hz⟩ := I1.tuple hq
    exact setS_of_tuple (I1.ok.hd hc) pl (by simpa using L2.strsAre_of r) h1 fun h' tk hS hk => fin its r h' tk hS hk
open L2 in
def tLens (K : PySem.W.Frag) (ta : TE) : TE := fun σ H Q => ta σ H fun x H1 => ∃ l, ∃ xs : List Str, x = .ref l ∧ (SqL K H1 l (xs.map V.str) ∨ SqT K H1 l (xs.map V.str)) ∧ xs.length ≤ 4000 ∧ Q (.int (cntN xs xs.length : Nat)) H1
open L2 in
theorem pe_lens {X : Cx} {a : Expr} {ta : TE} {p p2 q pos : Pos} (hc : X.calm = true) (hg : Gl X "len") (hm : X.mg "len" = none) (hg2 : Gl X "set") (hm2 : X.mg "set" = none) (ha : PE X a ta)
    (na : starEach [a] X.env = (false, eval a X.env) :: starEach [] X.env) : PE X (.Call (.Name "len" p) [.Call (.Name "set" p2) [a] [] q] [] pos) (tLens X.K ta) := by
  refine ⟨fun pins s σ H Q I h => Call_ (ld_blt I hg hm boot_len (PyProof.Rows.callWith_builtin1 (PyProof.Rows.args_cons ?_ rfl) rfl rfl))⟩
  refine Call_ (ld_blt I hg2 hm2 boot_set (PyProof.Rows.callWith_type1 (PyProof.Rows.args_cons (thn (ha.run pins s σ H _ I h) fun v s1 ⟨x, H1, I1, r1, q1⟩ => PyProof.Rows.args_nil ?_) na) na rfl))
  obtain ⟨l, xs, rfl, hq, h1, q1⟩ := q1
  cases r1
  have fin : ∀ (its : List Value), Vals (xs.map V.str) its → ∀ (h' : Heap) (tk : Nat), SetS X.w h' s1.heap.objs.size (fun z => (xs.take its.toArray.size).any (· == z)) (cntN xs its.toArray.size) →
      (∀ b o, b < s1.heap.objs.size → s1.heap.get? b = some o → h'.get? b = some o) →
      wpAny (model X.prog X.w) X.A (spliced (backTo pos (starEach [] X.env))) (fun vs s₂ => wpAny (model X.prog X.w) X.A (call (.builtin "len") (Value.ref s1.heap.objs.size :: vs)) (EP X pins σ Q) X.xe s₂) X.xe { s1 with heap := h', toks := tk } := fun its r h' tk hS hk => by
    refine PyProof.Rows.args_nil ?_
    have hl : its.toArray.size = xs.length := by rw [List.size_toArray, ← r.length, List.length_map]
    rw [hl] at hS
    obtain ⟨o, es, ep, t, ho, hex, hd, _, _, _, _, hf, hn, _⟩ := hS
    have I2 : Inv X pins σ H1 { s1 with heap := h', toks := tk } := I1.kept fun b o e => hk b o (Heap.lt_size e) e
    have hle := cntN_le xs xs.length
    refine call_len_set ho hex hd hf (by rw [hn]; omega) ⟨.int (cntN xs xs.length : Nat), H1, I2.tok _, ⟨_, by rw [hn]⟩, q1⟩
  rcases hq with hq | hq
  · obtain ⟨its, r, pl, hz⟩ := I1.list hq
    exact setS_of_list (I1.ok.hd hc) pl.isList (by simpa using L2.strsAre_of r) h1 fun h' tk hS hk => fin its r h' tk hS hk
  · obtain ⟨its, r, pl, hz⟩ := I1.tuple hq
    exact setS_of_tuple (I1.ok.hd hc) pl (by simpa using L2.strsAre_of r) h1 fun h' tk hS hk => fin its r h' tk hS hk
end DL
set_option maxRecDepth 100000
set_option maxHeartbeats 2000000
/-! # The small language: what it is, what it means -/
namespace DL
open PySem L2

/-! ### data of the library -/
mutual
def toP : D → PyData
  | .non => .none
  | .bl b => .bool b
  | .int i => .int i
  | .str x => .str x
  | .lst xs => .list (toPs xs)
  | .tup xs => .tuple (toPs xs)
  | .dct kvs => .dict (toPk kvs)
  | .obj _ => .none
  | .ty _ => .none
  | .scr _ => .none
  | .ins _ _ => .none
  | .dcT _ => .none
  | .exc _ _ _ _ => .none
def toPs : List D → List PyData
  | [] => []
  | x :: xs => toP x :: toPs xs
def toPk : List (Key × D) → List (PyData × PyData)
  | [] => []
  | (k, x) :: xs => ((match k with | .inl i => PyData.int i | .inr s => PyData.str s), toP x) :: toPk xs
end
mutual
/-- nothing with an identity stands in it -/
def isP : D → Bool
  | .non | .bl _ | .int _ | .str _ => true
  | .lst xs | .tup xs => isPs xs
  | .dct kvs => isPk kvs
  | .obj _ | .ty _ | .scr _ | .ins _ _ | .dcT _ | .exc _ _ _ _ => false
def isPs : List D → Bool
  | [] => true
  | x :: xs => isP x && isPs xs
def isPk : List (Key × D) → Bool
  | [] => true
  | (_, x) :: xs => isP x && isPk xs
end

/-! ### syntax -/
/-- built-in functions -/
inductive BI where
  | len | int | abs | repr | all | any | tuple | list | max
  deriving DecidableEq
/-- methods of built-in values -/
inductive MT where
  | split | join
  deriving DecidableEq
mutual
inductive E where
  | var (i : Nat) | cst (d : D) | gl (i : Nat) | tup (es : Es) | lst (es : Es) | dct (es : Es)
  | bin (o : Operator) (a b : E) | neg (a : E) | cmp (o : CmpOp) (a b : E) | chain (o o' : CmpOp) (a b c : E)
  | not (a : E) | and (a b : E) | or (a b : E) | ife (t : T) (a b : E) | idx (a i : E) | slc (a : E) (lo hi : O)
  | call (f : Nat) (es : Es) | bi (b : BI) (es : Es) | isi (a : E) (ts : List String) | mt (m : MT) (a : E) (es : Es)
  | comp (elt : E) (tg : List Nat) (one : Bool) (own : List Nat) (it : I) (cond : T)
  | own (a : E) | lens (a : E) | frz (a : E) | get (a k d : E) | sset (a : E) | maxd (a d : E) | eqd (neg : Bool) (a b : E) | reprd (a : E) | nst (a : E) | unn (a : E) | dictP (a : E) | dictZ (a b : E) | items (a : E)
  | comp2 (elt : E) (tg : List Nat) (one : Bool) (own : List Nat) (it : I) (cond : T) (tg1 : List Nat) (one1 : Bool) (it1 : I) (cond1 : T)
  | make (C : Str) (i n : Nat) (es : Es) | fld (a : E) (t : List (Str × Nat)) | meth (a : E) (t : List (Str × Nat)) (es : Es) | lenI (a : E) (t : List (Str × Nat))
  | eqI (neg : Bool) (a b : E) (t : List (Str × Nat)) (rv : List (Str × Str)) | isiC (a : E) (t : List (Str × Bool))
  | sortd (a : E) | ixof (o a : E)
  | xf (a : E) (f : Str) | isE (a : E) (t : List (Str × Bool)) | hcall (f : Nat) (es : Es)
inductive Es where
  | nil | cons (e : E) (es : Es) | star (e : E) (es : Es)
inductive O where
  | none | some (e : E)
inductive T where
  | yes | e (e : E) | and (a b : T) | or (a b : T) | not (a : T)
inductive I where
  | seq (e : E) | rng1 (e : E) | rng2 (a b : E) | rng3 (a b c : E) | enum (e : E) | zip (a b : E)
end
mutual
inductive S where
  | set (i : Nat) (e : E) | setM (i : Nat) (e : E) | par (is : List Nat) (es : Es) | unp (is : List Nat) (e : E) | aug (i : Nat) (o : Operator) (e : E)
  | sto (o i e : E) | augS (o i : E) (op : Operator) (e : E) | exp (e : E) | app (o e : E) | ext (o e : E) | ins (o i e : E) | ret (e : E) | retN | iff (t : T) (a b : Ss)
  | for_ (tg : List Nat) (one : Bool) (it : I) (body : Ss) | pass | brk | cnt
  | stf (o : E) (t : List (Str × Nat)) (e : E) | never
  | rse (C f : Str) (e : E) | rse0 (C : Str) | try_ (b : Ss) (i : Nat) (t : List (Str × Bool)) (su : Ss)
inductive Ss where
  | nil | cons (s : S) (ss : Ss)
end

/-! ### operations on values -/
def view (M : MS) : D → D
  | .obj a => match M a with
    | some (.lst ds) => .lst ds
    | _ => .obj a
  | d => d
/-- a value as it is seen through lists that are changed, n deep -/
def deepV (M : MS) : Nat → D → D
  | 0, d => d
  | n + 1, d => match view M d with
    | .lst xs => .lst (xs.map (deepV M n))
    | .tup xs => .tup (xs.map (deepV M n))
    | e => e
def op2 : Operator → D → D → Option R
  | .Add, .int i, .int j => some (.val (.int (i + j)))
  | .Add, .str a, .str b => if a.length + b.length ≤ sizeLine then some (.val (.str (a ++ b))) else none
  | .Add, .lst xs, .lst ys => if xs.length + ys.length ≤ sizeLine then some (.new (xs ++ ys)) else none
  | .Add, .tup xs, .tup ys => if xs.length + ys.length ≤ sizeLine then some (.val (.tup (xs ++ ys))) else none
  | .Sub, .int i, .int j => some (.val (.int (i - j)))
  | .Mult, .int i, .int j => if (-(2 ^ 64) < i ∧ i < 2 ^ 64) ∨ (-(2 ^ 64) < j ∧ j < 2 ^ 64) then some (.val (.int (i * j))) else none
  | .Mult, .str a, .int j => if j ≤ 1000 ∧ -1000 ≤ j ∧ a.length ≤ 1000 then some (.val (.str (PySem.Txt.mul a j))) else none
  | .Mult, .lst xs, .int j => if j ≤ 1000 ∧ -1000 ≤ j ∧ xs.length ≤ 1000 then some (.new (List.replicate j.toNat xs).flatten) else none
  | .Mod, .int i, .int j => if 0 < j then some (.val (.int (i % j))) else none
  | .FloorDiv, .int i, .int j => if 0 < j ∧ j < 1073741824 then some (.val (.int (i / j))) else none
  | .Pow, .int i, .int j => if 0 ≤ j ∧ j ≤ 1000 ∧ i.natAbs < 2 ^ 64 then some (.val (.int (i ^ j.toNat))) else none
  | _, _, _ => none
/-- x op= y of values that do not change -/
def augD : Operator → D → D → Option D
  | .Add, .int i, .int j => some (.int (i + j))
  | .Sub, .int i, .int j => some (.int (i - j))
  | .Add, .str a, .str b => if a.length + b.length ≤ sizeLine then some (.str (a ++ b)) else none
  | _, _, _ => none
def flatD : D → Bool
  | .non | .bl _ | .int _ | .str _ => true
  | _ => false
/-- == of two values -/
def eqS (x y : D) : Option Bool := if isP x = true ∧ isP y = true ∧ SeqAt.shaped (toP x) = true ∧ SeqAt.shaped (toP y) = true then some (PyData.eqv (toP x) (toP y)) else none
def valD : List (Key × D) → Key → Option D
  | [], _ => none
  | (j, d) :: r, k => if j = k then some d else valD r k
/-- each pair of one dict of texts in the other one -/
def hitsD (b : List (Key × D)) : List (Key × D) → Option Bool
  | [] => some true
  | (k, .str x) :: r => match valD b k with
    | none => some false
    | some (.str y) => (hitsD b r).map fun t => decide (x = y) && t
    | _ => none
  | _ => none
def eqK (a b : List (Key × D)) : Option Bool := if a.length = b.length then hitsD b a else some false
def eqD : D → D → Option Bool
  | .lst xs, .lst ys => if xs.length ≠ ys.length then some false else eqS (.lst xs) (.lst ys)
  | .str a, .str b => some (decide (a = b))
  | .tup xs, .tup [] => some xs.isEmpty
  | .dct a, .dct b => eqK a b
  | x, y => eqS x y
def neD : D → D → Option Bool
  | .lst xs, .lst ys => if xs.length ≠ ys.length then some true else (eqS (.lst xs) (.lst ys)).map (!·)
  | .str a, .str b => some (!decide (a = b))
  | .dct a, .dct b => (eqK a b).map (!·)
  | x, y => (eqS x y).map (!·)
/-- x in a list or tuple p of data of any depth -/
def inS (x : D) (ys : List D) (p : D) : Option Bool := if isP x = true ∧ isP p = true ∧ SeqAt.shaped (toP x) = true ∧ SeqAt.shaped (toP p) = true ∧ (toP x).depth ≤ 60 then some (ys.any fun z => PyData.eqv (toP z) (toP x)) else none
def inD (x y : D) : Option Bool :=
  match x, y with
  | .str a, .str b => match a.cps.toList with
    | [c] => some (decide (c ∈ b.cps.toList))
    | _ => none
  | .str a, .dct kvs => some (valD kvs (.inr a)).isSome
  | _, .lst ys => if flatD x = true ∧ ys.all flatD = true then some (ys.any fun z => PyData.eqv (toP z) (toP x)) else inS x ys (.lst ys)
  | _, .tup ys => if flatD x = true ∧ ys.all flatD = true then some (ys.any fun z => PyData.eqv (toP z) (toP x)) else inS x ys (.tup ys)
  | _, _ => none
def isNo : D → Bool
  | .non => true
  | _ => false
def cmp2 : CmpOp → D → D → Option Bool
  | .Eq, x, y => eqD x y
  | .NotEq, x, y => neD x y
  | .Lt, .int i, .int j => some (decide (i < j))
  | .LtE, .int i, .int j => some (decide (i ≤ j))
  | .Gt, .int i, .int j => some (decide (j < i))
  | .GtE, .int i, .int j => some (decide (j ≤ i))
  | .In, x, y => inD x y
  | .NotIn, x, y => (inD x y).map (!·)
  | .Is, x, .non => some (isNo x)
  | .IsNot, x, .non => some (!isNo x)
  | _, _, _ => none
def truthD : D → Option Bool
  | .non => some false
  | .bl b => some b
  | .int i => some (i != 0)
  | .str y => if y.length ≤ sizeLine then some ((y.length : Int) != 0) else none
  | .lst xs => some (!xs.isEmpty)
  | .tup xs => some (!xs.isEmpty)
  | _ => none
def idxD : D → D → Option D
  | .dct kvs, .str k => valD kvs (.inr k)
  | .lst xs, .int i => atI xs i
  | .tup xs, .int i => atI xs i
  | .str z, .int i => if z.length ≤ sizeLine then (atI z.cps.toList i).map fun c => D.str ⟨#[c]⟩ else none
  | _, _ => none
def cutD (xs : List D) (lo hi : Option Int) : List D := (xs.drop (HT.sIx xs.length 0 lo)).take (HT.sIx xs.length xs.length hi - HT.sIx xs.length 0 lo)
def slcD (x : D) (lo hi : Option Int) : Option R :=
  match x with
  | .lst xs => some (.new (cutD xs lo hi))
  | .scr ns => some (.new (cutD (ns.map D.int) lo hi))
  | .tup xs => some (.val (.tup (cutD xs lo hi)))
  | .str z => if z.length ≤ sizeLine then some (.val (.str (cutS z lo hi))) else none
  | _ => none
def lenD : D → Option Nat
  | .lst xs => some xs.length
  | .tup xs => some xs.length
  | .str z => if z.length ≤ sizeLine then some z.length else none
  | _ => none
def boolsD : List D → Option (List Bool)
  | [] => some []
  | .bl b :: r => (boolsD r).map (b :: ·)
  | _ :: _ => none
def strsD : List D → Option (List Str)
  | [] => some []
  | .str b :: r => (strsD r).map (b :: ·)
  | _ :: _ => none
def intsD : List D → Option (List Int)
  | [] => some []
  | .int b :: r => (intsD r).map (b :: ·)
  | _ :: _ => none
/-- the greatest of some numbers -/
def maxI : List Int → Option Int
  | [] => none
  | x :: r => some (r.foldl (fun a b => if a < b then b else a) x)
/-- the numbers of a list -/
def numsD : D → Option (List Int)
  | .lst xs => intsD xs
  | _ => none
/-- the items of a list or a tuple -/
def seqD : D → Option (List D)
  | .lst xs => some xs
  | .tup xs => some xs
  | _ => none
def tyD : D → Option String
  | .non => some "NoneType"
  | .bl _ => some "bool"
  | .int _ => some "int"
  | .str _ => some "str"
  | .lst _ => some "list"
  | .tup _ => some "tuple"
  | .dct _ => some "dict"
  | _ => none
/-- isinstance against one of some built-in classes -/
def isiD (x : D) (ts : List String) : Option Bool := match tyD x with
  | some t => if t ∈ ["NoneType", "bool", "int", "str", "list", "tuple", "dict"] ∧ (∀ u ∈ ts, u ∈ ["bool", "int", "str", "list", "tuple", "dict"]) then some (ts.any fun u => u == t || (t == "bool" && u == "int")) else none
  | none => none
def biD : BI → List D → Option R
  | .len, [x] => (lenD x).map fun n => .val (.int n)
  | .int, [.int i] => some (.val (.int i))
  | .int, [.bl b] => some (.val (.int (if b then 1 else 0)))
  | .int, [.str a] => if a.length ≤ 640 then (PySem.intText? a).map fun n => .val (.int n) else none
  | .abs, [.int i] => some (.val (.int (if i < 0 then -i else i)))
  | .repr, [x] => if isP x = true ∧ (toP x).showable = true ∧ (toP x).shown.length ≤ sizeLine ∧ (toP x).depth ≤ 60 then some (.val (.str (toP x).shown)) else none
  | .all, [.lst xs] => (boolsD xs).map fun bs => .val (.bl (bs.all id))
  | .any, [.lst xs] => (boolsD xs).map fun bs => .val (.bl (bs.any id))
  | .tuple, [.lst xs] => some (.val (.tup xs))
  | .tuple, [.tup xs] => some (.val (.tup xs))
  | .list, [.lst xs] => some (.new xs)
  | .list, [.tup xs] => some (.new xs)
  | .max, [.lst xs] => (intsD xs).bind fun ns => (maxI ns).map fun m => .val (.int m)
  | _, _ => none
def mtD : MT → D → List D → Option R
  | .split, .str a, [.str b] => if b.length ≠ 0 ∧ a.length + 2 ≤ sizeLine then some (.new ((PySem.Txt.split a b).map D.str)) else none
  | .join, .str a, [.lst xs] => match strsD xs with
    | some ys => if (ys.map (·.length)).sum + ys.length * a.length ≤ 16777216 then some (.val (.str (PySem.Txt.join a ys))) else none
    | none => none
  | _, _, _ => none
def pairsD : List D → Option (List (Key × D))
  | [] => some []
  | .str x :: d :: r => (pairsD r).map ((.inr x, d) :: ·)
  | .int i :: d :: r => (pairsD r).map ((.inl i, d) :: ·)
  | _ => none
def keyE : Key → D
  | .inl i => .int i
  | .inr x => .str x
/-- pairs (key, value) as tuples -/
def pairsT : List D → Option (List (Key × D))
  | [] => some []
  | .tup [.str x, d] :: r => (pairsT r).map ((.inr x, d) :: ·)
  | .tup [.int i, d] :: r => (pairsT r).map ((.inl i, d) :: ·)
  | _ => none
/-- .. of two lists -/
def pairsZ : List D → List D → Option (List (Key × D))
  | .str x :: r, d :: t => (pairsZ r t).map ((.inr x, d) :: ·)
  | .int i :: r, d :: t => (pairsZ r t).map ((.inl i, d) :: ·)
  | [], _ => some []
  | _, [] => some []
  | _, _ => none
def itemsD : D → Option (List D)
  | .lst xs => some xs
  | .tup xs => some xs
  | .str z => some (z.cps.toList.map fun c => D.str ⟨#[c]⟩)
  | .dct kvs => some (kvs.map fun kv => keyE kv.1)
  | _ => none
/-- names are given an item -/
def bindT (δ : DEnv) : List Nat → Bool → D → Option DEnv
  | [i], true, d => some (δ.set i (some d))
  | [i, j, k], true, .tup [.tup [a, b], c] => some (((δ.set i (some a)).set j (some b)).set k (some c))
  | is, false, .tup ds => if is.length = ds.length then some ((is.zip ds).foldl (fun δ p => δ.set p.1 (some p.2)) δ) else none
  | is, false, .lst ds => if is.length = ds.length then some ((is.zip ds).foldl (fun δ p => δ.set p.1 (some p.2)) δ) else none
  | _, _, _ => none

def assoc {α : Type} : List (Str × α) → Str → Option α
  | [], _ => none
  | (y, a) :: r, x => if y = x then some a else assoc r x
/-- the class of an instance -/
def clsD (M : MS) : D → Option Str
  | .ins C _ => some C
  | .obj p => match M p with
    | some (.ins C _) => some C
    | _ => none
  | _ => none
/-- what a slot of an instance holds -/
def slotD (M : MS) : D → Nat → Option D
  | .ins _ ds, k => ds[k]?
  | .obj p, k => match M p with
    | some (.ins _ fs) => match fs[k]? with
      | some (some d) => some d
      | _ => none
    | _ => none
  | _, _ => none
/-- which def tells whether two things are equal, of what -/
def eqSel (M : MS) (t : List (Str × Nat)) (rv : List (Str × Str)) (x y : D) : Option (Nat × List D) := match clsD M x with
  | some C => match clsD M y with
    | some C' => match assoc t C, assoc t C' with
      | some i, some i' => if (C, C') ∈ rv then some (i', [y, x]) else some (i, [x, y])
      | _, _ => none
    | none => match tyD (view M y) with
      | some _ => (assoc t C).map fun i => (i, [x, y])
      | none => none
  | none => none
def isiCD (M : MS) (t : List (Str × Bool)) (x : D) : Option Bool := match clsD M x with
  | some C => assoc t C
  | none => match tyD (view M x) with
    | some _ => some false
    | none => none
def esApp : Es → Es → Es
  | .nil, b => b
  | .cons e es, b => .cons e (esApp es b)
  | .star e es, b => .star e (esApp es b)
def csts : List D → Es
  | [] => .nil
  | d :: ds => .cons (.cst d) (csts ds)
/-- the texts of a list or tuple -/
def textsD : D → Option (List Str)
  | .lst xs => strsD xs
  | .tup xs => strsD xs
  | _ => none
/-- == of two values, also of two lists with the same data in them -/
noncomputable def eqW (neg : Bool) (x y : D) : Option Bool := match eqS x y with
  | some k => some k
  | none => @ite _ (neg = false ∧ x = y ∧ (∃ ds, x = .lst ds) ∧ isP x = true ∧ (toP x).depth ≤ 60) (Classical.propDecidable _) (some true) none
/-- the first place of an equal flat item -/
def ixofD (xs : List D) (y : D) : Option Nat := if flatD y = true ∧ xs.all flatD = true then xs.findIdx? (fun z => PyData.eqv (toP z) (toP y)) else none
/-- may be sorted -/
structure SortOk (xs : List D) : Prop where
  p : isPs xs = true
  c : PyData.canLayAll0 (toPs xs) = true
  a : PySem.W.AllAlike (toPs xs)
  k : PySem.W.Sortable (toPs xs)
  d : ∀ x ∈ xs, (toP x).depth ≤ 60
  l : xs.length ≤ sizeLine
noncomputable def sortP (xs : List D) : List D := xs.mergeSort (PySem.W.dataLe false toP)
/-! ### meaning -/
abbrev KR := R → MS → Prop
/-- the error among the arguments -/
def excOf : List D → List D
  | [] => []
  | .exc a dd C fs :: _ => [.exc a dd C fs]
  | _ :: r => excOf r
abbrev KX := Xn → MS → Prop
abbrev Fns := Nat → List D → MS → KR → KX → Prop
def compLoop (src : MS → Prop) (step : D → List D → MS → (List D → MS → Prop) → Prop) : List D → List D → MS → (List D → MS → Prop) → Prop
  | [], acc, M, Q => src M ∧ Q acc M
  | d :: r, acc, M, Q => src M ∧ acc.length < sizeLine ∧ step d acc M fun acc' M' => compLoop src step r acc' M' Q
mutual
def evalE (Φ : Fns) (γ : List D) : E → DEnv → MS → KR → KX → Prop
  | .var i, δ, M, Q, _ => ∃ d, δ[i]? = some (some d) ∧ Q (.val d) M
  | .cst d, _, M, Q, _ => Q (.val d) M
  | .gl i, _, M, Q, _ => ∃ d, γ[i]? = some d ∧ Q (.val d) M
  | .tup es, δ, M, Q, Z => evalEs Φ γ es δ M (fun ds M' => ds.length ≤ sizeLine ∧ Q (.val (.tup ds)) M') Z
  | .lst es, δ, M, Q, Z => evalEs Φ γ es δ M (fun ds M' => ds.length ≤ sizeLine ∧ Q (.new ds) M') Z
  | .dct es, δ, M, Q, Z => evalEs Φ γ es δ M (fun ds M' => ∃ kvs, pairsD ds = some kvs ∧ kvs.length ≤ 15 ∧ (kvs.map (·.1)).Nodup ∧ Q (.val (.dct kvs)) M') Z
  | .bin o a b, δ, M, Q, Z => evalE Φ γ a δ M (fun x M1 => evalE Φ γ b δ M1 (fun y M2 => ∃ r, op2 o (view M2 x.toD) (view M2 y.toD) = some r ∧ Q r M2) Z) Z
  | .neg a, δ, M, Q, Z => evalE Φ γ a δ M (fun x M1 => ∃ i, x.toD = .int i ∧ Q (.val (.int (-i))) M1) Z
  | .cmp o a b, δ, M, Q, Z => evalE Φ γ a δ M (fun x M1 => evalE Φ γ b δ M1 (fun y M2 => ∃ k, cmp2 o (view M2 x.toD) (view M2 y.toD) = some k ∧ Q (.val (.bl k)) M2) Z) Z
  | .chain o o' a b c, δ, M, Q, Z => evalE Φ γ a δ M (fun x M1 => evalE Φ γ b δ M1 (fun y M2 => ∃ k, cmp2 o (view M2 x.toD) (view M2 y.toD) = some k ∧
      if k = true then evalE Φ γ c δ M2 (fun z M3 => ∃ k', cmp2 o' (view M3 y.toD) (view M3 z.toD) = some k' ∧ Q (.val (.bl k')) M3) Z else Q (.val (.bl false)) M2) Z) Z
  | .not a, δ, M, Q, Z => evalE Φ γ a δ M (fun x M1 => ∃ k, truthD (view M1 x.toD) = some k ∧ Q (.val (.bl (!k))) M1) Z
  | .and a b, δ, M, Q, Z => evalE Φ γ a δ M (fun x M1 => ∃ k, truthD (view M1 x.toD) = some k ∧ if k = true then evalE Φ γ b δ M1 Q Z else Q (.val x.toD) M1) Z
  | .or a b, δ, M, Q, Z => evalE Φ γ a δ M (fun x M1 => ∃ k, truthD (view M1 x.toD) = some k ∧ if k = true then Q (.val x.toD) M1 else evalE Φ γ b δ M1 Q Z) Z
  | .ife t a b, δ, M, Q, Z => evalT Φ γ t δ M (fun k M1 => if k = true then evalE Φ γ a δ M1 Q Z else evalE Φ γ b δ M1 Q Z) Z
  | .idx a i, δ, M, Q, Z => evalE Φ γ a δ M (fun x M1 => evalE Φ γ i δ M1 (fun y M2 => ∃ d, idxD (view M2 x.toD) y.toD = some d ∧ Q (.val d) M2) Z) Z
  | .slc a lo hi, δ, M, Q, Z => evalE Φ γ a δ M (fun x M1 => evalO Φ γ lo δ M1 (fun l M2 => evalO Φ γ hi δ M2 (fun h M3 => ∃ r, slcD (view M3 x.toD) l h = some r ∧ Q r M3) Z) Z) Z
  | .call f es, δ, M, Q, Z => evalEs Φ γ es δ M (fun ds M1 => Φ f ds M1 Q Z) Z
  | .bi b es, δ, M, Q, Z => evalEs Φ γ es δ M (fun ds M1 => ∃ r, biD b (ds.map (view M1)) = some r ∧ Q r M1) Z
  | .isi a ts, δ, M, Q, Z => evalE Φ γ a δ M (fun x M1 => ∃ k, isiD (view M1 x.toD) ts = some k ∧ Q (.val (.bl k)) M1) Z
  | .mt m a es, δ, M, Q, Z => evalE Φ γ a δ M (fun x M1 => ∃ z, x.toD = .str z ∧ evalEs Φ γ es δ M1 (fun ds M2 => ∃ r, mtD m (.str z) (ds.map (view M2)) = some r ∧ Q r M2) Z) Z
  | .comp elt tg one own it cond, δ, M, Q, Z => evalI Φ γ it δ M (fun src items M1 =>
      compLoop src (fun d acc M2 k => ∃ δ', bindT (wipeD δ own) tg one d = some δ' ∧ evalT Φ γ cond δ' M2 (fun b M3 =>
        if b = true then evalE Φ γ elt δ' M3 (fun r M4 => k (acc ++ [r.toD]) M4) (fun _ _ => False) else k acc M3) (fun _ _ => False)) items [] M1 fun acc M5 => Q (.new acc) M5) Z
  | .own a, δ, M, Q, Z => evalE Φ γ a δ M (fun r M1 => ∃ ds, r = .new ds ∧ ∀ p, M1 p = none → Q (.val (.obj p)) (updM M1 p (.lst ds))) Z
  | .frz a, δ, M, Q, Z => evalE Φ γ a δ M (fun r M1 => ∃ p ds, r.toD = .obj p ∧ M1 p = some (.lst ds) ∧ Q (.val (.lst ds)) (dropM M1 p)) Z
  | .get a k d, δ, M, Q, Z => evalE Φ γ a δ M (fun x M1 => ∃ kvs, x.toD = .dct kvs ∧ evalE Φ γ k δ M1 (fun y M2 => ∃ kx, y.toD = .str kx ∧ evalE Φ γ d δ M2 (fun z M3 => Q (.val ((valD kvs (.inr kx)).getD z.toD)) M3) Z) Z) Z
  | .sset a, δ, M, Q, Z => evalE Φ γ a δ M (fun r M1 => ∃ ys, textsD (view M1 r.toD) = some ys ∧ ys.length ≤ 4000 ∧ Q (.new ((sortU ys).map D.str)) M1) Z
  | .maxd a d, δ, M, Q, Z => evalE Φ γ a δ M (fun x M1 => evalE Φ γ d δ M1 (fun y M2 => ∃ ns, numsD (view M2 x.toD) = some ns ∧ Q (.val (match maxI ns with | some m => .int m | none => y.toD)) M2) Z) Z
  | .comp2 elt tg one own it cond tg1 one1 it1 cond1, δ, M, Q, Z => evalI Φ γ it δ M (fun src items M1 =>
      compLoop src (fun d acc M2 k => ∃ δ', bindT (wipeD δ own) tg one d = some δ' ∧ evalT Φ γ cond δ' M2 (fun b M3 =>
        if b = true then evalI Φ γ it1 δ' M3 (fun src1 items1 M4 => compLoop src1 (fun d1 acc1 M5 k1 => ∃ δ'', bindT (wipeD δ' tg1) tg1 one1 d1 = some δ'' ∧ evalT Φ γ cond1 δ'' M5 (fun b1 M6 =>
          if b1 = true then evalE Φ γ elt δ'' M6 (fun r M7 => k1 (acc1 ++ [r.toD]) M7) (fun _ _ => False) else k1 acc1 M6) (fun _ _ => False)) items1 acc M4 k) (fun _ _ => False)
        else k acc M3) (fun _ _ => False)) items [] M1 fun acc M5 => Q (.new acc) M5) Z
  | .eqd neg a b, δ, M, Q, Z => evalE Φ γ a δ M (fun x M1 => evalE Φ γ b δ M1 (fun y M2 => ∃ k, eqW neg (deepV M2 4 x.toD) (deepV M2 4 y.toD) = some k ∧ Q (.val (.bl (if neg = true then !k else k))) M2) Z) Z
  | .reprd a, δ, M, Q, Z => evalE Φ γ a δ M (fun x M1 => ∃ r, biD .repr [deepV M1 4 x.toD] = some r ∧ Q r M1) Z
  | .dictP a, δ, M, Q, Z => evalE Φ γ a δ M (fun x M1 => ∃ xs kvs, view M1 x.toD = .lst xs ∧ pairsT xs = some kvs ∧ (kvs.map (·.1)).Nodup ∧ Q (.val (.dct kvs)) M1) Z
  | .dictZ a b, δ, M, Q, Z => evalE Φ γ a δ M (fun x M1 => evalE Φ γ b δ M1 (fun y M2 => ∃ xs ys kvs, view M2 x.toD = .lst xs ∧ view M2 y.toD = .lst ys ∧ pairsZ xs ys = some kvs ∧ (kvs.map (·.1)).Nodup ∧ Q (.val (.dct kvs)) M2) Z) Z
  | .items a, δ, M, Q, Z => evalE Φ γ a δ M (fun x M1 => ∃ kvs, x.toD = .dct kvs ∧ Q (.new (kvs.map fun kv => .tup [keyE kv.1, kv.2])) M1) Z
  | .nst a, δ, M, Q, Z => evalE Φ γ a δ M (fun r M1 => ∃ ds, r = .new ds ∧ Q (.nst ds) M1) Z
  | .unn a, δ, M, Q, Z => evalE Φ γ a δ M (fun r M1 => ∃ ds, r = .nst ds ∧ Q (.new ds) M1) Z
  | .make C i n es, δ, M, Q, Z => evalEs Φ γ es δ M (fun ds M1 => ∀ p, M1 p = none → Φ i (.obj p :: ds) (updM M1 p (.ins C (List.replicate n none))) (fun r M2 => r = .val .non ∧ ∃ fs, M2 p = some (.ins C (fs.map some)) ∧ Q (.val (.ins C fs)) (dropM M2 p)) (fun x M2 => Z x (dropM M2 p))) Z
  | .fld a t, δ, M, Q, Z => evalE Φ γ a δ M (fun x M1 => ∃ C k d, clsD M1 x.toD = some C ∧ assoc t C = some k ∧ slotD M1 x.toD k = some d ∧ Q (.val d) M1) Z
  | .meth a t es, δ, M, Q, Z => evalE Φ γ a δ M (fun x M1 => ∃ C i, clsD M1 x.toD = some C ∧ assoc t C = some i ∧ evalEs Φ γ es δ M1 (fun ds M2 => Φ i (x.toD :: ds) M2 Q Z) Z) Z
  | .lenI a t, δ, M, Q, Z => evalE Φ γ a δ M (fun x M1 => ∃ C i, clsD M1 x.toD = some C ∧ assoc t C = some i ∧ Φ i [x.toD] M1 (fun r M2 => ∃ n : Int, r = .val (.int n) ∧ 0 ≤ n ∧ n < 2 ^ 63 ∧ Q (.val (.int n)) M2) (fun _ _ => False)) Z
  | .eqI neg a b t rv, δ, M, Q, Z => evalE Φ γ a δ M (fun x M1 => evalE Φ γ b δ M1 (fun y M2 => ∃ i ds, eqSel M2 t rv x.toD y.toD = some (i, ds) ∧ Φ i ds M2 (fun r M3 => ∃ k, r = .val (.bl k) ∧ Q (.val (.bl (if neg = true then !k else k))) M3) (fun _ _ => False)) Z) Z
  | .isiC a t, δ, M, Q, Z => evalE Φ γ a δ M (fun x M1 => ∃ b, isiCD M1 t x.toD = some b ∧ Q (.val (.bl b)) M1) Z
  | .xf a f, δ, M, Q, Z => evalE Φ γ a δ M (fun x M1 => ∃ p dd C fs d, x.toD = .exc p dd C fs ∧ γ[0]? = some (.exc p dd C fs) ∧ assoc fs f = some d ∧ Q (.val d) M1) Z
  | .hcall f es, δ, M, Q, Z => evalEs Φ γ es δ M (fun ds M1 => excOf ds = γ ∧ Φ f ds M1 Q Z) Z
  | .isE a t, δ, M, Q, Z => evalE Φ γ a δ M (fun x M1 => ∃ p dd C fs b, x.toD = .exc p dd C fs ∧ γ[0]? = some (.exc p dd C fs) ∧ assoc t C = some b ∧ Q (.val (.bl b)) M1) Z
  | .sortd a, δ, M, Q, Z => evalE Φ γ a δ M (fun x M1 => ∃ xs, view M1 x.toD = .lst xs ∧ SortOk xs ∧ Q (.new (sortP xs)) M1) Z
  | .ixof o a, δ, M, Q, Z => evalE Φ γ o δ M (fun x M1 => (∃ xs, view M1 x.toD = .lst xs) ∧ evalE Φ γ a δ M1 (fun y M2 => ∃ xs k, view M2 x.toD = .lst xs ∧ ixofD xs y.toD = some k ∧ Q (.val (.int (k : Nat))) M2) Z) Z
  | .lens a, δ, M, Q, Z => evalE Φ γ a δ M (fun r M1 => ∃ ys, textsD (view M1 r.toD) = some ys ∧ ys.length ≤ 4000 ∧ Q (.val (.int (cntN ys ys.length : Nat))) M1) Z
def evalEs (Φ : Fns) (γ : List D) : Es → DEnv → MS → (List D → MS → Prop) → KX → Prop
  | .nil, _, M, Q, _ => Q [] M
  | .cons e es, δ, M, Q, Z => evalE Φ γ e δ M (fun r M1 => evalEs Φ γ es δ M1 (fun ds M2 => Q (r.toD :: ds) M2) Z) Z
  | .star e es, δ, M, Q, Z => evalE Φ γ e δ M (fun r M1 => ∃ xs, seqD (view M1 r.toD) = some xs ∧ evalEs Φ γ es δ M1 (fun ds M2 => Q (xs ++ ds) M2) Z) Z
def evalO (Φ : Fns) (γ : List D) : O → DEnv → MS → (Option Int → MS → Prop) → KX → Prop
  | .none, _, M, Q, _ => Q none M
  | .some e, δ, M, Q, Z => evalE Φ γ e δ M (fun r M1 => ∃ i, r.toD = .int i ∧ Q (some i) M1) Z
def evalT (Φ : Fns) (γ : List D) : T → DEnv → MS → (Bool → MS → Prop) → KX → Prop
  | .yes, _, M, Q, _ => Q true M
  | .e e, δ, M, Q, Z => evalE Φ γ e δ M (fun r M1 => ∃ k, truthD (view M1 r.toD) = some k ∧ Q k M1) Z
  | .and a b, δ, M, Q, Z => evalT Φ γ a δ M (fun k M1 => if k = true then evalT Φ γ b δ M1 Q Z else Q false M1) Z
  | .or a b, δ, M, Q, Z => evalT Φ γ a δ M (fun k M1 => if k = true then Q true M1 else evalT Φ γ b δ M1 Q Z) Z
  | .not a, δ, M, Q, Z => evalT Φ γ a δ M (fun k M1 => Q (!k) M1) Z
/-- what is walked: how it stands (src), its items -/
def evalI (Φ : Fns) (γ : List D) : I → DEnv → MS → ((MS → Prop) → List D → MS → Prop) → KX → Prop
  | .seq e, δ, M, Q, Z => evalE Φ γ e δ M (fun r M1 => ∃ items, itemsD (view M1 r.toD) = some items ∧ Q (fun M2 => itemsD (view M2 r.toD) = some items) items M1) Z
  | .rng1 e, δ, M, Q, Z => evalE Φ γ e δ M (fun r M1 => ∃ i, r.toD = .int i ∧ i < 2 ^ 62 ∧ -(2 ^ 62) ≤ i ∧ Q (fun _ => True) ((List.range i.toNat).map fun (k : Nat) => D.int (k : Int)) M1) Z
  | .rng2 a b, δ, M, Q, Z => evalE Φ γ a δ M (fun r M1 => evalE Φ γ b δ M1 (fun r' M2 => ∃ i j, r.toD = .int i ∧ r'.toD = .int j ∧ -(2 ^ 62) ≤ i ∧ i < 2 ^ 62 ∧ -(2 ^ 62) ≤ j ∧ j < 2 ^ 62 ∧
      Q (fun _ => True) ((List.range (j - i).toNat).map fun (k : Nat) => D.int (i + (k : Int))) M2) Z) Z
  | .rng3 a b c, δ, M, Q, Z => evalE Φ γ a δ M (fun r M1 => evalE Φ γ b δ M1 (fun r' M2 => evalE Φ γ c δ M2 (fun r'' M3 => ∃ i j k n, r.toD = .int i ∧ r'.toD = .int j ∧ r''.toD = .int k ∧ RgC i j k n ∧
      Q (fun _ => True) ((List.range n).map fun (m : Nat) => D.int (i + (m : Nat) * k)) M3) Z) Z) Z
  | .enum e, δ, M, Q, Z => evalE Φ γ e δ M (fun r M1 => ∃ items, view M1 r.toD = .lst items ∧ Q (fun M2 => view M2 r.toD = .lst items) (items.mapIdx fun (k : Nat) d => D.tup [.int (k : Int), d]) M1) Z
  | .zip a b, δ, M, Q, Z => evalE Φ γ a δ M (fun x M1 => evalE Φ γ b δ M1 (fun y M2 => ∃ xs ys, seqD (view M2 x.toD) = some xs ∧ seqD (view M2 y.toD) = some ys ∧
      Q (fun M' => seqD (view M' x.toD) = some xs ∧ seqD (view M' y.toD) = some ys) (List.zipWith (fun a b => D.tup [a, b]) xs ys) M2) Z) Z
end
/-- what is wanted behind a statement -/
structure DE where
  nx : DEnv → MS → Prop
  rt : R → MS → Prop
  bk : DEnv → MS → Prop := fun _ _ => False
  ct : DEnv → MS → Prop := fun _ _ => False
  xc : Xn → DEnv → MS → Prop := fun _ _ _ => False
/-- a loop over items: what follows it -/
def forLoop (src : MS → Prop) (step : D → DEnv → MS → (DEnv → MS → Prop) → Prop) (nx : DEnv → MS → Prop) : List D → DEnv → MS → Prop
  | [], δ, M => src M ∧ nx δ M
  | d :: r, δ, M => src M ∧ step d δ M fun δ' M' => forLoop src step nx r δ' M'
mutual
def execS (Φ : Fns) (γ : List D) : S → DE → DEnv → MS → Prop
  | .set i e, K, δ, M => evalE Φ γ e δ M (fun r M1 => K.nx (δ.set i (some r.toD)) M1) fun x M1 => K.xc x δ M1
  | .setM i e, K, δ, M => evalE Φ γ e δ M (fun r M1 => ∃ ds, r = .new ds ∧ ∀ p, M1 p = none → K.nx (δ.set i (some (.obj p))) (updM M1 p (.lst ds))) fun x M1 => K.xc x δ M1
  | .unp is e, K, δ, M => evalE Φ γ e δ M (fun r M1 => ∃ δ', bindT δ is false r.toD = some δ' ∧ K.nx δ' M1) fun x M1 => K.xc x δ M1
  | .par is es, K, δ, M => evalEs Φ γ es δ M (fun ds M1 => ds.length ≤ sizeLine ∧ is.length = ds.length ∧ K.nx ((is.zip ds).foldl (fun δ p => δ.set p.1 (some p.2)) δ) M1) fun x M1 => K.xc x δ M1
  | .aug i o e, K, δ, M => ∃ d, δ[i]? = some (some d) ∧ evalE Φ γ e δ M (fun y M1 =>
      (∃ p xs ys, d = .obj p ∧ o = .Add ∧ M1 p = some (.lst xs) ∧ view M1 y.toD = .lst ys ∧ xs.length + ys.length ≤ sizeLine ∧ K.nx δ (updM M1 p (.lst (xs ++ ys)))) ∨
      ∃ z, augD o d y.toD = some z ∧ K.nx (δ.set i (some z)) M1) fun x M1 => K.xc x δ M1
  | .sto o i e, K, δ, M => evalE Φ γ e δ M (fun y M1 => evalE Φ γ o δ M1 (fun x M2 => evalE Φ γ i δ M2 (fun z M3 => ∃ p ds k j, x.toD = .obj p ∧ M3 p = some (.lst ds) ∧ z.toD = .int k ∧ ixN ds.length k = some j ∧
      K.nx δ (updM M3 p (.lst (ds.set j y.toD)))) fun x M1 => K.xc x δ M1) fun x M1 => K.xc x δ M1) fun x M1 => K.xc x δ M1
  | .augS o i op e, K, δ, M => evalE Φ γ o δ M (fun x M1 => evalE Φ γ i δ M1 (fun z M2 => ∃ p k, x.toD = .obj p ∧ z.toD = .int k ∧ ∃ ds d, M2 p = some (.lst ds) ∧ atI ds k = some d ∧ evalE Φ γ e δ M2 (fun y M3 => ∃ w ds' j, augD op d y.toD = some w ∧ M3 p = some (.lst ds') ∧ ixN ds'.length k = some j ∧
      K.nx δ (updM M3 p (.lst (ds'.set j w)))) fun x M1 => K.xc x δ M1) fun x M1 => K.xc x δ M1) fun x M1 => K.xc x δ M1
  | .exp e, K, δ, M => evalE Φ γ e δ M (fun _ M1 => K.nx δ M1) fun x M1 => K.xc x δ M1
  | .app o e, K, δ, M => evalE Φ γ o δ M (fun x M1 => ∃ p, x.toD = .obj p ∧ (∃ ds, M1 p = some (.lst ds)) ∧ evalE Φ γ e δ M1 (fun y M2 => ∃ ds, M2 p = some (.lst ds) ∧ ds.length < sizeLine ∧ K.nx δ (updM M2 p (.lst (ds ++ [y.toD])))) fun x M1 => K.xc x δ M1) fun x M1 => K.xc x δ M1
  | .ext o e, K, δ, M => evalE Φ γ o δ M (fun x M1 => ∃ p, x.toD = .obj p ∧ (∃ ds, M1 p = some (.lst ds)) ∧ evalE Φ γ e δ M1 (fun y M2 => ∃ ds ys, M2 p = some (.lst ds) ∧ view M2 y.toD = .lst ys ∧ ds.length + ys.length ≤ sizeLine ∧ K.nx δ (updM M2 p (.lst (ds ++ ys)))) fun x M1 => K.xc x δ M1) fun x M1 => K.xc x δ M1
  | .ins o i e, K, δ, M => evalE Φ γ o δ M (fun x M1 => ∃ p, x.toD = .obj p ∧ (∃ ds, M1 p = some (.lst ds)) ∧ evalE Φ γ i δ M1 (fun z M2 => evalE Φ γ e δ M2 (fun y M3 => ∃ ds k, M3 p = some (.lst ds) ∧ z.toD = .int k ∧ 0 ≤ k ∧ k < 2 ^ 63 ∧ ds.length < sizeLine ∧
      K.nx δ (updM M3 p (.lst (ds.take k.toNat ++ [y.toD] ++ ds.drop k.toNat)))) fun x M1 => K.xc x δ M1) fun x M1 => K.xc x δ M1) fun x M1 => K.xc x δ M1
  | .ret e, K, δ, M => evalE Φ γ e δ M K.rt fun x M1 => K.xc x δ M1
  | .retN, K, _, M => K.rt (.val .non) M
  | .iff t a b, K, δ, M => evalT Φ γ t δ M (fun k M1 => if k = true then execSs Φ γ a K δ M1 else execSs Φ γ b K δ M1) fun x M1 => K.xc x δ M1
  | .for_ tg one it body, K, δ, M => evalI Φ γ it δ M (fun src items M1 => forLoop src (fun d δ' M' next => ∃ δ2, bindT δ' tg one d = some δ2 ∧ execSs Φ γ body { K with nx := next, ct := next, bk := K.nx } δ2 M') K.nx items δ M1) fun x M1 => K.xc x δ M1
  | .stf o t e, K, δ, M => evalE Φ γ e δ M (fun y M1 => evalE Φ γ o δ M1 (fun x M2 => ∃ p C fs k, x.toD = .obj p ∧ M2 p = some (.ins C fs) ∧ assoc t C = some k ∧ K.nx δ (updM M2 p (.ins C (fs.set k (some y.toD))))) fun x M1 => K.xc x δ M1) fun x M1 => K.xc x δ M1
  | .never, _, _, _ => False
  | .rse C f e, K, δ, M => evalE Φ γ e δ M (fun y M1 => K.xc ⟨C, some [(f, y.toD)]⟩ δ M1) fun x M1 => K.xc x δ M1
  | .rse0 C, K, δ, M => K.xc ⟨C, none⟩ δ M
  | .try_ b i t su, K, δ, M => execSs Φ γ b { K with xc := fun x δ' M' => ∃ k, assoc t x.cls = some k ∧ (k = true → ∀ a dd, dd.isSome = x.fs.isSome → execSs Φ [.exc a dd x.cls (x.fs.getD [])] su
      { nx := fun δ2 M2 => K.nx (δ2.set i none) M2, rt := K.rt, bk := fun δ2 M2 => K.bk (δ2.set i none) M2, ct := fun δ2 M2 => K.ct (δ2.set i none) M2 } (δ'.set i (some (.exc a dd x.cls (x.fs.getD [])))) M') ∧ (k = false → K.xc x δ' M') } δ M
  | .pass, K, δ, M => K.nx δ M
  | .brk, K, δ, M => K.bk δ M
  | .cnt, K, δ, M => K.ct δ M
def execSs (Φ : Fns) (γ : List D) : Ss → DE → DEnv → MS → Prop
  | .nil, K, δ, M => K.nx δ M
  | .cons s ss, K, δ, M => execS Φ γ s { K with nx := fun δ' M' => execSs Φ γ ss K δ' M' } δ M
end
/-- a def -/
structure Def where
  arity : Nat
  slots : Nat
  body : Ss
/-- what is handed back: a list of the def's own goes to the caller; lists of its own that stay behind are forgotten -/
def retR (M : MS) (Q : KR) : R → MS → Prop
  | .val (.obj p), M' => match M p, M' p with
    | none, some (.lst ds) => Q (.new ds) (restrict M M')
    | _, _ => Q (.val (.obj p)) (restrict M M')
  | .nst ds, M' => Q (.nst ds) M'
  | r, M' => Q r (restrict M M')
def callDef (Φ : Fns) (γ : List D) (d : Def) : List D → MS → KR → KX → Prop := fun ds M Q Z => ds.length = d.arity ∧
  execSs Φ γ d.body { nx := fun _ M' => Q (.val .non) (restrict M M'), rt := retR M Q, xc := fun x _ M' => Z x (restrict M M') } (ds.map some ++ List.replicate (d.slots - d.arity) none) M
end DL
set_option maxRecDepth 100000
set_option maxHeartbeats 2000000
/-! # The operations, over the layer's rules -/
namespace DL
open PySem L2

/-- what an expression's end asks: given data, whatever value and heap tell it -/
def PostV (K : PySem.W.Frag) (G : Hp) (M : MS) (H : Hp) (Q : VK) : KR := fun r M' => ∀ v G' H', Step K G M H G' M' H' → Rv K H G' M' H' v r → Q v H'
section
variable {K : PySem.W.Frag} {G G1 : Hp} {M M1 : MS} {H H1 : Hp} {Q : VK}
theorem MOk.alloc {a p : Addr} {o : HO} {mo : MO} (h : MOk K G H a mo) (hp : H p = none) : MOk K G (upd H p o) a mo := by
  obtain ⟨u, hu⟩ := h.there
  exact h.at_ (upd_ne (ne_of_none hu hp))
theorem OkS.noM (o : OkS K G M H) {p : Addr} (hp : H p = none) : M p = none := by
  cases e : M p with
  | none => rfl
  | some mo =>
    obtain ⟨u, h⟩ := (o.mok p mo e).there
    rw [hp] at h; cases h
theorem OkS.noG (o : OkS K G M H) {p : Addr} (hp : H p = none) : G p = none := by
  cases e : G p with
  | none => rfl
  | some u => rw [o.sub p u e] at hp; cases hp
/-- a new object, of nobody's -/
theorem Step.alloc (s : Step K G M H G1 M1 H1) {p : Addr} {o : HO} (hp : H1 p = none) : Step K G M H G1 M1 (upd H1 p o) where
  ok := ⟨fun a u e => by rw [upd_ne (ne_of_none (s.ok.sub a u e) hp)]; exact s.ok.sub a u e, s.ok.dis, fun a mo e => (s.ok.mok a mo e).alloc hp⟩
  sub := s.sub
  keep := fun a u e hm => by
    have q := s.keep a u e hm
    rw [upd_ne (ne_of_none q hp)]; exact q
  newM := s.newM
  dom := fun a e => by
    by_cases ha : a = p
    · subst ha; exact s.dom a hp
    · rw [upd_ne ha] at e; exact s.dom a e
  newG := s.newG
/-- a new object, taken as data -/
theorem Step.allocG (s : Step K G M H G1 M1 H1) {p : Addr} {o : HO} (hp : H1 p = none) : Step K G M H (upd G1 p o) M1 (upd H1 p o) := by
  have s2 := s.alloc (o := o) hp
  have e : Sub G1 (upd G1 p o) := sub_upd (s.ok.noG hp)
  refine ⟨⟨upd_sub s2.ok.sub upd_same, fun a mo q => ?_, fun a mo q => (s2.ok.mok a mo q).mono e⟩, s.sub.trans e, s2.keep, s2.newM, s2.dom, fun a u hg q hm => ?_⟩
  · have ha : a ≠ p := fun z => by rw [z, s.ok.noM hp] at q; cases q
    rw [upd_ne ha]; exact s.ok.dis a mo q
  · by_cases ha : a = p
    · rw [ha]; exact s.dom p hp
    · rw [upd_ne ha] at q; exact s.newG a u hg q hm
theorem ans_val {d : D} {v : V} (q : PostV K G M H Q (.val d) M1) (s : Step K G M H G1 M1 H1) (h : Dv K G1 v d) : Q v H1 := q v G1 H1 s h
theorem ans_new {ds : List D} {vs : List V} {p : Addr} (q : PostV K G M H Q (.new ds) M1) (s : Step K G M H G1 M1 H1) (hp : H1 p = none) (t : DvAll K G1 vs ds) : Q (.ref p) (upd H1 p (.lst vs)) :=
  q (.ref p) G1 _ (s.alloc hp) ⟨p, vs, rfl, s.dom p hp, upd_same, s.ok.noG hp, s.ok.noM hp, t⟩
theorem ans_tup {ds : List D} {vs : List V} {p : Addr} (q : PostV K G M H Q (.val (.tup ds)) M1) (s : Step K G M H G1 M1 H1) (hp : H1 p = none) (t : DvAll K G1 vs ds) : Q (.ref p) (upd H1 p (.tup vs)) :=
  q (.ref p) _ _ (s.allocG hp) (.tup (SqT.of upd_same) (t.mono (sub_upd (s.ok.noG hp))))
end

/-- a value as it is seen: a list that is changed as its items -/
inductive Vw (K : PySem.W.Frag) (G H : Hp) : V → D → Prop
  | non : Vw K G H .non .non
  | bl (b : Bool) : Vw K G H (.bl b) (.bl b)
  | int (i : Int) : Vw K G H (.int i) (.int i)
  | str (x : Str) : Vw K G H (.str x) (.str x)
  | lst {a xs ds} : H a = some (.lst xs) → DvAll K G xs ds → Vw K G H (.ref a) (.lst ds)
  | tup {a xs ds} : SqT K G a xs → DvAll K G xs ds → Vw K G H (.ref a) (.tup ds)
  | dct {a o ks xs ds} : G a = some (.frz o (.dK (List.zip ks xs))) → ks.length = xs.length → DvAll K G xs ds → Vw K G H (.ref a) (.dct (List.zip ks ds))
  | obj (a : Addr) : Vw K G H (.ref a) (.obj a)
  | ty (n : String) : Vw K G H (.ty n) (.ty n)
  | scr {a ns} : SqL K G a (ns.map V.int) → ns.length ≤ 63 → Vw K G H (.ref a) (.scr ns)
  | ins {a C ds} : Dv K G (.ref a) (.ins C ds) → Vw K G H (.ref a) (.ins C ds)
  | dcT {a kvs} : Dv K G (.ref a) (.dcT kvs) → Vw K G H (.ref a) (.dcT kvs)
  | exc {a b dd C fs} : Dv K G (.ref a) (.exc b dd C fs) → Vw K G H (.ref a) (.exc b dd C fs)
section
variable {K : PySem.W.Frag} {G G1 : Hp} {M M1 : MS} {H H1 : Hp} {Q : VK} {v : V} {d : D}
theorem Dv.vw (h : Dv K G v d) (o : OkS K G M H) : Vw K G H v (view M d) := by
  cases h with
  | non => exact .non
  | bl b => exact .bl b
  | int i => exact .int i
  | str x => exact .str x
  | lst h t => exact .lst (o.sub _ _ h) t
  | tup h t => exact .tup h t
  | dct h l t => exact .dct h l t
  | obj a =>
    cases e : M a with
    | none => simp only [view, e]; exact .obj a
    | some mo =>
      cases mo with
      | bag => simp only [view, e]; exact .obj a
      | ins C fs => simp only [view, e]; exact .obj a
      | lst ds =>
        obtain ⟨vs, h, t⟩ := o.mok a _ e
        simp only [view, e]
        exact .lst h t
  | ty n => exact .ty n
  | scr h l => exact .scr h l
  | ins n h q g t => exact .ins (.ins n h q g t)
  | dcT h l t => exact .dcT (.dcT h l t)
  | exc h l t => exact .exc (.exc h l t)
  | excN => exact .exc .excN
theorem DvAll.vw (o : OkS K G M H) : ∀ {vs : List V} {ds : List D}, DvAll K G vs ds → ∀ (i : Nat) (d : D), (ds.map (view M))[i]? = some d → ∃ v, vs[i]? = some v ∧ Vw K G H v d
  | _, _, .nil, _, _, e => by simp at e
  | _, _, .cons r _, 0, _, e => by simp at e; subst e; exact ⟨_, rfl, r.vw o⟩
  | _, _, .cons _ t, i + 1, x, e => by
    obtain ⟨u, h1, h2⟩ := DvAll.vw o t i x (by simpa using e)
    exact ⟨u, by simpa using h1, h2⟩
/-- a flat value is itself -/
theorem Dv.flat (h : Dv K G v d) (f : flatD d = true) : flatV v = true := by
  cases h <;> first | rfl | cases f
/-- data of the library -/
theorem eqv_flat {x y : V} {d e : D} (hx : Dv K G x d) (hy : Dv K G1 y e) (fx : flatD d = true) (fy : flatD e = true) : eqV x y = PyData.eqv (toP d) (toP e) := by
  cases hx <;> cases hy <;> first | (simp [toP, PyData.eqv, eqV]; done) | (simp [flatD] at fx; done) | (simp [flatD] at fy; done)
theorem any_flat {x : V} {d : D} (hx : Dv K G x d) (fx : flatD d = true) : ∀ {ys : List V} {ds : List D}, DvAll K G ys ds → ds.all flatD = true → ys.all flatV = true ∧ inV x ys = ds.any fun z => PyData.eqv (toP z) (toP d)
  | _, _, .nil, _ => ⟨rfl, rfl⟩
  | _, _, .cons r t, f => by
    simp only [List.all_cons, Bool.and_eq_true] at f
    obtain ⟨h1, h2⟩ := any_flat hx fx t f.2
    refine ⟨by simp only [List.all_cons, Bool.and_eq_true]; exact ⟨r.flat f.1, h1⟩, ?_⟩
    unfold inV at h2 ⊢
    rw [List.any_cons, List.any_cons, h2, eqv_flat r hx f.1 fx]
mutual
theorem Dv.dp {H : Hp} (o : Sub G H) : ∀ {v : V} {d : D}, Dv K G v d → isP d = true → (toP d).canLay0 = true → Dp K H v (toP d)
  | _, _, .non, _, _ => .non
  | _, _, .bl b, _, _ => .bl b
  | _, _, .int i, _, _ => .int i
  | _, _, .str x, _, _ => .str x
  | _, _, .lst h t, p, c => by
    have p' : isPs _ = true := p
    unfold toP at c ⊢
    exact .lst (SqL.of (o _ _ h)) (DvAll.dp o t p' (by simpa [PyData.canLay0] using c))
  | _, _, .tup h t, p, c => by
    have p' : isPs _ = true := p
    unfold toP at c ⊢
    exact .tup (o.sqT h) (DvAll.dp o t p' (by simpa [PyData.canLay0] using c))
  | _, _, .dct h l t, p, c => by
    unfold toP at c
    simp [PyData.canLay0] at c
  | _, _, .obj _, p, _ => by cases p
  | _, _, .ty _, p, _ => by cases p
  | _, _, .scr _ _, p, _ => by cases p
  | _, _, .ins _ _ _ _ _, p, _ => by cases p
  | _, _, .dcT _ _ _, p, _ => by cases p
  | _, _, .exc _ _ _, p, _ => by cases p
  | _, _, .excN, p, _ => by cases p
theorem DvAll.dp {H : Hp} (o : Sub G H) : ∀ {vs : List V} {ds : List D}, DvAll K G vs ds → isPs ds = true → PyData.canLayAll0 (toPs ds) = true → DpAll K H vs (toPs ds)
  | _, _, .nil, _, _ => .nil
  | _, _, .cons h t, p, c => by
    unfold isPs at p
    simp only [Bool.and_eq_true] at p
    unfold toPs at c ⊢
    simp only [PyData.canLayAll0, Bool.and_eq_true] at c
    exact .cons (Dv.dp o h p.1 c.1) (DvAll.dp o t p.2 c.2)
end
theorem Vw.dp (o : OkS K G M H) (h : Vw K G H v d) (p : isP d = true) (c : (toP d).canLay0 = true) : Dp K H v (toP d) := by
  cases h with
  | non => exact .non
  | bl b => exact .bl b
  | int i => exact .int i
  | str x => exact .str x
  | lst h t =>
    unfold toP at c ⊢
    exact .lst (SqL.of h) (DvAll.dp o.sub t p (by simpa [PyData.canLay0] using c))
  | tup h t =>
    unfold toP at c ⊢
    exact .tup (o.sub.sqT h) (DvAll.dp o.sub t p (by simpa [PyData.canLay0] using c))
  | dct h l t =>
    unfold toP at c
    simp [PyData.canLay0] at c
  | obj a => cases p
  | ty n => cases p
  | _ => cases p
end
end DL
set_option maxRecDepth 100000
set_option maxHeartbeats 2000000
namespace DL
open PySem L2

/-- two values, a partial function of their data -/
def rB (K : PySem.W.Frag) (f : D → D → Option R) : R2 := fun x y H Q => ∃ (G0 : Hp) (M0 : MS) (H0 : Hp) (G : Hp) (M : MS) (xd yd : D) (r : R),
  Step K G0 M0 H0 G M H ∧ Vw K G H x xd ∧ Vw K G H y yd ∧ f xd yd = some r ∧ PostV K G0 M0 H0 Q r M
section
variable {X : Cx}
theorem op2_ok (o : Operator) : OpR X (binaryOp o) (rB X.K (op2 o)) := by
  intro pins s σ H x y v u Q I rx ry h
  obtain ⟨G0, M0, H0, G, M, xd, yd, r, st, hx, hy, e, q⟩ := h
  unfold op2 at e
  split at e
  · cases hx; cases hy; cases e
    exact op_add pins s σ H _ _ v u Q I rx ry ⟨_, _, rfl, rfl, ans_val q st (.int _)⟩
  · cases hx; cases hy
    split at e
    · cases e; rename_i hz
      exact op_add_str pins s σ H _ _ v u Q I rx ry ⟨_, _, rfl, rfl, hz, ans_val q st (.str _)⟩
    · cases e
  · cases hx with
    | lst hx tx =>
      cases hy with
      | lst hy ty =>
        split at e
        · cases e; rename_i hz
          refine op_cat pins s σ H _ _ v u Q I rx ry ⟨_, _, _, _, rfl, rfl, hx, hy, by rw [tx.length, ty.length]; exact hz, fun p hp => ?_⟩
          exact ans_new q st hp (tx.append ty)
        · cases e
  · cases hx with
    | tup hx tx =>
      cases hy with
      | tup hy ty =>
        split at e
        · cases e; rename_i hz
          refine op_catA pins s σ H _ _ v u Q I rx ry ⟨_, _, _, _, rfl, rfl, st.ok.sub.sqT hx, st.ok.sub.sqT hy, by rw [tx.length, ty.length]; exact hz, fun z => ?_, fun _ z => ?_, fun _ _ p hp => ?_⟩
          · subst z; cases tx
            exact ans_val q st (.tup hy ty)
          · subst z; cases ty
            exact ans_val q st (by rw [List.append_nil]; exact .tup hx tx)
          · exact ans_tup q st hp (tx.append ty)
        · cases e
  · cases hx; cases hy; cases e
    exact op_sub pins s σ H _ _ v u Q I rx ry ⟨_, _, rfl, rfl, ans_val q st (.int _)⟩
  · cases hx; cases hy
    split at e
    · cases e; rename_i hz
      exact op_mul pins s σ H _ _ v u Q I rx ry ⟨_, _, rfl, rfl, hz, ans_val q st (.int _)⟩
    · cases e
  · cases hx; cases hy
    split at e
    · cases e; rename_i a j hz
      obtain ⟨t, rfl⟩ := rx
      obtain ⟨t', rfl⟩ := ry
      obtain ⟨h1, h2, h3⟩ := hz
      have hl : (sizeLine : Nat) = 16777216 := sizeLine_eq
      refine PySem.SB.mul ⟨?_, fun h4 h5 => ?_, fun h4 h5 => ?_⟩ fun t' k => ⟨.str _, H, I.tok _, ⟨_, rfl⟩, ans_val q st (.str _)⟩
      · have e1 : ¬ j < -(2 ^ 63 : Int) := by omega
        have e2 : ¬ j ≥ (2 ^ 63 : Int) := by omega
        rw [decide_eq_false e1, decide_eq_false e2]; rfl
      · have : (1000 : Int) ≤ (2 ^ 63 - 1) / j := by
          rw [Int.le_ediv_iff_mul_le (by omega)]
          omega
        omega
      · have hm : a.length * j.toNat ≤ 1000 * 1000 := Nat.mul_le_mul h3 (by omega)
        simp only [Builtin.Str.tooLong, decide_eq_false_iff_not]
        omega
    · cases e
  · cases hx with
    | lst hx tx =>
      cases hy
      split at e
      · cases e; rename_i hz
        obtain ⟨h1, h2, h3⟩ := hz
        have tl := tx.length
        refine op_rep pins s σ H _ _ v u Q I rx ry ⟨_, _, _, rfl, rfl, hx, by omega, by omega, ?_, fun p hp => ?_⟩
        · refine Nat.le_trans (show _ ≤ 1000 * 1000 from Nat.mul_le_mul (by omega) (by omega)) ?_
          have := sizeLine_eq
          omega
        · refine ans_new q st hp ?_
          have rp : ∀ n : Nat, DvAll X.K G (List.replicate n _).flatten (List.replicate n _).flatten := fun n => by
            induction n with
            | zero => exact .nil
            | succ n ih => rw [List.replicate_succ, List.replicate_succ, List.flatten_cons, List.flatten_cons]; exact tx.append ih
          exact rp _
      · cases e
  · cases hx; cases hy
    split at e
    · cases e; rename_i hz
      exact op_mod pins s σ H _ _ v u Q I rx ry ⟨_, _, rfl, rfl, hz, ans_val q st (.int _)⟩
    · cases e
  · cases hx; cases hy
    split at e
    · cases e; rename_i hz
      exact op_fdiv pins s σ H _ _ v u Q I rx ry ⟨_, _, rfl, rfl, hz, ans_val q st (.int _)⟩
    · cases e
  · cases hx; cases hy
    split at e
    · cases e; rename_i hz
      exact op_pow pins s σ H _ _ v u Q I rx ry ⟨_, _, rfl, rfl, ⟨hz.1, by have := hz.2.1; omega, hz.2.2⟩, ans_val q st (.int _)⟩
    · cases e
  · cases e
theorem neg_ok : UnR X (unaryOp .USub) (rU fun i => .int (-i)) := un_neg
end
end DL
set_option maxRecDepth 100000
set_option maxHeartbeats 2000000
namespace DL
open PySem L2
section
variable {X : Cx}
def cmpR (o : CmpOp) (x y : D) : Option R := (cmp2 o x y).map fun k => .val (.bl k)
theorem eqS_dp {K : PySem.W.Frag} {G : Hp} {M : MS} {H : Hp} {x y : V} {xd yd : D} {k : Bool} (o : OkS K G M H) (hx : Vw K G H x xd) (hy : Vw K G H y yd) (e : eqS xd yd = some k) :
    Dp K H x (toP xd) ∧ Dp K H y (toP yd) ∧ SeqAt.shaped (toP xd) = true ∧ SeqAt.shaped (toP yd) = true ∧ k = PyData.eqv (toP xd) (toP yd) := by
  unfold eqS at e
  split at e
  · rename_i h
    obtain ⟨h1, h2, h3, h4⟩ := h
    cases e
    exact ⟨hx.dp o h1 (SeqAt.canLay_of_shaped h3), hy.dp o h2 (SeqAt.canLay_of_shaped h4), h3, h4, rfl⟩
  · cases e
theorem sign_of {a : Str} {c : Nat} (hc : a.cps.toList = [c]) : a = ⟨#[c]⟩ := by
  obtain ⟨cps⟩ := a
  have h : cps = #[c] := by
    have h := congrArg List.toArray hc
    simpa using h
  rw [h]
theorem valD_all {K : PySem.W.Frag} {G : Hp} {k : Key} {d : D} : ∀ {ks : List Key} {vs : List V} {ds : List D}, ks.length = vs.length → DvAll K G vs ds → valD (List.zip ks ds) k = some d → ∃ v, valV (List.zip ks vs) k = some v ∧ Dv K G v d
  | [], _, _, _, _, e => by simp [valD] at e
  | j :: ks, [], [], l, .nil, e => by simp at l
  | j :: ks, v :: vs, d1 :: ds, l, .cons h t, e => by
    simp only [List.zip_cons_cons, valD] at e
    unfold valV
    simp only [List.zip_cons_cons, List.find?_cons]
    by_cases hj : j = k
    · rw [if_pos hj] at e
      cases e
      exact ⟨v, by simp [hj], h⟩
    · rw [if_neg hj] at e
      obtain ⟨u, h1, h2⟩ := valD_all (ks := ks) (by simpa using l) t e
      refine ⟨u, ?_, h2⟩
      rw [decide_eq_false hj]
      exact h1
theorem valD_none {K : PySem.W.Frag} {G : Hp} {k : Key} : ∀ {ks : List Key} {vs : List V} {ds : List D}, ks.length = vs.length → DvAll K G vs ds → valD (List.zip ks ds) k = none → valV (List.zip ks vs) k = none
  | [], _, _, _, _, _ => by simp [valV]
  | j :: ks, [], _, l, _, _ => by simp at l
  | j :: ks, v :: vs, _, l, .cons (ds := ds) h t, e => by
    simp only [List.zip_cons_cons, valD] at e
    split at e
    · cases e
    · rename_i hj
      have ih := valD_none (ks := ks) (by simpa using l) t e
      unfold valV at ih ⊢
      simp only [List.zip_cons_cons, List.find?_cons]
      rw [decide_eq_false hj]
      exact ih
theorem valD_is {K : PySem.W.Frag} {G : Hp} {k : Key} {ks : List Key} {vs : List V} {ds : List D} (l : ks.length = vs.length) (t : DvAll K G vs ds) : (valV (List.zip ks vs) k).isSome = (valD (List.zip ks ds) k).isSome := by
  cases e : valD (List.zip ks ds) k with
  | none => rw [valD_none l t e]; rfl
  | some d =>
    obtain ⟨v, h, _⟩ := valD_all l t e
    rw [h]; rfl
theorem hits_of {A : Around} {s : Shared} {K : PySem.W.Frag} {G : Hp} {kb : List Key} {xb : List V} {db : List D} {vb : List (Key × Value)} (lb : kb.length = xb.length) (tb : DvAll K G xb db) (rb : KV (List.zip kb xb) vb) :
    ∀ {ka : List Key} {xa : List V} {da : List D} {va : List (Key × Value)} {r : Bool}, ka.length = xa.length → DvAll K G xa da → KV (List.zip ka xa) va → hitsD (List.zip kb db) (List.zip ka da) = some r → PySem.W.KeqHits A s vb va r
  | [], xa, da, va, r, l, t, rv, e => by
    simp only [List.zip_nil_left] at rv e
    cases rv
    simp only [hitsD, Option.some.injEq] at e
    subst e
    exact .nil
  | k :: ka, [], da, va, r, l, t, rv, e => by simp at l
  | k :: ka, x :: xa, _, va, r, l, .cons (ds := da) (d := d) h t, rv, e => by
    simp only [List.zip_cons_cons] at rv e
    cases rv with
    | @cons p q ps qs hq rt =>
      obtain ⟨k', u⟩ := q
      obtain ⟨e1, ru⟩ := hq
      simp only at e1 ru
      subst e1
      cases h with
      | str x =>
        simp only [hitsD] at e
        cases ev : valD (List.zip kb db) k with
        | none =>
          rw [ev] at e
          simp only [Option.some.injEq] at e
          subst e
          have hv := rb.val k
          rw [valD_none lb tb ev] at hv
          cases hw : PySem.valueAt vb k with
          | none => exact .miss hw
          | some y => rw [hw] at hv; cases hv
        | some d2 =>
          obtain ⟨v2, h2, dv2⟩ := valD_all lb tb ev
          rw [ev] at e
          cases dv2 with
          | str y =>
            simp only at e
            obtain ⟨t2, et, rfl⟩ := Option.map_eq_some_iff.mp e
            have hv := rb.val k
            rw [h2] at hv
            cases hw : PySem.valueAt vb k with
            | none => rw [hw] at hv; cases hv
            | some u2 =>
              rw [hw] at hv
              obtain ⟨t3, rfl⟩ := hv
              obtain ⟨t4, rfl⟩ := ru
              have he : PySem.SeqAt.EqAt A s (.str x t4) (.str y t3) (decide (x = y)) := by
                have := PySem.SeqAt.EqAt.str_str (A := A) (s := s) x t4 y t3
                rwa [show (x == y) = decide (x = y) from by rw [Bool.eq_iff_iff]; simp] at this
              exact .hit hw he (hits_of lb tb rb (by simpa using l) t rt et)
          | _ => cases e
      | _ => simp only [hitsD] at e; cases e
theorem toPs_any {p : PyData → Bool} : ∀ ys : List D, (toPs ys).any p = ys.any fun z => p (toP z)
  | [] => rfl
  | y :: ys => by simp only [toPs, List.any_cons, toPs_any ys]
theorem inS_dp {K : PySem.W.Frag} {G : Hp} {M : MS} {H : Hp} {x y : V} {xd yd : D} {ys : List D} {k : Bool} (o : OkS K G M H) (hx : Vw K G H x xd) (hy : Vw K G H y yd) (e : inS xd ys yd = some k) :
    Dp K H x (toP xd) ∧ Dp K H y (toP yd) ∧ (toP xd).canLay0 = true ∧ (toP yd).canLay0 = true ∧ (toP xd).depth ≤ 60 ∧ k = ys.any fun z => PyData.eqv (toP z) (toP xd) := by
  unfold inS at e
  split at e
  · rename_i h
    obtain ⟨h1, h2, h3, h4, h5⟩ := h
    cases e
    exact ⟨hx.dp o h1 (SeqAt.canLay_of_shaped h3), hy.dp o h2 (SeqAt.canLay_of_shaped h4), SeqAt.canLay_of_shaped h3, SeqAt.canLay_of_shaped h4, h5, rfl⟩
  · cases e
theorem inS_lst (hu : X.A.units + 64 < cLine) {G : Hp} {M : MS} {pins : List (Addr × Obj)} {σ : L2.St} {H : Hp} {s : Shared} {x y : V} {v u : Value} {xd : D} {ys : List D} {k : Bool} {Q : VK} (I : Inv X pins σ H s) (o : OkS X.K G M H) (hx : Vw X.K G H x xd) (hy : Vw X.K G H y (.lst ys)) (rx : RelV x v) (ry : RelV y u) (e : inS xd ys (.lst ys) = some k) :
    (Q (.bl k) H → wpAny (model X.prog X.w) X.A (compareOp .In v u) (EP X pins σ Q) X.xe s) ∧ (Q (.bl (!k)) H → wpAny (model X.prog X.w) X.A (compareOp .NotIn v u) (EP X pins σ Q) X.xe s) := by
  obtain ⟨d1, d2, c1, c2, hd, rfl⟩ := inS_dp o hx hy e
  obtain ⟨as, r1⟩ := Dp.reads I _ x v d1 rx
  obtain ⟨bs, r2⟩ := Dp.reads I _ y u d2 ry
  have hm := Nat.min_le_right (PyData.depthAll (toPs ys)) (toP xd).depth
  have c2' : PyData.canLayAll0 (toPs ys) = true := by simpa [toP, PyData.canLay0] using c2
  constructor
  · intro q
    rw [← toPs_any ys (p := fun z => PyData.eqv z (toP xd))] at q
    exact SeqAt.in_list_reads (xs := toPs ys) r2 r1 c2' c1 (by omega) ⟨.bl _, H, I, rfl, q⟩
  · intro q
    rw [← toPs_any ys (p := fun z => PyData.eqv z (toP xd))] at q
    exact SeqAt.notIn_list_reads (xs := toPs ys) r2 r1 c2' c1 (by omega) ⟨.bl _, H, I, rfl, q⟩
theorem inS_tup (hu : X.A.units + 64 < cLine) {G : Hp} {M : MS} {pins : List (Addr × Obj)} {σ : L2.St} {H : Hp} {s : Shared} {x y : V} {v u : Value} {xd : D} {ys : List D} {k : Bool} {Q : VK} (I : Inv X pins σ H s) (o : OkS X.K G M H) (hx : Vw X.K G H x xd) (hy : Vw X.K G H y (.tup ys)) (rx : RelV x v) (ry : RelV y u) (e : inS xd ys (.tup ys) = some k) :
    (Q (.bl k) H → wpAny (model X.prog X.w) X.A (compareOp .In v u) (EP X pins σ Q) X.xe s) ∧ (Q (.bl (!k)) H → wpAny (model X.prog X.w) X.A (compareOp .NotIn v u) (EP X pins σ Q) X.xe s) := by
  obtain ⟨d1, d2, c1, c2, hd, rfl⟩ := inS_dp o hx hy e
  obtain ⟨as, r1⟩ := Dp.reads I _ x v d1 rx
  obtain ⟨bs, r2⟩ := Dp.reads I _ y u d2 ry
  have hm := Nat.min_le_right (PyData.depthAll (toPs ys)) (toP xd).depth
  have c2' : PyData.canLayAll0 (toPs ys) = true := by simpa [toP, PyData.canLay0] using c2
  constructor
  · intro q
    rw [← toPs_any ys (p := fun z => PyData.eqv z (toP xd))] at q
    exact SeqAt.in_tuple_reads (xs := toPs ys) r2 r1 c2' c1 (by omega) ⟨.bl _, H, I, rfl, q⟩
  · intro q
    rw [← toPs_any ys (p := fun z => PyData.eqv z (toP xd))] at q
    exact SeqAt.notIn_tuple_reads (xs := toPs ys) r2 r1 c2' c1 (by omega) ⟨.bl _, H, I, rfl, q⟩
theorem cmp2_ok (hu : X.A.units + 64 < cLine) (o : CmpOp) : OpR X (compareOp o) (rB X.K (cmpR o)) := by
  intro pins s σ H x y v u Q I rx ry h
  obtain ⟨G0, M0, H0, G, M, xd, yd, r, st, hx, hy, e, q⟩ := h
  unfold cmpR at e
  cases e' : cmp2 o xd yd with
  | none => rw [e'] at e; cases e
  | some k =>
    rw [e'] at e
    have er : r = .val (.bl k) := (Option.some.inj e).symm
    subst er
    have fin : Q (.bl k) H := ans_val q st (.bl k)
    clear e q
    unfold cmp2 at e'
    split at e'
    · -- ==
      unfold eqD at e'
      split at e'
      · split at e'
        · rename_i xs ys hne
          cases e'
          cases hx with
          | lst hx tx =>
            cases hy with
            | lst hy ty =>
              cases rx; cases ry
              obtain ⟨its, rv, pl, hz⟩ := I.list (SqL.of hx)
              obtain ⟨its2, rv2, pl2, hz2⟩ := I.list (SqL.of hy)
              refine SeqAt.eq_list_lengthsAt pl.isList pl2.isList ?_ (by omega) ⟨.bl false, H, I, rfl, fin⟩
              simp only [List.size_toArray, bne_iff_ne]
              rw [← rv.length, ← rv2.length, tx.length, ty.length]
              exact hne
        · obtain ⟨h1, h2, h3, h4, rfl⟩ := eqS_dp st.ok hx hy e'
          exact op_eqD hu pins s σ H x y v u Q I rx ry ⟨_, _, h1, h2, h3, h4, fin⟩
      · cases hx; cases hy; cases e'
        refine op_eq pins s σ H _ _ v u Q I rx ry ⟨rfl, ?_⟩
        simpa using fin
      · rename_i xs
        cases e'
        cases hx with
        | tup hx tx =>
          cases hy with
          | tup hy ty =>
            cases rx; cases ry
            obtain ⟨its, rv, pl, hz⟩ := I.tuple (st.ok.sub.sqT hx)
            obtain ⟨its2, rv2, pl2, hz2⟩ := I.tuple (st.ok.sub.sqT hy)
            have l1 := tx.length
            have l2 := rv.length
            cases ty
            cases rv2
            refine SeqAt.eq_tupleAt (e := fun _ => true) pl pl2 (by omega) (fun j h1 h2 => absurd h2 (by simp)) ⟨.bl xs.isEmpty, H, I, ?_, fin⟩
            show Value.bool _ = _
            congr 1
            simp only [List.size_toArray, List.length_nil, Nat.min_zero, List.range_zero, List.all_nil, Bool.true_and]
            cases xs with
            | nil => simp at l1; rw [← l2, l1]; rfl
            | cons x xs => simp at l1; rw [← l2, l1]; rfl
      · cases hx with
        | dct hx lx tx =>
          cases hy with
          | dct hy ly ty =>
            cases rx; cases ry
            obtain ⟨_, n1, va, ra, da⟩ := dk_rd I.hok (.inr ⟨_, st.ok.sub _ _ hx⟩)
            obtain ⟨_, n2, vb, rb, db⟩ := dk_rd I.hok (.inr ⟨_, st.ok.sub _ _ hy⟩)
            have zx := tx.length
            have zy := ty.length
            have l1 := ra.length
            have l2 := rb.length
            rw [List.length_zip] at l1 l2
            unfold eqK at e'
            split at e'
            · rename_i hl
              rw [List.length_zip, List.length_zip] at hl
              refine PySem.W.keq_eq n1 n2 da db (by omega) (fun _ => hits_of ly ty rb lx tx ra e') ⟨.bl k, H, I, ?_, fin⟩
              rw [show (va.length == vb.length) = true from by simp; omega]; rfl
            · rename_i hl
              rw [List.length_zip, List.length_zip] at hl
              cases e'
              refine PySem.W.keq_eq (r := true) n1 n2 da db (by omega) (fun h => absurd h (by omega)) ⟨.bl false, H, I, ?_, fin⟩
              rw [show (va.length == vb.length) = false from by simp; omega]; rfl
      · obtain ⟨h1, h2, h3, h4, rfl⟩ := eqS_dp st.ok hx hy e'
        exact op_eqD hu pins s σ H x y v u Q I rx ry ⟨_, _, h1, h2, h3, h4, fin⟩
    · -- !=
      unfold neD at e'
      split at e'
      · split at e'
        · rename_i xs ys hne
          cases e'
          cases hx with
          | lst hx tx =>
            cases hy with
            | lst hy ty =>
              cases rx; cases ry
              obtain ⟨its, rv, pl, hz⟩ := I.list (SqL.of hx)
              obtain ⟨its2, rv2, pl2, hz2⟩ := I.list (SqL.of hy)
              refine SeqAt.RcNeAt.lists_lengths pl.isList pl2.isList ?_ (by omega) X.prog X.w X.xe (EP X pins σ Q) ⟨.bl true, H, I, rfl, fin⟩
              simp only [List.size_toArray, bne_iff_ne]
              rw [← rv.length, ← rv2.length, tx.length, ty.length]
              exact hne
        · rename_i xs ys hne
          cases e2 : eqS (.lst xs) (.lst ys) with
          | none => rw [e2] at e'; cases e'
          | some k2 =>
            rw [e2] at e'
            cases e'
            obtain ⟨h1, h2, h3, h4, rfl⟩ := eqS_dp st.ok hx hy e2
            exact op_neD hu pins s σ H x y v u Q I rx ry ⟨_, _, h1, h2, h3, h4, fin⟩
      · cases hx; cases hy; cases e'
        refine op_ne pins s σ H _ _ v u Q I rx ry ⟨rfl, ?_⟩
        simpa using fin
      · cases hx with
        | dct hx lx tx =>
          cases hy with
          | dct hy ly ty =>
            cases rx; cases ry
            obtain ⟨_, n1, va, ra, da⟩ := dk_rd I.hok (.inr ⟨_, st.ok.sub _ _ hx⟩)
            obtain ⟨_, n2, vb, rb, db⟩ := dk_rd I.hok (.inr ⟨_, st.ok.sub _ _ hy⟩)
            have zx := tx.length
            have zy := ty.length
            have l1 := ra.length
            have l2 := rb.length
            rw [List.length_zip] at l1 l2
            obtain ⟨k2, e3, rfl⟩ := Option.map_eq_some_iff.mp e'
            clear e'
            unfold eqK at e3
            split at e3
            · rename_i hl
              rw [List.length_zip, List.length_zip] at hl
              refine PySem.W.keq_ne n1 n2 da db (by omega) (fun _ => hits_of ly ty rb lx tx ra e3) ⟨.bl (!k2), H, I, ?_, fin⟩
              rw [show (va.length == vb.length) = true from by simp; omega]; rfl
            · rename_i hl
              rw [List.length_zip, List.length_zip] at hl
              cases e3
              refine PySem.W.keq_ne (r := true) n1 n2 da db (by omega) (fun h => absurd h (by omega)) ⟨.bl true, H, I, ?_, fin⟩
              rw [show (va.length == vb.length) = false from by simp; omega]; rfl
      · cases e2 : eqS xd yd with
        | none => rw [e2] at e'; cases e'
        | some k2 =>
          rw [e2] at e'
          cases e'
          obtain ⟨h1, h2, h3, h4, rfl⟩ := eqS_dp st.ok hx hy e2
          exact op_neD hu pins s σ H x y v u Q I rx ry ⟨_, _, h1, h2, h3, h4, fin⟩
    · cases hx; cases hy; cases e'
      exact op_lt pins s σ H _ _ v u Q I rx ry ⟨_, _, rfl, rfl, fin⟩
    · cases hx; cases hy; cases e'
      exact op_le pins s σ H _ _ v u Q I rx ry ⟨_, _, rfl, rfl, fin⟩
    · cases hx; cases hy; cases e'
      exact op_gt pins s σ H _ _ v u Q I rx ry ⟨_, _, rfl, rfl, fin⟩
    · cases hx; cases hy; cases e'
      exact op_ge pins s σ H _ _ v u Q I rx ry ⟨_, _, rfl, rfl, fin⟩
    · -- in
      unfold inD at e'
      split at e'
      · split at e'
        · rename_i a b _ c hc
          cases hx; cases hy; cases e'
          have ea := sign_of hc
          subst ea
          exact op_in_sign pins s σ H _ _ v u Q I rx ry ⟨_, _, rfl, rfl, fin⟩
        · cases e'
      · rename_i a kvs
        cases hx
        cases hy with
        | dct hy l ty =>
          cases e'
          cases ry
          have g : DGet H _ (kV (.inr a)) _ := .inl ⟨_, .inr a, .inr ⟨_, st.ok.sub _ _ hy⟩, rfl, rfl⟩
          refine d_in (by omega) I g rx fun s' I' => ⟨.bl _, H, I', rfl, ?_⟩
          rw [valD_is l ty]
          exact fin
      · split at e'
        · rename_i hf
          cases e'
          cases hy with
          | lst hy ty =>
            have hx' : Dv X.K G x xd := by cases hx <;> first | exact .non | exact .bl _ | exact .int _ | exact .str _ | (simp [flatD] at hf)
            obtain ⟨f1, f2⟩ := any_flat hx' hf.1 ty hf.2
            exact op_in_seq pins s σ H _ _ v u Q I rx ry ⟨_, _, rfl, .inl (SqL.of hy), hx'.flat hf.1, f1, by simpa [f2] using fin⟩
        · exact (inS_lst hu I st.ok hx hy rx ry e').1 fin
      · split at e'
        · rename_i hf
          cases e'
          cases hy with
          | tup hy ty =>
            have hx' : Dv X.K G x xd := by cases hx <;> first | exact .non | exact .bl _ | exact .int _ | exact .str _ | (simp [flatD] at hf)
            obtain ⟨f1, f2⟩ := any_flat hx' hf.1 ty hf.2
            exact op_in_seq pins s σ H _ _ v u Q I rx ry ⟨_, _, rfl, .inr (st.ok.sub.sqT hy), hx'.flat hf.1, f1, by simpa [f2] using fin⟩
        · exact (inS_tup hu I st.ok hx hy rx ry e').1 fin
      · cases e'
    · -- not in
      cases e2 : inD xd yd with
      | none => rw [e2] at e'; cases e'
      | some k2 =>
        rw [e2] at e'
        cases e'
        unfold inD at e2
        split at e2
        · split at e2
          · rename_i a b _ c hc
            cases hx; cases hy; cases e2
            have ea := sign_of hc
            subst ea
            exact op_notIn_sign pins s σ H _ _ v u Q I rx ry ⟨_, _, rfl, rfl, fin⟩
          · cases e2
        · rename_i a kvs
          cases hx
          cases hy with
          | dct hy l ty =>
            cases e2
            cases ry
            have g : DGet H _ (kV (.inr a)) _ := .inl ⟨_, .inr a, .inr ⟨_, st.ok.sub _ _ hy⟩, rfl, rfl⟩
            refine d_notIn (by omega) I g rx fun s' I' => ⟨.bl _, H, I', rfl, ?_⟩
            rw [valD_is l ty]
            exact fin
        · split at e2
          · rename_i hf
            cases e2
            cases hy with
            | lst hy ty =>
              have hx' : Dv X.K G x xd := by cases hx <;> first | exact .non | exact .bl _ | exact .int _ | exact .str _ | (simp [flatD] at hf)
              obtain ⟨f1, f2⟩ := any_flat hx' hf.1 ty hf.2
              exact op_notIn_seq pins s σ H _ _ v u Q I rx ry ⟨_, _, rfl, .inl (SqL.of hy), hx'.flat hf.1, f1, by simpa [f2] using fin⟩
          · exact (inS_lst hu I st.ok hx hy rx ry e2).2 fin
        · split at e2
          · rename_i hf
            cases e2
            cases hy with
            | tup hy ty =>
              have hx' : Dv X.K G x xd := by cases hx <;> first | exact .non | exact .bl _ | exact .int _ | exact .str _ | (simp [flatD] at hf)
              obtain ⟨f1, f2⟩ := any_flat hx' hf.1 ty hf.2
              exact op_notIn_seq pins s σ H _ _ v u Q I rx ry ⟨_, _, rfl, .inr (st.ok.sub.sqT hy), hx'.flat hf.1, f1, by simpa [f2] using fin⟩
          · exact (inS_tup hu I st.ok hx hy rx ry e2).2 fin
        · cases e2
    · cases e'
      have e0 : y = .non := by cases hy; rfl
      have e1 : decide (x = .non) = isNo xd := by cases hx <;> rfl
      exact op_isN pins s σ H x y v u Q I rx ry ⟨e0, by rw [e1]; exact fin⟩
    · cases e'
      have e0 : y = .non := by cases hy; rfl
      have e1 : decide (x = .non) = isNo xd := by cases hx <;> rfl
      exact op_notN pins s σ H x y v u Q I rx ry ⟨e0, by rw [e1]; exact fin⟩
    · cases e'
/-- truth -/
theorem truth_ok {K : PySem.W.Frag} {G : Hp} {M : MS} {H : Hp} {x : V} {xd : D} {k : Bool} (o : OkS K G M H) (hx : Vw K G H x xd) (e : truthD xd = some k) : TruV K x H k := by
  cases hx with
  | non => cases e; exact rfl
  | bl b => cases e; exact rfl
  | int i => cases e; exact rfl
  | str y =>
    simp only [truthD] at e
    split at e
    · cases e; rename_i hz; exact ⟨hz, rfl⟩
    · cases e
  | lst h t =>
    cases e
    refine .inl ⟨_, SqL.of h, ?_⟩
    have := t.length
    cases t <;> rfl
  | tup h t =>
    cases e
    refine .inr (.inl ⟨_, o.sub.sqT h, ?_⟩)
    cases t <;> rfl
  | dct h l t => cases e
  | obj a => cases e
  | ty n => cases e
  | _ => cases e
/-- x[i] -/
theorem atI_all {K : PySem.W.Frag} {G : Hp} {vs : List V} {ds : List D} {i : Int} {d : D} (t : DvAll K G vs ds) (e : atI ds i = some d) : ∃ v, atI vs i = some v ∧ Dv K G v d := by
  unfold atI at e ⊢
  rw [t.length]
  cases e2 : ixN ds.length i with
  | none => rw [e2] at e; cases e
  | some j =>
    rw [e2] at e
    exact t.get e
def idxR (x y : D) : Option R := (idxD x y).map R.val
theorem idx_ok (hu : X.A.units + 64 < cLine) : IxR X (rB X.K idxR) := by
  intro value slice pins s σ H x y v u Q I rx ry h hs
  obtain ⟨G0, M0, H0, G, M, xd, yd, r, st, hx, hy, e, q⟩ := h
  unfold idxR at e
  cases e' : idxD xd yd with
  | none => rw [e'] at e; cases e
  | some d =>
    rw [e'] at e
    have er : r = .val d := (Option.some.inj e).symm
    subst er
    clear e
    unfold idxD at e'
    split at e'
    · rename_i kvs kx
      cases hx with
      | dct hx l tx =>
        cases hy
        obtain ⟨w, hw, dw⟩ := valD_all l tx e'
        cases rx
        have g : DGet H _ (kV (.inr kx)) (some w) := .inl ⟨_, _, .inr ⟨_, st.ok.sub _ _ hx⟩, rfl, hw.symm⟩
        exact PyProof.Rows.tail_any (dict_typeIs I g) PySem.F.slot_dict_getitem.lookup (d_getItem (by omega) I g ry fun w' s' I' rw' => ⟨w, H, I', rw', ans_val q st dw⟩) hs
    · cases hx with
      | lst hx tx =>
        cases hy
        obtain ⟨w, hw, dw⟩ := atI_all tx e'
        exact ix_list value slice pins s σ H _ _ v u Q I rx ry ⟨_, _, _, _, rfl, rfl, SqL.of hx, hw, ans_val q st dw⟩ hs
    · cases hx with
      | tup hx tx =>
        cases hy
        obtain ⟨w, hw, dw⟩ := atI_all tx e'
        exact ix_tup value slice pins s σ H _ _ v u Q I rx ry ⟨_, _, _, _, rfl, rfl, st.ok.sub.sqT hx, hw, ans_val q st dw⟩ hs
    · cases hx; cases hy
      split at e'
      · rename_i z i hz
        cases e2 : atI z.cps.toList i with
        | none => rw [e2] at e'; cases e'
        | some c =>
          rw [e2] at e'
          cases e'
          exact ix_str value slice pins s σ H _ _ v u Q I rx ry ⟨_, _, _, rfl, rfl, hz, e2, ans_val q st (.str _)⟩ hs
      · cases e'
    · cases e'
/-- x[lo:hi] -/
def rSlD (K : PySem.W.Frag) : V → Option Int → Option Int → Hp → VK → Prop := fun x lo hi H Q => ∃ (G0 : Hp) (M0 : MS) (H0 : Hp) (G : Hp) (M : MS) (xd : D) (r : R),
  Step K G0 M0 H0 G M H ∧ Vw K G H x xd ∧ slcD xd lo hi = some r ∧ PostV K G0 M0 H0 Q r M
theorem cut_all {K : PySem.W.Frag} {G : Hp} {vs : List V} {ds : List D} (t : DvAll K G vs ds) (lo hi : Option Int) : DvAll K G (cutV vs lo hi) (cutD ds lo hi) := by
  unfold cutV cutD
  rw [t.length]
  exact (t.drop _).take _
theorem ints_all {K : PySem.W.Frag} {G : Hp} : ∀ ns : List Int, DvAll K G (ns.map V.int) (ns.map D.int)
  | [] => .nil
  | n :: ns => .cons (.int n) (ints_all ns)
theorem cut_whole {K : PySem.W.Frag} {G : Hp} {vs : List V} {ds : List D} {lo hi : Option Int} (t : DvAll K G vs ds) (h1 : HT.sIx vs.length 0 lo = 0) (h2 : HT.sIx vs.length vs.length hi = vs.length) : cutD ds lo hi = ds := by
  unfold cutD
  rw [← t.length, h1, h2, List.drop_zero, Nat.sub_zero, t.length]
  exact List.take_length
theorem slc_ok : SlR X (rSlD X.K) := by
  intro pins s σ H x v vl vu lo hi sl Q I rx hs pl pu h
  obtain ⟨G0, M0, H0, G, M, xd, r, st, hx, e, q⟩ := h
  unfold slcD at e
  split at e
  · cases hx with
    | lst hx tx =>
      cases e
      exact sl_list pins s σ H _ v vl vu lo hi sl Q I rx hs pl pu ⟨_, _, rfl, SqL.of hx, fun p hp => ans_new q st hp (cut_all tx lo hi)⟩
  · cases hx with
    | scr hx hl =>
      cases e
      exact sl_list pins s σ H _ v vl vu lo hi sl Q I rx hs pl pu ⟨_, _, rfl, st.ok.sub.sqL hx, fun p hp => ans_new q st hp (cut_all (ints_all _) lo hi)⟩
  · cases hx with
    | tup hx tx =>
      cases e
      refine sl_tupA pins s σ H _ v vl vu lo hi sl Q I rx hs pl pu ⟨_, _, rfl, st.ok.sub.sqT hx, fun z => ?_, fun _ p hp => ans_tup q st hp (cut_all tx lo hi)⟩
      refine ans_val q st ?_
      rw [cut_whole tx z.1 z.2]
      exact .tup hx tx
  · cases hx
    split at e
    · cases e; rename_i hz
      exact sl_str pins s σ H _ v vl vu lo hi sl Q I rx hs pl pu ⟨_, rfl, hz, ans_val q st (.str _)⟩
    · cases e
  · cases e
end
end DL
set_option maxRecDepth 100000
set_option maxHeartbeats 2000000
namespace DL
open PySem L2
/-! ### what is written of a value (repr) -/
def keyP : Key → PyData
  | .inl i => .int i
  | .inr s => .str s
theorem toPk_zip : ∀ (ks : List Key) (ds : List D), ks.length = ds.length → (toPk (List.zip ks ds)).map (·.1) = ks.map keyP ∧ (toPk (List.zip ks ds)).map (·.2) = toPs ds
  | [], [], _ => ⟨rfl, rfl⟩
  | k :: ks, d :: ds, h => by
    obtain ⟨h1, h2⟩ := toPk_zip ks ds (by simpa using h)
    constructor
    · simp only [List.zip_cons_cons, toPk, List.map_cons, h1]
      cases k <;> rfl
    · simp only [List.zip_cons_cons, toPk, List.map_cons, h2, toPs]
  | [], _ :: _, h => by simp at h
  | _ :: _, [], h => by simp at h
theorem isPk_zip : ∀ (ks : List Key) (ds : List D), ks.length = ds.length → isPk (List.zip ks ds) = isPs ds
  | [], [], _ => rfl
  | k :: ks, d :: ds, h => by
    simp only [List.zip_cons_cons, isPk, isPs]
    rw [isPk_zip ks ds (by simpa using h)]
  | [], _ :: _, h => by simp at h
  | _ :: _, [], h => by simp at h
section
variable {X : Cx} {pins : List (Addr × Obj)} {σ : L2.St} {H G : Hp} {s : Shared}
theorem keys_read {P : Program} {w : World} {h : Heap} : ∀ {es : List DictEntry} {ks : List Key} {us : List Value}, ks.length = us.length → Pairs (mixKind P w) es (List.zip ks us) → ReadsAll h (es.map (·.key)) (ks.map keyP) []
  | [], [], [], _, _ => .nil
  | e :: es, k :: ks, u :: us, l, p => by
    cases p with
    | cons h1 h2 t =>
      have ih := keys_read (h := h) (by simpa using l) t
      have r : Reads h e.key (keyP k) [] := by
        rcases keyIs_shape (k := k) (v := e.key) h1 with ⟨i, t, e1, e2⟩ | ⟨x, t, e1, e2⟩
        · rw [e1, e2]; exact .int i t
        · rw [e1, e2]; exact .str x t
      exact .cons r ih
  | [], k :: ks, u :: us, _, p => by cases p
  | e :: es, [], _, l, p => by simp at p; cases p
  | _, [], _ :: _, l, _ => by simp at l
  | _, _ :: _, [], l, _ => by simp at l
theorem vals_pairs {P : Program} {w : World} : ∀ {es : List DictEntry} {ks : List Key} {us : List Value}, ks.length = us.length → Pairs (mixKind P w) es (List.zip ks us) → es.map (·.val) = us
  | [], [], [], _, _ => rfl
  | e :: es, k :: ks, u :: us, l, p => by
    cases p with
    | cons h1 h2 t =>
      have ih := vals_pairs (by simpa using l) t
      simp only [List.map_cons, ih]
      rw [h2]
  | [], k :: ks, u :: us, _, p => by cases p
  | e :: es, [], _, l, p => by simp at p; cases p
  | _, [], _ :: _, l, _ => by simp at l
  | _, _ :: _, [], l, _ => by simp at l
theorem kv_zip : ∀ {ks : List Key} {xs : List V} {ws : List (Key × Value)}, ks.length = xs.length → KV (List.zip ks xs) ws → ∃ us, Vals xs us ∧ ws = List.zip ks us ∧ ks.length = us.length
  | [], [], ws, _, h => by cases h; exact ⟨[], .nil, rfl, rfl⟩
  | k :: ks, x :: xs, ws, l, h => by
    cases h with
    | cons r t =>
      rename_i q ws'
      obtain ⟨us, h1, h2, h3⟩ := kv_zip (by simpa using l) t
      refine ⟨q.2 :: us, .cons r.2 h1, ?_, by simp [h3]⟩
      rw [h2]
      obtain ⟨q1, q2⟩ := q
      have e : k = q1 := r.1
      rw [e]; rfl
  | [], _ :: _, _, l, _ => by simp at l
  | _ :: _, [], _, l, _ => by simp at l
mutual
theorem Dv.reads (I : Inv X pins σ H s) (o : Sub G H) (sm : H sysModules = none) : ∀ {v : V} {d : D}, Dv X.K G v d → isP d = true → ∀ u, RelV v u → ∃ as, Reads s.heap u (toP d) as ∧ sysModules ∉ as
  | _, _, .non, _, u, r => by cases r; exact ⟨[], .none, by simp⟩
  | _, _, .bl b, _, u, r => by cases r; exact ⟨[], .bool b, by simp⟩
  | _, _, .int i, _, u, r => by obtain ⟨t, rfl⟩ := r; exact ⟨[], .int i t, by simp⟩
  | _, _, .str x, _, u, r => by obtain ⟨t, rfl⟩ := r; exact ⟨[], .str x t, by simp⟩
  | _, _, .lst h t, p, u, r => by
    cases r
    obtain ⟨its, rv, ⟨ob, n, ho, hc, _, hd⟩, _⟩ := I.list (SqL.of (o _ _ h))
    obtain ⟨as, hr, hn⟩ := DvAll.reads I o sm t p its rv
    refine ⟨_, .list ho hc hd hr, ?_⟩
    simp only [List.mem_cons, not_or]
    exact ⟨fun e => (by rw [← e] at h; have := o _ _ h; rw [sm] at this; cases this), hn⟩
  | _, _, .tup h t, p, u, r => by
    cases r
    obtain ⟨its, rv, ⟨ob, ho, hc, n, hd⟩, _⟩ := I.tuple (o.sqT h)
    obtain ⟨as, hr, hn⟩ := DvAll.reads I o sm t p its rv
    exact ⟨_, .tuple ho hc hd hr, hn⟩
  | _, _, .dct (ks := ks) (xs := xs) (ds := ds) h l t, p, u, r => by
    cases r
    obtain ⟨_, _, _, ws, kv, ob, es, ep, ho, ex, hd, ko, pr, nd⟩ := I.hok _ _ (o _ _ h)
    have tl := t.length
    obtain ⟨us, rv, e1, l2⟩ := kv_zip l kv
    subst e1
    have p' : isPs ds = true := by rw [← isPk_zip ks ds (by omega)]; exact p
    obtain ⟨as, hr, hn⟩ := DvAll.reads I o sm t p' us rv
    obtain ⟨z1, z2⟩ := toPk_zip ks ds (by omega)
    refine ⟨_, .dict (as := []) (bs := as) ho ex.1 hd ?_ ?_, ?_⟩
    · rw [z1]; exact keys_read l2 pr
    · rw [z2, vals_pairs l2 pr]; exact hr
    · simp only [List.cons_append, List.nil_append, List.mem_cons, not_or]
      exact ⟨fun e => (by rw [← e] at h; have := o _ _ h; rw [sm] at this; cases this), hn⟩
  | _, _, .obj _, p, _, _ => by cases p
  | _, _, .ty _, p, _, _ => by cases p
  | _, _, .scr _ _, p, _, _ => by cases p
  | _, _, .ins _ _ _ _ _, p, _, _ => by cases p
  | _, _, .dcT _ _ _, p, _, _ => by cases p
  | _, _, .exc _ _ _, p, _, _ => by cases p
  | _, _, .excN, p, _, _ => by cases p
theorem DvAll.reads (I : Inv X pins σ H s) (o : Sub G H) (sm : H sysModules = none) : ∀ {vs : List V} {ds : List D}, DvAll X.K G vs ds → isPs ds = true → ∀ us, Vals vs us → ∃ as, ReadsAll s.heap us (toPs ds) as ∧ sysModules ∉ as
  | _, _, .nil, _, us, r => by cases r; exact ⟨[], .nil, by simp⟩
  | _, _, .cons h t, p, us, r => by
    cases r with
    | cons r1 r2 =>
      unfold isPs at p
      simp only [Bool.and_eq_true] at p
      obtain ⟨as, h1, n1⟩ := Dv.reads I o sm h p.1 _ r1
      obtain ⟨bs, h2, n2⟩ := DvAll.reads I o sm t p.2 _ r2
      exact ⟨as ++ bs, .cons h1 h2, by simp only [List.mem_append, not_or]; exact ⟨n1, n2⟩⟩
end
theorem Vw.reads {M : MS} (I : Inv X pins σ H s) (o : OkS X.K G M H) (sm : H sysModules = none) {v : V} {d : D} (h : Vw X.K G H v d) (p : isP d = true) (u : Value) (r : RelV v u) : ∃ as, Reads s.heap u (toP d) as ∧ sysModules ∉ as := by
  cases h with
  | non => exact Dv.reads I o.sub sm .non p u r
  | bl b => exact Dv.reads I o.sub sm (.bl b) p u r
  | int i => exact Dv.reads I o.sub sm (.int i) p u r
  | str x => exact Dv.reads I o.sub sm (.str x) p u r
  | lst h t =>
    cases r
    obtain ⟨its, rv, ⟨ob, n, ho, hc, _, hd⟩, _⟩ := I.list (SqL.of h)
    obtain ⟨as, hr, hn⟩ := DvAll.reads I o.sub sm t p its rv
    refine ⟨_, .list ho hc hd hr, ?_⟩
    simp only [List.mem_cons, not_or]
    exact ⟨fun e => (by rw [← e, sm] at h; cases h), hn⟩
  | tup h t => exact Dv.reads I o.sub sm (.tup h t) p u r
  | dct h l t => exact Dv.reads I o.sub sm (.dct h l t) p u r
  | obj a => cases p
  | ty n => cases p
  | _ => cases p
end
end DL
set_option maxRecDepth 100000
set_option maxHeartbeats 2000000
namespace DL
open PySem L2
/-- some values, a partial function of their data -/
def rA (K : PySem.W.Frag) (f : List D → Option R) : List V → Hp → VK → Prop := fun xs H Q => ∃ (G0 : Hp) (M0 : MS) (H0 : Hp) (G : Hp) (M : MS) (ds : List D) (r : R),
  Step K G0 M0 H0 G M H ∧ DvAll K G xs ds ∧ f (ds.map (view M)) = some r ∧ PostV K G0 M0 H0 Q r M
def biV : BI → Value
  | .len => .builtin "len"
  | .int => .type "int"
  | .abs => .builtin "abs"
  | .repr => .builtin "repr"
  | .all => .builtin "all"
  | .any => .builtin "any"
  | .tuple => .type "tuple"
  | .list => .type "list"
  | .max => .builtin "max"
theorem one_of {K : PySem.W.Frag} {G : Hp} {M : MS} {H : Hp} (o : OkS K G M H) {xs : List V} {ds : List D} {d : D} (t : DvAll K G xs ds) (e : ds.map (view M) = [d]) : ∃ x, xs = [x] ∧ Vw K G H x d := by
  cases t with
  | nil => simp at e
  | cons h t =>
    cases t with
    | cons h2 t2 => simp at e
    | nil =>
      simp only [List.map_cons, List.map_nil, List.cons.injEq, and_true] at e
      subst e
      exact ⟨_, rfl, h.vw o⟩
theorem bools_of {K : PySem.W.Frag} {G : Hp} : ∀ {vs : List V} {ds : List D} {bs : List Bool}, DvAll K G vs ds → boolsD ds = some bs → vs = bs.map V.bl
  | _, _, _, .nil, e => by cases e; rfl
  | _, _, _, .cons h t, e => by
    cases h with
    | bl b =>
      simp only [boolsD] at e
      rename_i vs ds
      cases e2 : boolsD ds with
      | none => rw [e2] at e; cases e
      | some bs2 =>
        rw [e2] at e
        cases e
        rw [bools_of t e2]; rfl
    | non => cases e
    | int i => cases e
    | str x => cases e
    | lst h t => cases e
    | tup h t => cases e
    | dct h l t => cases e
    | obj a => cases e
    | ty n => cases e
    | _ => cases e
theorem strs_of {K : PySem.W.Frag} {G : Hp} : ∀ {vs : List V} {ds : List D} {bs : List Str}, DvAll K G vs ds → strsD ds = some bs → vs = bs.map V.str
  | _, _, _, .nil, e => by cases e; rfl
  | _, _, _, .cons h t, e => by
    cases h with
    | str b =>
      simp only [strsD] at e
      rename_i vs ds
      cases e2 : strsD ds with
      | none => rw [e2] at e; cases e
      | some bs2 =>
        rw [e2] at e
        cases e
        rw [strs_of t e2]; rfl
    | non => cases e
    | int i => cases e
    | bl x => cases e
    | lst h t => cases e
    | tup h t => cases e
    | dct h l t => cases e
    | obj a => cases e
    | ty n => cases e
    | _ => cases e
theorem ints_of {K : PySem.W.Frag} {G : Hp} : ∀ {vs : List V} {ds : List D} {bs : List Int}, DvAll K G vs ds → intsD ds = some bs → vs = bs.map V.int
  | _, _, _, .nil, e => by cases e; rfl
  | _, _, _, .cons (ds := ds) h t, e => by
    cases h with
    | int b =>
      simp only [intsD] at e
      cases e2 : intsD ds with
      | none => rw [e2] at e; cases e
      | some bs2 =>
        rw [e2] at e
        cases e
        rw [ints_of t e2]; rfl
    | non => cases e
    | bl x => cases e
    | str x => cases e
    | lst h t => cases e
    | tup h t => cases e
    | dct h l t => cases e
    | obj a => cases e
    | ty n => cases e
    | _ => cases e
theorem maxI_fold : ∀ (r : List Int) (x : Int), (r.foldl (fun a b => if a < b then b else a) x ∈ x :: r) ∧ ∀ y ∈ x :: r, y ≤ r.foldl (fun a b => if a < b then b else a) x
  | [], x => ⟨by simp, by simp⟩
  | z :: r, x => by
    obtain ⟨h1, h2⟩ := maxI_fold r (if x < z then z else x)
    simp only [List.foldl_cons]
    refine ⟨?_, fun y hy => ?_⟩
    · rcases List.mem_cons.mp h1 with e | e
      · rw [e]; split <;> simp
      · simp [e]
    · have hx := h2 _ List.mem_cons_self
      have h3 : x ≤ (if x < z then z else x) ∧ z ≤ (if x < z then z else x) := by split <;> omega
      rcases List.mem_cons.mp hy with e | e
      · subst e; exact Int.le_trans h3.1 hx
      · rcases List.mem_cons.mp e with e | e
        · subst e; exact Int.le_trans h3.2 hx
        · exact h2 y (List.mem_cons_of_mem _ e)
theorem maxI_of {ns : List Int} {m : Int} (h : m ∈ ns) (h2 : ∀ y ∈ ns, y ≤ m) : maxI ns = some m := by
  cases ns with
  | nil => cases h
  | cons x r =>
    obtain ⟨a1, a2⟩ := maxI_fold r x
    have e1 := a2 m h
    have e2 := h2 _ a1
    exact congrArg some (Int.le_antisymm e2 e1)
theorem strs_all {K : PySem.W.Frag} {G : Hp} : ∀ xs : List Str, DvAll K G (xs.map V.str) (xs.map D.str)
  | [] => .nil
  | x :: xs => .cons (.str x) (strs_all xs)
section
variable {X : Cx}
/-- what the built-ins lean on -/
structure Cal (X : Cx) : Prop where
  calm : X.calm = true
  gd : X.A.guards = some []
  hu : X.A.units + 70 < cLine
  sm : ∃ o, X.base.get? sysModules = some o
theorem Cal.noSys (c : Cal X) {pins : List (Addr × Obj)} {σ : L2.St} {H : Hp} {s : Shared} (I : Inv X pins σ H s) : H sysModules = none :=
  let ⟨o, h⟩ := c.sm
  (I.bs _ o h).2
theorem repr_ok (c : Cal X) {pins : List (Addr × Obj)} {s : Shared} {σ : L2.St} {H : Hp} {G : Hp} {M : MS} {x : V} {d : D} {u : Value} {Q : VK} (I : Inv X pins σ H s) (o : OkS X.K G M H) (h : Vw X.K G H x d) (p : isP d = true) (sh : (toP d).showable = true) (sz : (toP d).shown.length ≤ sizeLine)
    (dp : (toP d).depth ≤ 60) (ru : RelV x u) (q : Q (.str (toP d).shown) H) : wpAny (model X.prog X.w) X.A (call (.builtin "repr") [u]) (EP X pins σ Q) X.xe s := by
  obtain ⟨as, hr, hn⟩ := h.reads I o (c.noSys I) p u ru
  have hu := c.hu
  have deep : ∀ a, u = .ref a → wpAny (model X.prog X.w) X.A (call (.builtin "repr") [u]) (EP X pins σ Q) X.xe s := fun a e => by
    subst e
    refine PySem.repr_of_reads' hr sh (fun _ => hn) c.gd (by omega) (fun _ _ e => e) (fun h' t tk hk => ?_) sz
    exact ⟨.str _, H, I.kept (t' := tk) hk, ⟨_, rfl⟩, q⟩
  cases h with
  | non => cases ru; exact PySem.P.repr_of_none ⟨.str _, H, I.tok _, ⟨_, rfl⟩, q⟩
  | bl b => cases ru; exact PySem.P.repr_of_bool ⟨.str _, H, I.tok _, ⟨_, rfl⟩, q⟩
  | int i =>
    obtain ⟨t, rfl⟩ := ru
    exact PySem.P.repr_of_int (by simpa [toP, PyData.showable] using sh) ⟨.str _, H, I.tok _, ⟨_, rfl⟩, q⟩
  | str x =>
    obtain ⟨t, rfl⟩ := ru
    exact PySem.P.repr_of_str ⟨.str _, H, I.tok _, ⟨_, rfl⟩, q⟩ (by simpa [toP, PyData.shown] using sz)
  | lst h t => cases ru; exact deep _ rfl
  | tup h t => cases ru; exact deep _ rfl
  | dct h l t => cases ru; exact deep _ rfl
  | obj a => cases p
  | ty n => cases p
  | _ => cases p
theorem bi_ok (c : Cal X) (b : BI) : CallR X (biV b) (rA X.K (biD b)) := by
  intro pins s σ H xs us Q I rs h
  obtain ⟨G0, M0, H0, G, M, ds, r, st, t, e, q⟩ := h
  unfold biD at e
  split at e
  · -- len
    rename_i x he
    obtain ⟨v, rfl, hv⟩ := one_of st.ok t he
    cases e2 : lenD x with
    | none => rw [e2] at e; cases e
    | some n =>
      rw [e2] at e
      cases e
      refine call_len pins s σ H _ us Q I rs ⟨v, n, rfl, ?_, ans_val q st (.int _)⟩
      cases hv with
      | str z =>
        simp only [lenD] at e2
        split at e2
        · cases e2; rename_i hz; exact ⟨hz, rfl⟩
        · cases e2
      | lst h t3 => cases e2; exact .inl ⟨_, SqL.of h, t3.length.symm⟩
      | tup h t3 => cases e2; exact .inr ⟨_, st.ok.sub.sqT h, t3.length.symm⟩
      | non => cases e2
      | bl b => cases e2
      | int i => cases e2
      | dct h l t => cases e2
      | obj a => cases e2
      | ty n => cases e2
      | _ => cases e2
  · rename_i he; obtain ⟨v, rfl, hv⟩ := one_of st.ok t he
    cases hv; cases e
    exact call_int1 pins s σ H _ us Q I rs (.inl ⟨_, rfl, ans_val q st (.int _)⟩)
  · rename_i he; obtain ⟨v, rfl, hv⟩ := one_of st.ok t he
    cases hv; cases e
    exact call_int1 pins s σ H _ us Q I rs (.inr ⟨_, rfl, ans_val q st (.int _)⟩)
  · rename_i a he; obtain ⟨v, rfl, hv⟩ := one_of st.ok t he
    cases hv
    split at e
    · rename_i hz
      cases e2 : PySem.intText? a with
      | none => rw [e2] at e; cases e
      | some n =>
        rw [e2] at e; cases e
        exact call_int_str pins s σ H _ us Q I rs ⟨_, _, rfl, e2, hz, ans_val q st (.int _)⟩
    · cases e
  · rename_i he; obtain ⟨v, rfl, hv⟩ := one_of st.ok t he
    cases hv; cases e
    exact call_abs pins s σ H _ us Q I rs ⟨_, rfl, ans_val q st (.int _)⟩
  · rename_i x he; obtain ⟨v, rfl, hv⟩ := one_of st.ok t he
    split at e
    · rename_i hz
      obtain ⟨h1, h2, h3, h4⟩ := hz
      cases e
      obtain ⟨u, rfl, ru⟩ := vals1 rs
      exact repr_ok c I st.ok hv h1 h2 h3 h4 ru (ans_val q st (.str _))
    · cases e
  · rename_i xs he; obtain ⟨v, rfl, hv⟩ := one_of st.ok t he
    cases hv with
    | lst h t2 =>
      cases e2 : boolsD xs with
      | none => rw [e2] at e; cases e
      | some bs =>
        rw [e2] at e; cases e
        have ev := bools_of t2 e2
        subst ev
        exact cr_all c.calm pins s σ H _ us Q I rs ⟨_, bs, rfl, SqL.of h, ans_val q st (.bl _)⟩
  · rename_i xs he; obtain ⟨v, rfl, hv⟩ := one_of st.ok t he
    cases hv with
    | lst h t2 =>
      cases e2 : boolsD xs with
      | none => rw [e2] at e; cases e
      | some bs =>
        rw [e2] at e; cases e
        have ev := bools_of t2 e2
        subst ev
        exact cr_any c.calm pins s σ H _ us Q I rs ⟨_, bs, rfl, SqL.of h, ans_val q st (.bl _)⟩
  · rename_i he; obtain ⟨v, rfl, hv⟩ := one_of st.ok t he
    cases e
    cases hv with
    | lst h t2 => exact call_tuple_of pins s σ H _ us Q I rs ⟨_, _, rfl, .inl ⟨SqL.of h, fun p hp => ans_tup q st hp t2⟩⟩
  · rename_i he; obtain ⟨v, rfl, hv⟩ := one_of st.ok t he
    cases e
    cases hv with
    | tup h t2 => exact call_tuple_of pins s σ H _ us Q I rs ⟨_, _, rfl, .inr ⟨st.ok.sub.sqT h, ans_val q st (.tup h t2)⟩⟩
  · rename_i he; obtain ⟨v, rfl, hv⟩ := one_of st.ok t he
    cases e
    cases hv with
    | lst h t2 => exact call_list_of pins s σ H _ us Q I rs ⟨_, _, rfl, .inl (SqL.of h), fun p hp => ans_new q st hp t2⟩
  · rename_i he; obtain ⟨v, rfl, hv⟩ := one_of st.ok t he
    cases e
    cases hv with
    | tup h t2 => exact call_list_of pins s σ H _ us Q I rs ⟨_, _, rfl, .inr (st.ok.sub.sqT h), fun p hp => ans_new q st hp t2⟩
  · rename_i xs he; obtain ⟨v, rfl, hv⟩ := one_of st.ok t he
    cases hv with
    | lst h t2 =>
      cases e2 : intsD xs with
      | none => rw [e2] at e; cases e
      | some ns =>
        rw [e2] at e
        cases e3 : maxI ns with
        | none => simp [e3] at e
        | some m =>
          simp only [Option.bind_some, e3, Option.map_some, Option.some.injEq] at e
          subst e
          have ev := ints_of t2 e2
          subst ev
          have hne : 0 < ns.length := by cases ns with
            | nil => cases e3
            | cons _ _ => simp
          refine cr_max c.calm pins s σ H _ us Q I rs ⟨_, ns, rfl, SqL.of h, hne, fun m' h1 h2 => ?_⟩
          have := maxI_of h1 h2
          rw [e3] at this
          cases this
          exact ans_val q st (.int _)
  · cases e
/-- methods -/
def rM (K : PySem.W.Frag) (m : MT) : V → List V → Hp → VK → Prop := fun x xs H Q => ∃ (G0 : Hp) (M0 : MS) (H0 : Hp) (G : Hp) (M : MS) (z : Str) (ds : List D) (r : R),
  Step K G0 M0 H0 G M H ∧ x = .str z ∧ DvAll K G xs ds ∧ mtD m (.str z) (ds.map (view M)) = some r ∧ PostV K G0 M0 H0 Q r M
def mtN : MT → String
  | .split => "str.split"
  | .join => "str.join"
theorem mt_ok (m : MT) : MtR X (mtN m) (rM X.K m) := by
  intro pins s σ H x xs v us Q I rx rs h
  obtain ⟨G0, M0, H0, G, M, z, ds, r, st, rfl, t, e, q⟩ := h
  unfold mtD at e
  split at e
  · rename_i a b ha he
    cases ha
    obtain ⟨y, rfl, hy⟩ := one_of st.ok t he
    cases hy
    split at e
    · rename_i hz
      cases e
      refine mt_split pins s σ H _ _ v us Q I rx rs ⟨_, _, rfl, rfl, ?_, hz.2, fun p hp => ans_new q st hp (strs_all _)⟩
      simpa using hz.1
    · cases e
  · rename_i a ys ha he
    cases ha
    obtain ⟨y, rfl, hy⟩ := one_of st.ok t he
    cases hy with
    | lst h t2 =>
      split at e
      · rename_i zs e2
        split at e
        · rename_i hz
          cases e
          have ev := strs_of t2 e2
          subst ev
          exact mt_join pins s σ H _ _ v us Q I rx rs ⟨_, _, zs, rfl, rfl, .inl (SqL.of h), hz, ans_val q st (.str _)⟩
        · cases e
      · cases e
  · cases e
end
end DL
set_option maxRecDepth 100000
set_option maxHeartbeats 2000000
namespace DL
open PySem L2
/-! ### the judgements: a piece of syntax, its small form -/
def XRel (K : PySem.W.Frag) (G : Hp) (x : Xn) (cv : Value) (dA : Option Addr) : Prop := PySem.W.nsIn K mainGlobals x.cls = some (some cv) ∧ match x.fs with
  | none => dA = none
  | some fs => ∃ a vs, dA = some a ∧ G a = some (.xd (List.zip (fs.map (·.1)) vs)) ∧ DvAll K G vs (fs.map (·.2))
def PostX (K : PySem.W.Frag) (G : Hp) (M : MS) (H : Hp) (W : WX) (σ : L2.St) : KX := fun x M' => ∀ cv dA G' H', Step K G M H G' M' H' → XRel K G' x cv dA → W cv dA σ H'
section
variable (Φ : Fns) (γ : List D) (X : Cx) (W : WX)
def SE (e : Expr) (ir : E) : Prop := ∃ te, PE X e te ∧ ∀ (σ : L2.St) (δ : DEnv) (G : Hp) (M : MS) (H : Hp) (Q : VK) (Qd : KR) (Zd : KX), OkS X.K G M H → ER X.K G σ δ →
  (∀ r M', Qd r M' → PostV X.K G M H Q r M') → (∀ x M', Zd x M' → PostX X.K G M H W σ x M') → evalE Φ γ ir δ M Qd Zd → te σ H Q
def SA (es : List Expr) (ir : Es) : Prop := ∃ ta, PA X es ta ∧ ∀ (σ : L2.St) (δ : DEnv) (G : Hp) (M : MS) (H : Hp) (Q : List V → Hp → Prop) (Qd : List D → MS → Prop) (Zd : KX), OkS X.K G M H → ER X.K G σ δ →
  (∀ ds M', Qd ds M' → ∀ vs G' H', Step X.K G M H G' M' H' → DvAll X.K G' vs ds → Q vs H') → (∀ x M', Zd x M' → PostX X.K G M H W σ x M') → evalEs Φ γ ir δ M Qd Zd → ta σ H Q
def ST (e : Expr) (ir : T) : Prop := ∃ tt, PT X e tt ∧ ∀ (σ : L2.St) (δ : DEnv) (G : Hp) (M : MS) (H : Hp) (Q : Bool → Hp → Prop) (Qd : Bool → MS → Prop) (Zd : KX), OkS X.K G M H → ER X.K G σ δ →
  (∀ b M', Qd b M' → ∀ G' H', Step X.K G M H G' M' H' → Q b H') → (∀ x M', Zd x M' → PostX X.K G M H W σ x M') → evalT Φ γ ir δ M Qd Zd → tt σ H Q
def SO (e : Option Expr) (ir : O) : Prop := ∃ to, PO X e to ∧ ∀ (σ : L2.St) (δ : DEnv) (G : Hp) (M : MS) (H : Hp) (Q : Option Int → Hp → Prop) (Qd : Option Int → MS → Prop) (Zd : KX), OkS X.K G M H → ER X.K G σ δ →
  (∀ o M', Qd o M' → ∀ G' H', Step X.K G M H G' M' H' → Q o H') → (∀ x M', Zd x M' → PostX X.K G M H W σ x M') → evalO Φ γ ir δ M Qd Zd → to σ H Q
end
section
variable {Φ : Fns} {γ : List D} {X : Cx} {W : WX} {σ : L2.St} {δ : DEnv} {G G1 : Hp} {M M1 : MS} {H H1 : Hp}
theorem px_after {K : PySem.W.Frag} {Zd : KX} (s : Step K G M H G1 M1 H1) (hz : ∀ x M', Zd x M' → PostX K G M H W σ x M') : ∀ x M', Zd x M' → PostX K G1 M1 H1 W σ x M' :=
  fun x M' z cv dA G' H' st xr => hz x M' z cv dA G' H' (s.trans st) xr
/-- a part of an expression is run; what it gives is taken as data -/
theorem run_e {te : TE} {ir : E} {Q : VK} {Qd : KR} {Zd : KX}
    (hr : ∀ (σ : L2.St) (δ : DEnv) (G : Hp) (M : MS) (H : Hp) (Q : VK) (Qd : KR) (Zd : KX), OkS X.K G M H → ER X.K G σ δ → (∀ r M', Qd r M' → PostV X.K G M H Q r M') → (∀ x M', Zd x M' → PostX X.K G M H W σ x M') → evalE Φ γ ir δ M Qd Zd → te σ H Q)
    (ok : OkS X.K G M H) (er : ER X.K G σ δ) (hz : ∀ x M', Zd x M' → PostX X.K G M H W σ x M') (h : evalE Φ γ ir δ M Qd Zd)
    (k : ∀ r M1 v G1 H1, Qd r M1 → Step X.K G M H G1 M1 H1 → Dv X.K G1 v r.toD → Q v H1) : te σ H Q :=
  hr σ δ G M H Q Qd Zd ok er (fun r M' q v G' H' s rv => by
    obtain ⟨G2, s2, dv⟩ := rv.adopt s
    exact k r M' v G2 H' q s2 dv) hz h
variable {a b c : Expr} {ia ib ic : E} {pos : Pos}
theorem se_var {i : Nat} {x : Str} (hN : X.N[i]? = some x) (hv : Vis X.env.scope x) (hd : (x == ("__debug__" : Str)) = false) (hcd : (x == ("__classdict__" : Str)) = false) : SE Φ γ X W (.Name x pos) (.var i) := by
  refine ⟨_, pe_var hN hv hd hcd, fun σ δ G M H Q Qd Zd ok er hq hz h => ?_⟩
  unfold evalE at h
  obtain ⟨d, h1, h2⟩ := h
  obtain ⟨v, h3, h4⟩ := er.at_ i d h1
  exact ⟨v, h3, hq _ _ h2 v G H (Step.refl ok) h4⟩
theorem se_int {i j} : SE Φ γ X W (.Constant (.int i) j pos) (.cst (.int i)) :=
  ⟨_, pe_int, fun σ δ G M H Q Qd Zd ok er hq hz h => by unfold evalE at h; exact hq _ _ h _ G H (Step.refl ok) (.int i)⟩
theorem se_str {x j} : SE Φ γ X W (.Constant (.str x) j pos) (.cst (.str x)) :=
  ⟨_, pe_str, fun σ δ G M H Q Qd Zd ok er hq hz h => by unfold evalE at h; exact hq _ _ h _ G H (Step.refl ok) (.str x)⟩
theorem se_bl {b j} : SE Φ γ X W (.Constant (.bool b) j pos) (.cst (.bl b)) :=
  ⟨_, pe_bl, fun σ δ G M H Q Qd Zd ok er hq hz h => by unfold evalE at h; exact hq _ _ h _ G H (Step.refl ok) (.bl b)⟩
theorem se_non {j} : SE Φ γ X W (.Constant .none j pos) (.cst .non) :=
  ⟨_, pe_non, fun σ δ G M H Q Qd Zd ok er hq hz h => by unfold evalE at h; exact hq _ _ h _ G H (Step.refl ok) .non⟩
theorem se_gl {i : Nat} {x : Str} {v : V} {u : Value} {d : D} (hg : Gl X x) (hm : X.mg x = some u) (r : RelV v u) (hi : γ[i]? = some d) (hv : ∀ G, Dv X.K G v d) (hd : (x == ("__debug__" : Str)) = false) : SE Φ γ X W (.Name x pos) (.gl i) := by
  refine ⟨_, pe_glob hg hm r hd, fun σ δ G M H Q Qd Zd ok er hq hz h => ?_⟩
  unfold evalE at h
  obtain ⟨d', h1, h2⟩ := h
  rw [hi] at h1
  cases h1
  exact hq _ _ h2 v G H (Step.refl ok) (hv G)
theorem se_glc {x : Str} {v : V} {u : Value} {d : D} (hg : Gl X x) (hm : X.mg x = some u) (r : RelV v u) (hv : ∀ G, Dv X.K G v d) (hd : (x == ("__debug__" : Str)) = false) : SE Φ γ X W (.Name x pos) (.cst d) := by
  refine ⟨_, pe_glob hg hm r hd, fun σ δ G M H Q Qd Zd ok er hq hz h => ?_⟩
  unfold evalE at h
  exact hq _ _ h v G H (Step.refl ok) (hv G)
theorem sa_nil : SA Φ γ X W [] .nil :=
  ⟨_, pa_nil, fun σ δ G M H Q Qd Zd ok er hq hz h => by unfold evalEs at h; exact hq _ _ h [] G H (Step.refl ok) .nil⟩
theorem sa_cons {es : List Expr} {ies : Es} (ha : SE Φ γ X W a ia) (hs : SA Φ γ X W es ies) (hst : starEach (a :: es) X.env = (false, eval a X.env) :: starEach es X.env) : SA Φ γ X W (a :: es) (.cons ia ies) := by
  obtain ⟨te, pe, re⟩ := ha
  obtain ⟨ta, pa, ra⟩ := hs
  refine ⟨_, pa_cons pe pa hst, fun σ δ G M H Q Qd Zd ok er hq hz h => ?_⟩
  unfold evalEs at h
  refine run_e re ok er hz h fun r M1 v G1 H1 q s1 dv => ?_
  refine ra σ δ G1 M1 H1 _ _ Zd s1.ok (er.mono s1.sub) (fun ds M2 q2 vs G2 H2 s2 t => ?_) (px_after s1 hz) q
  exact hq _ _ q2 _ G2 H2 (s1.trans s2) (.cons (dv.mono s2.sub) t)
theorem se_tup {es : List Expr} {ies : Es} {k : Nat} (hs : SA Φ γ X W es ies) : SE Φ γ X W (.Tuple es k pos) (.tup ies) := by
  obtain ⟨ta, pa, ra⟩ := hs
  refine ⟨_, pe_tup pa, fun σ δ G M H Q Qd Zd ok er hq hz h => ?_⟩
  unfold evalE at h
  refine ra σ δ G M H _ _ Zd ok er (fun ds M2 q2 vs G2 H2 s2 t => ?_) hz h
  exact ⟨by rw [t.length]; exact q2.1, fun p hp => ans_tup (hq _ _ q2.2) s2 hp t⟩
theorem se_lst {es : List Expr} {ies : Es} (hs : SA Φ γ X W es ies) : SE Φ γ X W (.List es pos) (.lst ies) := by
  obtain ⟨ta, pa, ra⟩ := hs
  refine ⟨_, pe_lst pa, fun σ δ G M H Q Qd Zd ok er hq hz h => ?_⟩
  unfold evalE at h
  refine ra σ δ G M H _ _ Zd ok er (fun ds M2 q2 vs G2 H2 s2 t => ?_) hz h
  exact ⟨by rw [t.length]; exact q2.1, fun p hp => ans_new (hq _ _ q2.2) s2 hp t⟩
theorem se_bin {o : Operator} (ha : SE Φ γ X W a ia) (hb : SE Φ γ X W b ib) : SE Φ γ X W (.BinOp a o b pos) (.bin o ia ib) := by
  obtain ⟨ta, pa, ra⟩ := ha
  obtain ⟨tb, pb, rb⟩ := hb
  refine ⟨_, pe_op (op2_ok o) pa pb, fun σ δ G M H Q Qd Zd ok er hq hz h => ?_⟩
  unfold evalE at h
  show ta σ H _
  refine run_e ra ok er hz h fun r M1 v G1 H1 q s1 dv => ?_
  show tb σ H1 _
  refine run_e rb s1.ok (er.mono s1.sub) (px_after s1 hz) q fun r2 M2 v2 G2 H2 q2 s2 dv2 => ?_
  obtain ⟨r3, e, q3⟩ := q2
  exact ⟨G, M, H, G2, M2, _, _, r3, s1.trans s2, (dv.mono s2.sub).vw s2.ok, dv2.vw s2.ok, e, hq _ _ q3⟩
theorem se_neg (ha : SE Φ γ X W a ia) : SE Φ γ X W (.UnaryOp .USub a pos) (.neg ia) := by
  obtain ⟨ta, pa, ra⟩ := ha
  refine ⟨_, pe_un un_neg pa, fun σ δ G M H Q Qd Zd ok er hq hz h => ?_⟩
  unfold evalE at h
  show ta σ H _
  refine run_e ra ok er hz h fun r M1 v G1 H1 q s1 dv => ?_
  obtain ⟨i, e, q⟩ := q
  rw [e] at dv
  cases dv
  exact ⟨i, rfl, hq _ _ q _ G1 H1 s1 (.int _)⟩
theorem se_cmp {o : CmpOp} (hu : X.A.units + 64 < cLine) (ha : SE Φ γ X W a ia) (hb : SE Φ γ X W b ib) (hm : behindInMarks o b = false) : SE Φ γ X W (.Compare a [o] [b] pos) (.cmp o ia ib) := by
  obtain ⟨ta, pa, ra⟩ := ha
  obtain ⟨tb, pb, rb⟩ := hb
  refine ⟨_, pe_cmpR (cmp2_ok hu o) pa pb hm, fun σ δ G M H Q Qd Zd ok er hq hz h => ?_⟩
  unfold evalE at h
  show ta σ H _
  refine run_e ra ok er hz h fun r M1 v G1 H1 q s1 dv => ?_
  show tb σ H1 _
  refine run_e rb s1.ok (er.mono s1.sub) (px_after s1 hz) q fun r2 M2 v2 G2 H2 q2 s2 dv2 => ?_
  obtain ⟨k, e, q3⟩ := q2
  exact ⟨G, M, H, G2, M2, _, _, _, s1.trans s2, (dv.mono s2.sub).vw s2.ok, dv2.vw s2.ok, by unfold cmpR; rw [e]; rfl, hq _ _ q3⟩
theorem se_chain {o o' : CmpOp} (hu : X.A.units + 64 < cLine) (ha : SE Φ γ X W a ia) (hb : SE Φ γ X W b ib) (hc : SE Φ γ X W c ic) (hm : lastMarks [o, o'] [b, c] = false) :
    SE Φ γ X W (.Compare a [o, o'] [b, c] pos) (.chain o o' ia ib ic) := by
  obtain ⟨ta, pa, ra⟩ := ha
  obtain ⟨tb, pb, rb⟩ := hb
  obtain ⟨tc, pc, rc⟩ := hc
  refine ⟨_, pe_chain (cmp2_ok hu o) (cmp2_ok hu o') pa pb pc hm, fun σ δ G M H Q Qd Zd ok er hq hz h => ?_⟩
  unfold evalE at h
  show ta σ H _
  refine run_e ra ok er hz h fun r M1 v G1 H1 q s1 dv => ?_
  show tb σ H1 _
  refine run_e rb s1.ok (er.mono s1.sub) (px_after s1 hz) q fun r2 M2 v2 G2 H2 q2 s2 dv2 => ?_
  obtain ⟨k, e, q3⟩ := q2
  have s12 := s1.trans s2
  refine ⟨G2, M2, H2, G2, M2, _, _, .val (.bl k), Step.refl s2.ok, (dv.mono s2.sub).vw s2.ok, dv2.vw s2.ok, by unfold cmpR; rw [e]; rfl, fun w G3 H3 s3 rv => ?_⟩
  have rv' : Dv X.K G3 w (.bl k) := rv
  cases rv'
  refine ⟨k, rfl, ?_⟩
  have s13 := s12.trans s3
  cases k with
  | true =>
    simp only [if_true] at q3 ⊢
    show tc σ H3 _
    refine run_e rc s3.ok (er.mono s13.sub) (px_after s13 hz) q3 fun r4 M4 v4 G4 H4 q4 s4 dv4 => ?_
    obtain ⟨k', e', q4⟩ := q4
    exact ⟨G, M, H, G4, M4, _, _, _, s13.trans s4, (dv2.mono (s3.sub.trans s4.sub)).vw s4.ok, dv4.vw s4.ok, by unfold cmpR; rw [e']; rfl, hq _ _ q4⟩
  | false =>
    simp only [Bool.false_eq_true, if_false] at q3 ⊢
    exact hq _ _ q3 _ G3 H3 s13 (.bl false)
theorem se_not (ha : SE Φ γ X W a ia) : SE Φ γ X W (.UnaryOp .Not a pos) (.not ia) := by
  obtain ⟨ta, pa, ra⟩ := ha
  refine ⟨_, pe_notT pa, fun σ δ G M H Q Qd Zd ok er hq hz h => ?_⟩
  unfold evalE at h
  show ta σ H _
  refine run_e ra ok er hz h fun r M1 v G1 H1 q s1 dv => ?_
  obtain ⟨k, e, q⟩ := q
  exact ⟨k, truth_ok s1.ok (dv.vw s1.ok) e, hq _ _ q _ G1 H1 s1 (.bl _)⟩
theorem se_and {rest : List Expr} (ha : SE Φ γ X W a ia) (hb : SE Φ γ X W (.BoolOp .And (b :: rest) pos) ib) : SE Φ γ X W (.BoolOp .And (a :: b :: rest) pos) (.and ia ib) := by
  obtain ⟨ta, pa, ra⟩ := ha
  obtain ⟨tb, pb, rb⟩ := hb
  refine ⟨_, pe_andT pa pb, fun σ δ G M H Q Qd Zd ok er hq hz h => ?_⟩
  unfold evalE at h
  show ta σ H _
  refine run_e ra ok er hz h fun r M1 v G1 H1 q s1 dv => ?_
  obtain ⟨k, e, q⟩ := q
  refine ⟨k, truth_ok s1.ok (dv.vw s1.ok) e, ?_⟩
  cases k with
  | true =>
    simp only [if_true] at q ⊢
    exact rb σ δ G1 M1 H1 Q Qd Zd s1.ok (er.mono s1.sub) (fun r2 M2 q2 v2 G2 H2 s2 rv2 => hq _ _ q2 v2 G2 H2 (s1.trans s2) (by
      cases r2 with
      | val d => exact rv2
      | new ds => obtain ⟨p, vs, e1, e2, e3⟩ := rv2; exact ⟨p, vs, e1, s1.dom _ e2, e3⟩
      | nst ds => obtain ⟨p, vs, e1, e2, e3⟩ := rv2; exact ⟨p, vs, e1, s1.dom _ e2, e3⟩)) (px_after s1 hz) q
  | false =>
    simp only [Bool.false_eq_true, if_false] at q ⊢
    exact hq _ _ q v G1 H1 s1 dv
theorem se_or {rest : List Expr} (ha : SE Φ γ X W a ia) (hb : SE Φ γ X W (.BoolOp .Or (b :: rest) pos) ib) : SE Φ γ X W (.BoolOp .Or (a :: b :: rest) pos) (.or ia ib) := by
  obtain ⟨ta, pa, ra⟩ := ha
  obtain ⟨tb, pb, rb⟩ := hb
  refine ⟨_, pe_orT pa pb, fun σ δ G M H Q Qd Zd ok er hq hz h => ?_⟩
  unfold evalE at h
  show ta σ H _
  refine run_e ra ok er hz h fun r M1 v G1 H1 q s1 dv => ?_
  obtain ⟨k, e, q⟩ := q
  refine ⟨k, truth_ok s1.ok (dv.vw s1.ok) e, ?_⟩
  cases k with
  | false =>
    simp only [Bool.false_eq_true, if_false] at q ⊢
    exact rb σ δ G1 M1 H1 Q Qd Zd s1.ok (er.mono s1.sub) (fun r2 M2 q2 v2 G2 H2 s2 rv2 => hq _ _ q2 v2 G2 H2 (s1.trans s2) (by
      cases r2 with
      | val d => exact rv2
      | new ds => obtain ⟨p, vs, e1, e2, e3⟩ := rv2; exact ⟨p, vs, e1, s1.dom _ e2, e3⟩
      | nst ds => obtain ⟨p, vs, e1, e2, e3⟩ := rv2; exact ⟨p, vs, e1, s1.dom _ e2, e3⟩)) (px_after s1 hz) q
  | true =>
    simp only [if_true] at q ⊢
    exact hq _ _ q v G1 H1 s1 dv
theorem se_one {o : BoolOp} (ha : SE Φ γ X W a ia) : SE Φ γ X W (.BoolOp o [a] pos) ia := by
  obtain ⟨ta, pa, ra⟩ := ha
  exact ⟨_, pe_one pa, ra⟩
theorem Rv.back {K : PySem.W.Frag} {H0 : Hp} {v : V} {r : R} {G2 : Hp} {M2 : MS} {H2 : Hp} (s : Step K G M H0 G1 M1 H1) (h : Rv K H1 G2 M2 H2 v r) : Rv K H0 G2 M2 H2 v r := by
  cases r with
  | val d => exact h
  | new ds => obtain ⟨p, vs, e1, e2, e3⟩ := h; exact ⟨p, vs, e1, s.dom _ e2, e3⟩
  | nst ds => obtain ⟨p, vs, e1, e2, e3⟩ := h; exact ⟨p, vs, e1, s.dom _ e2, e3⟩
/-- what comes behind a part that was run -/
theorem pv_after {K : PySem.W.Frag} {Q : VK} {Qd : KR} (s : Step K G M H G1 M1 H1) (hq : ∀ r M', Qd r M' → PostV K G M H Q r M') : ∀ r M', Qd r M' → PostV K G1 M1 H1 Q r M' :=
  fun r M' q v G' H' st rv => hq r M' q v G' H' (s.trans st) (rv.back s)
theorem se_ife {t : T} (ht : ST Φ γ X W c t) (ha : SE Φ γ X W a ia) (hb : SE Φ γ X W b ib) : SE Φ γ X W (.IfExp c a b pos) (.ife t ia ib) := by
  obtain ⟨tt, pt, rt⟩ := ht
  obtain ⟨ta, pa, ra⟩ := ha
  obtain ⟨tb, pb, rb⟩ := hb
  refine ⟨_, pe_ifExp pt pa pb, fun σ δ G M H Q Qd Zd ok er hq hz h => ?_⟩
  unfold evalE at h
  refine rt σ δ G M H _ _ Zd ok er (fun k M1 q G1 H1 s1 => ?_) hz h
  cases k with
  | true =>
    simp only [if_true] at q ⊢
    exact ra σ δ G1 M1 H1 Q Qd Zd s1.ok (er.mono s1.sub) (pv_after s1 hq) (px_after s1 hz) q
  | false =>
    simp only [Bool.false_eq_true, if_false] at q ⊢
    exact rb σ δ G1 M1 H1 Q Qd Zd s1.ok (er.mono s1.sub) (pv_after s1 hq) (px_after s1 hz) q
theorem se_idx (hu : X.A.units + 64 < cLine) (ha : SE Φ γ X W a ia) (hb : SE Φ γ X W b ib) (hs : PlainIx b) : SE Φ γ X W (.Subscript a b pos) (.idx ia ib) := by
  obtain ⟨ta, pa, ra⟩ := ha
  obtain ⟨tb, pb, rb⟩ := hb
  refine ⟨_, pe_ix (idx_ok hu) pa pb hs, fun σ δ G M H Q Qd Zd ok er hq hz h => ?_⟩
  unfold evalE at h
  show ta σ H _
  refine run_e ra ok er hz h fun r M1 v G1 H1 q s1 dv => ?_
  show tb σ H1 _
  refine run_e rb s1.ok (er.mono s1.sub) (px_after s1 hz) q fun r2 M2 v2 G2 H2 q2 s2 dv2 => ?_
  obtain ⟨d, e, q3⟩ := q2
  have ei : view M2 r2.toD = r2.toD := by
    cases e2 : r2.toD with
    | obj p => rw [e2] at e; unfold idxD at e; split at e <;> simp_all
    | _ => rfl
  exact ⟨G, M, H, G2, M2, _, _, _, s1.trans s2, (dv.mono s2.sub).vw s2.ok, dv2.vw s2.ok, by unfold idxR; rw [ei, e]; rfl, hq _ _ q3⟩
theorem se_own (ha : SE Φ γ X W a ia) : SE Φ γ X W a (.own ia) := by
  obtain ⟨ta, pa, ra⟩ := ha
  refine ⟨_, pa, fun σ δ G M H Q Qd Zd ok er hq hz h => ?_⟩
  unfold evalE at h
  refine ra σ δ G M H Q _ Zd ok er (fun r M' q v G' H' s rv => ?_) hz h
  obtain ⟨ds, rfl, q⟩ := q
  obtain ⟨p, vs, rfl, e0, e1, eg, em, t⟩ := rv
  have hn : M p = none := ok.noM e0
  refine hq _ _ (q p em) _ G' H' ⟨⟨s.ok.sub, fun a mo e => ?_, fun a mo e => ?_⟩, s.sub, s.keep, fun a mo hm e => ?_, s.dom, s.newG⟩ (.obj p)
  · by_cases ha : a = p
    · rw [ha]; exact eg
    · rw [updM_ne ha] at e; exact s.ok.dis a mo e
  · by_cases ha : a = p
    · subst ha; rw [updM_same] at e; cases e; exact ⟨vs, e1, t⟩
    · rw [updM_ne ha] at e; exact s.ok.mok a mo e
  · by_cases ha : a = p
    · rw [ha]; exact e0
    · rw [updM_ne ha] at e; exact s.newM a mo hm e
/-- a list of lists that are changed, handed on as such -/
theorem se_nst (ha : SE Φ γ X W a ia) : SE Φ γ X W a (.nst ia) := by
  obtain ⟨ta, pa, ra⟩ := ha
  refine ⟨_, pa, fun σ δ G M H Q Qd Zd ok er hq hz h => ?_⟩
  unfold evalE at h
  refine ra σ δ G M H Q _ Zd ok er (fun r M' q v G' H' s rv => ?_) hz h
  obtain ⟨ds, rfl, q⟩ := q
  exact hq _ _ q v G' H' s rv
theorem se_unn (ha : SE Φ γ X W a ia) : SE Φ γ X W a (.unn ia) := by
  obtain ⟨ta, pa, ra⟩ := ha
  refine ⟨_, pa, fun σ δ G M H Q Qd Zd ok er hq hz h => ?_⟩
  unfold evalE at h
  refine ra σ δ G M H Q _ Zd ok er (fun r M' q v G' H' s rv => ?_) hz h
  obtain ⟨ds, rfl, q⟩ := q
  exact hq _ _ q v G' H' s rv
/-- a list that is changed no more is taken as data -/
theorem se_frz (ha : SE Φ γ X W a ia) : SE Φ γ X W a (.frz ia) := by
  obtain ⟨ta, pa, ra⟩ := ha
  refine ⟨_, pa, fun σ δ G M H Q Qd Zd ok er hq hz h => ?_⟩
  unfold evalE at h
  show ta σ H _
  refine run_e ra ok er hz h fun r M1 v G1 H1 q s1 dv => ?_
  obtain ⟨p, ds, e, hm, q⟩ := q
  rw [e] at dv
  cases dv
  obtain ⟨vs, hv, t⟩ := s1.ok.mok p _ hm
  have hg := s1.ok.dis p _ hm
  have eg : Sub G1 (upd G1 p (.lst vs)) := sub_upd hg
  refine hq _ _ q _ (upd G1 p (.lst vs)) H1 ⟨⟨upd_sub s1.ok.sub hv, fun a mo e => ?_, fun a mo e => ?_⟩, s1.sub.trans eg, s1.keep, fun a mo hma e => ?_, s1.dom, fun a o hga e hma => ?_⟩ (.lst upd_same (t.mono eg))
  · by_cases ha : a = p
    · subst ha; rw [dropM_same] at e; cases e
    · rw [dropM_ne ha] at e; rw [upd_ne ha]; exact s1.ok.dis a mo e
  · by_cases ha : a = p
    · subst ha; rw [dropM_same] at e; cases e
    · rw [dropM_ne ha] at e; exact (s1.ok.mok a mo e).mono eg
  · by_cases ha : a = p
    · subst ha; rw [dropM_same] at e; cases e
    · rw [dropM_ne ha] at e; exact s1.newM a mo hma e
  · by_cases ha : a = p
    · subst ha; exact s1.newM a _ hma hm
    · rw [upd_ne ha] at e; exact s1.newG a o hga e hma
theorem so_none : SO Φ γ X W none .none :=
  ⟨_, po_none, fun σ δ G M H Q Qd Zd ok er hq hz h => by unfold evalO at h; exact hq _ _ h G H (Step.refl ok)⟩
theorem so_some (ha : SE Φ γ X W a ia) : SO Φ γ X W (some a) (.some ia) := by
  obtain ⟨ta, pa, ra⟩ := ha
  refine ⟨_, po_some pa, fun σ δ G M H Q Qd Zd ok er hq hz h => ?_⟩
  unfold evalO at h
  show ta σ H _
  refine run_e ra ok er hz h fun r M1 v G1 H1 q s1 dv => ?_
  obtain ⟨i, e, q⟩ := q
  rw [e] at dv
  cases dv
  exact ⟨i, rfl, hq _ _ q G1 H1 s1⟩
theorem se_slc {lo hi : Option Expr} {il ih : O} {p2 : Pos} (ha : SE Φ γ X W a ia) (hl : SO Φ γ X W lo il) (hh : SO Φ γ X W hi ih) : SE Φ γ X W (.Subscript a (.Slice lo hi none p2) pos) (.slc ia il ih) := by
  obtain ⟨ta, pa, ra⟩ := ha
  obtain ⟨tl, pl, rl⟩ := hl
  obtain ⟨th, ph, rh⟩ := hh
  refine ⟨_, pe_slice slc_ok pa pl ph, fun σ δ G M H Q Qd Zd ok er hq hz h => ?_⟩
  unfold evalE at h
  show ta σ H _
  refine run_e ra ok er hz h fun r M1 v G1 H1 q s1 dv => ?_
  refine rl σ δ G1 M1 H1 _ _ Zd s1.ok (er.mono s1.sub) (fun l M2 q2 G2 H2 s2 => ?_) (px_after s1 hz) q
  have s12 := s1.trans s2
  refine rh σ δ G2 M2 H2 _ _ Zd s2.ok (er.mono s12.sub) (fun hh M3 q3 G3 H3 s3 => ?_) (px_after s12 hz) q2
  obtain ⟨r3, e, q3⟩ := q3
  exact ⟨G, M, H, G3, M3, _, r3, s12.trans s3, (dv.mono (s2.sub.trans s3.sub)).vw s3.ok, e, hq _ _ q3⟩
end
end DL
set_option maxRecDepth 100000
set_option maxHeartbeats 2000000
namespace DL
open PySem L2
/-! ### calls -/
/-- room for k calls; nothing is being written (repr) around -/
structure Rm (k : Nat) (A : Around) : Prop where
  room : Room k A
  gd : A.guards = some []
theorem Rm.mono {j k : Nat} {A : Around} (r : Rm k A) (h : j ≤ k) : Rm j A := ⟨r.room.mono h, r.gd⟩
theorem Rm.deeper {k : Nat} {A : Around} (r : Rm (k + 1) A) (env : Env) : Rm k (A.deeper env) := ⟨r.room.deeper env, r.gd⟩
/-- a def keeps its promise, called where nothing is being written -/
structure FnG (P : Program) (w : World) (K : PySem.W.Frag) (mg : Str → Option Value) (base : Heap) (k : Nat) (f : Addr) (fd : FuncData) (ps : List Str) (sp : Sp) : Prop where
  len : ∀ vs H Q E, sp vs H Q E → vs.length = ps.length
  run : ∀ (A : Around) (outer : List Env) (s : Shared) (H : Hp) (args : Args) (us : List Value) (vs : List V) (Q : VK) (E : XK), Rm k A → Env0 P w K mg base A outer s H → BindsTo s fd args (ps.zip us) → Vals vs us → sp vs H Q E →
    codeAny (model P w) A (.call (.ref f) args) (CR (L2.CX P w) outer P w H s Q E) s
theorem FnG.mono {P : Program} {w : World} {K : PySem.W.Frag} {mg : Str → Option Value} {base : Heap} {j k : Nat} {f : Addr} {fd : FuncData} {ps : List Str} {sp : Sp} (F : FnG P w K mg base j f fd ps sp) (h : j ≤ k) : FnG P w K mg base k f fd ps sp :=
  ⟨F.len, fun A outer s H args us vs Q E hr => F.run A outer s H args us vs Q E (hr.mono h)⟩
theorem FnG.of {P : Program} {w : World} {K : PySem.W.Frag} {mg : Str → Option Value} {base : Heap} {k : Nat} {f : Addr} {fd : FuncData} {ps : List Str} {sp : Sp} (F : FnOk P w K mg base (L2.CX P w) k f fd ps sp) : FnG P w K mg base k f fd ps sp :=
  ⟨F.len, fun A outer s H args us vs Q E hr => F.run A outer s H args us vs Q E hr.room⟩
def PostXF (K : PySem.W.Frag) (G : Hp) (M : MS) (H : Hp) (E : XK) : KX := fun x M' => ∀ cv dA G' H', Step K G M H G' M' H' → XRel K G' x cv dA → E cv dA H'
/-- the promise «it does what φ tells» -/
def spD (K : PySem.W.Frag) (φ : List D → MS → KR → KX → Prop) : Sp := fun vs H Q E => ∃ (G : Hp) (M : MS) (ds : List D) (Qd : KR) (Zd : KX), OkS K G M H ∧ DvAll K G vs ds ∧
  (∀ r M', Qd r M' → PostV K G M H Q r M') ∧ (∀ x M', Zd x M' → PostXF K G M H E x M') ∧ φ ds M Qd Zd
section
variable {X : Cx} {W : WX} {k : Nat} {f : Addr} {fd : FuncData} {ps : List Str} {sp : Sp}
/-- the last parameters' values where they are not given -/
def DflOk (K : PySem.W.Frag) (fd : FuncData) (ps : List Str) (dfs : List D) : Prop := ∀ j, j ≤ dfs.length → ∃ (dvs : List V) (dus : List Value), Vals dvs dus ∧ (∀ G, DvAll K G dvs (dfs.drop j)) ∧ Binds K fd ps dus
theorem DflOk.nil {K : PySem.W.Frag} {fd : FuncData} {ps : List Str} (h : Binds K fd ps []) : DflOk K fd ps [] := fun j _ => ⟨[], [], .nil, fun G => by rw [List.drop_nil]; exact .nil, h⟩
theorem run_g {pins : List (Addr × Obj)} {σ : L2.St} {H : Hp} {s : Shared} {Q : VK} {us dus : List Value} {vs dvs : List V} (F : FnG X.prog X.w X.K X.mg X.base k f fd ps sp) (hr : Rm k X.A) (hb : Binds X.K fd ps dus) (hd : Vals dvs dus) (tk : Takes X W)
    (I : Inv X pins σ H s) (r : Vals vs us) (h : sp (vs ++ dvs) H Q fun cls d H' => W cls d σ H') : wpAny (model X.prog X.w) X.A (call (.ref f) us) (EP X pins σ Q) X.xe s := by
  have r2 := r.append hd
  have hl : (us ++ dus).length = ps.length := r2.length.symm.trans (F.len _ _ _ _ h)
  have bd : BindsTo s fd ⟨us, []⟩ (ps.zip (us ++ dus)) := hb s us I.kIn hl
  refine wpAny_call (codeAny_mono (F.run X.A X.stack s H ⟨us, []⟩ (us ++ dus) (vs ++ dvs) Q _ hr I.env0 bd r2 h) fun res s' hq => ?_)
  match res, hq with
  | .error e, hq => exact tk e s' (XE.of_call I (fun _ _ _ z => z) hq)
  | .ok (.ret u), hq => exact I.after hq
  | .ok .next, hq => exact hq.elim
  | .ok .brk, hq => exact hq.elim
  | .ok .cont, hq => exact hq.elim
def tCallG (sp : Sp) (dvs : List V) (W : WX) (t : TA) : TE := fun σ H Q => t σ H fun vs H1 => sp (vs ++ dvs) H1 Q fun cls d H' => W cls d σ H'
theorem pe_callG {x : Str} {p pos : Pos} {e : Expr} {es : List Expr} {t : TA} {dus : List Value} {dvs : List V} (F : FnG X.prog X.w X.K X.mg X.base k f fd ps sp) (hr : Rm k X.A) (hb : Binds X.K fd ps dus) (hd : Vals dvs dus) (tk : Takes X W)
    (hg : Gl X x) (hm : X.mg x = some (.ref f)) (hk : PySem.W.keepIn X.K (.ref f) = true) (ha : PA X (e :: es) t) (hdb : (x == ("__debug__" : Str)) = false)
    (hst : starEach (e :: es) X.env = (false, eval e X.env) :: starEach es X.env) (hpl : (backTo pos (starEach es X.env)).any (·.1) = false) : PE X (.Call (.Name x p) (e :: es) [] pos) (tCallG sp dvs W t) := by
  refine ⟨fun pins s σ H Q I h => wpAny_Call_Name_kw (ld_glob I hg hm ?_ hdb)⟩
  have go := ha.run pos pins s σ H _ I h
  refine PySem.W.callWith_K (h₀ := X.base) I.ok.mod.kin hk (thn go ?_) hst hpl
  rintro us s1 ⟨vs, H1, I1, r, q⟩
  exact ⟨I1.kIn, run_g F hr hb hd tk I1 r q⟩
theorem pe_callG0 {x : Str} {p pos : Pos} {dus : List Value} {dvs : List V} (F : FnG X.prog X.w X.K X.mg X.base k f fd ps sp) (hr : Rm k X.A) (hb : Binds X.K fd ps dus) (hd : Vals dvs dus) (tk : Takes X W)
    (hg : Gl X x) (hm : X.mg x = some (.ref f)) (hk : PySem.W.keepIn X.K (.ref f) = true) (hdb : (x == ("__debug__" : Str)) = false) : PE X (.Call (.Name x p) [] [] pos) (tCallG sp dvs W tNil) := by
  refine ⟨fun pins s σ H Q I h => wpAny_Call_Name_kw (ld_glob I hg hm ?_ hdb)⟩
  exact PySem.W.callWith_K0 I.kIn hk (run_g (us := []) F hr hb hd tk I .nil h)
end
section
variable {Φ : Fns} {γ : List D} {X : Cx} {W : WX}
theorem esApp_eval : ∀ (a b : Es) (δ : DEnv) (M : MS) (Q : List D → MS → Prop) (Z : KX), evalEs Φ γ (esApp a b) δ M Q Z = evalEs Φ γ a δ M (fun xs M' => evalEs Φ γ b δ M' (fun ys M'' => Q (xs ++ ys) M'') Z) Z
  | .nil, b, δ, M, Q, Z => by simp only [esApp, evalEs, List.nil_append]
  | .cons e es, b, δ, M, Q, Z => by
    simp only [esApp, evalEs]
    have h := fun r : R => fun M1 : MS => esApp_eval es b δ M1 (fun ds M2 => Q (r.toD :: ds) M2) Z
    simp only [h, List.cons_append]
  | .star e es, b, δ, M, Q, Z => by
    simp only [esApp, evalEs]
    have h := fun xs : List D => fun M1 : MS => esApp_eval es b δ M1 (fun ds M2 => Q (xs ++ ds) M2) Z
    simp only [h, List.append_assoc]
theorem csts_eval : ∀ (ds : List D) (δ : DEnv) (M : MS) (Q : List D → MS → Prop) (Z : KX), evalEs Φ γ (csts ds) δ M Q Z = Q ds M
  | [], δ, M, Q, Z => by simp only [csts, evalEs]
  | d :: ds, δ, M, Q, Z => by simp only [csts, evalEs, evalE, csts_eval ds, R.toD]
/-- a def of one's own -/
theorem se_call {i k : Nat} {f : Addr} {fd : FuncData} {ps : List Str} {x : Str} {p pos : Pos} {e : Expr} {es : List Expr} {ies : Es} {dus : List Value} {dvs : List V} {dfs : List D} (F : FnG X.prog X.w X.K X.mg X.base k f fd ps (spD X.K (Φ i))) (hr : Rm k X.A) (hb : Binds X.K fd ps dus) (hd : Vals dvs dus) (hD : ∀ G, DvAll X.K G dvs dfs) (tk : Takes X W)
    (hg : Gl X x) (hm : X.mg x = some (.ref f)) (hk : PySem.W.keepIn X.K (.ref f) = true) (hdb : (x == ("__debug__" : Str)) = false) (ha : SA Φ γ X W (e :: es) ies)
    (hst : starEach (e :: es) X.env = (false, eval e X.env) :: starEach es X.env) (hpl : (backTo pos (starEach es X.env)).any (·.1) = false) : SE Φ γ X W (.Call (.Name x p) (e :: es) [] pos) (.call i (esApp ies (csts dfs))) := by
  obtain ⟨ta, pa, ra⟩ := ha
  refine ⟨_, pe_callG F hr hb hd tk hg hm hk pa hdb hst hpl, fun σ δ G M H Q Qd Zd ok er hq hz h => ?_⟩
  unfold evalE at h
  rw [esApp_eval] at h
  refine ra σ δ G M H _ _ Zd ok er (fun ds M1 q vs G1 H1 s1 t => ?_) hz h
  rw [csts_eval] at q
  exact ⟨G1, M1, _, Qd, Zd, s1.ok, t.append (hD G1), pv_after s1 hq, fun x M' z => px_after s1 hz x M' z, q⟩
theorem se_call0 {i k : Nat} {f : Addr} {fd : FuncData} {ps : List Str} {x : Str} {p pos : Pos} {dus : List Value} {dvs : List V} {dfs : List D} (F : FnG X.prog X.w X.K X.mg X.base k f fd ps (spD X.K (Φ i))) (hr : Rm k X.A) (hb : Binds X.K fd ps dus) (hd : Vals dvs dus) (hD : ∀ G, DvAll X.K G dvs dfs) (tk : Takes X W)
    (hg : Gl X x) (hm : X.mg x = some (.ref f)) (hk : PySem.W.keepIn X.K (.ref f) = true) (hdb : (x == ("__debug__" : Str)) = false) : SE Φ γ X W (.Call (.Name x p) [] [] pos) (.call i (esApp .nil (csts dfs))) := by
  refine ⟨_, pe_callG0 F hr hb hd tk hg hm hk hdb, fun σ δ G M H Q Qd Zd ok er hq hz h => ?_⟩
  unfold evalE at h
  rw [esApp_eval] at h
  unfold evalEs at h
  rw [csts_eval] at h
  exact ⟨G, M, _, Qd, Zd, ok, hD G, hq, fun x M' z => hz x M' z, h⟩
/-- a built-in function or class -/
def biName : BI → Str
  | .len => "len"
  | .int => "int"
  | .abs => "abs"
  | .repr => "repr"
  | .all => "all"
  | .any => "any"
  | .tuple => "tuple"
  | .list => "list"
  | .max => "max"
theorem bi_boot : ∀ b : BI, bootBuiltins (biName b) = some (biV b) := by
  intro b; cases b <;> decide +kernel
theorem bi_plain : ∀ b : BI, biName b ≠ "__name__" ∧ (biName b == ("__debug__" : Str)) = false := by
  intro b; cases b <;> decide +kernel
theorem se_bi {b : BI} {p pos : Pos} {e : Expr} {es : List Expr} {ies : Es} (c : Cal X) (hg : Gl X (biName b)) (hm : X.mg (biName b) = none) (ha : SA Φ γ X W (e :: es) ies)
    (hst : starEach (e :: es) X.env = (false, eval e X.env) :: starEach es X.env) (hpl : (backTo pos (starEach es X.env)).any (·.1) = false) : SE Φ γ X W (.Call (.Name (biName b) p) (e :: es) [] pos) (.bi b ies) := by
  obtain ⟨ta, pa, ra⟩ := ha
  have pe : PE X (.Call (.Name (biName b) p) (e :: es) [] pos) (tCB (rA X.K (biD b)) ta) := by
    have hv := bi_boot b
    have hc := bi_ok c b
    cases eb : biV b with
    | builtin id => rw [eb] at hv hc; exact pe_callB hc hg hm hv pa (bi_plain b).1 (bi_plain b).2 hst hpl
    | type T => rw [eb] at hv hc; exact pe_callTy hc hg hm hv pa (bi_plain b).1 (bi_plain b).2 hst hpl
    | _ => cases b <;> simp [biV] at eb
  refine ⟨_, pe, fun σ δ G M H Q Qd Zd ok er hq hz h => ?_⟩
  unfold evalE at h
  refine ra σ δ G M H _ _ Zd ok er (fun ds M1 q vs G1 H1 s1 t => ?_) hz h
  obtain ⟨r, e, q⟩ := q
  exact ⟨G, M, H, G1, M1, ds, r, s1, t, e, hq _ _ q⟩
/-! isinstance -/
theorem kit_all : ∀ t ∈ ["NoneType", "bool", "int", "str", "list", "tuple", "dict"], ∀ u ∈ ["bool", "int", "str", "list", "tuple", "dict"], kitB t u = some (u == t || (t == "bool" && u == "int")) := by decide +kernel
theorem ty_ok {K : PySem.W.Frag} {G : Hp} {M : MS} {H : Hp} {x : V} {d : D} {t : String} (o : OkS K G M H) (h : Vw K G H x d) (e : tyD d = some t) : TyX K H x (.type t) := by
  cases h with
  | non => cases e; exact .base .non
  | bl b => cases e; exact .base (.bl b)
  | int i => cases e; exact .base (.int i)
  | str x => cases e; exact .base (.str x)
  | lst h t => cases e; exact .base (.lst h)
  | tup h t =>
    cases e
    rcases h with (h | ⟨ob, h⟩) | ⟨ob, its, n, h1, h2, _⟩
    · exact .base (.tup (o.sub _ _ h))
    · exact .fTuple (o.sub _ _ h)
    · exact .kTuple h1 h2
  | dct h l t => cases e; exact .fDict (o.sub _ _ h)
  | obj a => cases e
  | ty n => cases e
  | _ => cases e
theorem kitAny_all {K : PySem.W.Frag} {t : String} (ht : t ∈ ["NoneType", "bool", "int", "str", "list", "tuple", "dict"]) : ∀ ts : List String, (∀ u ∈ ts, u ∈ ["bool", "int", "str", "list", "tuple", "dict"]) →
    PySem.W.kitAny K (.type t) (ts.map Value.type) = some (ts.any fun u => u == t || (t == "bool" && u == "int"))
  | [], _ => kitAny_nil
  | u :: ts, h => by
    have h1 := kit_ty (K := K) (kit_all t ht u (h u List.mem_cons_self))
    have ih := kitAny_all (K := K) ht ts fun v hv => h v (List.mem_cons_of_mem _ hv)
    refine kitAny_cons h1 (fun e => ?_) fun e => ?_
    · rw [List.any_cons, e, Bool.false_or]; exact ih
    · rw [List.any_cons, e, Bool.true_or]
theorem isi_boot : bootBuiltins "isinstance" = some (.builtin "isinstance") := by decide +kernel
theorem ty_boot : ∀ u ∈ ["bool", "int", "str", "list", "tuple", "dict"], bootBuiltins (Str.ofString u) = some (.type u) ∧ Str.ofString u ≠ "__name__" ∧ (Str.ofString u == ("__debug__" : Str)) = false := by decide +kernel
theorem pe_ty {u : String} {p : Pos} (hu : u ∈ ["bool", "int", "str", "list", "tuple", "dict"]) (hg : Gl X (Str.ofString u)) (hm : X.mg (Str.ofString u) = none) : PE X (.Name (Str.ofString u) p) (tC (.ty u)) :=
  let ⟨h1, h2, h3⟩ := ty_boot u hu
  pe_bltn hg hm h1 rfl h2 h3
theorem se_isi1 {u : String} {p p2 pos : Pos} {a : Expr} {ia : E} (hu : u ∈ ["bool", "int", "str", "list", "tuple", "dict"]) (hgi : Gl X "isinstance") (hmi : X.mg "isinstance" = none) (hg : Gl X (Str.ofString u)) (hm : X.mg (Str.ofString u) = none) (ha : SE Φ γ X W a ia)
    (hst : starEach [a, .Name (Str.ofString u) p2] X.env = (false, eval a X.env) :: starEach [.Name (Str.ofString u) p2] X.env) : SE Φ γ X W (.Call (.Name "isinstance" p) [a, .Name (Str.ofString u) p2] [] pos) (.isi ia [u]) := by
  obtain ⟨ta, pa, ra⟩ := ha
  refine ⟨_, pe_callB call_isi hgi hmi isi_boot (pa_cons pa (pa_cons (pe_ty hu hg hm) pa_nil) hst) (by decide) (by decide) hst, fun σ δ G M H Q Qd Zd ok er hq hz h => ?_⟩
  unfold evalE at h
  show ta σ H _
  refine run_e ra ok er hz h fun r M1 v G1 H1 q s1 dv => ?_
  obtain ⟨k, e, q⟩ := q
  unfold isiD at e
  cases et : tyD (view M1 r.toD) with
  | none => rw [et] at e; cases e
  | some t =>
    rw [et] at e
    simp only at e
    split at e
    · rename_i hc
      cases e
      refine ⟨v, .ty u, .type t, .type u, _, rfl, .ty u, ty_ok s1.ok (dv.vw s1.ok) et, kit_ty (kit_all t hc.1 u hu), ?_⟩
      have z := hq _ _ q (.bl (u == t || (t == "bool" && u == "int"))) G1 H1 s1 (by simp only [List.any_cons, List.any_nil, Bool.or_false]; exact .bl _)
      exact z
    · cases e
theorem se_isi2 {u u' : String} {p p2 p3 p4 pos : Pos} {kk : Nat} {a : Expr} {ia : E} (hu : u ∈ ["bool", "int", "str", "list", "tuple", "dict"]) (hu' : u' ∈ ["bool", "int", "str", "list", "tuple", "dict"]) (hgi : Gl X "isinstance") (hmi : X.mg "isinstance" = none)
    (hg : Gl X (Str.ofString u)) (hm : X.mg (Str.ofString u) = none) (hg' : Gl X (Str.ofString u')) (hm' : X.mg (Str.ofString u') = none) (ha : SE Φ γ X W a ia)
    (hst : starEach [a, .Tuple [.Name (Str.ofString u) p2, .Name (Str.ofString u') p3] kk p4] X.env = (false, eval a X.env) :: starEach [.Tuple [.Name (Str.ofString u) p2, .Name (Str.ofString u') p3] kk p4] X.env) :
    SE Φ γ X W (.Call (.Name "isinstance" p) [a, .Tuple [.Name (Str.ofString u) p2, .Name (Str.ofString u') p3] kk p4] [] pos) (.isi ia [u, u']) := by
  obtain ⟨ta, pa, ra⟩ := ha
  refine ⟨_, pe_callB call_isiT hgi hmi isi_boot (pa_cons pa (pa_cons (pe_tup (pa_cons (pe_ty hu hg hm) (pa_cons (pe_ty hu' hg' hm') pa_nil))) pa_nil) hst) (by decide) (by decide) hst, fun σ δ G M H Q Qd Zd ok er hq hz h => ?_⟩
  unfold evalE at h
  show ta σ H _
  refine run_e ra ok er hz h fun r M1 v G1 H1 q s1 dv => ?_
  obtain ⟨k, e, q⟩ := q
  unfold isiD at e
  cases et : tyD (view M1 r.toD) with
  | none => rw [et] at e; cases e
  | some t =>
    rw [et] at e
    simp only at e
    split at e
    · rename_i hc
      cases e
      refine ⟨(by show 2 ≤ sizeLine; decide), fun pt hp => ?_⟩
      have s2 := s1.alloc (o := HO.tup [.ty u, .ty u']) hp
      refine ⟨v, pt, [.ty u, .ty u'], .type t, [.type u, .type u'], _, rfl, upd_same, .cons (.ty u) (.cons (.ty u') .nil), ty_ok s2.ok (dv.vw s2.ok) et, kitAny_all hc.1 [u, u'] hc.2, ?_⟩
      exact hq _ _ q _ G1 _ s2 (.bl _)
    · cases e
/-! methods -/
def mtName : MT → Str
  | .split => "split"
  | .join => "join"
theorem se_mt {m : MT} {apos pos : Pos} {o e : Expr} {io ie : E} (ho : SE Φ γ X W o io) (he : SE Φ γ X W e ie)
    (hs : starEach [e] X.env = [(false, eval e X.env)]) (hbase : attributeBase o (mtName m) X.env (eval o X.env) = eval o X.env) (hline : (apos.endLine == pos.line) = true) :
    SE Φ γ X W (.Call (.Attribute o (mtName m) apos) [e] [] pos) (.mt m io (.cons ie .nil)) := by
  obtain ⟨ta, pa, ra⟩ := ho
  obtain ⟨tb, pb, rb⟩ := he
  have pe : PE X (.Call (.Attribute o (mtName m) apos) [e] [] pos) (tM1 (rM X.K m) ta tb) := by
    cases m with
    | split => exact pe_m1 F.slot_str_split F.type_str_split (mt_ok .split) pa pb hs hbase hline
    | join => exact pe_m1 F.slot_str_join F.type_str_join (mt_ok .join) pa pb hs hbase hline
  refine ⟨_, pe, fun σ δ G M H Q Qd Zd ok er hq hz h => ?_⟩
  unfold evalE at h
  show ta σ H _
  refine run_e ra ok er hz h fun r M1 v G1 H1 q s1 dv => ?_
  obtain ⟨z, ez, q⟩ := q
  rw [ez] at dv
  cases dv
  refine ⟨⟨z, rfl⟩, ?_⟩
  show tb σ H1 _
  unfold evalEs evalEs at q
  refine run_e rb s1.ok (er.mono s1.sub) (px_after s1 hz) q fun r2 M2 v2 G2 H2 q2 s2 dv2 => ?_
  obtain ⟨r3, e, q3⟩ := q2
  exact ⟨G, M, H, G2, M2, z, _, r3, s1.trans s2, rfl, .one dv2, e, hq _ _ q3⟩
end
end DL
set_option maxRecDepth 100000
set_option maxHeartbeats 2000000
/-! # Dicts as data: locked where they are made; dict(zip(xs, ys)), list(d.items()) of a locked one -/
namespace DL
open PySem L2
/-- what is given is locked -/
def tFrz (t : TE) : TE := fun σ H Q => t σ H fun v H' => ∃ d u, v = .ref d ∧ H' d = some u ∧ Mut (some u) ∧ ∀ o, Q v (upd H' d (.frz o u))
theorem pe_frz {X : Cx} {e : Expr} {t : TE} (h : PE X e t) : PE X e (tFrz t) := by
  refine ⟨fun pins s σ H Q I hw => ?_⟩
  refine thn (h.run pins s σ H _ I hw) fun v s1 ⟨x, H1, I1, r, d, u, ex, hd, mu, q⟩ => ?_
  obtain ⟨od, I2⟩ := I1.lock hd mu
  exact ⟨x, _, I2, r, q od⟩
def rItemsF : V → Hp → VK → Prop := fun x H Q => ∃ (d : Addr) (o : Obj) (kvs : List (Key × V)), x = .ref d ∧ H d = some (.frz o (.dK kvs)) ∧
  ∀ (H' : Hp) (p : Addr) (ts : List Addr), (∀ b o, H b = some o → H' b = some o) → H p = none → (∀ t ∈ ts, H t = none) → p ∉ ts → H' p = some (.lst (ts.map V.ref)) → Paired (fun (t : Addr) (q : Key × V) => H' t = some (.tup [kV q.1, q.2])) ts kvs → Q (.ref p) H'
def tItemsF (te : TE) : TE := fun σ H Q => te σ H fun x H1 => rItemsF x H1 Q
section
variable {X : Cx} {e e2 : Expr} {te : TE} {ta : TA} {p p2 apos cpos pos pos2 : Pos}
/-- the dict-keyed pairs of two lists -/
theorem zip_kv (X : Cx) : ∀ {xs ys : List V} {its its2 : List Value} {kvs : List (Key × V)}, Vals xs its → Vals ys its2 → List.zip xs ys = kvs.map (fun kv => (kV kv.1, kv.2)) →
    ∃ prs : List (Key × Value), KV kvs prs ∧ prs.length = min its.length its2.length ∧ ∀ (i : Nat) (key v : Value), its[i]? = some key → its2[i]? = some v → ∃ k, prs[i]? = some (k, v) ∧ keyIs k key = true
  | [], ys, _, its2, kvs, .nil, _, h => by
    have : kvs = [] := by
      rw [List.zip_nil_left] at h
      exact (List.map_eq_nil_iff.mp h.symm)
    subst this
    exact ⟨[], .nil, by simp, fun i key v e => by simp at e⟩
  | x :: xs, [], _, _, kvs, .cons r t, .nil, h => by
    have : kvs = [] := by
      rw [List.zip_nil_right] at h
      exact (List.map_eq_nil_iff.mp h.symm)
    subst this
    exact ⟨[], .nil, by simp, fun i key v _ e => by simp at e⟩
  | x :: xs, y :: ys, _, _, kvs, .cons (b := u) r t, .cons (b := w) r2 t2, h => by
    cases kvs with
    | nil => simp at h
    | cons kv kvs =>
      rw [List.zip_cons_cons, List.map_cons] at h
      injection h with h1 h2
      obtain ⟨prs, p1, p2, p3⟩ := zip_kv X t t2 h2
      have hx : x = kV kv.1 := congrArg Prod.fst h1
      have hy : y = kv.2 := congrArg Prod.snd h1
      refine ⟨(kv.1, w) :: prs, .cons ⟨rfl, by rw [← hy]; exact r2⟩ p1, by simp [p2, Nat.succ_min_succ], fun i key v e1 e2 => ?_⟩
      cases i with
      | zero =>
        simp only [List.getElem?_cons_zero, Option.some.injEq] at e1 e2
        subst e1 e2
        refine ⟨kv.1, rfl, ?_⟩
        rw [hx] at r
        exact kV_is (P := X.prog) (w := X.w) r
      | succ i => simp only [List.getElem?_cons_succ] at e1 e2 ⊢; exact p3 i key v e1 e2
def tDictZ (K : PySem.W.Frag) (ta : TA) : TE := fun σ H Q => ta σ H fun vs H1 => ∃ (a b : Addr) (xs ys : List V) (kvs : List (Key × V)), vs = [.ref a, .ref b] ∧ SqL K H1 a xs ∧ SqL K H1 b ys ∧
  List.zip xs ys = kvs.map (fun kv => (kV kv.1, kv.2)) ∧ ∀ p, H1 p = none → Q (.ref p) (upd H1 p (.dK (mergeK [] kvs)))
theorem pe_dictZ (hc : X.calm = true) (hg : Gl X "dict") (hm : X.mg "dict" = none) (hg2 : Gl X "zip") (hm2 : X.mg "zip" = none) (ha : PA X [e, e2] ta)
    (hs : starEach [e, e2] X.env = (false, eval e X.env) :: starEach [e2] X.env) (hpl : (backTo pos2 (starEach [e2] X.env)).any (·.1) = false) :
    PE X (.Call (.Name "dict" p) [.Call (.Name "zip" p2) [e, e2] [] pos2] [] pos) (tDictZ X.K ta) := by
  refine ⟨fun pins s σ H Q I h => ?_⟩
  refine PyProof.Rows.Call_ (ld_blt I hg hm (by rfl) (PyProof.Rows.callWith_type1 (PyProof.Rows.args_cons (PyProof.Rows.Call_ (ld_blt I hg2 hm2 PyProof.Rows.boot_zip (PyProof.Rows.callWith_type1 (thn (ha.run pos2 pins s σ H _ I h) fun us s1 ⟨vs, H1, I1, r1, q1⟩ => ?_) hs hpl)))) rfl rfl))
  obtain ⟨a, b, xs, ys, kvs, ex, hx, hy, hzk, q⟩ := q1
  subst ex
  cases r1 with
  | cons r rr =>
    cases rr with
    | cons r' rr =>
      cases rr
      cases r
      cases r'
      obtain ⟨its, rv, pl, hz⟩ := I1.list hx
      obtain ⟨its2, rv2, pl2, hz2⟩ := I1.list hy
      obtain ⟨prs, rel, hl, hpr⟩ := zip_kv X rv rv2 hzk
      refine call_zip_2 pl.isList pl2.isList fun h' hzp hTI hTO h1 h2 hsz hk => PyProof.Rows.args_nil ?_
      have ok : IsZip h' (s1.heap.objs.size + 4) (s1.heap.objs.size + 2) (s1.heap.objs.size + 3) .none ∧ IsPair h' (s1.heap.objs.size + 2) (.ref s1.heap.objs.size) (.ref (s1.heap.objs.size + 1)) ∧ (∃ a b, IsPair h' (s1.heap.objs.size + 3) a b) ∧ h'.IsListIter s1.heap.objs.size a 0 ∧ h'.IsListIter (s1.heap.objs.size + 1) b 0 ∧ h'.IsList a its.toArray ∧ h'.IsList b its2.toArray :=
        ⟨hzp, hTI, ⟨_, _, hTO⟩, h1, h2, pl.isList.at (fun o e => hk _ o e), pl2.isList.at (fun o e => hk _ o e)⟩
      refine PySem.call_dict_pairs (knd := mixKind X.prog X.w) (kvs := prs) (s := { s1 with heap := h' }) (PairArg.zip (s1.heap.objs.size + 4) (s1.heap.objs.size + 2) (s1.heap.objs.size + 3) s1.heap.objs.size (s1.heap.objs.size + 1) a b (PySem.W.ktu_apart s1.heap.objs.size a b pl.lt pl2.lt) its.toArray its2.toArray) (I1.ok.hd hc) ok ⟨by simpa using hl, fun i key v hr => ?_⟩ ?_ fun h2' tk hd' k2 => ?_
      · obtain ⟨k, e1, e2⟩ := hpr i key v (by simpa using hr.1) (by simpa using hr.2)
        exact ⟨k, e1, e2⟩
      · have := rv.length
        simp only [List.size_toArray]
        omega
      · have k3 : ∀ b u, s1.heap.get? b = some u → h2'.get? b = some u := fun c u e => k2 c u (fun z => by
          have := Heap.lt_size e
          simp only [List.mem_cons, List.not_mem_nil, or_false] at z
          refine absurd this (Nat.not_lt.mpr ?_)
          rcases z with z | z | z | z <;> rw [z] <;> first | exact Nat.le_add_right _ _ | exact Nat.le_refl _) (hk c u e)
        have hmm : (h'.objs.size == sysModules) = false := beq_eq_false_iff_ne.mpr (Nat.ne_of_gt (Nat.lt_of_lt_of_le I1.big (by rw [hsz]; exact Nat.le_add_right _ _)))
        have hlen : (mergeK [] kvs).length ≤ sizeLine := by
          refine Nat.le_trans (length_mergeK kvs []) ?_
          have := rv.length
          rw [List.length_nil, Nat.zero_add, rel.length, hl]
          omega
        exact ⟨.ref h'.objs.size, upd H1 h'.objs.size (.dK (mergeK [] kvs)), I1.laid (t' := tk) k3 (by rw [hsz]; exact Nat.le_add_right _ _) (show ObjOk X.prog X.w _ _ _ (.dK (mergeK [] kvs)) from ⟨hlen, hmm, merged [] prs, KV.merge rel .nil, hd'⟩), rfl, q _ (I1.hok.fresh (by rw [hsz]; exact Nat.le_add_right _ _))⟩
theorem pe_itemsF (hc : X.calm = true) (he : PE X e te) (hg : Gl X "list") (hm : X.mg "list" = none) (hbase : attributeBase e "items" X.env (eval e X.env) = eval e X.env) (hline : (apos.endLine == cpos.line) = true) :
    PE X (.Call (.Name "list" p) [.Call (.Attribute e "items" apos) [] [] cpos] [] pos) (tItemsF te) := by
  have hs : starEach [.Call (.Attribute e "items" apos) [] [] cpos] X.env = (false, eval (.Call (.Attribute e "items" apos) [] [] cpos) X.env) :: starEach [] X.env := rfl
  refine ⟨fun pins s σ H Q I hq => ?_⟩
  refine wpAny_Call_Name_kw (ld_blt I hg hm (by rfl) ?_)
  refine PyProof.Rows.callWith_type1 ?_ hs rfl
  rw [hs]
  show wpAny _ _ (spliced ((false, eval (.Call (.Attribute e "items" apos) [] [] cpos) X.env) :: backTo pos (starEach [] X.env))) _ _ s
  refine Calls.spliced_cons ?_
  refine wpAny_Call_method (T := "dict") (id := "dict.items") hbase rfl hline F.plainAttrs_dict F.slot_dict_items F.type_dict_items (thn (he.run pins s σ H _ I hq) fun u s1 ⟨x, H1, I1, rx, d, o, kvs, ex, hd, q⟩ => ?_)
  subst ex
  obtain rfl : u = Value.ref d := rx
  obtain ⟨_, hz, hs0, vs, kv, hdo⟩ := I1.hok d _ hd
  obtain ⟨ep, hat⟩ := hdo.dictAt
  have lk : kvs.length = vs.length := Paired.length kv
  have I2 : Inv X pins σ H1 { s1 with heap := s1.heap.push { cls := .type "dict_items", data := .fields #[.ref d] } } := I1.kept (t' := s1.toks) fun b ob q => Heap.get?_push_of_some _ q
  refine ⟨hdo.typeIs, hdo.mapOf.noDict, ?_⟩
  show wpAny _ _ (callWith cpos (.builtin "dict.items") [.ref d] [] []) _ X.xe s1
  refine method_meetsIn F.slot_dict_items F.entry_dict_items rfl (PySem.evalArgs_none ⟨rfl, hdo.typeIs, F.args_dict_items_1 _, _, meets_dict_items (mixKind X.prog X.w) d hs0, ⟨vs, hdo⟩, ?_⟩)
  refine Calls.spliced_nil ?_
  refine PySem.W.kdx_call (knd := mixKind X.prog X.w) (kvs := vs) (ep := ep) (I1.ok.hd hc) ⟨_, Heap.get?_push_size _ rfl, rfl, rfl⟩ (hat.push _) (by omega) fun h' tk acc c as hk hS hl hG hacc => ?_
  obtain ⟨H', k1, k2, k3, k4, k5, k6, J⟩ := LiI.items_laid (tk := tk) I2 hz kv hk hS hl hG hacc
  exact ⟨.ref _, H', J, rfl, q H' _ as k1 k2 k3 k4 k5 k6⟩
end
end DL
set_option maxRecDepth 100000
set_option maxHeartbeats 2000000
namespace DL
open PySem L2
/-! ### tests -/
section
variable (Φ : Fns) (γ : List D) (X : Cx) (W : WX)
def SW (e : Expr) (ir : T) : Prop := ∃ tt, PW X e tt ∧ ∀ (σ : L2.St) (δ : DEnv) (G : Hp) (M : MS) (H : Hp) (Q : Bool → Hp → Prop) (Qd : Bool → MS → Prop) (Zd : KX), OkS X.K G M H → ER X.K G σ δ →
  (∀ b M', Qd b M' → ∀ G' H', Step X.K G M H G' M' H' → Q b H') → (∀ x M', Zd x M' → PostX X.K G M H W σ x M') → evalT Φ γ ir δ M Qd Zd → tt σ H Q
end
section
variable {Φ : Fns} {γ : List D} {X : Cx} {W : WX} {a b c : Expr} {ia ib ic : E} {ta tb : T} {pos : Pos}
theorem SW.st {e : Expr} {ir : T} (h : SW Φ γ X W e ir) : ST Φ γ X W e ir :=
  let ⟨tt, p, r⟩ := h
  ⟨tt, p.pt, r⟩
theorem st_plain (ha : SE Φ γ X W a ia) (he : ∀ whole, isTrue a X.env whole = (do let v ← whole; standAt a.pos; holding [v] (truthy v))) : ST Φ γ X W a (.e ia) := by
  obtain ⟨t1, p1, r1⟩ := ha
  refine ⟨_, pt_truth p1 he, fun σ δ G M H Q Qd Zd ok er hq hz h => ?_⟩
  unfold evalT at h
  show t1 σ H _
  refine run_e r1 ok er hz h fun r M1 v G1 H1 q s1 dv => ?_
  obtain ⟨k, e, q⟩ := q
  exact ⟨k, truth_ok s1.ok (dv.vw s1.ok) e, hq _ _ q G1 H1 s1⟩
theorem truth_bl {M : MS} {k k' : Bool} (e : truthD (view M (R.toD (.val (.bl k)))) = some k') : k' = k := by
  have e' : some k = some k' := e
  exact (Option.some.inj e').symm
theorem st_cmp {o : CmpOp} (hu : X.A.units + 64 < cLine) (ha : SE Φ γ X W a ia) (hb : SE Φ γ X W b ib) (hm : behindInMarks o b = false) : ST Φ γ X W (.Compare a [o] [b] pos) (.e (.cmp o ia ib)) := by
  obtain ⟨t1, p1, r1⟩ := ha
  obtain ⟨t2, p2, r2⟩ := hb
  refine ⟨_, pt_cmpR (cmp2_ok hu o) p1 p2 hm, fun σ δ G M H Q Qd Zd ok er hq hz h => ?_⟩
  unfold evalT evalE at h
  show t1 σ H _
  refine run_e r1 ok er hz h fun r M1 v G1 H1 q s1 dv => ?_
  show t2 σ H1 _
  refine run_e r2 s1.ok (er.mono s1.sub) (px_after s1 hz) q fun r2 M2 v2 G2 H2 q2 s2 dv2 => ?_
  obtain ⟨k, e, k', e', q3⟩ := q2
  have ek := truth_bl e'
  subst ek
  refine ⟨G, M, H, G2, M2, _, _, .val (.bl k'), s1.trans s2, (dv.mono s2.sub).vw s2.ok, dv2.vw s2.ok, by unfold cmpR; rw [e]; rfl, fun w G3 H3 s3 rv => ?_⟩
  have rv' : Dv X.K G3 w (.bl k') := rv
  cases rv'
  exact ⟨_, rfl, hq _ _ q3 G3 H3 s3⟩
theorem st_chain {o o' : CmpOp} (hu : X.A.units + 64 < cLine) (ha : SE Φ γ X W a ia) (hb : SE Φ γ X W b ib) (hc : SE Φ γ X W c ic) (hm : lastMarks [o, o'] [b, c] = false) : ST Φ γ X W (.Compare a [o, o'] [b, c] pos) (.e (.chain o o' ia ib ic)) := by
  obtain ⟨t1, p1, r1⟩ := ha
  obtain ⟨t2, p2, r2⟩ := hb
  obtain ⟨t3, p3, r3⟩ := hc
  refine ⟨_, pt_chain (cmp2_ok hu o) (cmp2_ok hu o') p1 p2 p3 hm, fun σ δ G M H Q Qd Zd ok er hq hz h => ?_⟩
  unfold evalT evalE at h
  show t1 σ H _
  refine run_e r1 ok er hz h fun r M1 v G1 H1 q s1 dv => ?_
  show t2 σ H1 _
  refine run_e r2 s1.ok (er.mono s1.sub) (px_after s1 hz) q fun r2 M2 v2 G2 H2 q2 s2 dv2 => ?_
  obtain ⟨k, e, q3⟩ := q2
  have s12 := s1.trans s2
  refine ⟨G2, M2, H2, G2, M2, _, _, .val (.bl k), Step.refl s2.ok, (dv.mono s2.sub).vw s2.ok, dv2.vw s2.ok, by unfold cmpR; rw [e]; rfl, fun w G3 H3 s3 rv => ?_⟩
  have rv' : Dv X.K G3 w (.bl k) := rv
  cases rv'
  have s13 := s12.trans s3
  cases k with
  | true =>
    simp only [if_true] at q3
    refine ⟨true, rfl, ?_⟩
    simp only [if_true]
    show t3 σ H3 _
    refine run_e r3 s3.ok (er.mono s13.sub) (px_after s13 hz) q3 fun r4 M4 v4 G4 H4 q4 s4 dv4 => ?_
    obtain ⟨k', e', k2, e2, q4⟩ := q4
    have ek := truth_bl e2
    subst ek
    refine ⟨G, M, H, G4, M4, _, _, .val (.bl k2), s13.trans s4, (dv2.mono (s3.sub.trans s4.sub)).vw s4.ok, dv4.vw s4.ok, by unfold cmpR; rw [e']; rfl, fun w G5 H5 s5 rv => ?_⟩
    have rv' : Dv X.K G5 w (.bl k2) := rv
    cases rv'
    exact ⟨_, rfl, hq _ _ q4 G5 H5 s5⟩
  | false =>
    simp only [Bool.false_eq_true, if_false] at q3
    refine ⟨false, rfl, ?_⟩
    simp only [Bool.false_eq_true, if_false]
    obtain ⟨k2, e2, q4⟩ := q3
    have ek := truth_bl e2
    subst ek
    exact ⟨_, rfl, hq _ _ q4 G3 H3 s13⟩
theorem st_not (ha : ST Φ γ X W a ta) : ST Φ γ X W (.UnaryOp .Not a pos) (.not ta) := by
  obtain ⟨t1, p1, r1⟩ := ha
  refine ⟨_, pt_not p1, fun σ δ G M H Q Qd Zd ok er hq hz h => ?_⟩
  unfold evalT at h
  exact r1 σ δ G M H _ _ Zd ok er (fun k M' q G' H' s => hq _ _ q G' H' s) hz h
theorem sw_and {rest : List Expr} (ha : ST Φ γ X W a ta) (hb : SW Φ γ X W (.BoolOp .And (b :: rest) pos) tb) : SW Φ γ X W (.BoolOp .And (a :: b :: rest) pos) (.and ta tb) := by
  obtain ⟨t1, p1, r1⟩ := ha
  obtain ⟨t2, p2, r2⟩ := hb
  refine ⟨_, pw_and p1 p2, fun σ δ G M H Q Qd Zd ok er hq hz h => ?_⟩
  unfold evalT at h
  refine r1 σ δ G M H _ _ Zd ok er (fun k M1 q G1 H1 s1 => ?_) hz h
  cases k with
  | true =>
    simp only [if_true] at q ⊢
    exact r2 σ δ G1 M1 H1 Q Qd Zd s1.ok (er.mono s1.sub) (fun k2 M2 q2 G2 H2 s2 => hq _ _ q2 G2 H2 (s1.trans s2)) (px_after s1 hz) q
  | false =>
    simp only [Bool.false_eq_true, if_false] at q ⊢
    exact hq _ _ q G1 H1 s1
theorem sw_or {rest : List Expr} (ha : ST Φ γ X W a ta) (hb : SW Φ γ X W (.BoolOp .Or (b :: rest) pos) tb) : SW Φ γ X W (.BoolOp .Or (a :: b :: rest) pos) (.or ta tb) := by
  obtain ⟨t1, p1, r1⟩ := ha
  obtain ⟨t2, p2, r2⟩ := hb
  refine ⟨_, pw_or p1 p2, fun σ δ G M H Q Qd Zd ok er hq hz h => ?_⟩
  unfold evalT at h
  refine r1 σ δ G M H _ _ Zd ok er (fun k M1 q G1 H1 s1 => ?_) hz h
  cases k with
  | false =>
    simp only [Bool.false_eq_true, if_false] at q ⊢
    exact r2 σ δ G1 M1 H1 Q Qd Zd s1.ok (er.mono s1.sub) (fun k2 M2 q2 G2 H2 s2 => hq _ _ q2 G2 H2 (s1.trans s2)) (px_after s1 hz) q
  | true =>
    simp only [if_true] at q ⊢
    exact hq _ _ q G1 H1 s1
theorem sw_and1 (ha : ST Φ γ X W a ta) : SW Φ γ X W (.BoolOp .And [a] pos) ta :=
  let ⟨t1, p1, r1⟩ := ha
  ⟨t1, pw_and1 p1, r1⟩
theorem sw_or1 (ha : ST Φ γ X W a ta) : SW Φ γ X W (.BoolOp .Or [a] pos) ta :=
  let ⟨t1, p1, r1⟩ := ha
  ⟨t1, pw_or1 p1, r1⟩
end
/-! ### what is walked -/
/-- the walk J goes over these items as long as src tells that its source stands -/
structure WalkJ (K : PySem.W.Frag) (G0 : Hp) (J : It) (src : MS → Prop) (items : List D) : Prop where
  go : ∀ G M H (i : Nat), OkS K G M H → Sub G0 G → src M → i < items.length → J.go i H
  stop : ∀ G M H (i : Nat), OkS K G M H → Sub G0 G → src M → i = items.length → J.stop i H
  yld : ∀ G M H (i : Nat) x H', OkS K G M H → Sub G0 G → src M → i < items.length → J.yld i H x H' → ∃ d G', items[i]? = some d ∧ Step K G M H G' M H' ∧ Dv K G' x d
def SI (Φ : Fns) (γ : List D) (X : Cx) (W : WX) (tg e : Expr) (ir : I) : Prop := ∃ wi, PI X tg e wi ∧ ∀ (σ : L2.St) (δ : DEnv) (G : Hp) (M : MS) (H : Hp) (R : It → Hp → Prop) (Qd : (MS → Prop) → List D → MS → Prop) (Zd : KX), OkS X.K G M H → ER X.K G σ δ →
  (∀ src items M1, Qd src items M1 → ∀ J G1 H1, Step X.K G M H G1 M1 H1 → WalkJ X.K G1 J src items → R J H1) → (∀ x M', Zd x M' → PostX X.K G M H W σ x M') → evalI Φ γ ir δ M Qd Zd → wi σ H R
/-- a list, a tuple or a text -/
def iSeq (K : PySem.W.Frag) (tl : TE) : TI := fun σ H R => tl σ H fun x H1 => (∃ a xs, x = .ref a ∧ SqL K H1 a xs ∧ R (Itl K a) H1) ∨ (∃ a xs, x = .ref a ∧ SqT K H1 a xs ∧ R (Itt K a) H1) ∨ (∃ z, x = .str z ∧ R (Its z) H1) ∨ ∃ d o kvs, x = .ref d ∧ H1 d = some (.frz o (.dK kvs)) ∧ R (Itk d o kvs) H1
theorem pi_seq {X : Cx} {tg l : Expr} {tl : TE} (hl : PE X l tl) : PI X tg l (iSeq X.K tl) := by
  refine ⟨fun pins s σ H R I h => thn (hl.run pins s σ H _ I h) ?_⟩
  rintro v s1 ⟨x, H1, I1, r1, ⟨a, xs, rfl, hq, q⟩ | ⟨a, xs, rfl, hq, q⟩ | ⟨z, rfl, q⟩ | ⟨d, o, kvs, rfl, hd, q⟩⟩
  · obtain ⟨its, rv, pl, hz⟩ := I1.list hq
    cases r1
    exact wpAny_pyIter_list pl.isList (pi_one (tk := s1.toks) I1 _ (turn_list a _) ⟨_, Heap.get?_push_size _ rfl, rfl, rfl⟩ q)
  · obtain ⟨its, rv, pl, hz⟩ := I1.tuple hq
    cases r1
    exact wpAny_pyIter_tuple (show s1.heap.IsTuple a its.toArray from pl) (pi_one (tk := s1.toks) I1 _ (turn_tuple a _) ⟨_, Heap.get?_push_size _ rfl, rfl, rfl⟩ q)
  · obtain ⟨t, rfl⟩ := r1
    cases ha : z.cps.all (· < 128) with
    | false => exact wpAny_pyIter_wide ha (pi_one (tk := s1.toks) I1 _ (turn_str _ z t "str_iterator" (.inr rfl)) ⟨_, Heap.get?_push_size _ rfl, rfl, rfl⟩ q)
    | true => exact wpAny_pyIter_ascii ha (pi_one (tk := s1.toks) I1 _ (turn_str _ z t "str_ascii_iterator" (.inl rfl)) ⟨_, Heap.get?_push_size _ rfl, rfl, rfl⟩ q)
  · cases r1
    obtain ⟨hs, hgd, hx, es, ep, vs, hdt, hsz, kv, hm⟩ := I1.frzK hd
    refine iter_keys hs hgd hx hdt (pi_one (tk := s1.toks) I1 _ (turn_keys _ hdt) ⟨_, Heap.get?_push_size _ rfl, rfl, ?_⟩ q)
    rw [hsz] <;> rfl
section
variable {K : PySem.W.Frag} {G0 : Hp}
theorem walk_list {a : Addr} {items : List D} {src : MS → Prop} (hs : ∀ G M H, OkS K G M H → Sub G0 G → src M → ∃ vs, H a = some (.lst vs) ∧ DvAll K G vs items) : WalkJ K G0 (Itl K a) src items where
  go := fun G M H i o sg sm hi => by
    obtain ⟨vs, h, t⟩ := hs G M H o sg sm
    have : i < vs.length := by rw [t.length]; exact hi
    exact ⟨vs, vs[i], SqL.of h, by simp [this]⟩
  stop := fun G M H i o sg sm hi => by
    obtain ⟨vs, h, t⟩ := hs G M H o sg sm
    exact ⟨vs, SqL.of h, by rw [t.length, hi]; exact Nat.le_refl _⟩
  yld := fun G M H i x H' o sg sm hi y => by
    obtain ⟨vs, h, t⟩ := hs G M H o sg sm
    obtain ⟨rfl, y⟩ := y
    obtain ⟨d, h1, h2⟩ := t.get' (y vs (SqL.of h))
    exact ⟨d, G, h1, Step.refl o, h2⟩
theorem walk_tup {a : Addr} {vs : List V} {items : List D} {src : MS → Prop} (h : SqT K G0 a vs) (t : DvAll K G0 vs items) : WalkJ K G0 (Itt K a) src items where
  go := fun G M H i o sg sm hi => by
    have : i < vs.length := by rw [t.length]; exact hi
    exact ⟨vs, vs[i], (sg.trans o.sub).sqT h, by simp [this]⟩
  stop := fun G M H i o sg sm hi => ⟨vs, (sg.trans o.sub).sqT h, by rw [t.length, hi]; exact Nat.le_refl _⟩
  yld := fun G M H i x H' o sg sm hi y => by
    obtain ⟨rfl, y⟩ := y
    obtain ⟨d, h1, h2⟩ := t.get' (y vs ((sg.trans o.sub).sqT h))
    exact ⟨d, G, h1, Step.refl o, h2.mono sg⟩
theorem walk_str {z : Str} {src : MS → Prop} : WalkJ K G0 (Its z) src (z.cps.toList.map fun c => D.str ⟨#[c]⟩) where
  go := fun G M H i o sg sm hi => by
    have : i < z.cps.size := by simpa using hi
    exact this
  stop := fun G M H i o sg sm hi => by
    have : z.cps.size ≤ i := by rw [hi]; simp
    exact this
  yld := fun G M H i x H' o sg sm hi y => by
    obtain ⟨rfl, c, e, rfl⟩ := y
    refine ⟨.str ⟨#[c]⟩, G, ?_, Step.refl o, .str _⟩
    rw [List.getElem?_map]
    have : z.cps.toList[i]? = some c := by simpa using e
    rw [this]; rfl
theorem keyE_dv {G : Hp} (k : Key) : Dv K G (kV k) (keyE k) := by
  cases k with
  | inl i => exact .int i
  | inr x => exact .str x
theorem walk_keys {a : Addr} {o : Obj} {ks : List Key} {vs : List V} {ds : List D} {src : MS → Prop} (h : G0 a = some (.frz o (.dK (List.zip ks vs)))) (l : ks.length = vs.length) (t : DvAll K G0 vs ds) :
    WalkJ K G0 (Itk a o (List.zip ks vs)) src ((List.zip ks ds).map fun kv => keyE kv.1) where
  go := fun G M H i ok sg sm hi => by
    have tl := t.length
    refine ⟨ok.sub _ _ (sg _ _ h), ?_⟩
    simp only [List.length_map, List.length_zip] at hi ⊢
    omega
  stop := fun G M H i ok sg sm hi => by
    have tl := t.length
    refine ⟨ok.sub _ _ (sg _ _ h), ?_⟩
    simp only [List.length_map, List.length_zip] at hi ⊢
    omega
  yld := fun G M H i x H' ok sg sm hi y => by
    have tl := t.length
    obtain ⟨rfl, k, v, e, rfl⟩ := y
    refine ⟨keyE k, G, ?_, Step.refl ok, keyE_dv k⟩
    rw [List.getElem?_zip_eq_some] at e
    have hi' : i < ds.length := by
      simp only [List.length_map, List.length_zip] at hi
      omega
    rw [List.getElem?_map]
    have e2 : (List.zip ks ds)[i]? = some (k, ds[i]) := by
      rw [List.getElem?_zip_eq_some]
      exact ⟨e.1, List.getElem?_eq_getElem hi'⟩
    rw [e2]; rfl
theorem walk_rng {lo : Int} {n : Nat} {src : MS → Prop} : WalkJ K G0 (Itr lo n) src ((List.range n).map fun (k : Nat) => D.int (lo + (k : Int))) where
  go := fun G M H i o sg sm hi => by
    have : i < n := by simpa using hi
    exact this
  stop := fun G M H i o sg sm hi => by
    have : n ≤ i := by rw [hi]; simp
    exact this
  yld := fun G M H i x H' o sg sm hi y => by
    obtain ⟨rfl, rfl⟩ := y
    have hi' : i < n := by simpa using hi
    exact ⟨.int (lo + i), G, by simp [hi'], Step.refl o, .int _⟩
end
section
variable {Φ : Fns} {γ : List D} {X : Cx} {W : WX} {tg : Expr} {pos p : Pos}
theorem si_seq {e : Expr} {ie : E} (he : SE Φ γ X W e ie) : SI Φ γ X W tg e (.seq ie) := by
  obtain ⟨t1, p1, r1⟩ := he
  refine ⟨_, pi_seq p1, fun σ δ G M H R Qd Zd ok er hq hz h => ?_⟩
  unfold evalI at h
  show t1 σ H _
  refine run_e r1 ok er hz h fun r M1 v G1 H1 q s1 dv => ?_
  obtain ⟨items, e1, q⟩ := q
  have go := hq _ _ _ q
  cases hd : r.toD with
  | lst ds =>
    rw [hd] at e1 dv go
    cases e1
    cases dv with
    | lst h1 t1 =>
      exact .inl ⟨_, _, rfl, SqL.of (s1.ok.sub _ _ h1), go _ G1 H1 s1 (walk_list fun G2 M2 H2 o2 sg _ => ⟨_, o2.sub _ _ (sg _ _ h1), t1.mono sg⟩)⟩
  | tup ds =>
    rw [hd] at e1 dv go
    cases e1
    cases dv with
    | tup h1 t1 => exact .inr (.inl ⟨_, _, rfl, s1.ok.sub.sqT h1, go _ G1 H1 s1 (walk_tup h1 t1)⟩)
  | str z =>
    rw [hd] at e1 dv go
    cases e1
    cases dv
    exact .inr (.inr (.inl ⟨z, rfl, go _ G1 H1 s1 walk_str⟩))
  | obj a =>
    rw [hd] at e1 dv go
    cases dv
    have look : ∀ M2, itemsD (view M2 (.obj a)) = some items → M2 a = some (.lst items) := fun M2 e => by
      unfold view at e
      split at e
      · rename_i p ez
        cases ez
        split at e
        · rename_i ds e3
          cases e
          exact e3
        · cases e
      · rename_i hno; exact absurd rfl (hno a)
    obtain ⟨vs, h1, t1⟩ := s1.ok.mok a _ (look M1 e1)
    exact .inl ⟨_, _, rfl, SqL.of h1, go _ G1 H1 s1 (walk_list fun G2 M2 H2 o2 sg sm => o2.mok a _ (look M2 sm))⟩
  | non => rw [hd] at e1; cases e1
  | bl b => rw [hd] at e1; cases e1
  | int i => rw [hd] at e1; cases e1
  | dct kvs =>
    rw [hd] at e1 dv go
    cases e1
    cases dv with
    | dct h1 l t1 => exact .inr (.inr (.inr ⟨_, _, _, rfl, s1.ok.sub _ _ h1, go _ G1 H1 s1 (walk_keys h1 l t1)⟩))
  | ty n => rw [hd] at e1; cases e1
  | _ => rw [hd] at e1; cases e1
theorem walk_enum {K : PySem.W.Frag} {G0 : Hp} {a : Addr} {items : List D} {src : MS → Prop} (hs : ∀ G M H, OkS K G M H → Sub G0 G → src M → ∃ vs, H a = some (.lst vs) ∧ DvAll K G vs items) :
    WalkJ K G0 (Ite K a) src (items.mapIdx fun (k : Nat) d => D.tup [.int (k : Int), d]) where
  go := fun G M H i o sg sm hi => by
    obtain ⟨vs, h, t⟩ := hs G M H o sg sm
    rw [List.length_mapIdx] at hi
    have : i < vs.length := by rw [t.length]; exact hi
    exact ⟨vs, vs[i], SqL.of h, by simp [this]⟩
  stop := fun G M H i o sg sm hi => by
    obtain ⟨vs, h, t⟩ := hs G M H o sg sm
    rw [List.length_mapIdx] at hi
    exact ⟨vs, SqL.of h, by rw [t.length, hi]; exact Nat.le_refl _⟩
  yld := fun G M H i x H' o sg sm hi y => by
    obtain ⟨vs, h, t⟩ := hs G M H o sg sm
    obtain ⟨T, x1, rfl, hT, rfl, y⟩ := y
    obtain ⟨d, h1, h2⟩ := t.get' (y vs (SqL.of h))
    refine ⟨.tup [.int (i : Int), d], _, ?_, (Step.refl o).allocG hT, .tup (SqT.of upd_same) (.cons (.int _) (.one (h2.mono (sub_upd (o.noG hT)))))⟩
    rw [List.getElem?_mapIdx, h1]; rfl
theorem si_enum {e : Expr} {ie : E} {elts : List Expr} {kk : Nat} {tpos : Pos} (hg : Gl X "enumerate") (hm : X.mg "enumerate" = none) (he : SE Φ γ X W e ie) (hs : starEach [e] X.env = [(false, eval e X.env)]) :
    SI Φ γ X W (.Tuple elts kk tpos) (.Call (.Name "enumerate" p) [e] [] pos) (.enum ie) := by
  obtain ⟨t1, p1, r1⟩ := he
  refine ⟨_, pi_enum hg hm (pa_cons p1 pa_nil hs) hs, fun σ δ G M H R Qd Zd ok er hq hz h => ?_⟩
  unfold evalI at h
  show t1 σ H _
  refine run_e r1 ok er hz h fun r M1 v G1 H1 q s1 dv => ?_
  obtain ⟨items, e1, q⟩ := q
  have go := hq _ _ _ q
  cases hd : r.toD with
  | lst ds =>
    rw [hd] at e1 dv go
    have e1' : D.lst ds = .lst items := e1
    cases e1'
    cases dv with
    | lst h1 t1 =>
      exact ⟨_, _, rfl, SqL.of (s1.ok.sub _ _ h1), go _ G1 H1 s1 (walk_enum fun G2 M2 H2 o2 sg _ => ⟨_, o2.sub _ _ (sg _ _ h1), t1.mono sg⟩)⟩
  | obj a =>
    rw [hd] at e1 dv go
    cases dv
    have look : ∀ M2, view M2 (.obj a) = .lst items → M2 a = some (.lst items) := fun M2 e => by
      unfold view at e
      split at e
      · rename_i p ez
        cases ez
        split at e
        · rename_i ds e3
          cases e
          exact e3
        · cases e
      · rename_i hno; exact absurd rfl (hno a)
    obtain ⟨vs, h1, t1⟩ := s1.ok.mok a _ (look M1 e1)
    exact ⟨_, _, rfl, SqL.of h1, go _ G1 H1 s1 (walk_enum fun G2 M2 H2 o2 sg sm => o2.mok a _ (look M2 sm))⟩
  | tup ds => rw [hd] at e1; cases e1
  | str ds => rw [hd] at e1; cases e1
  | non => rw [hd] at e1; cases e1
  | bl b => rw [hd] at e1; cases e1
  | int i => rw [hd] at e1; cases e1
  | dct kvs => rw [hd] at e1; cases e1
  | ty n => rw [hd] at e1; cases e1
  | _ => rw [hd] at e1; cases e1
theorem si_rng1 {e : Expr} {ie : E} (hg : Gl X "range") (hm : X.mg "range" = none) (he : SE Φ γ X W e ie) (hs : starEach [e] X.env = [(false, eval e X.env)]) : SI Φ γ X W tg (.Call (.Name "range" p) [e] [] pos) (.rng1 ie) := by
  obtain ⟨t1, p1, r1⟩ := he
  refine ⟨_, pi_range1 hg hm (pa_cons p1 pa_nil hs) hs, fun σ δ G M H R Qd Zd ok er hq hz h => ?_⟩
  unfold evalI at h
  show t1 σ H _
  refine run_e r1 ok er hz h fun r M1 v G1 H1 q s1 dv => ?_
  obtain ⟨i, e1, b1, b2, q⟩ := q
  rw [e1] at dv
  cases dv
  refine ⟨i, rfl, b2, b1, hq _ _ _ q _ G1 H1 s1 ?_⟩
  have z := walk_rng (K := X.K) (G0 := G1) (lo := 0) (n := i.toNat) (src := fun _ => True)
  simpa using z
theorem si_rng2 {e e2 : Expr} {ie ie2 : E} (hg : Gl X "range") (hm : X.mg "range" = none) (he : SE Φ γ X W e ie) (he2 : SE Φ γ X W e2 ie2) (hs : starEach [e, e2] X.env = [(false, eval e X.env), (false, eval e2 X.env)]) (hs2 : starEach [e2] X.env = [(false, eval e2 X.env)]) :
    SI Φ γ X W tg (.Call (.Name "range" p) [e, e2] [] pos) (.rng2 ie ie2) := by
  obtain ⟨t1, p1, r1⟩ := he
  obtain ⟨t2, p2, r2⟩ := he2
  refine ⟨_, pi_range2 hg hm (pa_cons p1 (pa_cons p2 pa_nil hs2) (by rw [hs, hs2])) hs hs2, fun σ δ G M H R Qd Zd ok er hq hz h => ?_⟩
  unfold evalI at h
  show t1 σ H _
  refine run_e r1 ok er hz h fun r M1 v G1 H1 q s1 dv => ?_
  show t2 σ H1 _
  refine run_e r2 s1.ok (er.mono s1.sub) (px_after s1 hz) q fun r2 M2 v2 G2 H2 q2 s2 dv2 => ?_
  obtain ⟨i, j, e1, e2, b1, b2, b3, b4, q⟩ := q2
  rw [e1] at dv
  rw [e2] at dv2
  cases dv
  cases dv2
  exact ⟨i, j, rfl, ⟨b1, b2, b3, b4⟩, hq _ _ _ q _ G2 H2 (s1.trans s2) walk_rng⟩
theorem walk_rngC {K : PySem.W.Frag} {G0 : Hp} {lo c : Int} {n : Nat} {src : MS → Prop} : WalkJ K G0 (Itc lo c n) src ((List.range n).map fun (k : Nat) => D.int (lo + (k : Nat) * c)) where
  go := fun G M H i o sg sm hi => by
    have : i < n := by simpa using hi
    exact this
  stop := fun G M H i o sg sm hi => by
    have : n ≤ i := by rw [hi]; simp
    exact this
  yld := fun G M H i x H' o sg sm hi y => by
    obtain ⟨rfl, rfl⟩ := y
    have hi' : i < n := by simpa using hi
    exact ⟨.int (lo + (i : Nat) * c), G, by simp [hi'], Step.refl o, .int _⟩
theorem si_rng3 {e e2 e3 : Expr} {ie ie2 ie3 : E} (hg : Gl X "range") (hm : X.mg "range" = none) (he : SE Φ γ X W e ie) (he2 : SE Φ γ X W e2 ie2) (he3 : SE Φ γ X W e3 ie3)
    (hs : starEach [e, e2, e3] X.env = (false, eval e X.env) :: starEach [e2, e3] X.env) (hs1 : starEach [e2, e3] X.env = (false, eval e2 X.env) :: starEach [e3] X.env) (hs2 : starEach [e3] X.env = [(false, eval e3 X.env)]) :
    SI Φ γ X W tg (.Call (.Name "range" p) [e, e2, e3] [] pos) (.rng3 ie ie2 ie3) := by
  obtain ⟨t1, p1, r1⟩ := he
  obtain ⟨t2, p2, r2⟩ := he2
  obtain ⟨t3, p3, r3⟩ := he3
  refine ⟨_, pi_range3 hg hm (pa_cons p1 (pa_cons p2 (pa_cons p3 pa_nil hs2) (by rw [hs1])) (by rw [hs])) (by rw [hs]) (by rw [hs1, hs2]; rfl), fun σ δ G M H R Qd Zd ok er hq hz h => ?_⟩
  unfold evalI at h
  show t1 σ H _
  refine run_e r1 ok er hz h fun r M1 v G1 H1 q s1 dv => ?_
  show t2 σ H1 _
  refine run_e r2 s1.ok (er.mono s1.sub) (px_after s1 hz) q fun r2 M2 v2 G2 H2 q2 s2 dv2 => ?_
  show t3 σ H2 _
  refine run_e r3 s2.ok ((er.mono s1.sub).mono s2.sub) (px_after (s1.trans s2) hz) q2 fun r3 M3 v3 G3 H3 q3 s3 dv3 => ?_
  obtain ⟨i, j, k, n, e1, e2, e3, b1, q⟩ := q3
  rw [e1] at dv
  rw [e2] at dv2
  rw [e3] at dv3
  cases dv
  cases dv2
  cases dv3
  exact ⟨i, j, k, n, rfl, b1, hq _ _ _ q _ G3 H3 ((s1.trans s2).trans s3) walk_rngC⟩
end
end DL
set_option maxRecDepth 100000
set_option maxHeartbeats 2000000
namespace DL
open PySem L2
/-! ### slots forgotten -/
theorem wipe_get (σ : L2.St) (j : Nat) : ∀ vs : List Nat, (L2.wipe σ vs)[j]? = if j ∈ vs then (σ[j]?).map (fun _ => none) else σ[j]?
  | [] => by simp [L2.wipe]
  | v :: vs => by
    unfold L2.wipe
    by_cases h : v = j
    · subst h
      rw [List.getElem?_set_self']
      rw [wipe_get σ v vs]
      by_cases hv : v ∈ vs
      · simp [hv]
        cases σ[v]? <;> rfl
      · simp [hv]
        cases σ[v]? <;> rfl
    · rw [List.getElem?_set_ne h, wipe_get σ j vs]
      have : j ≠ v := fun e => h e.symm
      simp [this]
theorem wipe_set {σ : L2.St} {i : Nat} {v : Option V} {vs : List Nat} (h : i ∈ vs) : L2.wipe (σ.set i v) vs = L2.wipe σ vs := by
  apply List.ext_getElem?
  intro j
  rw [wipe_get, wipe_get]
  by_cases hj : j ∈ vs
  · simp only [hj, if_true]
    by_cases e : i = j
    · subst e
      rw [List.getElem?_set_self']
      cases σ[i]? <;> rfl
    · rw [List.getElem?_set_ne e]
  · have e : i ≠ j := fun e => hj (e ▸ h)
    simp only [hj, if_false]
    rw [List.getElem?_set_ne e]
theorem wipe_wipe {σ : L2.St} {vs : List Nat} : L2.wipe (L2.wipe σ vs) vs = L2.wipe σ vs := by
  apply List.ext_getElem?
  intro j
  rw [wipe_get, wipe_get]
  by_cases hj : j ∈ vs
  · simp only [hj, if_true]
    cases σ[j]? <;> rfl
  · simp only [hj, if_false]
/-! ### targets -/
def gNames : List Nat → TGs
  | [] => gNil
  | i :: is => gCons (gName i) (gNames is)
def gT (K : PySem.W.Frag) : List Nat → Bool → TG
  | is, false => fun v σ H Q => gTup K is.length (gNames is) v σ H Q ∨ gUnl K is.length (gNames is) v σ H Q
  | [i], true => gName i
  | [i, j, k], true => gTup K 2 (gCons (gTup K 2 (gNames [i, j])) (gCons (gName k) gNil))
  | _, true => fun _ _ _ _ => False
section
variable {K : PySem.W.Frag} {G : Hp} {M : MS} {H : Hp}
theorem gNames_ok {Q : L2.St → Hp → Prop} : ∀ {is : List Nat} {xs : List V} {ds : List D} {σ : L2.St} {δ : DEnv}, is.length = ds.length → DvAll K G xs ds → ER K G σ δ →
    (∀ σ', ER K G σ' ((is.zip ds).foldl (fun δ p => δ.set p.1 (some p.2)) δ) → (∀ vs : List Nat, (∀ i ∈ is, i ∈ vs) → L2.wipe σ' vs = L2.wipe σ vs) → Q σ' H) → gNames is xs σ H Q
  | [], _, [], σ, δ, _, .nil, er, k => ⟨rfl, k σ er fun _ _ => rfl⟩
  | i :: is, _, d :: ds, σ, δ, l, .cons (v := v) (vs := vs) h t, er, k => by
    refine ⟨v, vs, rfl, ?_⟩
    refine gNames_ok (by simpa using l) t (er.set i h) fun σ' er' hw => ?_
    refine k σ' er' fun ws hi => ?_
    rw [hw ws fun j hj => hi j (List.mem_cons_of_mem _ hj)]
    exact wipe_set (hi i List.mem_cons_self)
  | [], _, _ :: _, _, _, l, _, _, _ => by simp at l
  | _ :: _, _, [], _, _, l, _, _, _ => by simp at l
theorem gT_ok {is : List Nat} {one : Bool} {v : V} {d : D} {σ : L2.St} {δ δ' : DEnv} {Q : L2.St → Hp → Prop} (o : OkS K G M H) (er : ER K G σ δ) (dv : Dv K G v d) (e : bindT δ is one d = some δ')
    (k : ∀ σ', ER K G σ' δ' → (∀ vs : List Nat, (∀ i ∈ is, i ∈ vs) → L2.wipe σ' vs = L2.wipe σ vs) → Q σ' H) : gT K is one v σ H Q := by
  unfold bindT at e
  split at e
  · rename_i i
    cases e
    exact k _ (er.set i dv) fun vs hi => wipe_set (hi i (by simp))
  · rename_i i j l da db dc
    cases e
    cases dv with
    | tup h t =>
      cases t with
      | cons h1 t =>
        cases t with
        | cons h3 t =>
          cases t
          cases h1 with
          | tup h4 t4 =>
            cases t4 with
            | cons h5 t5 =>
              cases t5 with
              | cons h6 t6 =>
                cases t6
                refine ⟨_, _, rfl, o.sub.sqT h, rfl, _, _, rfl, ⟨_, _, rfl, o.sub.sqT h4, rfl, _, _, rfl, _, _, rfl, rfl, _, _, rfl, rfl, ?_⟩⟩
                refine k _ (((er.set i h5).set j h6).set l h3) fun vs hi => ?_
                rw [wipe_set (hi l (by simp)), wipe_set (hi j (by simp)), wipe_set (hi i (by simp))]
  · rename_i ds
    split at e
    · rename_i hl
      cases e
      cases dv with
      | tup h t =>
        exact .inl ⟨_, _, rfl, o.sub.sqT h, by rw [t.length]; exact hl.symm, gNames_ok hl t er k⟩
    · cases e
  · rename_i ds
    split at e
    · rename_i hl
      cases e
      cases dv with
      | lst h t =>
        exact .inr ⟨_, _, rfl, SqL.of (o.sub _ _ h), by rw [t.length]; exact hl.symm, gNames_ok hl t er k⟩
    · cases e
  · cases e
end
/-! ### one reading for all contexts -/
section
variable (Φ : Fns) (γ : List D) (K : PySem.W.Frag) (W : WX)
def tDE (ir : E) : TE := fun σ H Q => ∃ (δ : DEnv) (G : Hp) (M : MS) (Qd : KR) (Zd : KX), OkS K G M H ∧ ER K G σ δ ∧ (∀ r M', Qd r M' → PostV K G M H Q r M') ∧ (∀ x M', Zd x M' → PostX K G M H W σ x M') ∧ evalE Φ γ ir δ M Qd Zd
def tDT (ir : T) : TT := fun σ H Q => ∃ (δ : DEnv) (G : Hp) (M : MS) (Qd : Bool → MS → Prop) (Zd : KX), OkS K G M H ∧ ER K G σ δ ∧ (∀ b M', Qd b M' → ∀ G' H', Step K G M H G' M' H' → Q b H') ∧ (∀ x M', Zd x M' → PostX K G M H W σ x M') ∧ evalT Φ γ ir δ M Qd Zd
end
section
variable {Φ : Fns} {γ : List D} {X : Cx} {W : WX}
theorem SE.pe {e : Expr} {ir : E} (h : SE Φ γ X W e ir) : PE X e (tDE Φ γ X.K W ir) :=
  let ⟨_, p, r⟩ := h
  ⟨fun pins s σ H Q I ⟨δ, G, M, Qd, Zd, ok, er, hq, hz, hv⟩ => p.run pins s σ H Q I (r σ δ G M H Q Qd Zd ok er hq hz hv)⟩
/-- the tests of a comprehension -/
def SC (Φ : Fns) (γ : List D) (X : Cx) (W : WX) (ifs : List Expr) (ir : T) : Prop := PTs X ifs (tDT Φ γ X.K W ir)
theorem sc_nil : SC Φ γ X W [] .yes := by
  refine ⟨fun pins s σ H Q I h => ?_⟩
  obtain ⟨δ, G, M, Qd, Zd, ok, er, hq, hz, hv⟩ := h
  unfold evalT at hv
  exact pts_nil.run pins s σ H Q I (hq _ _ hv G H (Step.refl ok))
theorem sc_one {c : Expr} {ir : T} (h : ST Φ γ X W c ir) : SC Φ γ X W [c] ir := by
  obtain ⟨tt, p, r⟩ := h
  refine ⟨fun pins s σ H Q I h => ?_⟩
  obtain ⟨δ, G, M, Qd, Zd, ok, er, hq, hz, hv⟩ := h
  exact (pts_one p).run pins s σ H Q I (r σ δ G M H Q Qd Zd ok er hq hz hv)
abbrev W0 : WX := fun _ _ _ _ => False
theorem comp_read {own : List (Str × Nat)} {ie : E} {it : I} {cond : T} {is : List Nat} {one : Bool} {wi : TI}
    (ri : ∀ (σ : L2.St) (δ : DEnv) (G : Hp) (M : MS) (H : Hp) (R : It → Hp → Prop) (Qd : (MS → Prop) → List D → MS → Prop) (Zd : KX), OkS X.K G M H → ER X.K G σ δ →
      (∀ src items M1, Qd src items M1 → ∀ J G1 H1, Step X.K G M H G1 M1 H1 → WalkJ X.K G1 J src items → R J H1) → (∀ x M', Zd x M' → PostX X.K G M H W σ x M') → evalI Φ γ it δ M Qd Zd → wi σ H R)
    (hown : ∀ i ∈ is, i ∈ own.map (·.2)) (σ : L2.St) (δ : DEnv) (G : Hp) (M : MS) (H : Hp) (Q : VK) (Qd : KR) (Zd : KX) (okS : OkS X.K G M H) (er : ER X.K G σ δ)
    (hq : ∀ r M', Qd r M' → PostV X.K G M H Q r M') (hz : ∀ x M', Zd x M' → PostX X.K G M H W σ x M') (h : evalE Φ γ (.comp ie is one (own.map (·.2)) it cond) δ M Qd Zd) :
    tLc wi (gT X.K is one) (tDT Φ γ X.K W0 cond) (tDE Φ γ X.K W0 ie) (own.map (·.2)) σ H Q := by
  unfold evalE at h
  refine ri σ δ G M H _ _ Zd okS er (fun src items M1 q J G1 H1 s1 wj => ?_) hz h
  intro D hD
  generalize hstep : (fun (d : DL.D) (acc : List DL.D) (M2 : MS) (k : List DL.D → MS → Prop) => ∃ δ', bindT (wipeD δ (own.map (·.2))) is one d = some δ' ∧ evalT Φ γ cond δ' M2 (fun b M3 =>
        if b = true then evalE Φ γ ie δ' M3 (fun r M4 => k (acc ++ [r.toD]) M4) (fun _ _ => False) else k acc M3) (fun _ _ => False)) = step at q
  refine ⟨fun i m H2 => m = items.length - i ∧ i ≤ items.length ∧ ∃ (G2 : Hp) (M2 : MS) (acc : List DL.D) (vs : List V), Step X.K G M H G2 M2 H2 ∧ Sub G1 G2 ∧ H2 D = some (.lst vs) ∧ DvAll X.K G2 vs acc ∧ G2 D = none ∧ M2 D = none ∧
      compLoop src step (items.drop i) acc M2 fun acc M5 => Qd (.new acc) M5,
    ⟨items.length, by simp, Nat.zero_le _, G1, M1, [], [], s1.alloc hD, Sub.refl G1, upd_same, .nil, s1.ok.noG hD, s1.ok.noM hD, by simpa using q⟩, ?_⟩
  rintro i m H2 ⟨rfl, hi, G2, M2, acc, vs, s2, sg, hd, t, gd, md, lp⟩
  by_cases hlt : i < items.length
  · rw [List.drop_eq_getElem_cons hlt] at lp
    unfold compLoop at lp
    obtain ⟨sm, hz2, lp⟩ := lp
    refine .inr ⟨wj.go G2 M2 H2 i s2.ok sg sm hlt, fun H' => ∃ (G3 : Hp) (M3 : MS) (acc' : List DL.D) (vs' : List V), Step X.K G M H G3 M3 H' ∧ Sub G1 G3 ∧ H' D = some (.lst vs') ∧ DvAll X.K G3 vs' acc' ∧ G3 D = none ∧ M3 D = none ∧
      compLoop src step (items.drop (i + 1)) acc' M3 fun acc M5 => Qd (.new acc) M5, fun H' hH => ⟨items.length - (i + 1), by omega, rfl, hlt, hH⟩, fun x H3 y => ?_⟩
    obtain ⟨d, G3, ed, s3, dx⟩ := wj.yld G2 M2 H2 i x H3 s2.ok sg sm hlt y
    have ed' : items[i] = d := by
      have := List.getElem?_eq_getElem hlt
      rw [this] at ed
      exact Option.some.inj ed
    rw [ed'] at lp
    rw [← hstep] at lp
    obtain ⟨δ', hb, lp⟩ := lp
    have hd3 : H3 D = some (.lst vs) := s3.keep D _ hd md
    have gd3 : G3 D = none := by
      cases e : G3 D with
      | none => rfl
      | some u =>
        have := s3.newG D u gd e md
        rw [hd] at this; cases this
    have er3 : ER X.K G3 (L2.wipe σ (own.map (·.2))) (wipeD δ (own.map (·.2))) := (er.mono (s2.sub.trans s3.sub)).wipe _
    refine gT_ok s3.ok er3 dx hb fun σ' er' hw => ?_
    refine ⟨(hw _ hown).trans wipe_wipe, ?_⟩
    refine ⟨δ', G3, M2, _, _, s3.ok, er', fun b M4 q4 G4 H4 s4 => ?_, fun _ _ z => z.elim, lp⟩
    have hd4 : H4 D = some (.lst vs) := s4.keep D _ hd3 md
    have md4 : M4 D = none := s4.noM hd3 md
    have gd4 : G4 D = none := by
      cases e : G4 D with
      | none => rfl
      | some u =>
        have := s4.newG D u gd3 e md
        rw [hd3] at this; cases this
    cases b with
    | false =>
      simp only [Bool.false_eq_true, if_false] at q4 ⊢
      exact ⟨G4, M4, acc, vs, (s2.trans s3).trans s4, (sg.trans s3.sub).trans s4.sub, hd4, t.mono (s3.sub.trans s4.sub), gd4, md4, by rw [hstep] at q4; exact q4⟩
    | true =>
      simp only [if_true] at q4 ⊢
      refine ⟨δ', G4, M4, _, _, s4.ok, er'.mono s4.sub, fun r M5 q5 v G5 H5 s5 rv => ?_, fun _ _ z => z.elim, q4⟩
      obtain ⟨G6, s6, dv⟩ := rv.adopt s5
      have hd6 : H5 D = some (.lst vs) := s6.keep D _ hd4 md4
      have md6 : M5 D = none := s6.noM hd4 md4
      have gd6 : G6 D = none := by
        cases e : G6 D with
        | none => rfl
        | some u =>
          have := s6.newG D u gd4 e md4
          rw [hd4] at this; cases this
      have sAll := ((s2.trans s3).trans s4).trans s6
      have tl := t.length
      refine ⟨vs, hd6, by omega, G6, M5, acc ++ [r.toD], vs ++ [v], ?_, ((sg.trans s3.sub).trans s4.sub).trans s6.sub, upd_same, (t.mono ((s3.sub.trans s4.sub).trans s6.sub)).snoc dv, gd6, md6, by rw [hstep] at q5; exact q5⟩
      have hD0 : H D = none := s1.dom D hD
      exact ⟨⟨fun a u e => by rw [upd_ne (fun z => by rw [z, gd6] at e; cases e)]; exact sAll.ok.sub a u e, sAll.ok.dis, fun a mo e => by
          have ha : a ≠ D := fun z => by rw [z, md6] at e; cases e
          exact (sAll.ok.mok a mo e).at_ (upd_ne ha)⟩, sAll.sub, fun a u e hm => by
          have ha : a ≠ D := fun z => by rw [z, hD0] at e; cases e
          rw [upd_ne ha]; exact sAll.keep a u e hm, sAll.newM, fun a e => by
          by_cases ha : a = D
          · rw [ha]; exact hD0
          · rw [upd_ne ha] at e; exact sAll.dom a e, sAll.newG⟩
  · have e : i = items.length := by omega
    subst e
    rw [List.drop_eq_nil_of_le (Nat.le_refl _)] at lp
    unfold compLoop at lp
    exact .inl ⟨wj.stop G2 M2 H2 _ s2.ok sg lp.1 rfl, hq _ _ lp.2 (.ref D) G2 H2 s2 ⟨D, vs, rfl, s1.dom D hD, hd, gd, md, t⟩⟩
theorem se_comp {elt tg iter : Expr} {ifs : List Expr} {scope : Scope} {own : List (Str × Nat)} {pos : Pos} {ie : E} {it : I} {cond : T} {is : List Nat} {one : Bool} (hc : X.calm = true) (hN : X.N.Nodup) (hi : SI Φ γ X W tg iter it)
    (ok : BlkOk X.N X.env.scope scope own)
    (hg : ∀ (s : Shared) (H : Hp) (C : Addr) (cl : List (Str × Addr)) (fp : List Addr), PG (X.blk s H scope (compEnvC scope cl C X.env) fp) tg (gT X.K is one))
    (ht : ∀ (s : Shared) (H : Hp) (C : Addr) (cl : List (Str × Addr)) (fp : List Addr), SC Φ γ (X.blk s H scope (compEnvC scope cl C X.env) fp) W0 ifs cond)
    (he : ∀ (s : Shared) (H : Hp) (C : Addr) (cl : List (Str × Addr)) (fp : List Addr), SE Φ γ (X.blk s H scope (compEnvC scope cl C X.env) fp) W0 elt ie)
    (hs : ∀ x, foldedSetIterable iter X.env x = pure x) (hown : ∀ i ∈ is, i ∈ own.map (·.2)) :
    SE Φ γ X W (.ListComp elt [⟨tg, iter, ifs, 0⟩] scope pos) (.comp ie is one (own.map (·.2)) it cond) := by
  obtain ⟨wi, pi, ri⟩ := hi
  exact ⟨_, pe_lc (te := tDE Φ γ X.K W0 ie) (tt := tDT Φ γ X.K W0 cond) hc hN pi ok hg ht (fun s H C cl fp => (he s H C cl fp).pe) hs, comp_read ri hown⟩
end
end DL
set_option maxRecDepth 100000
set_option maxHeartbeats 2000000
/-! # values seen through lists that are changed -/
namespace DL
open PySem L2
section
variable (K : PySem.W.Frag) (G H : Hp)
mutual
inductive Vx : V → D → Prop
  | flat {v d} : Dv K G v d → Vx v d
  | lst {a xs ds} : H a = some (.lst xs) → VxAll xs ds → Vx (.ref a) (.lst ds)
  | tup {a xs ds} : SqT K G a xs → VxAll xs ds → Vx (.ref a) (.tup ds)
inductive VxAll : List V → List D → Prop
  | nil : VxAll [] []
  | cons {v vs d ds} : Vx v d → VxAll vs ds → VxAll (v :: vs) (d :: ds)
end
end
section
variable {K : PySem.W.Frag} {G : Hp} {M : MS} {H : Hp}
theorem vx_all (f : D → D) (h : ∀ v d, Dv K G v d → Vx K G H v (f d)) : ∀ {vs : List V} {ds : List D}, DvAll K G vs ds → VxAll K G H vs (ds.map f)
  | _, _, .nil => .nil
  | _, _, .cons r t => .cons (h _ _ r) (vx_all f h t)
theorem deep_vx (o : OkS K G M H) : ∀ (n : Nat) (v : V) (d : D), Dv K G v d → Vx K G H v (deepV M n d)
  | 0, v, d, h => .flat h
  | n + 1, v, d, h => by
    have ih := deep_vx o n
    have vw := h.vw o
    unfold deepV
    split
    · rename_i xs e
      rw [e] at vw
      cases vw with
      | lst h1 t => exact .lst h1 (vx_all _ ih t)
    · rename_i xs e
      rw [e] at vw
      cases vw with
      | tup h1 t => exact .tup h1 (vx_all _ ih t)
    · rename_i e1 e2
      have e : view M d = d := by
        cases d with
        | obj a =>
          cases em : M a with
          | none => simp [view, em]
          | some mo =>
            cases mo with
            | bag => simp [view, em]
            | ins C fs => simp [view, em]
            | lst ds => exact absurd (by simp [view, em]) (e1 ds)
        | _ => rfl
      rw [e]
      exact .flat h
mutual
theorem Vx.dp (o : Sub G H) : ∀ {v : V} {d : D}, Vx K G H v d → isP d = true → (toP d).canLay0 = true → Dp K H v (toP d)
  | _, _, .flat h, p, c => h.dp o p c
  | _, _, .lst h t, p, c => by
    have p' : isPs _ = true := p
    unfold toP at c ⊢
    exact .lst (SqL.of h) (VxAll.dp o t p' (by simpa [PyData.canLay0] using c))
  | _, _, .tup h t, p, c => by
    have p' : isPs _ = true := p
    unfold toP at c ⊢
    exact .tup (o.sqT h) (VxAll.dp o t p' (by simpa [PyData.canLay0] using c))
theorem VxAll.dp (o : Sub G H) : ∀ {vs : List V} {ds : List D}, VxAll K G H vs ds → isPs ds = true → PyData.canLayAll0 (toPs ds) = true → DpAll K H vs (toPs ds)
  | _, _, .nil, _, _ => .nil
  | _, _, .cons h t, p, c => by
    unfold isPs at p
    simp only [Bool.and_eq_true] at p
    unfold toPs at c ⊢
    simp only [PyData.canLayAll0, Bool.and_eq_true] at c
    exact .cons (Vx.dp o h p.1 c.1) (VxAll.dp o t p.2 c.2)
end
section
variable {X : Cx} {pins : List (Addr × Obj)} {σ : L2.St} {s : Shared}
mutual
theorem Vx.reads (I : Inv X pins σ H s) (o : Sub G H) (sm : H sysModules = none) : ∀ {v : V} {d : D}, Vx X.K G H v d → isP d = true → ∀ u, RelV v u → ∃ as, Reads s.heap u (toP d) as ∧ sysModules ∉ as
  | _, _, .flat h, p, u, r => h.reads I o sm p u r
  | _, _, .lst h t, p, u, r => by
    cases r
    obtain ⟨its, rv, ⟨ob, n, ho, hc, _, hd⟩, _⟩ := I.list (SqL.of h)
    obtain ⟨as, hr, hn⟩ := VxAll.reads I o sm t p its rv
    refine ⟨_, .list ho hc hd hr, ?_⟩
    simp only [List.mem_cons, not_or]
    exact ⟨fun e => (by rw [← e, sm] at h; cases h), hn⟩
  | _, _, .tup h t, p, u, r => by
    cases r
    obtain ⟨its, rv, ⟨ob, ho, hc, n, hd⟩, _⟩ := I.tuple (o.sqT h)
    obtain ⟨as, hr, hn⟩ := VxAll.reads I o sm t p its rv
    exact ⟨_, .tuple ho hc hd hr, hn⟩
theorem VxAll.reads (I : Inv X pins σ H s) (o : Sub G H) (sm : H sysModules = none) : ∀ {vs : List V} {ds : List D}, VxAll X.K G H vs ds → isPs ds = true → ∀ us, Vals vs us → ∃ as, ReadsAll s.heap us (toPs ds) as ∧ sysModules ∉ as
  | _, _, .nil, _, us, r => by cases r; exact ⟨[], .nil, by simp⟩
  | _, _, .cons h t, p, us, r => by
    cases r with
    | cons r1 r2 =>
      unfold isPs at p
      simp only [Bool.and_eq_true] at p
      obtain ⟨as, h1, n1⟩ := Vx.reads I o sm h p.1 _ r1
      obtain ⟨bs, h2, n2⟩ := VxAll.reads I o sm t p.2 _ r2
      exact ⟨as ++ bs, .cons h1 h2, by simp only [List.mem_append, not_or]; exact ⟨n1, n2⟩⟩
end
end
end
/-! ### == and repr through them -/
section
variable {Φ : Fns} {γ : List D} {X : Cx} {W : WX} {a b : Expr} {ia ib : E} {pos p : Pos}
theorem eqS_px {K : PySem.W.Frag} {G : Hp} {H : Hp} {x y : V} {xd yd : D} {k : Bool} (o : Sub G H) (hx : Vx K G H x xd) (hy : Vx K G H y yd) (e : eqS xd yd = some k) :
    Dp K H x (toP xd) ∧ Dp K H y (toP yd) ∧ SeqAt.shaped (toP xd) = true ∧ SeqAt.shaped (toP yd) = true ∧ k = PyData.eqv (toP xd) (toP yd) := by
  unfold eqS at e
  split at e
  · rename_i h
    obtain ⟨h1, h2, h3, h4⟩ := h
    cases e
    exact ⟨hx.dp o h1 (SeqAt.canLay_of_shaped h3), hy.dp o h2 (SeqAt.canLay_of_shaped h4), h3, h4, rfl⟩
  · cases e
theorem reprd_call (c : Cal X) : CallR X (.builtin "repr") (fun xs H Q => ∃ (G : Hp) (M : MS) (x : V) (d : D), xs = [x] ∧ OkS X.K G M H ∧ Vx X.K G H x d ∧ isP d = true ∧ (toP d).showable = true ∧ (toP d).shown.length ≤ sizeLine ∧ (toP d).depth ≤ 60 ∧ Q (.str (toP d).shown) H) := by
  intro pins s σ H xs us Q I rs h
  obtain ⟨G, M, x, d, rfl, o, h, p, sh, sz, dp, q⟩ := h
  obtain ⟨u, rfl, ru⟩ := vals1 rs
  obtain ⟨as, hr, hn⟩ := h.reads I o.sub (c.noSys I) p u ru
  have hu := c.hu
  have deep : ∀ a, u = .ref a → wpAny (model X.prog X.w) X.A (call (.builtin "repr") [u]) (EP X pins σ Q) X.xe s := fun a e => by
    subst e
    refine PySem.repr_of_reads' hr sh (fun _ => hn) c.gd (by omega) (fun _ _ e => e) (fun h' t tk hk => ?_) sz
    exact ⟨.str _, H, I.kept (t' := tk) hk, ⟨_, rfl⟩, q⟩
  cases h with
  | flat h => exact repr_ok c I o (by cases h with
      | lst h t => exact .lst (o.sub _ _ h) t
      | tup h t => exact .tup h t
      | non => exact .non
      | bl b => exact .bl b
      | int i => exact .int i
      | str x => exact .str x
      | dct h l t => exact .dct h l t
      | obj a => exact .obj a
      | ty n => exact .ty n
      | scr h l => exact .scr h l
      | ins n1 h1 q1 g1 t1 => exact .ins (.ins n1 h1 q1 g1 t1)
      | dcT h1 l1 t1 => exact .dcT (.dcT h1 l1 t1)
      | exc h1 l1 t1 => exact .exc (.exc h1 l1 t1)
      | excN => exact .exc .excN) p sh sz dp ru q
  | lst h t => cases ru; exact deep _ rfl
  | tup h t => cases ru; exact deep _ rfl
end
end DL
set_option maxRecDepth 100000
set_option maxHeartbeats 2000000
/-! # the same data is equal, whatever stands in it -/
namespace DL
open PySem L2
theorem depthAll_mem : ∀ {xs : List D} {x : D}, x ∈ xs → (toP x).depth ≤ PyData.depthAll (toPs xs)
  | y :: ys, x, h => by
    simp only [toPs, PyData.depthAll]
    rcases List.mem_cons.mp h with rfl | h
    · exact Nat.le_max_left _ _
    · exact Nat.le_trans (depthAll_mem h) (Nat.le_max_right _ _)
theorem depthKv_mem : ∀ {ks : List Key} {ds : List D} {d : D}, ks.length = ds.length → d ∈ ds → (toP d).depth ≤ PyData.depthKv (toPk (List.zip ks ds))
  | [], [], _, _, h => by cases h
  | [], _ :: _, _, l, _ => by simp at l
  | _ :: _, [], _, l, _ => by simp at l
  | k :: ks, y :: ys, d, l, h => by
    simp only [List.zip_cons_cons, toPk, PyData.depthKv]
    rcases List.mem_cons.mp h with rfl | h
    · exact Nat.le_trans (Nat.le_max_right _ _) (Nat.le_max_left _ _)
    · exact Nat.le_trans (depthKv_mem (by simpa using l) h) (Nat.le_max_right _ _)
theorem isPs_mem0 : ∀ {xs : List D}, isPs xs = true → ∀ x ∈ xs, isP x = true
  | y :: ys, h, x, hx => by
    unfold isPs at h
    simp only [Bool.and_eq_true] at h
    rcases List.mem_cons.mp hx with rfl | hx
    · exact h.1
    · exact isPs_mem0 h.2 x hx
theorem isPk_zip0 : ∀ {ks : List Key} {ds : List D}, ks.length = ds.length → isPk (List.zip ks ds) = true → ∀ d ∈ ds, isP d = true
  | [], [], _, _, _, h => by cases h
  | [], _ :: _, l, _, _, _ => by simp at l
  | _ :: _, [], l, _, _, _ => by simp at l
  | k :: ks, y :: ys, l, h, d, hd => by
    simp only [List.zip_cons_cons, isPk, Bool.and_eq_true] at h
    rcases List.mem_cons.mp hd with rfl | hd
    · exact h.1
    · exact isPk_zip0 (by simpa using l) h.2 d hd
section
variable {K : PySem.W.Frag} {G H : Hp}
theorem vx_flat : ∀ {vs : List V} {ds : List D}, DvAll K G vs ds → VxAll K G H vs ds
  | _, _, .nil => .nil
  | _, _, .cons h t => .cons (.flat h) (vx_flat t)
theorem Vx.lst_inv (o : Sub G H) {x : V} {ds : List D} (h : Vx K G H x (.lst ds)) : ∃ a xs, x = .ref a ∧ H a = some (.lst xs) ∧ VxAll K G H xs ds := by
  cases h with
  | flat h => cases h with | lst h t => exact ⟨_, _, rfl, o _ _ h, vx_flat t⟩
  | lst h t => exact ⟨_, _, rfl, h, t⟩
theorem Vx.tup_inv (o : Sub G H) {x : V} {ds : List D} (h : Vx K G H x (.tup ds)) : ∃ a xs, x = .ref a ∧ SqT K H a xs ∧ VxAll K G H xs ds := by
  cases h with
  | flat h => cases h with | tup h t => exact ⟨_, _, rfl, o.sqT h, vx_flat t⟩
  | tup h t => exact ⟨_, _, rfl, o.sqT h, t⟩
theorem Vx.dct_inv (o : Sub G H) {x : V} {kvs : List (Key × D)} (h : Vx K G H x (.dct kvs)) : ∃ a ob ks xs ds, x = .ref a ∧ H a = some (.frz ob (.dK (List.zip ks xs))) ∧ ks.length = xs.length ∧ kvs = List.zip ks ds ∧ DvAll K G xs ds := by
  cases h with
  | flat h => cases h with | dct h l t => exact ⟨_, _, _, _, _, rfl, o _ _ h, l, rfl, t⟩
end
theorem zip_inj : ∀ {ks ks' : List Key} {ds ds' : List D}, ks.length = ds.length → ks'.length = ds'.length → List.zip ks ds = List.zip ks' ds' → ks = ks' ∧ ds = ds'
  | [], [], [], [], _, _, _ => ⟨rfl, rfl⟩
  | [], [], _, _ :: _, _, l, _ => by simp at l
  | [], [], _ :: _, _, l, _, _ => by simp at l
  | [], _ :: _, _, [], _, l, _ => by simp at l
  | [], _ :: _, _, _ :: _, _, _, h => by simp at h
  | _ :: _, _, [], _, l, _, _ => by simp at l
  | _ :: _, [], _ :: _, _, _, _, h => by simp at h
  | _ :: _, _ :: _, _ :: _, [], _, _, h => by simp at h
  | k :: ks, k' :: ks', d :: ds, d' :: ds', l, l', h => by
    simp only [List.zip_cons_cons, List.cons.injEq, Prod.mk.injEq] at h
    obtain ⟨h1, h2⟩ := zip_inj (by simpa using l) (by simpa using l') h.2
    exact ⟨by rw [h.1.1, h1], by rw [h.1.2, h2]⟩
theorem value_mem {vb : List (Key × Value)} {k : Key} {v : Value} (nd : (vb.map (·.1)).Nodup) (hm : (k, v) ∈ vb) : valueAt vb k = some v := by
  unfold valueAt
  induction vb with
  | nil => cases hm
  | cons p vb ih =>
    rw [List.map_cons, List.nodup_cons] at nd
    rw [List.find?_cons]
    by_cases e : p.1 = k
    · rw [decide_eq_true e]
      rcases List.mem_cons.mp hm with rfl | hm
      · rfl
      · exact absurd (List.mem_map_of_mem (f := (·.1)) hm) (by rw [← e] at hm ⊢; exact nd.1)
    · rw [decide_eq_false e]
      rcases List.mem_cons.mp hm with rfl | hm
      · exact absurd rfl e
      · exact ih nd.2 hm
theorem vx_len {K : PySem.W.Frag} {G H : Hp} : ∀ {vs : List V} {ds : List D}, VxAll K G H vs ds → vs.length = ds.length
  | _, _, .nil => rfl
  | _, _, .cons _ t => by simp [vx_len t]
section
variable {X : Cx} {pins : List (Addr × Obj)} {σ : L2.St} {G H : Hp} {s : Shared}
/-- what is asked of the parts -/
def Same (X : Cx) (G H : Hp) (s : Shared) (n : Nat) : Prop := ∀ (d : D), isP d = true → (toP d).depth < n → ∀ (A : Around), A.units + n < cLine → ∀ (x y : V) (v u : Value), Vx X.K G H x d → Vx X.K G H y d → RelV x v → RelV y u → SeqAt.EqP X.prog X.w A s v u true
theorem same_at {n : Nat} (ih : Same X G H s n) {A : Around} (hA : A.units + n < cLine) : ∀ {ds : List D} {xs ys : List V} {us ws : List Value}, (∀ d ∈ ds, isP d = true ∧ (toP d).depth < n) → VxAll X.K G H xs ds → VxAll X.K G H ys ds → Vals xs us → Vals ys ws →
    ∀ j (h1 : j < us.length) (h2 : j < ws.length), SeqAt.EqP X.prog X.w A s us[j] ws[j] true
  | [], _, _, _, _, _, .nil, .nil, .nil, .nil, j, h1, _ => absurd h1 (Nat.not_lt_zero j)
  | d :: ds, _, _, _, _, hd, .cons a1 t1, .cons a2 t2, .cons r1 q1, .cons r2 q2, j, h1, h2 => by
    cases j with
    | zero => exact ih d (hd d (by simp)).1 (hd d (by simp)).2 A hA _ _ _ _ a1 a2 r1 r2
    | succ j => exact same_at ih hA (fun z hz => hd z (List.mem_cons_of_mem _ hz)) t1 t2 q1 q2 j (Nat.lt_of_succ_lt_succ h1) (Nat.lt_of_succ_lt_succ h2)
theorem same_hits {n : Nat} (ih : Same X G H s n) {A : Around} (hA : A.units + n < cLine) {vb : List (Key × Value)} (nd : (vb.map (·.1)).Nodup) : ∀ {ks : List Key} {ds : List D} {xs ys : List V} {va vc : List (Key × Value)}, (∀ d ∈ ds, isP d = true ∧ (toP d).depth < n) → DvAll X.K G xs ds → DvAll X.K G ys ds →
    KV (List.zip ks xs) va → KV (List.zip ks ys) vc → (∀ p ∈ vc, p ∈ vb) → ks.length = xs.length → PySem.W.KeqHitsP X.prog X.w A s vb va true
  | [], _, _, _, va, _, _, _, _, k1, _, _, _ => by
    rw [List.zip_nil_left] at k1
    cases k1
    exact .nil
  | _ :: _, [], _, _, va, _, _, .nil, .nil, k1, _, _, _ => by
    rw [List.zip_nil_right] at k1
    cases k1
    exact .nil
  | k :: ks, d :: ds, _, _, _, _, hd, .cons (v := x) a1 t1, .cons (v := y) a2 t2, k1, k2, sub, l => by
    rw [List.zip_cons_cons] at k1 k2
    cases k1 with
    | cons r1 q1 =>
      cases k2 with
      | cons r2 q2 =>
        rename_i p va' p' vc'
        obtain ⟨pk, pv⟩ := p
        obtain ⟨pk', pv'⟩ := p'
        obtain ⟨e1, r1⟩ := r1
        obtain ⟨e2, r2⟩ := r2
        simp only at e1 e2 r1 r2
        subst e1 e2
        have hm : (k, pv') ∈ vb := sub _ (by simp)
        have hv : valueAt vb k = some pv' := value_mem nd hm
        show PySem.W.KeqHitsP X.prog X.w A s vb ((k, pv) :: va') (true && true)
        exact .hit hv (ih d (hd d (by simp)).1 (hd d (by simp)).2 A hA _ _ _ _ (.flat a1) (.flat a2) r1 r2) (same_hits ih hA nd (fun z hz => hd z (List.mem_cons_of_mem _ hz)) t1 t2 q1 q2 (fun z hz => sub z (List.mem_cons_of_mem _ hz)) (by simpa using l))
theorem same_rc {n : Nat} (I : Inv X pins σ H s) (o : Sub G H) (ih : Same X G H s n) {d : D} (hp : isP d = true) (hd : (toP d).depth < n + 1) {A : Around} (hA : A.units + 1 + n < cLine) {a b : Addr} (hx : Vx X.K G H (.ref a) d) (hy : Vx X.K G H (.ref b) d) (E Q : Value → Shared → Prop) (q : Q (.bool true) s) :
    wpAny (model X.prog X.w) A (richCompare .Eq (.ref a) (.ref b)) Q E s := by
  have hA' : A.in1.units + n < cLine := hA
  have hu : A.units < cLine := by omega
  cases d with
  | lst ds =>
    obtain ⟨a', xs, e1, h1, t1⟩ := hx.lst_inv o
    obtain ⟨b', ys, e2, h2, t2⟩ := hy.lst_inv o
    cases e1; cases e2
    obtain ⟨us, r1, p1, _⟩ := I.list (SqL.of h1)
    obtain ⟨ws, r2, p2, _⟩ := I.list (SqL.of h2)
    have l1 := vx_len t1
    have l2 := vx_len t2
    have hsz : us.toArray.size = ws.toArray.size := by
      rw [List.size_toArray, List.size_toArray, ← r1.length, ← r2.length, l1, l2]
    have hds : ∀ d ∈ ds, isP d = true ∧ (toP d).depth < n := fun z hz => ⟨isPs_mem0 hp z hz, by
      have := depthAll_mem hz
      simp only [toP, PyData.depth] at hd
      omega⟩
    refine SeqAt.rcP_lists (e := fun _ => true) p1.isList p2.isList hsz hu (fun j h1 h2 => ?_) E Q ?_
    · have k := same_at ih hA' hds t1 t2 r1 r2 j (by simpa using h1) (by simpa using h2)
      simpa using k
    · rw [show ((List.range us.toArray.size).all fun _ => true) = true from List.all_eq_true.mpr fun _ _ => rfl]
      exact q
  | tup ds =>
    obtain ⟨a', xs, e1, h1, t1⟩ := hx.tup_inv o
    obtain ⟨b', ys, e2, h2, t2⟩ := hy.tup_inv o
    cases e1; cases e2
    obtain ⟨us, r1, p1, _⟩ := I.tuple h1
    obtain ⟨ws, r2, p2, _⟩ := I.tuple h2
    have l1 := vx_len t1
    have l2 := vx_len t2
    have hsz : us.toArray.size = ws.toArray.size := by
      rw [List.size_toArray, List.size_toArray, ← r1.length, ← r2.length, l1, l2]
    have hds : ∀ d ∈ ds, isP d = true ∧ (toP d).depth < n := fun z hz => ⟨isPs_mem0 hp z hz, by
      have := depthAll_mem hz
      simp only [toP, PyData.depth] at hd
      omega⟩
    refine SeqAt.rcIn_tuples (e := fun _ => true) p1 p2 hu (fun j h1 h2 => ?_) ?_
    · have k := same_at ih hA' hds t1 t2 r1 r2 j (by simpa using h1) (by simpa using h2)
      have k' : SeqAt.EqIn X.prog X.w A.in1 s us[j] ws[j] true := k
      simpa using k'
    · rw [show ((List.range (min us.toArray.size ws.toArray.size)).all fun _ => true) = true from List.all_eq_true.mpr fun _ _ => rfl, hsz]
      simpa using q
  | dct kvs =>
    obtain ⟨a', ob, ks, xs, ds, e1, h1, l1, z1, t1⟩ := hx.dct_inv o
    obtain ⟨b', ob', ks', ys, ds', e2, h2, l2, z2, t2⟩ := hy.dct_inv o
    cases e1; cases e2
    have e3 := t1.length
    have e4 := t2.length
    obtain ⟨rfl, rfl⟩ := zip_inj (by omega) (by omega) (z1.symm.trans z2)
    obtain ⟨_, _, ya, va, ra, da⟩ := (show ObjOk X.prog X.w H s.heap a (.frz ob (.dK (List.zip ks xs))) from I.hok a _ h1)
    obtain ⟨_, _, yb, vb, rb, db⟩ := (show ObjOk X.prog X.w H s.heap b (.frz ob' (.dK (List.zip ks ys))) from I.hok b _ h2)
    have hds : ∀ d ∈ ds, isP d = true ∧ (toP d).depth < n := fun z hz => ⟨by rw [z1] at hp; exact isPk_zip0 (by omega) hp z hz, by
      have := depthKv_mem (ks := ks) (by omega) hz
      rw [z1] at hd
      simp only [toP, PyData.depth] at hd
      omega⟩
    have nd : (vb.map (·.1)).Nodup := by
      obtain ⟨_, _, _, _, _, _, _, _, nd⟩ := id db
      exact nd
    refine PySem.W.rcP_dicts (knd := mixKind X.prog X.w) (r := true) ya yb da db hu (fun _ => same_hits ih hA' nd hds t1 t2 ra rb (fun _ h => h) l1) E Q ?_
    have e : va.length = vb.length := by rw [← ra.length, ← rb.length, List.length_zip, List.length_zip]; omega
    rw [show (va.length == vb.length && true) = true from by rw [e]; simp]
    exact q
  | non => cases hx with | flat h => cases h
  | bl b => cases hx with | flat h => cases h
  | int i => cases hx with | flat h => cases h
  | str x => cases hx with | flat h => cases h
  | obj _ => cases hp
  | ty _ => cases hp
  | scr _ => cases hp
  | ins _ _ => cases hp
  | dcT _ => cases hp
  | exc _ _ _ _ => cases hp
theorem same_eq (I : Inv X pins σ H s) (o : Sub G H) : ∀ n, Same X G H s n
  | 0 => fun d _ h => absurd h (Nat.not_lt_zero _)
  | n + 1 => fun d hp hd A hA x y v u hx hy rx ry => by
    have refs : ∀ a b, x = .ref a → y = .ref b → SeqAt.EqP X.prog X.w A s v u true := fun a b e1 e2 => by
      subst e1 e2
      cases (show v = Value.ref a from rx)
      cases (show u = Value.ref b from ry)
      by_cases e : a = b
      · subst e
        exact (SeqAt.EqAt.same _).eqP
      · exact SeqAt.eqP_refs e fun E Q q => same_rc I o (same_eq I o n) hp hd (by omega) hx hy E Q q
    have flats : ∀ f : V, flatB f = true → x = f → y = f → SeqAt.EqP X.prog X.w A s v u true := fun f hf e1 e2 => by
      subst e1 e2
      exact (eqAt_same rx ry hf).eqP
    cases d with
    | lst ds => obtain ⟨a, _, e1, _⟩ := hx.lst_inv o; obtain ⟨b, _, e2, _⟩ := hy.lst_inv o; exact refs a b e1 e2
    | tup ds => obtain ⟨a, _, e1, _⟩ := hx.tup_inv o; obtain ⟨b, _, e2, _⟩ := hy.tup_inv o; exact refs a b e1 e2
    | dct kvs => obtain ⟨a, _, _, _, _, e1, _⟩ := hx.dct_inv o; obtain ⟨b, _, _, _, _, e2, _⟩ := hy.dct_inv o; exact refs a b e1 e2
    | non => cases hx with | flat h => cases h; cases hy with | flat h => cases h; exact flats .non rfl rfl rfl
    | bl b => cases hx with | flat h => cases h; cases hy with | flat h => cases h; exact flats (.bl b) rfl rfl rfl
    | int i => cases hx with | flat h => cases h; cases hy with | flat h => cases h; exact flats (.int i) rfl rfl rfl
    | str z => cases hx with | flat h => cases h; cases hy with | flat h => cases h; exact flats (.str z) rfl rfl rfl
    | obj _ => cases hp
    | ty _ => cases hp
    | scr _ => cases hp
    | ins _ _ => cases hp
    | dcT _ => cases hp
    | exc _ _ _ _ => cases hp
/-- two lists with the same data -/
theorem op_same (hu : X.A.units + 64 < cLine) : OpR X (compareOp .Eq) (fun x y H Q => ∃ (G : Hp) (ds : List D), Sub G H ∧ Vx X.K G H x (.lst ds) ∧ Vx X.K G H y (.lst ds) ∧ isP (.lst ds) = true ∧ (toP (.lst ds)).depth ≤ 60 ∧ Q (.bl true) H) := by
  intro pins s σ H x y v u Q I rx ry h
  obtain ⟨G, ds, o, hx, hy, hp, hd, q⟩ := h
  obtain ⟨a, _, e1, _⟩ := hx.lst_inv o
  obtain ⟨b, _, e2, _⟩ := hy.lst_inv o
  subst e1 e2
  cases (show v = Value.ref a from rx)
  cases (show u = Value.ref b from ry)
  exact same_rc (n := 60) I o (same_eq I o 60) hp (by omega) (by omega) hx hy _ _ ⟨.bl true, H, I, rfl, q⟩
end
theorem eqW_same {ds : List D} (h1 : isP (.lst ds) = true) (h2 : (toP (.lst ds)).depth ≤ 60) (h3 : eqS (.lst ds) (.lst ds) = none ∨ eqS (.lst ds) (.lst ds) = some true) : eqW false (.lst ds) (.lst ds) = some true := by
  unfold eqW
  rcases h3 with e | e
  · rw [e]
    simp only
    rw [if_pos ⟨rfl, rfl, ⟨_, rfl⟩, h1, h2⟩]
  · rw [e]
theorem eqW_eqS {neg : Bool} {x y : D} {k : Bool} (h : eqS x y = some k) : eqW neg x y = some k := by
  unfold eqW
  rw [h]
section
variable {Φ : Fns} {γ : List D} {X : Cx} {W : WX} {a b : Expr} {ia ib : E} {pos p : Pos}
theorem se_eqd {o : CmpOp} {neg : Bool} (hu : X.A.units + 64 < cLine) (ho : (o = .Eq ∧ neg = false) ∨ (o = .NotEq ∧ neg = true)) (ha : SE Φ γ X W a ia) (hb : SE Φ γ X W b ib) (hm : behindInMarks o b = false) : SE Φ γ X W (.Compare a [o] [b] pos) (.eqd neg ia ib) := by
  obtain ⟨ta, pa, ra⟩ := ha
  obtain ⟨tb, pb, rb⟩ := hb
  have opr : OpR X (compareOp o) (fun x y H Q => (∃ d e, Dp X.K H x d ∧ Dp X.K H y e ∧ SeqAt.shaped d = true ∧ SeqAt.shaped e = true ∧ Q (.bl (if neg = true then !PyData.eqv d e else PyData.eqv d e)) H) ∨
      (neg = false ∧ ∃ (G : Hp) (ds : List D), Sub G H ∧ Vx X.K G H x (.lst ds) ∧ Vx X.K G H y (.lst ds) ∧ isP (.lst ds) = true ∧ (toP (.lst ds)).depth ≤ 60 ∧ Q (.bl true) H)) := by
    intro pins s σ H x y v u Q I rx ry h
    rcases ho with ⟨rfl, rfl⟩ | ⟨rfl, rfl⟩
    · rcases h with h | ⟨_, h⟩
      · exact op_eqD hu pins s σ H x y v u Q I rx ry h
      · exact op_same hu pins s σ H x y v u Q I rx ry h
    · rcases h with h | ⟨h, _⟩
      · exact op_neD hu pins s σ H x y v u Q I rx ry h
      · cases h
  refine ⟨_, pe_cmpR opr pa pb hm, fun σ δ G M H Q Qd Zd ok er hq hz h => ?_⟩
  unfold evalE at h
  show ta σ H _
  refine run_e ra ok er hz h fun r M1 v G1 H1 q s1 dv => ?_
  show tb σ H1 _
  refine run_e rb s1.ok (er.mono s1.sub) (px_after s1 hz) q fun r2 M2 v2 G2 H2 q2 s2 dv2 => ?_
  obtain ⟨k, e, q3⟩ := q2
  have x1 := deep_vx s2.ok 4 _ _ (dv.mono s2.sub)
  have x2 := deep_vx s2.ok 4 _ _ dv2
  cases es : eqS (deepV M2 4 r.toD) (deepV M2 4 r2.toD) with
  | some k' =>
    rw [eqW_eqS es] at e
    cases e
    obtain ⟨h1, h2, h3, h4, rfl⟩ := eqS_px s2.ok.sub x1 x2 es
    exact .inl ⟨_, _, h1, h2, h3, h4, hq _ _ q3 _ G2 H2 (s1.trans s2) (.bl _)⟩
  | none =>
    unfold eqW at e
    rw [es] at e
    simp only at e
    split at e
    · rename_i hx
      obtain ⟨hn, exy, ⟨ds, ed⟩, hp, hd⟩ := hx
      cases e
      rw [← exy] at x2
      rw [ed] at x1 x2 hp hd
      refine .inr ⟨hn, G2, ds, s2.ok.sub, x1, x2, hp, hd, ?_⟩
      have z := hq _ _ q3 (.bl (if neg = true then !true else true)) G2 H2 (s1.trans s2) (.bl _)
      rw [hn] at z
      exact z
    · cases e
end
end DL
set_option maxRecDepth 100000
set_option maxHeartbeats 2000000
/-! # zip of two lists or tuples, in any mix -/
namespace DL
open PySem L2 PyProof.Rows
def SqB (K : PySem.W.Frag) : Bool → Hp → Addr → List V → Prop
  | true, H, a, xs => SqT K H a xs
  | false, H, a, xs => SqL K H a xs
def IterB : Bool → Heap → Addr → Addr → Nat → Prop
  | true, h, it, l, i => h.IsTupleIter it l i
  | false, h, it, l, i => h.IsListIter it l i
theorem IterB.get {k : Bool} {h : Heap} {it l : Addr} {i : Nat} (x : IterB k h it l i) : ∃ o, h.get? it = some o ∧ ∀ v, o.data ≠ .cell v := by
  cases k <;> (obtain ⟨o, e, _, d⟩ := x; exact ⟨o, e, fun v q => by rw [d] at q; cases q⟩)
theorem IterB.at_ {k : Bool} {h h' : Heap} {it l : Addr} {i : Nat} (x : IterB k h it l i) (f : ∀ o, h.get? it = some o → h'.get? it = some o) : IterB k h' it l i := by
  cases k
  · exact Heap.IsListIter.at x f
  · exact Heap.IsTupleIter.at x f
section
variable {X : Cx} {pins : List (Addr × Obj)} {σ : L2.St} {H : Hp} {s : Shared}
theorem draws_of {k : Bool} {A : Around} {a it : Addr} {xs : List V} (hh : A.handled = none) (I : Inv X pins σ H s) (h : SqB X.K k H a xs) (ne : a ≠ it) :
    ∃ (its : List Value) (St : Nat → Heap → Prop), Vals xs its ∧ Draws X.prog X.w A it [it, a] its.length (fun i v => its[i]? = some v) St ∧ (∀ i, IterB k s.heap it a i → St i s.heap) ∧ ∀ i h, St i h → IterB k h it a i := by
  cases k with
  | false =>
    obtain ⟨its, rv, pl, _⟩ := I.list h
    refine ⟨its, fun i h => h.IsListIter it a i ∧ h.IsList a its.toArray, rv, ?_, fun i x => ⟨x, pl.isList⟩, fun i h x => x.1⟩
    have D := Draws.list (prog := X.prog) (w := X.w) hh it a ne its.toArray
    simpa using D
  | true =>
    obtain ⟨its, rv, pl, _⟩ := I.tuple h
    refine ⟨its, fun i h => h.IsTupleIter it a i ∧ h.IsTuple a its.toArray, rv, ?_, fun i x => ⟨x, pl⟩, fun i h x => x.1⟩
    have D := Draws.tuple (prog := X.prog) (w := X.w) hh it a ne its.toArray
    simpa using D
theorem SqB.inj {k : Bool} {a : Addr} {xs ys : List V} (I : Inv X pins σ H s) (h : SqB X.K k H a xs) (h2 : SqB X.K k H a ys) : xs = ys := by
  cases k
  · exact I.list_inj h h2
  · exact I.tuple_inj h h2
end
def ItzB (K : PySem.W.Frag) (k1 k2 : Bool) (a b : Addr) : It :=
  ⟨fun i H => ∃ (xs ys : List V) (x y : V), SqB K k1 H a xs ∧ SqB K k2 H b ys ∧ xs[i]? = some x ∧ ys[i]? = some y,
    fun i H v H' => ∃ T x y, v = .ref T ∧ H T = none ∧ H' = upd H T (.tup [x, y]) ∧ (∀ xs, SqB K k1 H a xs → xs[i]? = some x) ∧ ∀ ys, SqB K k2 H b ys → ys[i]? = some y,
    fun i H => ∃ xs ys : List V, SqB K k1 H a xs ∧ SqB K k2 H b ys ∧ i ≤ xs.length ∧ i ≤ ys.length ∧ (i = xs.length ∨ i = ys.length)⟩
theorem sep_of {z TI TO i1 i2 a b : Addr} (D : ZipApart z TI TO i1 i2 a b) : ZipSep2 z TI TO i1 i2 [i1, a] [i2, b] where
  TIz := D.TIz
  TOz := D.TOz
  TITO := D.TITO
  TIi1 := D.TIi1
  mem1 := by simp
  zf1 := by simp; exact ⟨D.i1z.symm, D.l1z.symm⟩
  Tf1 := by simp; exact ⟨D.TOi1, D.l1TO.symm⟩
  TIi2 := D.TIi2
  mem2 := by simp
  zf2 := by simp; exact ⟨D.i2z.symm, D.l2z.symm⟩
  Tf2 := by simp; exact ⟨D.TOi2, D.l2TO.symm⟩
  sep1_2 := by simp; exact ⟨D.i12, D.l2i1.symm⟩
  sep2_1 := by simp; exact ⟨D.i12.symm, D.l1i2.symm⟩
theorem turn_zipB {P : Program} {w : World} {K : PySem.W.Frag} {elts : List Expr} {kk : Nat} {tpos : Pos} {k1 k2 : Bool} {a b z TI TO i1 i2 : Addr} (D : ZipApart z TI TO i1 i2 a b) :
    Turn P w K (.Tuple elts kk tpos) (ItzB K k1 k2 a b) [z, TI, TO, i1, i2] z (fun i h => IsZip h z TI TO .none ∧ IsPair h TI (.ref i1) (.ref i2) ∧ (∃ x y, IsPair h TO x y) ∧ IterB k1 h i1 a i ∧ IterB k2 h i2 b i) where
  mem := by simp
  obj := fun i h st c hc => by
    obtain ⟨hz, hTI, ⟨x, y, hTO⟩, h1, h2⟩ := st
    simp only [List.mem_cons, List.not_mem_nil, or_false] at hc
    rcases hc with rfl | rfl | rfl | rfl | rfl
    · exact ⟨_, hz, fun v q => nomatch q⟩
    · exact ⟨_, hTI, fun v q => nomatch q⟩
    · exact ⟨_, hTO, fun v q => nomatch q⟩
    · exact h1.get
    · exact h2.get
  keep := fun i h h' st k => by
    obtain ⟨hz, hTI, ⟨x, y, hTO⟩, h1, h2⟩ := st
    exact ⟨k z (by simp) _ hz, k TI (by simp) _ hTI, ⟨x, y, k TO (by simp) _ hTO⟩, h1.at_ fun o q => k i1 (by simp) o q, h2.at_ fun o q => k i2 (by simp) o q⟩
  item := by
    intro X hP hw hK hc i pins s σ H E I hf st hg
    subst hP hw hK
    obtain ⟨hz, hTI, ⟨x0, y0, hTO⟩, h1, h2⟩ := st
    obtain ⟨xs, ys, x, y, hqx, hqy, hx, hy⟩ := hg
    have hh : X.A.in1.handled = none := I.ok.hd hc
    obtain ⟨its, S1, rv, D1, u1, v1⟩ := draws_of hh I hqx D.l1i1
    obtain ⟨its2, S2, rv2, D2, u2, v2⟩ := draws_of hh I hqy D.l2i2
    obtain ⟨u, hu, ru⟩ := rv.get hx
    obtain ⟨u', hu', ru'⟩ := rv2.get hy
    have hzl : z < s.heap.objs.size := Heap.lt_size hz
    refine wpAny_pyNext_zipD2_item (sep_of D) D1 D2 hz hTI hTO (u1 i h1) (u2 i h2) (List.getElem?_eq_some_iff.mp hu).1 (List.getElem?_eq_some_iff.mp hu').1 fun x1 x2 h' tk p1 p2 z' TO' s1' s2' hT hsz hk => ?_
    have e1 : x1 = u := by rw [hu] at p1; exact (Option.some.inj p1).symm
    have e2 : x2 = u' := by rw [hu'] at p2; exact (Option.some.inj p2).symm
    subst e1 e2
    refine ⟨_, rfl, wpAny_letOwnedTupleGo_zip (s := { s with heap := h', toks := tk }) z' fun h'' z'' sb => ?_⟩
    have hT2 : h''.get? s.heap.objs.size = some { cls := .type "tuple", data := .seq #[x1, x2] } := (sb.2 _ (Nat.ne_of_gt hzl)).trans hT
    have new : ObjOk X.prog X.w (upd H s.heap.objs.size (.tup [x, y])) h'' s.heap.objs.size (.tup [x, y]) :=
      ⟨by show 2 ≤ sizeLine; decide, [x1, x2], .cons ru (.cons ru' .nil), ⟨_, hT2, rfl, _, rfl⟩⟩
    have I1 : Inv X pins σ (upd H s.heap.objs.size (.tup [x, y])) { s with heap := h'', toks := tk } :=
      I.turnedNew (t' := tk) (ch := [z, TI, TO, i1, i2]) (fun c o hb q => (sb.2 c (fun q' => hb (by simp [q']))).trans (hk c o (fun q' => hb (by simp [q'])) (fun q' => hb (by simp [q'])) (fun q' => hb (by simp [q'])) (fun q' => hb (by simp [q'])) q)) hf (Nat.le_refl _) new
    refine ⟨.ref s.heap.objs.size, _, I1, rfl, ⟨_, x, y, rfl, I.hok.fresh (Nat.le_refl _), rfl, fun l hl => by rw [SqB.inj I hl hqx]; exact hx, fun l hl => by rw [SqB.inj I hl hqy]; exact hy⟩, ⟨z'', ?_, ⟨x1, x2, ?_⟩, ?_, ?_⟩, fun c hcm => ?_⟩
    · exact (sb.2 _ D.TIz).trans (hk _ _ D.TIz D.TITO D.TIi1 D.TIi2 hTI)
    · exact (sb.2 _ D.TOz).trans TO'
    · exact (v1 _ _ s1').at_ fun o q => (sb.2 _ D.i1z).trans q
    · exact (v2 _ _ s2').at_ fun o q => (sb.2 _ D.i2z).trans q
    · have hlt : c < s.heap.objs.size := by
        simp only [List.mem_cons, List.not_mem_nil, or_false] at hcm
        rcases hcm with rfl | rfl | rfl | rfl | rfl
        · exact hzl
        · exact Heap.lt_size hTI
        · exact Heap.lt_size hTO
        · obtain ⟨_, e1, _⟩ := h1.get; exact Heap.lt_size e1
        · obtain ⟨_, e2, _⟩ := h2.get; exact Heap.lt_size e2
      rw [upd_ne (Nat.ne_of_lt hlt)]
      exact (hf c hcm).1
  done := by
    intro X hP hw hK hc i pins s σ H E I hf st hg
    subst hP hw hK
    obtain ⟨hz, hTI, ⟨x0, y0, hTO⟩, h1, h2⟩ := st
    obtain ⟨xs, ys, hqx, hqy, le1, le2, hend⟩ := hg
    have hh : X.A.in1.handled = none := I.ok.hd hc
    obtain ⟨its, S1, rv, D1, u1, v1⟩ := draws_of hh I hqx D.l1i1
    obtain ⟨its2, S2, rv2, D2, u2, v2⟩ := draws_of hh I hqy D.l2i2
    have l1 : xs.length = its.length := rv.length
    have l2 : ys.length = its2.length := rv2.length
    exact wpAny_pyNext_zipD2_end (sep_of D) D1 D2 hz hTI hTO (u1 i h1) (u2 i h2) (by omega) (by omega) (by omega) fun h' tk hk => ⟨rfl, I.turnedL (t' := tk) (ch := [z, TI, TO, i1, i2]) (fun c o hb q =>
      hk c o (fun q' => hb (by simp [q'])) (fun q' => hb (by simp [q'])) (fun q' => hb (by simp [q'])) (fun q' => hb (by simp [q'])) q) hf⟩
  self := fun A i s Q E st h => wpAny_pyIter_zip st.1 h
def iZipB (K : PySem.W.Frag) (ta : TA) : TI := fun σ H R => ta σ H fun vs H1 => ∃ k1 k2 a b xs ys, vs = [.ref a, .ref b] ∧ SqB K k1 H1 a xs ∧ SqB K k2 H1 b ys ∧ R (ItzB K k1 k2 a b) H1
def iterO : Bool → Addr → Obj
  | true, a => { cls := .type "tuple_iterator", data := .fields #[.ref a, .int 0 0] }
  | false, a => { cls := .type "list_iterator", data := .fields #[.ref a, .int 0 0] }
theorem begins_of {X : Cx} {pins : List (Addr × Obj)} {σ : L2.St} {H : Hp} {s : Shared} {k : Bool} {a : Addr} {xs : List V} (I : Inv X pins σ H s) (h : SqB X.K k H a xs) :
    ∃ Hb : Heap → Prop, Begins (.ref a) (iterO k a) Hb ∧ Hb s.heap ∧ a < s.heap.objs.size := by
  cases k with
  | false =>
    obtain ⟨its, rv, pl, _⟩ := I.list h
    exact ⟨_, begins_list a its.toArray, pl.isList, pl.lt⟩
  | true =>
    obtain ⟨its, rv, pl, _⟩ := I.tuple h
    obtain ⟨o, ho, _⟩ := id pl
    exact ⟨_, begins_tuple a its.toArray, pl, Heap.lt_size ho⟩
theorem iterB_of {k : Bool} {h : Heap} {it a : Addr} (e : h.get? it = some (iterO k a)) : IterB k h it a 0 := by
  cases k
  · exact ⟨_, e, rfl, rfl⟩
  · exact ⟨_, e, rfl, rfl⟩
theorem pi_zipB {X : Cx} {e e2 : Expr} {ta : TA} {p pos tpos : Pos} {elts : List Expr} {kk : Nat} (hg : Gl X "zip") (hm : X.mg "zip" = none) (ha : PA X [e, e2] ta)
    (hs : starEach [e, e2] X.env = (false, eval e X.env) :: starEach [e2] X.env) (hpl : (backTo pos (starEach [e2] X.env)).any (·.1) = false) :
    PI X (.Tuple elts kk tpos) (.Call (.Name "zip" p) [e, e2] [] pos) (iZipB X.K ta) := by
  refine ⟨fun pins s σ H R I h => ?_⟩
  refine Call_ (ld_blt I hg hm PyProof.Rows.boot_zip (PyProof.Rows.callWith_type1 (thn (ha.run pos pins s σ H _ I h) fun us s1 ⟨vs, H1, I1, r1, q1⟩ => ?_) hs hpl))
  obtain ⟨k1, k2, a, b, xs, ys, ex, hx, hy, q⟩ := q1
  subst ex
  cases r1 with
  | cons r rr =>
    cases rr with
    | cons r' rr =>
      cases rr
      cases r
      cases r'
      obtain ⟨H1b, B1, hb1, la⟩ := begins_of I1 hx
      obtain ⟨H2b, B2, hb2, lb⟩ := begins_of I1 hy
      refine zip_begins2 B1 B2 hb1 hb2 fun h' hz hTI hTO h1 h2 hsz hk => wpAny_pyIter_zip hz ?_
      have I2 : Inv X pins σ H1 { s1 with heap := h' } := I1.kept (t' := s1.toks) hk
      refine ⟨s1.heap.objs.size + 4, [s1.heap.objs.size + 4, s1.heap.objs.size + 2, s1.heap.objs.size + 3, s1.heap.objs.size, s1.heap.objs.size + 1], _, _, H1, rfl, I2, turn_zipB (PySem.W.ktu_apart s1.heap.objs.size a b la lb), ⟨hz, hTI, ⟨_, _, hTO⟩, iterB_of h1, iterB_of h2⟩, fun c hcm => ?_, q⟩
      have hle : s1.heap.objs.size ≤ c := by
        simp only [List.mem_cons, List.not_mem_nil, or_false] at hcm
        rcases hcm with z | z | z | z | z <;> rw [z] <;> first | exact Nat.le_add_right _ _ | exact Nat.le_refl _
      exact I1.fpOk hle (I1.hok.fresh hle)
end DL
set_option maxRecDepth 100000
set_option maxHeartbeats 2000000
/-! # more expressions: comprehensions of two clauses, zip, d.get, sorted(set(..)), max(.., default=..), starred parts -/
namespace DL
open PySem L2
theorem maxI_maxOf (y : Int) (ys : List Int) : maxI (y :: ys) = some (PySem.W.maxOf y ys) := by
  have e : (fun a b : Int => if a < b then b else a) = fun a b => if PySem.W.DatumOrd.lt a b = true then b else a := by
    funext a b
    show _ = if decide (a < b) = true then b else a
    simp
  show some (ys.foldl (fun a b => if a < b then b else a) y) = _
  rw [e]; rfl
section
variable (Φ : Fns) (γ : List D) (K : PySem.W.Frag) (W : WX)
def tDI (it : I) : TI := fun σ H R => ∃ (δ : DEnv) (G : Hp) (M : MS) (Qd : (MS → Prop) → List D → MS → Prop) (Zd : KX), OkS K G M H ∧ ER K G σ δ ∧
  (∀ src items M1, Qd src items M1 → ∀ J G1 H1, Step K G M H G1 M1 H1 → WalkJ K G1 J src items → R J H1) ∧ (∀ x M', Zd x M' → PostX K G M H W σ x M') ∧ evalI Φ γ it δ M Qd Zd
end
/-- the list that a comprehension gathers -/
structure AccS (K : PySem.W.Frag) (G : Hp) (M : MS) (H : Hp) (p : Addr) (G2 : Hp) (M2 : MS) (H2 : Hp) (acc : List D) : Prop where
  st : Step K G M H G2 M2 H2
  ex : ∃ vs, H2 p = some (.lst vs) ∧ DvAll K G2 vs acc
  gd : G2 p = none
  md : M2 p = none
  h0 : H p = none
section
variable {K : PySem.W.Frag} {G G2 G3 : Hp} {M M2 M3 : MS} {H H2 H3 : Hp} {p : Addr} {acc : List D}
theorem AccS.step (a : AccS K G M H p G2 M2 H2 acc) (s : Step K G2 M2 H2 G3 M3 H3) : AccS K G M H p G3 M3 H3 acc := by
  obtain ⟨vs, hd, t⟩ := a.ex
  refine ⟨a.st.trans s, ⟨vs, s.keep p _ hd a.md, t.mono s.sub⟩, ?_, s.noM hd a.md, a.h0⟩
  cases e : G3 p with
  | none => rfl
  | some u =>
    have z := s.newG p u a.gd e a.md
    rw [hd] at z; cases z
theorem AccS.push {vs : List V} {v : V} {d : D} (a : AccS K G M H p G2 M2 H2 acc) (hd : H2 p = some (.lst vs)) (dv : Dv K G2 v d) : AccS K G M H p G2 M2 (upd H2 p (.lst (vs ++ [v]))) (acc ++ [d]) := by
  obtain ⟨vs', hd', t⟩ := a.ex
  rw [hd] at hd'
  cases hd'
  refine ⟨⟨⟨fun b u e => ?_, a.st.ok.dis, fun b mo e => ?_⟩, a.st.sub, fun b u e hm => ?_, a.st.newM, fun b e => ?_, a.st.newG⟩, ⟨_, upd_same, t.snoc dv⟩, a.gd, a.md, a.h0⟩
  · rw [upd_ne (fun z => by rw [z, a.gd] at e; cases e)]; exact a.st.ok.sub b u e
  · have hb : b ≠ p := fun z => by rw [z, a.md] at e; cases e
    exact (a.st.ok.mok b mo e).at_ (upd_ne hb)
  · have hb : b ≠ p := fun z => by rw [z, a.h0] at e; cases e
    rw [upd_ne hb]; exact a.st.keep b u e hm
  · by_cases hb : b = p
    · rw [hb]; exact a.h0
    · rw [upd_ne hb] at e; exact a.st.dom b e
end
section
variable {Φ : Fns} {γ : List D} {X : Cx} {W : WX}
theorem SI.pi {tg e : Expr} {ir : I} (h : SI Φ γ X W tg e ir) : PI X tg e (tDI Φ γ X.K W ir) :=
  let ⟨_, p, r⟩ := h
  ⟨fun pins s σ H R I ⟨δ, G, M, Qd, Zd, ok, er, hq, hz, hv⟩ => p.run pins s σ H R I (r σ δ G M H R Qd Zd ok er hq hz hv)⟩
theorem comp2_read {own : List (Str × Nat)} {ie : E} {it it1 : I} {cond cond1 : T} {is is1 : List Nat} {one one1 : Bool} {wi : TI}
    (ri : ∀ (σ : L2.St) (δ : DEnv) (G : Hp) (M : MS) (H : Hp) (R : It → Hp → Prop) (Qd : (MS → Prop) → List D → MS → Prop) (Zd : KX), OkS X.K G M H → ER X.K G σ δ →
      (∀ src items M1, Qd src items M1 → ∀ J G1 H1, Step X.K G M H G1 M1 H1 → WalkJ X.K G1 J src items → R J H1) → (∀ x M', Zd x M' → PostX X.K G M H W σ x M') → evalI Φ γ it δ M Qd Zd → wi σ H R)
    (hown : ∀ i ∈ is, i ∈ own.map (·.2)) (σ : L2.St) (δ : DEnv) (G : Hp) (M : MS) (H : Hp) (Q : VK) (Qd : KR) (Zd : KX) (okS : OkS X.K G M H) (er : ER X.K G σ δ)
    (hq : ∀ r M', Qd r M' → PostV X.K G M H Q r M') (hz : ∀ x M', Zd x M' → PostX X.K G M H W σ x M') (h : evalE Φ γ (.comp2 ie is one (own.map (·.2)) it cond is1 one1 it1 cond1) δ M Qd Zd) :
    tLc2 wi (gT X.K is one) (tDT Φ γ X.K W0 cond) (tDI Φ γ X.K W0 it1) (gT X.K is1 one1) (tDT Φ γ X.K W0 cond1) (tDE Φ γ X.K W0 ie) (own.map (·.2)) is1 σ H Q := by
  unfold evalE at h
  refine ri σ δ G M H _ _ Zd okS er (fun src items M1 q J G1 H1 s1 wj => ?_) hz h
  intro D hD
  generalize hstep : (fun (d : DL.D) (acc : List DL.D) (M2 : MS) (k : List DL.D → MS → Prop) => ∃ δ', bindT (wipeD δ (own.map (·.2))) is one d = some δ' ∧ evalT Φ γ cond δ' M2 (fun b M3 =>
        if b = true then evalI Φ γ it1 δ' M3 (fun src1 items1 M4 => compLoop src1 (fun d1 acc1 M5 k1 => ∃ δ'', bindT (wipeD δ' is1) is1 one1 d1 = some δ'' ∧ evalT Φ γ cond1 δ'' M5 (fun b1 M6 =>
          if b1 = true then evalE Φ γ ie δ'' M6 (fun r M7 => k1 (acc1 ++ [r.toD]) M7) (fun _ _ => False) else k1 acc1 M6) (fun _ _ => False)) items1 acc M4 k) (fun _ _ => False)
        else k acc M3) (fun _ _ => False)) = step at q
  have a0 : AccS X.K G M H D G1 M1 (upd H1 D (.lst [])) [] := ⟨s1.alloc hD, ⟨[], upd_same, .nil⟩, s1.ok.noG hD, s1.ok.noM hD, s1.dom D hD⟩
  refine ⟨fun i m H2 => m = items.length - i ∧ i ≤ items.length ∧ ∃ (G2 : Hp) (M2 : MS) (acc : List DL.D), AccS X.K G M H D G2 M2 H2 acc ∧ Sub G1 G2 ∧ compLoop src step (items.drop i) acc M2 fun acc M5 => Qd (.new acc) M5,
    ⟨items.length, by simp, Nat.zero_le _, G1, M1, [], a0, Sub.refl G1, by simpa using q⟩, ?_⟩
  rintro i m H2 ⟨rfl, hi, G2, M2, acc, a2, sg, lp⟩
  have o2 := a2.st.ok
  by_cases hlt : i < items.length
  · rw [List.drop_eq_getElem_cons hlt] at lp
    unfold compLoop at lp
    obtain ⟨sm, hz2, lp⟩ := lp
    refine .inr ⟨wj.go G2 M2 H2 i o2 sg sm hlt, fun H' => ∃ (G3 : Hp) (M3 : MS) (acc' : List DL.D), AccS X.K G M H D G3 M3 H' acc' ∧ Sub G1 G3 ∧ compLoop src step (items.drop (i + 1)) acc' M3 fun acc M5 => Qd (.new acc) M5,
      fun H' hH => ⟨items.length - (i + 1), by omega, rfl, hlt, hH⟩, fun x H3 y => ?_⟩
    obtain ⟨d, G3, ed, s3, dx⟩ := wj.yld G2 M2 H2 i x H3 o2 sg sm hlt y
    have ed' : items[i] = d := by
      have := List.getElem?_eq_getElem hlt
      rw [this] at ed
      exact Option.some.inj ed
    rw [ed'] at lp
    rw [← hstep] at lp
    obtain ⟨δ', hb, lp⟩ := lp
    have a3 := a2.step s3
    have sg3 := sg.trans s3.sub
    have er3 : ER X.K G3 (L2.wipe σ (own.map (·.2))) (wipeD δ (own.map (·.2))) := (er.mono a3.st.sub).wipe _
    refine gT_ok s3.ok er3 dx hb fun σ' er' hw => ?_
    refine ⟨(hw _ hown).trans wipe_wipe, ?_⟩
    refine ⟨δ', G3, M2, _, _, s3.ok, er', fun b M4 q4 G4 H4 s4 => ?_, fun _ _ z => z.elim, lp⟩
    have a4 := a3.step s4
    have sg4 := sg3.trans s4.sub
    cases b with
    | false =>
      simp only [Bool.false_eq_true, if_false] at q4 ⊢
      exact ⟨G4, M4, acc, a4, sg4, by rw [hstep] at q4; exact q4⟩
    | true =>
      simp only [if_true] at q4 ⊢
      have er4 := er'.mono s4.sub
      refine ⟨δ', G4, M4, _, _, s4.ok, er4, fun src1 items1 M5 q5 J1 G5 H5 s5 wj1 => ?_, fun _ _ z => z.elim, q4⟩
      have a5 := a4.step s5
      have sg5 := sg4.trans s5.sub
      rw [hstep] at q5
      generalize hstep1 : (fun (d1 : DL.D) (acc1 : List DL.D) (M5 : MS) (k1 : List DL.D → MS → Prop) => ∃ δ'', bindT (wipeD δ' is1) is1 one1 d1 = some δ'' ∧ evalT Φ γ cond1 δ'' M5 (fun b1 M6 =>
          if b1 = true then evalE Φ γ ie δ'' M6 (fun r M7 => k1 (acc1 ++ [r.toD]) M7) (fun _ _ => False) else k1 acc1 M6) (fun _ _ => False)) = step1 at q5
      generalize hnx : (fun acc' M' => compLoop src step (items.drop (i + 1)) acc' M' fun acc M5 => Qd (.new acc) M5) = nx at q5
      have nxd : ∀ acc' M', nx acc' M' → compLoop src step (items.drop (i + 1)) acc' M' fun acc M5 => Qd (.new acc) M5 := fun acc' M' z => by rw [← hnx] at z; exact z
      refine ⟨fun j m H6 => m = items1.length - j ∧ j ≤ items1.length ∧ ∃ (G6 : Hp) (M6 : MS) (acc1 : List DL.D), AccS X.K G M H D G6 M6 H6 acc1 ∧ Sub G5 G6 ∧ compLoop src1 step1 (items1.drop j) acc1 M6 nx,
        ⟨items1.length, by simp, Nat.zero_le _, G5, M5, acc, a5, Sub.refl G5, by simpa using q5⟩, ?_⟩
      rintro j m1 H6 ⟨rfl, hj, G6, M6, acc1, a6, sgi, lp1⟩
      have o6 := a6.st.ok
      by_cases hlt1 : j < items1.length
      · rw [List.drop_eq_getElem_cons hlt1] at lp1
        unfold compLoop at lp1
        obtain ⟨sm1, hz3, lp1⟩ := lp1
        refine .inr ⟨wj1.go G6 M6 H6 j o6 sgi sm1 hlt1, fun H' => ∃ (G7 : Hp) (M7 : MS) (acc' : List DL.D), AccS X.K G M H D G7 M7 H' acc' ∧ Sub G5 G7 ∧ compLoop src1 step1 (items1.drop (j + 1)) acc' M7 nx,
          fun H' hH => ⟨items1.length - (j + 1), by omega, rfl, hlt1, hH⟩, fun x1 H7 y1 => ?_⟩
        obtain ⟨d1, G7, ed1, s7, dx1⟩ := wj1.yld G6 M6 H6 j x1 H7 o6 sgi sm1 hlt1 y1
        have ed1' : items1[j] = d1 := by
          have := List.getElem?_eq_getElem hlt1
          rw [this] at ed1
          exact Option.some.inj ed1
        rw [ed1'] at lp1
        rw [← hstep1] at lp1
        obtain ⟨δ'', hb1, lp1⟩ := lp1
        have a7 := a6.step s7
        have sg7 := sgi.trans s7.sub
        have er7 : ER X.K G7 (L2.wipe σ' is1) (wipeD δ' is1) := (er4.mono (s5.sub.trans sg7)).wipe _
        refine gT_ok s7.ok er7 dx1 hb1 fun σ'' er'' hw1 => ?_
        refine ⟨(hw1 _ fun _ z => z).trans wipe_wipe, ?_⟩
        refine ⟨δ'', G7, M6, _, _, s7.ok, er'', fun b1 M8 q8 G8 H8 s8 => ?_, fun _ _ z => z.elim, lp1⟩
        have a8 := a7.step s8
        have sg8 := sg7.trans s8.sub
        cases b1 with
        | false =>
          simp only [Bool.false_eq_true, if_false] at q8 ⊢
          exact ⟨G8, M8, acc1, a8, sg8, by rw [hstep1] at q8; exact q8⟩
        | true =>
          simp only [if_true] at q8 ⊢
          refine ⟨δ'', G8, M8, _, _, s8.ok, er''.mono s8.sub, fun r M9 q9 v G9 H9 s9 rv => ?_, fun _ _ z => z.elim, q8⟩
          obtain ⟨G10, s10, dv⟩ := rv.adopt s9
          have a10 := a8.step s10
          obtain ⟨vs, hd, t⟩ := a10.ex
          have tl := t.length
          exact ⟨vs, hd, by omega, G10, M9, acc1 ++ [r.toD], a10.push hd dv, sg8.trans s10.sub, by rw [hstep1] at q9; exact q9⟩
      · have e : j = items1.length := by omega
        subst e
        rw [List.drop_eq_nil_of_le (Nat.le_refl _)] at lp1
        unfold compLoop at lp1
        exact .inl ⟨wj1.stop G6 M6 H6 _ o6 sgi lp1.1 rfl, G6, M6, acc1, a6, sg5.trans sgi, nxd _ _ lp1.2⟩
  · have e : i = items.length := by omega
    subst e
    rw [List.drop_eq_nil_of_le (Nat.le_refl _)] at lp
    unfold compLoop at lp
    obtain ⟨vs, hd, t⟩ := a2.ex
    exact .inl ⟨wj.stop G2 M2 H2 _ o2 sg lp.1 rfl, hq _ _ lp.2 (.ref D) G2 H2 a2.st ⟨D, vs, rfl, a2.h0, hd, a2.gd, a2.md, t⟩⟩
/-- what a compiled comprehension of two clauses brings -/
structure LC2 (Φ : Fns) (γ : List D) (X : Cx) (W : WX) (elt tg iter : Expr) (ifs : List Expr) (tg1 iter1 : Expr) (ifs1 : List Expr) (scope : Scope) (own : List (Str × Nat)) (ie : E) (is : List Nat) (one : Bool) (it : I) (cond : T) (is1 : List Nat) (one1 : Bool) (it1 : I) (cond1 : T) : Prop where
  si : SI Φ γ X W tg iter it
  blk : BlkOk X.N X.env.scope scope own
  pg : ∀ (s : Shared) (H : Hp) (C : Addr) (cl : List (Str × Addr)) (fp : List Addr), PG (X.blk s H scope (compEnvC scope cl C X.env) fp) tg (gT X.K is one)
  sc : ∀ (s : Shared) (H : Hp) (C : Addr) (cl : List (Str × Addr)) (fp : List Addr), SC Φ γ (X.blk s H scope (compEnvC scope cl C X.env) fp) W0 ifs cond
  si1 : ∀ (s : Shared) (H : Hp) (C : Addr) (cl : List (Str × Addr)) (fp : List Addr), SI Φ γ (X.blk s H scope (compEnvC scope cl C X.env) fp) W0 tg1 iter1 it1
  pg1 : ∀ (s : Shared) (H : Hp) (C : Addr) (cl : List (Str × Addr)) (fp : List Addr), PG (X.blk s H scope (compEnvC scope cl C X.env) fp) tg1 (gT X.K is1 one1)
  sc1 : ∀ (s : Shared) (H : Hp) (C : Addr) (cl : List (Str × Addr)) (fp : List Addr), SC Φ γ (X.blk s H scope (compEnvC scope cl C X.env) fp) W0 ifs1 cond1
  se : ∀ (s : Shared) (H : Hp) (C : Addr) (cl : List (Str × Addr)) (fp : List Addr), SE Φ γ (X.blk s H scope (compEnvC scope cl C X.env) fp) W0 elt ie
  fs : ∀ x, foldedSetIterable iter X.env x = pure x
  fs1 : ∀ env x, foldedSetIterable iter1 env x = pure x
  ow0 : ∀ i ∈ is, i ∈ own.map (·.2)
  ow1 : ∀ i ∈ is1, i ∈ own.map (·.2)
section
variable {elt tg iter tg1 iter1 : Expr} {ifs ifs1 : List Expr} {scope : Scope} {own : List (Str × Nat)} {ie : E} {is is1 : List Nat} {one one1 : Bool} {it it1 : I} {cond cond1 : T} {pos : Pos}
theorem se_comp2 (hc : X.calm = true) (hN : X.N.Nodup) (l : LC2 Φ γ X W elt tg iter ifs tg1 iter1 ifs1 scope own ie is one it cond is1 one1 it1 cond1) :
    SE Φ γ X W (.ListComp elt [⟨tg, iter, ifs, 0⟩, ⟨tg1, iter1, ifs1, 0⟩] scope pos) (.comp2 ie is one (own.map (·.2)) it cond is1 one1 it1 cond1) := by
  obtain ⟨wi, pi, ri⟩ := l.si
  exact ⟨_, pe_lc2 (te := tDE Φ γ X.K W0 ie) (tt := tDT Φ γ X.K W0 cond) (tt1 := tDT Φ γ X.K W0 cond1) (wi1 := tDI Φ γ X.K W0 it1) hc hN pi l.blk l.ow1 l.pg l.sc (fun s H C cl fp => (l.si1 s H C cl fp).pi) l.pg1 l.sc1 (fun s H C cl fp => (l.se s H C cl fp).pe) l.fs l.fs1, comp2_read ri l.ow0⟩
end
/-! ### zip -/
theorem seq_src {G : Hp} {M : MS} {H : Hp} {v : V} {d : D} {xs : List D} (o : OkS X.K G M H) (dv : Dv X.K G v d) (e : seqD (view M d) = some xs) :
    ∃ k a, v = .ref a ∧ ∀ G2 M2 H2, OkS X.K G2 M2 H2 → Sub G G2 → seqD (view M2 d) = some xs → ∃ vs, SqB X.K k H2 a vs ∧ DvAll X.K G2 vs xs := by
  cases dv with
  | lst h t =>
    cases e
    exact ⟨false, _, rfl, fun G2 M2 H2 o2 sg _ => ⟨_, SqL.of (o2.sub _ _ (sg _ _ h)), t.mono sg⟩⟩
  | tup h t =>
    cases e
    exact ⟨true, _, rfl, fun G2 M2 H2 o2 sg _ => ⟨_, o2.sub.sqT (sg.sqT h), t.mono sg⟩⟩
  | obj a =>
    refine ⟨false, a, rfl, fun G2 M2 H2 o2 sg e2 => ?_⟩
    unfold view at e2
    split at e2
    · rename_i p ez
      cases ez
      split at e2
      · rename_i ds e3
        cases e2
        obtain ⟨vs, h1, t⟩ := o2.mok a _ e3
        exact ⟨vs, SqL.of h1, t⟩
      · cases e2
    · rename_i hno; exact absurd rfl (hno a)
  | non => cases e
  | bl b => cases e
  | int i => cases e
  | str x => cases e
  | dct h l t => cases e
  | ty n => cases e
  | _ => cases e
theorem walk_zip {K : PySem.W.Frag} {G0 : Hp} {k1 k2 : Bool} {a b : Addr} {xs ys : List D} {src : MS → Prop}
    (h1 : ∀ G M H, OkS K G M H → Sub G0 G → src M → ∃ vs, SqB K k1 H a vs ∧ DvAll K G vs xs) (h2 : ∀ G M H, OkS K G M H → Sub G0 G → src M → ∃ vs, SqB K k2 H b vs ∧ DvAll K G vs ys) :
    WalkJ K G0 (ItzB K k1 k2 a b) src (List.zipWith (fun a b => D.tup [a, b]) xs ys) where
  go := fun G M H i o sg sm hi => by
    obtain ⟨vs, q1, t1⟩ := h1 G M H o sg sm
    obtain ⟨ws, q2, t2⟩ := h2 G M H o sg sm
    rw [List.length_zipWith] at hi
    have l1 := t1.length
    have l2 := t2.length
    have e1 : i < vs.length := by omega
    have e2 : i < ws.length := by omega
    exact ⟨vs, ws, vs[i], ws[i], q1, q2, by simp [e1], by simp [e2]⟩
  stop := fun G M H i o sg sm hi => by
    obtain ⟨vs, q1, t1⟩ := h1 G M H o sg sm
    obtain ⟨ws, q2, t2⟩ := h2 G M H o sg sm
    rw [List.length_zipWith] at hi
    have l1 := t1.length
    have l2 := t2.length
    exact ⟨vs, ws, q1, q2, by omega, by omega, by omega⟩
  yld := fun G M H i x H' o sg sm hi y => by
    obtain ⟨vs, q1, t1⟩ := h1 G M H o sg sm
    obtain ⟨ws, q2, t2⟩ := h2 G M H o sg sm
    obtain ⟨T, x1, x2, rfl, hT, rfl, y1, y2⟩ := y
    obtain ⟨d, e1, r1⟩ := t1.get' (y1 vs q1)
    obtain ⟨d2, e2, r2⟩ := t2.get' (y2 ws q2)
    have sb := sub_upd (o := HO.tup [x1, x2]) (o.noG hT)
    exact ⟨.tup [d, d2], _, by rw [List.getElem?_zipWith, e1, e2], (Step.refl o).allocG hT, .tup (SqT.of upd_same) (.cons (r1.mono sb) (.one (r2.mono sb)))⟩
theorem si_zip {e e2 : Expr} {ie ie2 : E} {elts : List Expr} {kk : Nat} {tpos p pos : Pos} (hg : Gl X "zip") (hm : X.mg "zip" = none) (he : SE Φ γ X W e ie) (he2 : SE Φ γ X W e2 ie2)
    (hs : starEach [e, e2] X.env = (false, eval e X.env) :: starEach [e2] X.env) (hs2 : starEach [e2] X.env = (false, eval e2 X.env) :: starEach [] X.env) :
    SI Φ γ X W (.Tuple elts kk tpos) (.Call (.Name "zip" p) [e, e2] [] pos) (.zip ie ie2) := by
  obtain ⟨t1, p1, r1⟩ := he
  obtain ⟨t2, p2, r2⟩ := he2
  refine ⟨_, pi_zipB hg hm (pa_cons p1 (pa_cons p2 pa_nil hs2) hs) hs (by rw [hs2]; rfl), fun σ δ G M H R Qd Zd ok er hq hz h => ?_⟩
  unfold evalI at h
  show t1 σ H _
  refine run_e r1 ok er hz h fun ra M1 v G1 H1 q s1 dv => ?_
  show t2 σ H1 _
  refine run_e r2 s1.ok (er.mono s1.sub) (px_after s1 hz) q fun rb M2 v2 G2 H2 q2 s2 dv2 => ?_
  obtain ⟨xs, ys, e1, e2, q⟩ := q2
  have s12 := s1.trans s2
  obtain ⟨k1, a, rfl, f1⟩ := seq_src (X := X) s2.ok (dv.mono s2.sub) e1
  obtain ⟨k2, b, rfl, f2⟩ := seq_src (X := X) s2.ok dv2 e2
  obtain ⟨vs, g1, _⟩ := f1 G2 M2 H2 s2.ok (Sub.refl _) e1
  obtain ⟨ws, g2, _⟩ := f2 G2 M2 H2 s2.ok (Sub.refl _) e2
  exact ⟨k1, k2, a, b, vs, ws, rfl, g1, g2, hq _ _ _ q _ G2 H2 s12 (walk_zip (fun G3 M3 H3 o3 sg sm => f1 G3 M3 H3 o3 sg sm.1) fun G3 M3 H3 o3 sg sm => f2 G3 M3 H3 o3 sg sm.2)⟩
/-! ### starred parts of a display -/
theorem sa_star {e : Expr} {es : List Expr} {ie : E} {ies : Es} {p : Pos} (he : SE Φ γ X W e ie) (hs : SA Φ γ X W es ies) : SA Φ γ X W (.Starred e p :: es) (.star ie ies) := by
  obtain ⟨te, pe, re⟩ := he
  obtain ⟨ta, pa, ra⟩ := hs
  refine ⟨_, StX.pa_star pe pa, fun σ δ G M H Q Qd Zd ok er hq hz h => ?_⟩
  unfold evalEs at h
  show te σ H _
  refine run_e re ok er hz h fun r M1 v G1 H1 q s1 dv => ?_
  obtain ⟨xs, e1, q⟩ := q
  obtain ⟨k, a, rfl, f⟩ := seq_src (X := X) s1.ok dv e1
  obtain ⟨vs, g, t⟩ := f G1 M1 H1 s1.ok (Sub.refl _) e1
  refine ⟨a, vs, rfl, by cases k; exact .inr g; exact .inl g, ?_⟩
  refine ra σ δ G1 M1 H1 _ _ Zd s1.ok (er.mono s1.sub) (fun ds M2 q2 ws G2 H2 s2 t2 => ?_) (px_after s1 hz) q
  exact hq _ _ q2 _ G2 H2 (s1.trans s2) ((t.mono s2.sub).append t2)
/-! ### d.get(k, x) -/
theorem se_get {a k d : Expr} {ia ik id' : E} {apos cpos : Pos} (hu : X.A.units + 64 < cLine) (ha : SE Φ γ X W a ia) (hk : SE Φ γ X W k ik) (hd : SE Φ γ X W d id') (m : M2 X a "get" apos k d cpos) :
    SE Φ γ X W (.Call (.Attribute a "get" apos) [k, d] [] cpos) (.get ia ik id') := by
  obtain ⟨t1, p1, r1⟩ := ha
  obtain ⟨t2, p2, r2⟩ := hk
  obtain ⟨t3, p3, r3⟩ := hd
  refine ⟨_, pe_dget2 (by omega) p1 p2 p3 m, fun σ δ G M H Q Qd Zd ok er hq hz h => ?_⟩
  unfold evalE at h
  show t1 σ H _
  refine run_e r1 ok er hz h fun r M1 v G1 H1 q s1 dv => ?_
  obtain ⟨kvs, ed, q⟩ := q
  rw [ed] at dv
  cases dv with
  | dct h1 l t =>
    refine ⟨_, rfl, .inl ⟨_, .inr ⟨_, s1.ok.sub _ _ h1⟩⟩, ?_⟩
    show t2 σ H1 _
    refine run_e r2 s1.ok (er.mono s1.sub) (px_after s1 hz) q fun r' M2 v2 G2 H2 q2 s2 dv2 => ?_
    obtain ⟨kx, ek, q2⟩ := q2
    rw [ek] at dv2
    cases dv2
    have s12 := s1.trans s2
    show t3 σ H2 _
    refine run_e r3 s2.ok (er.mono s12.sub) (px_after s12 hz) q2 fun r'' M3 v3 G3 H3 q3 s3 dv3 => ?_
    have s13 := s12.trans s3
    have h3 := s3.ok.sub _ _ (s3.sub _ _ (s2.sub _ _ h1))
    refine ⟨_, .inl ⟨_, .inr kx, .inr ⟨_, h3⟩, rfl, rfl⟩, ?_⟩
    rename_i ks vs ds
    cases e2 : valD (List.zip ks ds) (.inr kx) with
    | some d0 =>
      obtain ⟨w, e3, dw⟩ := valD_all l (t.mono (s2.sub.trans s3.sub)) e2
      rw [e2] at q3
      rw [e3]
      exact hq _ _ q3 _ G3 H3 s13 dw
    | none =>
      have e3 : valV (List.zip ks vs) (.inr kx) = none := valD_none l t e2
      rw [e2] at q3
      rw [e3]
      exact hq _ _ q3 _ G3 H3 s13 dv3
/-! ### repr through lists that are changed -/
theorem se_reprd {a : Expr} {ia : E} {p pos : Pos} (c : Cal X) (hg : Gl X "repr") (hm : X.mg "repr" = none) (ha : SE Φ γ X W a ia) (na : starEach [a] X.env = (false, eval a X.env) :: starEach [] X.env) : SE Φ γ X W (.Call (.Name "repr" p) [a] [] pos) (.reprd ia) := by
  obtain ⟨t1, p1, r1⟩ := ha
  refine ⟨_, pe_callB (reprd_call c) hg hm (bi_boot .repr) (pa_cons p1 pa_nil na) (by decide) (by decide) na rfl, fun σ δ G M H Q Qd Zd ok er hq hz h => ?_⟩
  unfold evalE at h
  show t1 σ H _
  refine run_e r1 ok er hz h fun r M1 v G1 H1 q s1 dv => ?_
  obtain ⟨r', e, q⟩ := q
  simp only [biD] at e
  split at e
  · rename_i hc
    cases e
    exact ⟨G1, M1, v, _, rfl, s1.ok, deep_vx s1.ok 4 _ _ dv, hc.1, hc.2.1, hc.2.2.1, hc.2.2.2, hq _ _ q _ G1 H1 s1 (.str _)⟩
  · cases e
/-! ### len(set(xs)) -/
theorem se_lens {a : Expr} {ia : E} {p p2 q pos : Pos} (hc : X.calm = true) (hg : Gl X "len") (hm : X.mg "len" = none) (hg2 : Gl X "set") (hm2 : X.mg "set" = none) (ha : SE Φ γ X W a ia)
    (na : starEach [a] X.env = (false, eval a X.env) :: starEach [] X.env) : SE Φ γ X W (.Call (.Name "len" p) [.Call (.Name "set" p2) [a] [] q] [] pos) (.lens ia) := by
  obtain ⟨t1, p1, r1⟩ := ha
  refine ⟨_, pe_lens hc hg hm hg2 hm2 p1 na, fun σ δ G M H Q Qd Zd ok er hq hz h => ?_⟩
  unfold evalE at h
  show t1 σ H _
  refine run_e r1 ok er hz h fun r M1 v G1 H1 q s1 dv => ?_
  obtain ⟨ys, e, hl, q⟩ := q
  have vw := dv.vw s1.ok
  unfold textsD at e
  split at e
  · rename_i xs hv
    rw [hv] at vw
    cases vw with
    | lst h1 t => exact ⟨_, ys, rfl, .inl (by rw [← strs_of t e]; exact SqL.of h1), hl, hq _ _ q _ G1 H1 s1 (.int _)⟩
  · rename_i xs hv
    rw [hv] at vw
    cases vw with
    | tup h1 t => exact ⟨_, ys, rfl, .inr (by rw [← strs_of t e]; exact s1.ok.sub.sqT h1), hl, hq _ _ q _ G1 H1 s1 (.int _)⟩
  · cases e
/-! ### sorted(set(xs)) -/
theorem se_sset {a : Expr} {ia : E} {p p2 q pos : Pos} (hc : X.calm = true) (hg : Gl X "sorted") (hm : X.mg "sorted" = none) (hg2 : Gl X "set") (hm2 : X.mg "set" = none) (ha : SE Φ γ X W a ia)
    (na : starEach [a] X.env = (false, eval a X.env) :: starEach [] X.env) : SE Φ γ X W (.Call (.Name "sorted" p) [.Call (.Name "set" p2) [a] [] q] [] pos) (.sset ia) := by
  obtain ⟨t1, p1, r1⟩ := ha
  refine ⟨_, pe_sset hc hg hm hg2 hm2 p1 na, fun σ δ G M H Q Qd Zd ok er hq hz h => ?_⟩
  unfold evalE at h
  show t1 σ H _
  refine run_e r1 ok er hz h fun r M1 v G1 H1 q s1 dv => ?_
  obtain ⟨ys, e, hl, q⟩ := q
  have vw := dv.vw s1.ok
  unfold textsD at e
  split at e
  · rename_i xs hv
    rw [hv] at vw
    cases vw with
    | lst h1 t => exact ⟨_, ys, rfl, .inl (by rw [← strs_of t e]; exact SqL.of h1), hl, fun p hp => ans_new (hq _ _ q) s1 hp (strs_all _)⟩
  · rename_i xs hv
    rw [hv] at vw
    cases vw with
    | tup h1 t => exact ⟨_, ys, rfl, .inr (by rw [← strs_of t e]; exact s1.ok.sub.sqT h1), hl, fun p hp => ans_new (hq _ _ q) s1 hp (strs_all _)⟩
  · cases e
/-! ### max(xs, default=d) -/
def rMaxd (K : PySem.W.Frag) : List V → List V → Hp → VK → Prop := fun xs zs H Q => ∃ a z, ∃ ns : List Int, xs = [.ref a] ∧ zs = [z] ∧ SqL K H a (ns.map V.int) ∧ Q (match maxI ns with | some m => .int m | none => z) H
theorem maxd_call (hc : X.calm = true) (hu : X.A.units + 64 < cLine) : CallRK X (.builtin "max") ["default"] (rMaxd X.K) := by
  intro pins s σ H xs zs us ws Q I r1 r2 h
  obtain ⟨a, z, ns, rfl, rfl, hs, q⟩ := h
  obtain ⟨its, rv, hl, _⟩ := I.list hs
  rw [Vals.ref1 r1]
  obtain ⟨d, rfl, rd⟩ := vals1 r2
  have hold : ∀ {ns : List Int} {its : List Value}, Vals (ns.map V.int) its → PySem.W.HoldAll s.heap its ns := by
    intro ns
    induction ns with
    | nil => intro its r; cases r; exact PySem.W.HoldAll.nil
    | cons n ns ih =>
      intro its r
      cases r with
      | cons r rr =>
        obtain ⟨t, rfl⟩ := r
        exact PySem.W.HoldAll.cons ⟨_, .int n t⟩ (ih rr)
  refine PySem.W.max_list_datum_default (α := Int) (xs := ns) (I.ok.hd hc) hl.isList (by simpa using hold rv) (by show X.A.units + 1 + 0 < cLine; omega) (fun e h' tk hk => ?_) fun y ys i v h' tk e hi hv hk => ?_
  · subst e
    exact ⟨z, H, I.kept hk, rd, q⟩
  · have hm : maxI ns = some (PySem.W.maxOf y ys) := by rw [e]; exact maxI_maxOf y ys
    rw [hm] at q
    obtain ⟨as, rr⟩ := hv
    cases rr
    exact ⟨.int _, H, I.kept hk, ⟨_, rfl⟩, q⟩
theorem se_maxd {a d : Expr} {ia id' : E} {p pos kp : Pos} (hc : X.calm = true) (hu : X.A.units + 64 < cLine) (hg : Gl X "max") (hm : X.mg "max" = none) (ha : SE Φ γ X W a ia) (hd : SE Φ γ X W d id')
    (na : starEach [a] X.env = (false, eval a X.env) :: starEach [] X.env) : SE Φ γ X W (.Call (.Name "max" p) [a] [⟨some "default", d, kp⟩] pos) (.maxd ia id') := by
  obtain ⟨t1, p1, r1⟩ := ha
  obtain ⟨t2, p2, r2⟩ := hd
  refine ⟨_, pe_callBK (maxd_call hc hu) hg hm PyProof.Rows.boot_max (pa_cons p1 pa_nil na) (pk_cons p2 pk_nil) (by decide) (by decide) (by rw [na]; rfl) (by rw [na]; rfl) rfl rfl rfl, fun σ δ G M H Q Qd Zd ok er hq hz h => ?_⟩
  unfold evalE at h
  show t1 σ H _
  refine run_e r1 ok er hz h fun r M1 v G1 H1 q s1 dv => ?_
  show t2 σ H1 _
  refine run_e r2 s1.ok (er.mono s1.sub) (px_after s1 hz) q fun r' M2 v2 G2 H2 q2 s2 dv2 => ?_
  obtain ⟨ns, e, q3⟩ := q2
  have s12 := s1.trans s2
  have vw := (dv.mono s2.sub).vw s2.ok
  unfold numsD at e
  split at e
  · rename_i xs hv
    rw [hv] at vw
    cases vw with
    | lst h1 t =>
      refine ⟨_, _, ns, rfl, rfl, by rw [← ints_of t e]; exact SqL.of h1, ?_⟩
      cases em : maxI ns with
      | some m => rw [em] at q3; exact hq _ _ q3 _ G2 H2 s12 (.int m)
      | none => rw [em] at q3; exact hq _ _ q3 _ G2 H2 s12 dv2
  · cases e
end
end DL
set_option maxRecDepth 100000
set_option maxHeartbeats 2000000
namespace DL
open PySem L2
/-! ### statements -/
def noSliceE : Expr → Bool
  | .Slice .. => false
  | _ => true
/-- what the small form wants behind it is what is wanted in the layer -/
structure Sim (K : PySem.W.Frag) (W : WX) (G : Hp) (M : MS) (H : Hp) (N : Ends) (F : DE) : Prop where
  nx : ∀ δ' M', F.nx δ' M' → ∀ σ' G' H', Step K G M H G' M' H' → ER K G' σ' δ' → N.nx σ' H'
  rt : ∀ r M', F.rt r M' → ∀ v G' H', Step K G M H G' M' H' → Rv K H G' M' H' v r → N.rt v H'
  bk : ∀ δ' M', F.bk δ' M' → ∀ σ' G' H', Step K G M H G' M' H' → ER K G' σ' δ' → N.bk σ' H'
  ct : ∀ δ' M', F.ct δ' M' → ∀ σ' G' H', Step K G M H G' M' H' → ER K G' σ' δ' → N.ct σ' H'
  xc : ∀ x δ' M', F.xc x δ' M' → ∀ cv dA σ' G' H', Step K G M H G' M' H' → XRel K G' x cv dA → ER K G' σ' δ' → W cv dA σ' H'
section
variable {K : PySem.W.Frag} {W : WX} {G G1 : Hp} {M M1 : MS} {H H1 : Hp} {N : Ends} {F : DE}
theorem Sim.after (s : Step K G M H G1 M1 H1) (h : Sim K W G M H N F) : Sim K W G1 M1 H1 N F where
  nx := fun δ' M' q σ' G' H' st er => h.nx δ' M' q σ' G' H' (s.trans st) er
  rt := fun r M' q v G' H' st rv => h.rt r M' q v G' H' (s.trans st) (rv.back s)
  bk := fun δ' M' q σ' G' H' st er => h.bk δ' M' q σ' G' H' (s.trans st) er
  ct := fun δ' M' q σ' G' H' st er => h.ct δ' M' q σ' G' H' (s.trans st) er
  xc := fun x δ' M' q cv dA σ' G' H' st xr er => h.xc x δ' M' q cv dA σ' G' H' (s.trans st) xr er
theorem Sim.pz {σ : L2.St} {δ : DEnv} (h : Sim K W G M H N F) (er : ER K G σ δ) : ∀ x M', F.xc x δ M' → PostX K G M H W σ x M' :=
  fun x M' z cv dA G' H' st xr => h.xc x δ M' z cv dA σ G' H' st xr (er.mono st.sub)
end
section
variable (Φ : Fns) (γ : List D) (X : Cx) (W : WX)
def SS (st : Stmt) (ir : S) : Prop := ∃ t, PS X st t ∧ ∀ (σ : L2.St) (δ : DEnv) (G : Hp) (M : MS) (H : Hp) (N : Ends) (F : DE), OkS X.K G M H → ER X.K G σ δ → Sim X.K W G M H N F → execS Φ γ ir F δ M → t N σ H
def SSs (sts : List Stmt) (ir : Ss) : Prop := ∃ t, PSs X sts t ∧ ∀ (σ : L2.St) (δ : DEnv) (G : Hp) (M : MS) (H : Hp) (N : Ends) (F : DE), OkS X.K G M H → ER X.K G σ δ → Sim X.K W G M H N F → execSs Φ γ ir F δ M → t N σ H
end
section
variable {K : PySem.W.Frag} {G G1 : Hp} {M M1 : MS} {H H1 : Hp}
/-- a list of nobody's becomes one with an identity -/
theorem Step.own (s : Step K G M H G1 M1 H1) {p : Addr} {vs : List V} {ds : List D} (h0 : H p = none) (h1 : H1 p = some (.lst vs)) (hg : G1 p = none) (hm : M1 p = none) (t : DvAll K G1 vs ds) : Step K G M H G1 (updM M1 p (.lst ds)) H1 := by
  refine ⟨⟨s.ok.sub, fun a mo e => ?_, fun a mo e => ?_⟩, s.sub, s.keep, fun a mo hma e => ?_, s.dom, s.newG⟩
  · by_cases ha : a = p
    · rw [ha]; exact hg
    · rw [updM_ne ha] at e; exact s.ok.dis a mo e
  · by_cases ha : a = p
    · subst ha
      rw [updM_same] at e
      cases e
      exact ⟨vs, h1, t⟩
    · rw [updM_ne ha] at e
      exact s.ok.mok a mo e
  · by_cases ha : a = p
    · rw [ha]; exact h0
    · rw [updM_ne ha] at e; exact s.newM a mo hma e
/-- a list with an identity is changed -/
theorem Step.mut (s : Step K G M H G1 M1 H1) {p : Addr} {ds ds' : List D} {vs : List V} (hm : M1 p = some (.lst ds)) (t : DvAll K G1 vs ds') : Step K G M H G1 (updM M1 p (.lst ds')) (upd H1 p (.lst vs)) := by
  have hg := s.ok.dis p _ hm
  obtain ⟨u, hu⟩ := (s.ok.mok p _ hm).there
  refine ⟨⟨fun a o e => ?_, fun a mo e => ?_, fun a mo e => ?_⟩, s.sub, fun a o e hma => ?_, fun a mo hma e => ?_, fun a e => ?_, s.newG⟩
  · rw [upd_ne (fun z => by rw [z, hg] at e; cases e)]; exact s.ok.sub a o e
  · by_cases ha : a = p
    · rw [ha]; exact hg
    · rw [updM_ne ha] at e; exact s.ok.dis a mo e
  · by_cases ha : a = p
    · subst ha
      rw [updM_same] at e
      cases e
      exact ⟨vs, upd_same, t⟩
    · rw [updM_ne ha] at e
      exact (s.ok.mok a mo e).at_ (upd_ne ha)
  · have q := s.keep a o e hma
    by_cases ha : a = p
    · subst ha
      have z := s.noM e hma
      rw [hm] at z; cases z
    · rw [upd_ne ha]; exact q
  · by_cases ha : a = p
    · subst ha; exact s.newM a _ hma hm
    · rw [updM_ne ha] at e; exact s.newM a mo hma e
  · by_cases ha : a = p
    · subst ha; rw [upd_same] at e; cases e
    · rw [upd_ne ha] at e; exact s.dom a e
end
section
variable {Φ : Fns} {γ : List D} {X : Cx} {W : WX} {pos pos' : Pos} {e o i : Expr} {ie io ii : E}
theorem sss_nil : SSs Φ γ X W [] .nil := ⟨_, pss_nil, fun σ δ G M H N F ok er sim h => by unfold execSs at h; exact sim.nx _ _ h σ G H (Step.refl ok) er⟩
theorem sss_cons {st : Stmt} {sts : List Stmt} {ir : S} {irs : Ss} (h1 : SS Φ γ X W st ir) (h2 : SSs Φ γ X W sts irs) : SSs Φ γ X W (st :: sts) (.cons ir irs) := by
  obtain ⟨t1, p1, r1⟩ := h1
  obtain ⟨t2, p2, r2⟩ := h2
  refine ⟨_, pss_cons p1 p2, fun σ δ G M H N F ok er sim h => ?_⟩
  unfold execSs at h
  exact r1 σ δ G M H _ { F with nx := fun δ' M' => execSs Φ γ irs F δ' M' } ok er ⟨fun δ' M' q σ' G' H' st er' => r2 σ' δ' G' M' H' N F st.ok er' (sim.after st) q, sim.rt, sim.bk, sim.ct, sim.xc⟩ h
theorem ss_pass : SS Φ γ X W (.Pass pos) .pass := ⟨_, ps_pass, fun σ δ G M H N F ok er sim h => by unfold execS at h; exact sim.nx _ _ h σ G H (Step.refl ok) er⟩
theorem ss_brk : SS Φ γ X W (.Break pos) .brk := ⟨_, ps_break, fun σ δ G M H N F ok er sim h => by unfold execS at h; exact sim.bk _ _ h σ G H (Step.refl ok) er⟩
theorem ss_cnt : SS Φ γ X W (.Continue pos) .cnt := ⟨_, ps_continue, fun σ δ G M H N F ok er sim h => by unfold execS at h; exact sim.ct _ _ h σ G H (Step.refl ok) er⟩
theorem ss_retN : SS Φ γ X W (.Return none pos) .retN := ⟨_, ps_retN, fun σ δ G M H N F ok er sim h => by unfold execS at h; exact sim.rt _ _ h _ G H (Step.refl ok) .non⟩
theorem ss_ret (he : SE Φ γ X W e ie) : SS Φ γ X W (.Return (some e) pos) (.ret ie) := by
  obtain ⟨t1, p1, r1⟩ := he
  refine ⟨_, ps_ret p1, fun σ δ G M H N F ok er sim h => ?_⟩
  unfold execS at h
  exact r1 σ δ G M H _ _ _ ok er (fun r M' q v G' H' s rv => sim.rt r M' q v G' H' s rv) (sim.pz er) h
theorem ss_exp (he : SE Φ γ X W e ie) (hs : swapsWith e none pos.line X.env = pure false) : SS Φ γ X W (.Expr e pos) (.exp ie) := by
  obtain ⟨t1, p1, r1⟩ := he
  refine ⟨_, ps_expr p1 hs, fun σ δ G M H N F ok er sim h => ?_⟩
  unfold execS at h
  show t1 σ H _
  refine run_e r1 ok er (sim.pz er) h fun r M1 v G1 H1 q s1 dv => ?_
  exact sim.nx _ _ q σ G1 H1 s1 (er.mono s1.sub)
theorem ss_doc {x j p} : SS Φ γ X W (.Expr (.Constant (.str x) j p) pos) .pass := ⟨_, ps_doc, fun σ δ G M H N F ok er sim h => by unfold execS at h; exact sim.nx _ _ h σ G H (Step.refl ok) er⟩
/-- a value goes to a name -/
theorem set_read {t1 : TE} {i : Nat} (r1 : ∀ (σ : L2.St) (δ : DEnv) (G : Hp) (M : MS) (H : Hp) (Q : VK) (Qd : KR) (Zd : KX), OkS X.K G M H → ER X.K G σ δ →
      (∀ r M', Qd r M' → PostV X.K G M H Q r M') → (∀ x M', Zd x M' → PostX X.K G M H W σ x M') → evalE Φ γ ie δ M Qd Zd → t1 σ H Q)
    (σ : L2.St) (δ : DEnv) (G : Hp) (M : MS) (H : Hp) (N : Ends) (F : DE) (ok : OkS X.K G M H) (er : ER X.K G σ δ) (sim : Sim X.K W G M H N F) (h : execS Φ γ (.set i ie) F δ M) : tAsg t1 (gName i) N σ H := by
  unfold execS at h
  show t1 σ H _
  refine run_e r1 ok er (sim.pz er) h fun r M1 v G1 H1 q s1 dv => ?_
  exact sim.nx _ _ q _ G1 H1 s1 ((er.mono s1.sub).set i dv)
theorem setM_read {t1 : TE} {i : Nat} (r1 : ∀ (σ : L2.St) (δ : DEnv) (G : Hp) (M : MS) (H : Hp) (Q : VK) (Qd : KR) (Zd : KX), OkS X.K G M H → ER X.K G σ δ →
      (∀ r M', Qd r M' → PostV X.K G M H Q r M') → (∀ x M', Zd x M' → PostX X.K G M H W σ x M') → evalE Φ γ ie δ M Qd Zd → t1 σ H Q)
    (σ : L2.St) (δ : DEnv) (G : Hp) (M : MS) (H : Hp) (N : Ends) (F : DE) (ok : OkS X.K G M H) (er : ER X.K G σ δ) (sim : Sim X.K W G M H N F) (h : execS Φ γ (.setM i ie) F δ M) : tAsg t1 (gName i) N σ H := by
  unfold execS at h
  refine r1 σ δ G M H _ _ _ ok er (fun r M1 q v G1 H1 s1 rv => ?_) (sim.pz er) h
  obtain ⟨ds, rfl, q⟩ := q
  obtain ⟨p, vs, rfl, h0, h1, hg, hm, t⟩ := rv
  exact sim.nx _ _ (q p hm) _ G1 H1 (s1.own h0 h1 hg hm t) ((er.mono s1.sub).set i (.obj p))
theorem ss_set {i : Nat} {x : Str} (hN : X.N.Nodup) (hi : X.N[i]? = some x) (hx : Loc X.env.scope x) (he : SE Φ γ X W e ie) (hs : swapsWith e (some (.Name x pos')) pos.line X.env = pure false) (hf : X.fn x = true ∨ X.env.scope.names.lookup x = some .local) :
    SS Φ γ X W (.Assign [.Name x pos'] e pos) (.set i ie) := by
  obtain ⟨t1, p1, r1⟩ := he
  exact ⟨_, ps_set hN hi hx p1 hs hf, set_read r1⟩
theorem ss_setM {i : Nat} {x : Str} (hN : X.N.Nodup) (hi : X.N[i]? = some x) (hx : Loc X.env.scope x) (he : SE Φ γ X W e ie) (hs : swapsWith e (some (.Name x pos')) pos.line X.env = pure false) (hf : X.fn x = true ∨ X.env.scope.names.lookup x = some .local) :
    SS Φ γ X W (.Assign [.Name x pos'] e pos) (.setM i ie) := by
  obtain ⟨t1, p1, r1⟩ := he
  exact ⟨_, ps_set hN hi hx p1 hs hf, setM_read r1⟩
/-- name = [..], stored within the comprehension's own frame -/
theorem ss_setLc {i : Nat} {y : Str} {py spos : Pos} {elt tg iter : Expr} {ifs : List Expr} {scope : Scope} {own : List (Str × Nat)} {iel : E} {it : I} {cond : T} {is : List Nat} {one : Bool} (hc : X.calm = true) (hN : X.N.Nodup)
    (hy : X.N[i]? = some y) (hyl : X.env.scope.names.lookup y = some .local) (hsw : swapsWith (.ListComp elt [⟨tg, iter, ifs, 0⟩] scope pos) (some (.Name y py)) spos.line X.env = pure true) (hi : SI Φ γ X W tg iter it)
    (ok : BlkOk X.N X.env.scope scope own)
    (hg : ∀ (s : Shared) (H : Hp) (C : Addr) (cl : List (Str × Addr)) (fp : List Addr), PG (X.blk s H scope (compEnvC scope cl C X.env) fp) tg (gT X.K is one))
    (ht : ∀ (s : Shared) (H : Hp) (C : Addr) (cl : List (Str × Addr)) (fp : List Addr), SC Φ γ (X.blk s H scope (compEnvC scope cl C X.env) fp) W0 ifs cond)
    (he : ∀ (s : Shared) (H : Hp) (C : Addr) (cl : List (Str × Addr)) (fp : List Addr), SE Φ γ (X.blk s H scope (compEnvC scope cl C X.env) fp) W0 elt iel)
    (hs : ∀ x, foldedSetIterable iter X.env x = pure x) (hown : ∀ i ∈ is, i ∈ own.map (·.2)) :
    SS Φ γ X W (.Assign [.Name y py] (.ListComp elt [⟨tg, iter, ifs, 0⟩] scope pos) spos) (.set i (.comp iel is one (own.map (·.2)) it cond)) ∧
    SS Φ γ X W (.Assign [.Name y py] (.ListComp elt [⟨tg, iter, ifs, 0⟩] scope pos) spos) (.setM i (.comp iel is one (own.map (·.2)) it cond)) := by
  obtain ⟨wi, pi, ri⟩ := hi
  have p := ps_setLc (te := tDE Φ γ X.K W0 iel) (tt := tDT Φ γ X.K W0 cond) hc hN hy hyl hsw pi ok hg ht (fun s H C cl fp => (he s H C cl fp).pe) hs
  exact ⟨⟨_, p, set_read (comp_read ri hown)⟩, ⟨_, p, setM_read (comp_read ri hown)⟩⟩
theorem ss_setLc2 {i : Nat} {y : Str} {py spos : Pos} {elt tg iter tg1 iter1 : Expr} {ifs ifs1 : List Expr} {scope : Scope} {own : List (Str × Nat)} {iel : E} {it it1 : I} {cond cond1 : T} {is is1 : List Nat} {one one1 : Bool} (hc : X.calm = true) (hN : X.N.Nodup)
    (hy : X.N[i]? = some y) (hyl : X.env.scope.names.lookup y = some .local) (hsw : swapsWith (.ListComp elt [⟨tg, iter, ifs, 0⟩, ⟨tg1, iter1, ifs1, 0⟩] scope pos) (some (.Name y py)) spos.line X.env = pure true)
    (l : LC2 Φ γ X W elt tg iter ifs tg1 iter1 ifs1 scope own iel is one it cond is1 one1 it1 cond1) :
    SS Φ γ X W (.Assign [.Name y py] (.ListComp elt [⟨tg, iter, ifs, 0⟩, ⟨tg1, iter1, ifs1, 0⟩] scope pos) spos) (.set i (.comp2 iel is one (own.map (·.2)) it cond is1 one1 it1 cond1)) ∧
    SS Φ γ X W (.Assign [.Name y py] (.ListComp elt [⟨tg, iter, ifs, 0⟩, ⟨tg1, iter1, ifs1, 0⟩] scope pos) spos) (.setM i (.comp2 iel is one (own.map (·.2)) it cond is1 one1 it1 cond1)) := by
  obtain ⟨wi, pi, ri⟩ := l.si
  have p := ps_setLc2 (te := tDE Φ γ X.K W0 iel) (tt := tDT Φ γ X.K W0 cond) (tt1 := tDT Φ γ X.K W0 cond1) (wi1 := tDI Φ γ X.K W0 it1) hc hN hy hyl hsw pi l.blk l.ow1 l.pg l.sc (fun s H C cl fp => (l.si1 s H C cl fp).pi) l.pg1 l.sc1 (fun s H C cl fp => (l.se s H C cl fp).pe) l.fs l.fs1
  exact ⟨⟨_, p, set_read (comp2_read ri l.ow0)⟩, ⟨_, p, setM_read (comp2_read ri l.ow0)⟩⟩
/-- x op= e -/
theorem aug_ok (op : Operator) : OpR X (inplaceOp op) (fun x y H Q => (∃ l b xs zs, op = .Add ∧ x = .ref l ∧ y = .ref b ∧ H l = some (.lst xs) ∧ H b = some (.lst zs) ∧ xs.length + zs.length ≤ sizeLine ∧ Q (.ref l) (upd H l (.lst (xs ++ zs)))) ∨
    ∃ (G : Hp) (xd yd z : D), Dv X.K G x xd ∧ Dv X.K G y yd ∧ augD op xd yd = some z ∧ ∀ v, Dv X.K G v z → Q v H) := by
  intro pins s σ H x y v u Q I rx ry h
  rcases h with ⟨l, b, xs, zs, rfl, h⟩ | ⟨G, xd, yd, z, hx, hy, e, q⟩
  · exact iop_ext pins s σ H x y v u Q I rx ry ⟨l, b, xs, zs, h⟩
  · unfold augD at e
    split at e
    · cases hx; cases hy; cases e
      exact iop_add pins s σ H _ _ v u Q I rx ry ⟨_, _, rfl, rfl, q _ (.int _)⟩
    · cases hx; cases hy; cases e
      exact iop_sub pins s σ H _ _ v u Q I rx ry ⟨_, _, rfl, rfl, q _ (.int _)⟩
    · cases hx; cases hy
      split at e
      · cases e; rename_i hz
        exact iop_add_str pins s σ H _ _ v u Q I rx ry ⟨_, _, rfl, rfl, hz, q _ (.str _)⟩
      · cases e
    · cases e
theorem ss_aug {i : Nat} {x : Str} {op : Operator} (hN : X.N.Nodup) (hi : X.N[i]? = some x) (hx : Loc X.env.scope x) (he : SE Φ γ X W e ie) (hf : X.fn x = true ∨ X.env.scope.names.lookup x = some .local) :
    SS Φ γ X W (.AugAssign (.Name x pos') op e pos) (.aug i op ie) := by
  obtain ⟨t1, p1, r1⟩ := he
  refine ⟨_, ps_aug hN hi hx p1 (aug_ok op) hf, fun σ δ G M H N F ok er sim h => ?_⟩
  unfold execS at h
  obtain ⟨d, hd, h⟩ := h
  obtain ⟨v, hv, dv⟩ := er.at_ i d hd
  refine ⟨v, hv, ?_⟩
  refine run_e r1 ok er (sim.pz er) h fun r M1 w G1 H1 q s1 dw => ?_
  rcases q with ⟨p, xs, ys, rfl, rfl, hm, hy, hz, q⟩ | ⟨z, ez, q⟩
  · cases dv
    have vw := dw.vw s1.ok
    rw [hy] at vw
    obtain ⟨vs, h1, t1⟩ := s1.ok.mok p _ hm
    cases vw with
    | lst h2 t2 =>
      refine .inl ⟨p, _, vs, _, rfl, rfl, rfl, h1, h2, by rw [t1.length, t2.length]; exact hz, ?_⟩
      refine sim.nx _ _ q _ G1 _ (s1.mut hm (t1.append t2)) ?_
      have er' := (er.mono s1.sub).set i (.obj p)
      have e2 : δ.set i (some (.obj p)) = δ := by
        apply List.ext_getElem?
        intro j
        by_cases hj : i = j
        · subst hj
          rw [List.getElem?_set_self', hd]; rfl
        · rw [List.getElem?_set_ne hj]
      rw [e2] at er'
      exact er'
  · refine .inr ⟨G1, d, _, z, dv.mono s1.sub, dw, ez, fun v' dv' => ?_⟩
    exact sim.nx _ _ q _ G1 H1 s1 ((er.mono s1.sub).set i dv')
/-- o[i] = e -/
theorem ss_sto {tpos : Pos} (ho : SE Φ γ X W o io) (hi : SE Φ γ X W i ii) (he : SE Φ γ X W e ie)
    (ha : ∀ v, assign (.Subscript o i tpos) X.env v = (do
      let ov ← holding [v] (eval o X.env)
      let iv ← holding [v, ov] (eval i X.env)
      standAt tpos
      holding [v, ov, iv] (setItem ov iv v)
      release [v, ov, iv] []))
    (hs : swapsWithSole [.Subscript o i tpos] e pos.line X.env = pure false) (hw : swappedStores [.Subscript o i tpos] e X.env = pure none)
    (h1 : (assignEach [.Subscript o i tpos] X.env).map (·.2) = [assign (.Subscript o i tpos) X.env]) : SS Φ γ X W (.Assign [.Subscript o i tpos] e pos) (.sto io ii ie) := by
  obtain ⟨t1, p1, r1⟩ := ho
  obtain ⟨t2, p2, r2⟩ := hi
  obtain ⟨t3, p3, r3⟩ := he
  refine ⟨_, ps_asg p3 (pg_sub p1 p2 set_list ha) hs hw h1, fun σ δ G M H N F ok er sim h => ?_⟩
  unfold execS at h
  show t3 σ H _
  refine run_e r3 ok er (sim.pz er) h fun r M1 v G1 H1 q s1 dv => ?_
  show t1 σ H1 _
  refine run_e r1 s1.ok (er.mono s1.sub) ((sim.after s1).pz (er.mono s1.sub)) q fun r2' M2 v2 G2 H2 q2 s2 dv2 => ?_
  have s12 := s1.trans s2
  show t2 σ H2 _
  refine run_e r2 s2.ok (er.mono s12.sub) ((sim.after s12).pz (er.mono s12.sub)) q2 fun r3' M3 v3 G3 H3 q3 s3 dv3 => ?_
  obtain ⟨p, ds, k, j, e1, hm, e2, hj, q⟩ := q3
  rw [e1] at dv2
  rw [e2] at dv3
  cases dv2; cases dv3
  have s13 := s12.trans s3
  obtain ⟨vs, h1, t1⟩ := s13.ok.mok p _ hm
  refine ⟨p, vs, k, j, rfl, rfl, h1, by rw [t1.length]; exact hj, ?_⟩
  exact sim.nx _ _ q σ G3 _ (s13.mut hm (t1.set (dv.mono (s2.sub.trans s3.sub)) j)) (er.mono s13.sub)
/-- o[i] op= e -/
def rGetL : V → V → Hp → VK → Prop := fun o i H Q => ∃ p xs k v, o = .ref p ∧ i = .int k ∧ H p = some (.lst xs) ∧ atI xs k = some v ∧ Q v H
theorem get_list : PGet X rGetL := by
  intro pins s σ H o i ov iv Q I ro ri h
  obtain ⟨p, xs, k, v, rfl, rfl, hp, ha, q⟩ := h
  cases ro
  obtain ⟨t, rfl⟩ := ri
  obtain ⟨its, r, pl, hz⟩ := I.list (SqL.of hp)
  obtain ⟨j, h1, h2, h3, h4, h5⟩ := atI_get ha
  obtain ⟨w, ew, rw'⟩ := r.get h2
  have hl : xs.length = its.length := r.length
  have big := line63
  have fin : EP X pins σ Q w s := ⟨v, H, I, rw', q⟩
  rcases Int.lt_or_le k 0 with h0 | h0
  · have ej : (k + (its.toArray.size : Int)).toNat = j := by
      rw [seqIndex_neg (by omega) h4] at h1
      rw [List.size_toArray, ← hl]
      exact Option.some.inj h1
    exact wpAny_getItem_list_neg pl.isList (by omega) (by rw [List.size_toArray] <;> omega) (by omega) (by rw [ej]; simpa using ew) fin
  · have ej : k.toNat = j := by
      rw [seqIndex_of h0 h5] at h1
      exact Option.some.inj h1
    exact wpAny_getItem_list pl.isList h0 (by omega) (by rw [ej]; simpa using ew) fin
theorem ss_augS {tpos : Pos} {op : Operator} (ho : SE Φ γ X W o io) (hi : SE Φ γ X W i ii) (he : SE Φ γ X W e ie) (hs : noSliceE i = true) : SS Φ γ X W (.AugAssign (.Subscript o i tpos) op e pos) (.augS io ii op ie) := by
  obtain ⟨t1, p1, r1⟩ := ho
  obtain ⟨t2, p2, r2⟩ := hi
  obtain ⟨t3, p3, r3⟩ := he
  refine ⟨_, ps_augS p1 p2 get_list p3 (aug_ok op) set_list (fun ov iv new => by cases i <;> first | rfl | cases hs), fun σ δ G M H N F ok er sim h => ?_⟩
  unfold execS at h
  show t1 σ H _
  refine run_e r1 ok er (sim.pz er) h fun r M1 v G1 H1 q s1 dv => ?_
  show t2 σ H1 _
  refine run_e r2 s1.ok (er.mono s1.sub) ((sim.after s1).pz (er.mono s1.sub)) q fun r2' M2 v2 G2 H2 q2 s2 dv2 => ?_
  have s12 := s1.trans s2
  obtain ⟨p, k, e1, e2, ds, d, hm, hat, q⟩ := q2
  rw [e1] at dv
  rw [e2] at dv2
  cases dv; cases dv2
  obtain ⟨vs, h1, t1⟩ := s12.ok.mok p _ hm
  obtain ⟨w, hw, dw⟩ := atI_all t1 hat
  refine ⟨p, vs, k, w, rfl, rfl, h1, hw, ?_⟩
  show t3 σ H2 _
  refine run_e r3 s2.ok (er.mono s12.sub) ((sim.after s12).pz (er.mono s12.sub)) q fun r3' M3 v3 G3 H3 q3 s3 dv3 => ?_
  obtain ⟨z, ds', j, ez, hm3, hj, q⟩ := q3
  have s13 := s12.trans s3
  obtain ⟨vs', h1', t1'⟩ := s13.ok.mok p _ hm3
  refine .inr ⟨G3, d, _, z, dw.mono s3.sub, dv3, ez, fun v' dv' => ?_⟩
  refine ⟨p, vs', k, j, rfl, rfl, h1', by rw [t1'.length]; exact hj, ?_⟩
  exact sim.nx _ _ q σ G3 _ (s13.mut hm3 (t1'.set dv' j)) (er.mono s13.sub)
theorem tyV_obj {K : PySem.W.Frag} {G : Hp} {M : MS} {H : Hp} {p : Addr} {ds : List D} (o : OkS K G M H) (h : M p = some (.lst ds)) : tyV K "list" (.ref p) H := by
  obtain ⟨vs, h1, _⟩ := o.mok p _ h
  exact .inl ⟨rfl, vs, SqL.of h1⟩
/-- o.append(e) -/
theorem ss_app {apos cpos : Pos} (ho : SE Φ γ X W o io) (he : SE Φ γ X W e ie) (hbase : attributeBase o "append" X.env (eval o X.env) = eval o X.env)
    (hfew : ((backTo cpos (starEach [e] X.env)).all (fun x => !x.1) && (backToKw cpos (keywordEach [] X.env)).all (fun x => x.1.isSome) && decide (([e] : List Expr).length + ([] : List Keyword).length + (if ([] : List Keyword).isEmpty then 0 else 1) < 30)) = true)
    (hline : (apos.endLine == cpos.line) = true) (hs : starEach [e] X.env = (false, eval e X.env) :: starEach [] X.env) : SS Φ γ X W (.Expr (.Call (.Attribute o "append" apos) [e] [] cpos) pos) (.app io ie) := by
  obtain ⟨t1, p1, r1⟩ := ho
  obtain ⟨t2, p2, r2⟩ := he
  refine ⟨_, ps_expr (pe_bm PySem.F.plainAttrs_list PySem.F.slot_list_append PySem.F.type_list_append mt_append p1 (pa_cons p2 pa_nil hs) hbase hfew hline hs rfl) rfl, fun σ δ G M H N F ok er sim h => ?_⟩
  unfold execS at h
  show t1 σ H _
  refine run_e r1 ok er (sim.pz er) h fun r M1 v G1 H1 q s1 dv => ?_
  obtain ⟨p, e1, ⟨ds0, hm0⟩, q⟩ := q
  rw [e1] at dv
  cases dv
  refine ⟨tyV_obj s1.ok hm0, ?_⟩
  show t2 σ H1 _
  refine run_e r2 s1.ok (er.mono s1.sub) ((sim.after s1).pz (er.mono s1.sub)) q fun r2' M2 v2 G2 H2 q2 s2 dv2 => ?_
  obtain ⟨ds, hm, hz, q⟩ := q2
  have s12 := s1.trans s2
  obtain ⟨vs, h1, t1⟩ := s12.ok.mok p _ hm
  refine ⟨p, vs, v2, rfl, rfl, h1, by rw [t1.length]; exact hz, ?_⟩
  exact sim.nx _ _ q σ G2 _ (s12.mut hm (t1.snoc dv2)) (er.mono s12.sub)
/-- o.extend(e) -/
theorem ss_ext {apos cpos : Pos} (ho : SE Φ γ X W o io) (he : SE Φ γ X W e ie) (hbase : attributeBase o "extend" X.env (eval o X.env) = eval o X.env)
    (hfew : ((backTo cpos (starEach [e] X.env)).all (fun x => !x.1) && (backToKw cpos (keywordEach [] X.env)).all (fun x => x.1.isSome) && decide (([e] : List Expr).length + ([] : List Keyword).length + (if ([] : List Keyword).isEmpty then 0 else 1) < 30)) = true)
    (hline : (apos.endLine == cpos.line) = true) (hs : starEach [e] X.env = (false, eval e X.env) :: starEach [] X.env) : SS Φ γ X W (.Expr (.Call (.Attribute o "extend" apos) [e] [] cpos) pos) (.ext io ie) := by
  obtain ⟨t1, p1, r1⟩ := ho
  obtain ⟨t2, p2, r2⟩ := he
  refine ⟨_, ps_expr (pe_bm PySem.F.plainAttrs_list PySem.F.slot_list_extend PySem.F.type_list_extend mt_extend p1 (pa_cons p2 pa_nil hs) hbase hfew hline hs rfl) rfl, fun σ δ G M H N F ok er sim h => ?_⟩
  unfold execS at h
  show t1 σ H _
  refine run_e r1 ok er (sim.pz er) h fun r M1 v G1 H1 q s1 dv => ?_
  obtain ⟨p, e1, ⟨ds0, hm0⟩, q⟩ := q
  rw [e1] at dv
  cases dv
  refine ⟨tyV_obj s1.ok hm0, ?_⟩
  show t2 σ H1 _
  refine run_e r2 s1.ok (er.mono s1.sub) ((sim.after s1).pz (er.mono s1.sub)) q fun r2' M2 v2 G2 H2 q2 s2 dv2 => ?_
  obtain ⟨ds, ys, hm, hv, hz, q⟩ := q2
  have s12 := s1.trans s2
  obtain ⟨vs, h1, t1⟩ := s12.ok.mok p _ hm
  have vw := dv2.vw s2.ok
  rw [hv] at vw
  cases vw with
  | lst h2 t2 =>
    refine ⟨p, _, vs, _, rfl, rfl, h1, h2, by rw [t1.length, t2.length]; exact hz, ?_⟩
    exact sim.nx _ _ q σ G2 _ (s12.mut hm (t1.append t2)) (er.mono s12.sub)
/-- o.insert(i, e) -/
theorem ss_ins {apos cpos : Pos} (ho : SE Φ γ X W o io) (hi : SE Φ γ X W i ii) (he : SE Φ γ X W e ie) (hbase : attributeBase o "insert" X.env (eval o X.env) = eval o X.env)
    (hfew : ((backTo cpos (starEach [i, e] X.env)).all (fun x => !x.1) && (backToKw cpos (keywordEach [] X.env)).all (fun x => x.1.isSome) && decide (([i, e] : List Expr).length + ([] : List Keyword).length + (if ([] : List Keyword).isEmpty then 0 else 1) < 30)) = true)
    (hline : (apos.endLine == cpos.line) = true) (hs : starEach [i, e] X.env = (false, eval i X.env) :: starEach [e] X.env) (hs2 : starEach [e] X.env = (false, eval e X.env) :: starEach [] X.env)
    (hpl : (backTo cpos (starEach [e] X.env)).any (·.1) = false) : SS Φ γ X W (.Expr (.Call (.Attribute o "insert" apos) [i, e] [] cpos) pos) (.ins io ii ie) := by
  obtain ⟨t1, p1, r1⟩ := ho
  obtain ⟨t2, p2, r2⟩ := hi
  obtain ⟨t3, p3, r3⟩ := he
  refine ⟨_, ps_expr (pe_bm PySem.F.plainAttrs_list PySem.F.slot_list_insert PySem.F.type_list_insert mt_insert p1 (pa_cons p2 (pa_cons p3 pa_nil hs2) hs) hbase hfew hline hs hpl) rfl, fun σ δ G M H N F ok er sim h => ?_⟩
  unfold execS at h
  show t1 σ H _
  refine run_e r1 ok er (sim.pz er) h fun r M1 v G1 H1 q s1 dv => ?_
  obtain ⟨p, e1, ⟨ds0, hm0⟩, q⟩ := q
  rw [e1] at dv
  cases dv
  refine ⟨tyV_obj s1.ok hm0, ?_⟩
  show t2 σ H1 _
  refine run_e r2 s1.ok (er.mono s1.sub) ((sim.after s1).pz (er.mono s1.sub)) q fun r2' M2 v2 G2 H2 q2 s2 dv2 => ?_
  have s12 := s1.trans s2
  show t3 σ H2 _
  refine run_e r3 s2.ok (er.mono s12.sub) ((sim.after s12).pz (er.mono s12.sub)) q2 fun r3' M3 v3 G3 H3 q3 s3 dv3 => ?_
  obtain ⟨ds, k, hm, e2, k0, k1, hz, q⟩ := q3
  rw [e2] at dv2
  cases dv2
  have s13 := s12.trans s3
  obtain ⟨vs, h1, t1⟩ := s13.ok.mok p _ hm
  refine ⟨p, vs, k, v3, rfl, rfl, h1, by rw [t1.length]; exact hz, k0, k1, ?_⟩
  exact sim.nx _ _ q σ G3 _ (s13.mut hm (((t1.take _).append (.one dv3)).append (t1.drop _))) (er.mono s13.sub)
theorem ss_iff {c : Expr} {a b : List Stmt} {t : T} {ia ib : Ss} (hc : ST Φ γ X W c t) (ha : SSs Φ γ X W a ia) (hb : SSs Φ γ X W b ib) : SS Φ γ X W (.If c a b pos) (.iff t ia ib) := by
  obtain ⟨t1, p1, r1⟩ := hc
  obtain ⟨t2, p2, r2⟩ := ha
  obtain ⟨t3, p3, r3⟩ := hb
  refine ⟨_, ps_if p1 p2 p3, fun σ δ G M H N F ok er sim h => ?_⟩
  unfold execS at h
  refine r1 σ δ G M H _ _ _ ok er (fun k M1 q G1 H1 s1 => ?_) (sim.pz er) h
  cases k with
  | true =>
    simp only [if_true] at q ⊢
    exact r2 σ δ G1 M1 H1 N F s1.ok (er.mono s1.sub) (sim.after s1) q
  | false =>
    simp only [Bool.false_eq_true, if_false] at q ⊢
    exact r3 σ δ G1 M1 H1 N F s1.ok (er.mono s1.sub) (sim.after s1) q
theorem ss_for {tg iter : Expr} {body : List Stmt} {is : List Nat} {one : Bool} {it : I} {ib : Ss} (hp : PassesOwn (model X.prog X.w) X.A X.env X.xe) (hc : X.calm = true) (hi : SI Φ γ X W tg iter it) (hg : PG X tg (gT X.K is one)) (hb : SSs Φ γ X W body ib)
    (hs : ∀ x, foldedSetIterable iter X.env x = pure x) : SS Φ γ X W (.For tg iter body [] pos) (.for_ is one it ib) := by
  obtain ⟨wi, pi, ri⟩ := hi
  obtain ⟨tb, pb, rb⟩ := hb
  refine ⟨_, ps_for hp hc pi hg pb hs, fun σ δ G M H N F ok er sim h => ?_⟩
  unfold execS at h
  refine ri σ δ G M H _ _ _ ok er (fun src items M1 q J G1 H1 s1 wj => ?_) (sim.pz er) h
  refine ⟨fun i m σ2 H2 => m = items.length - i ∧ i ≤ items.length ∧ ∃ (G2 : Hp) (M2 : MS) (δ2 : DEnv), Step X.K G M H G2 M2 H2 ∧ Sub G1 G2 ∧ ER X.K G2 σ2 δ2 ∧
      forLoop src (fun d δ' M' next => ∃ δ2, bindT δ' is one d = some δ2 ∧ execSs Φ γ ib { F with nx := next, ct := next, bk := F.nx } δ2 M') F.nx (items.drop i) δ2 M2,
    ⟨items.length, by simp, Nat.zero_le _, G1, M1, δ, s1, Sub.refl G1, er.mono s1.sub, by simpa using q⟩, ?_⟩
  rintro i m σ2 H2 ⟨rfl, hi, G2, M2, δ2, s2, sg, er2, lp⟩
  by_cases hlt : i < items.length
  · rw [List.drop_eq_getElem_cons hlt] at lp
    unfold forLoop at lp
    obtain ⟨sm, δ3, hb, lp⟩ := lp
    refine .inr ⟨wj.go G2 M2 H2 i s2.ok sg sm hlt, fun σ' H' => ∃ (G3 : Hp) (M3 : MS) (δ3 : DEnv), Step X.K G M H G3 M3 H' ∧ Sub G1 G3 ∧ ER X.K G3 σ' δ3 ∧
      forLoop src (fun d δ' M' next => ∃ δ2, bindT δ' is one d = some δ2 ∧ execSs Φ γ ib { F with nx := next, ct := next, bk := F.nx } δ2 M') F.nx (items.drop (i + 1)) δ3 M3, fun σ' H' hH => ⟨items.length - (i + 1), by omega, rfl, hlt, hH⟩, fun x H3 y => ?_⟩
    obtain ⟨d, G3, ed, s3, dx⟩ := wj.yld G2 M2 H2 i x H3 s2.ok sg sm hlt y
    have ed' : items[i] = d := by
      have := List.getElem?_eq_getElem hlt
      rw [this] at ed
      exact Option.some.inj ed
    rw [ed'] at hb
    have s23 := s2.trans s3
    refine gT_ok s3.ok (er2.mono s3.sub) dx hb fun σ' er' _ => ?_
    have sim' := sim.after s23
    generalize hnx : forLoop src (fun d δ' M' next => ∃ δ2, bindT δ' is one d = some δ2 ∧ execSs Φ γ ib { F with nx := next, ct := next, bk := F.nx } δ2 M') F.nx (items.drop (i + 1)) = nx at lp ⊢
    refine rb σ' δ3 G3 M2 H3 _ { F with nx := nx, ct := nx, bk := F.nx } s3.ok er' ⟨fun δ' M' q σ4 G4 H4 s4 er4 => ?_, sim'.rt, fun δ' M' q σ4 G4 H4 s4 er4 => sim'.nx δ' M' q σ4 G4 H4 s4 er4, fun δ' M' q σ4 G4 H4 s4 er4 => ?_, sim'.xc⟩ lp
    · exact ⟨G4, M', δ', s23.trans s4, (sg.trans s3.sub).trans s4.sub, er4, q⟩
    · exact ⟨G4, M', δ', s23.trans s4, (sg.trans s3.sub).trans s4.sub, er4, q⟩
  · have e : i = items.length := by omega
    subst e
    rw [List.drop_eq_nil_of_le (Nat.le_refl _)] at lp
    unfold forLoop at lp
    exact .inl ⟨wj.stop G2 M2 H2 _ s2.ok sg lp.1 rfl, sim.nx _ _ lp.2 σ2 G2 H2 s2 er2⟩
end
end DL
set_option maxRecDepth 100000
set_option maxHeartbeats 4000000
/-! # Instances with slots -/
namespace DL
open PySem L2
/-- what a class with slots must have -/
structure ClsI (K : PySem.W.Frag) (c : Addr) : Prop where
  sc : SlX.SCls K c
  si : SlX.SIsi K c
  ty : PySem.W.typeIn K (.ref c) = some (.type "type")
  ne : PySem.W.findIn K (.ref c) "__ne__" = some (some (.builtin "object.__ne__"))
section
variable {K : PySem.W.Frag} {G G1 : Hp} {M M1 : MS} {H H1 : Hp}
theorem inst_slt (o : OkS K G M H) {v : V} {d : D} {C : Str} (dv : Dv K G v d) (hc : clsD M d = some C) : ∃ a c dx vs, v = .ref a ∧ PySem.W.nsIn K mainGlobals C = some (some (.ref c)) ∧ SlX.Slt H a c dx vs ∧
    ∀ k e, slotD M d k = some e → ∃ u, vs[k]? = some (some u) ∧ Dv K G u e := by
  cases dv with
  | ins n h q g t =>
    cases hc
    refine ⟨_, _, _, _, rfl, n, .inr ⟨o.sub _ _ h, o.sub _ _ g⟩, fun k e he => ?_⟩
    obtain ⟨v, h1, h2⟩ := t.get he
    exact ⟨v, q _ _ h1, h2⟩
  | obj p =>
    cases e : M p with
    | none => simp [clsD, e] at hc
    | some mo =>
      cases mo with
      | ins C' fs =>
        simp only [clsD, e, Option.some.injEq] at hc
        subst hc
        obtain ⟨c, dx, vs, n, h, g, r⟩ := o.mok p _ e
        refine ⟨p, c, dx, vs, rfl, n, .inr ⟨h, o.sub _ _ g⟩, fun k d' he => ?_⟩
        simp only [slotD, e] at he
        split at he
        · rename_i d2 e2
          cases he
          exact r k _ e2
        · cases he
      | bag => simp [clsD, e] at hc
      | lst ds => simp [clsD, e] at hc
  | _ => cases hc
/-- M' without what stands at p, that is new -/
theorem Step.dropN (s : Step K G M H G1 M1 H1) (p : Addr) (hp : M p = none) : Step K G M H G1 (dropM M1 p) H1 where
  ok := ⟨s.ok.sub, fun a mo e => by
    by_cases ha : a = p
    · subst ha; rw [dropM_same] at e; cases e
    · rw [dropM_ne ha] at e; exact s.ok.dis a mo e, fun a mo e => by
    by_cases ha : a = p
    · subst ha; rw [dropM_same] at e; cases e
    · rw [dropM_ne ha] at e; exact s.ok.mok a mo e⟩
  sub := s.sub
  keep := s.keep
  newM := fun a mo h e => by
    by_cases ha : a = p
    · subst ha; rw [dropM_same] at e; cases e
    · rw [dropM_ne ha] at e; exact s.newM a mo h e
  dom := s.dom
  newG := s.newG
/-- a new instance, its slots empty -/
theorem Step.inst (s : Step K G M H G1 M1 H1) {x dx c : Addr} {C : Str} {n : Nat} (hn : PySem.W.nsIn K mainGlobals C = some (some (.ref c))) (hx : H1 x = none) (hd : H1 dx = none) (ne : dx ≠ x) :
    Step K G M H (upd G1 dx (.xd [])) (updM M1 x (.ins C (List.replicate n none))) (upd (upd H1 dx (.xd [])) x (SlX.SlO x c dx [])) := by
  have s2 := s.allocG (o := HO.xd []) hd
  have hx2 : upd H1 dx (.xd []) x = none := by rw [upd_ne (Ne.symm ne)]; exact hx
  have s3 := s2.alloc (o := SlX.SlO x c dx []) hx2
  refine ⟨⟨s3.ok.sub, fun a mo e => ?_, fun a mo e => ?_⟩, s3.sub, s3.keep, fun a mo hm e => ?_, s3.dom, s3.newG⟩
  · by_cases ha : a = x
    · rw [ha, upd_ne (Ne.symm ne)]; exact s.ok.noG hx
    · rw [updM_ne ha] at e; exact s3.ok.dis a mo e
  · by_cases ha : a = x
    · subst ha
      rw [updM_same] at e
      cases e
      refine ⟨c, dx, [], hn, upd_same, upd_same, fun i d q => ?_⟩
      rw [List.getElem?_replicate] at q
      split at q <;> cases q
    · rw [updM_ne ha] at e
      exact s3.ok.mok a mo e
  · by_cases ha : a = x
    · rw [ha]; exact s.dom x hx
    · rw [updM_ne ha] at e; exact s3.newM a mo hm e
theorem slots_all {vs : List (Option V)} : ∀ {ds : List D} {j : Nat}, (∀ (i : Nat) (d : D), ds[i]? = some d → ∃ v, vs[i + j]? = some (some v) ∧ Dv K G v d) → ∃ ws, DvAll K G ws ds ∧ ∀ (i : Nat) (v : V), ws[i]? = some v → vs[i + j]? = some (some v)
  | [], j, h => ⟨[], .nil, fun i v q => by simp at q⟩
  | d :: ds, j, h => by
    obtain ⟨v, h1, h2⟩ := h 0 d rfl
    obtain ⟨ws, h3, h4⟩ := slots_all (ds := ds) (j := j + 1) fun i d' q => by
      have z := h (i + 1) d' (by simpa using q)
      rw [show i + 1 + j = i + (j + 1) by omega] at z
      exact z
    refine ⟨v :: ws, .cons h2 h3, fun i u q => ?_⟩
    cases i with
    | zero =>
      simp at q
      subst q
      exact h1
    | succ i =>
      have z := h4 i u (by simpa using q)
      rw [show i + 1 + j = i + (j + 1) by omega]
      exact z
/-- an instance all of whose slots are filled may be taken as data -/
theorem Step.adoptI (s : Step K G M H G1 M1 H1) {p : Addr} {C : Str} {ds : List D} (hp : M p = none) (h : M1 p = some (.ins C (ds.map some))) : ∃ G2, Step K G M H G2 (dropM M1 p) H1 ∧ Dv K G2 (.ref p) (.ins C ds) := by
  obtain ⟨c, dx, vs, n, h1, g, r⟩ := s.ok.mok p _ h
  have hg := s.ok.dis p _ h
  have e : Sub G1 (upd G1 p (SlX.SlO p c dx vs)) := sub_upd hg
  obtain ⟨ws, w1, w2⟩ := slots_all (vs := vs) (ds := ds) (j := 0) (K := K) (G := G1) fun i d q => r i d (by rw [List.getElem?_map, q]; rfl)
  have sd := s.dropN p hp
  refine ⟨upd G1 p (SlX.SlO p c dx vs), ⟨⟨upd_sub s.ok.sub h1, fun a mo q => ?_, fun a mo q => (sd.ok.mok a mo q).mono e⟩, s.sub.trans e, s.keep, sd.newM, s.dom, fun a o hga q hma => ?_⟩, .ins n upd_same (fun i v q => w2 i v q) (e _ _ g) (w1.mono e)⟩
  · have ha : a ≠ p := fun z => by rw [z, dropM_same] at q; cases q
    rw [upd_ne ha]; exact sd.ok.dis a mo q
  · by_cases ha : a = p
    · rw [ha]; exact s.newM p _ hp h
    · rw [upd_ne ha] at q; exact s.newG a o hga q hma
end
/-! ### made -/
section
variable {X : Cx} {W : WX} {k : Nat} {f c : Addr} {fd : FuncData} {ps : List Str} {sp : Sp} {pins : List (Addr × Obj)} {σ : L2.St} {H : Hp} {s : Shared}
theorem inv_conv {x dx : Addr} (ne : dx ≠ x) (I : Inv X pins σ (upd (upd H dx (.own x)) x (.ins c dx [])) s) : Inv X pins σ (upd (upd H dx (.xd [])) x (SlX.SlO x c dx [])) s := by
  have hs : SlX.Slt (upd (upd H dx (.own x)) x (.ins c dx [])) x c dx [] := .inl ⟨upd_same, rfl⟩
  obtain ⟨_, sl, mA, e, r, _, _⟩ := SlX.slt_at I hs
  have J := SlX.inv_slot (vs' := []) (sl' := sl) (h' := s.heap) (t' := s.toks) I hs (fun _ _ _ _ q => q) (fun _ q => q) e (SlX.SlR.nil _)
  have eH : SlX.slH (upd (upd H dx (.own x)) x (.ins c dx [])) x c dx [] = upd (upd H dx (.xd [])) x (SlX.SlO x c dx []) := by
    funext b
    unfold SlX.slH
    by_cases h1 : b = x
    · rw [h1, upd_same, upd_same]
    · rw [upd_ne h1, upd_ne h1]
      by_cases h2 : b = dx
      · rw [h2, upd_same, upd_same]
      · rw [upd_ne h2, upd_ne h2, upd_ne h1, upd_ne h2]
  rw [eH] at J
  exact J
theorem Rm.make {k : Nat} {A : Around} (r : Rm (k + 1) A) (C : Addr) (us : List Value) (kw : List (Str × Value)) : Rm k (A.under (.builtin "type.__call__" ⟨.ref C :: us, kw⟩)) :=
  ⟨r.room.make C us kw, by
    have := r.gd
    first
      | exact this
      | (simpa [Around.under, Code.weight, Code.isCreation, Code.isGuard, Code.isCaller, Code.frames, Code.isFrame, guardIds] using this)⟩
theorem Rm.in1 {k : Nat} {A : Around} (r : Rm (k + 1) A) : Rm k A.in1 := ⟨r.room.in1, r.gd⟩
theorem run_makeSl {Q : VK} {us dus : List Value} {vs dvs : List V} (Mk' : Mk X.K c f) (F : FnG X.prog X.w X.K X.mg X.base k f fd ps sp) (hr : Rm (k + 1) X.A) (hb : Binds X.K fd ps dus) (hd : Vals dvs dus) (tk : Takes X W) (I : Inv X pins σ H s) (r : Vals vs us)
    (h : ∀ x dx, H x = none → H dx = none → dx ≠ x → sp (.ref x :: (vs ++ dvs)) (upd (upd H dx (.xd [])) x (SlX.SlO x c dx [])) (fun v H2 => v = .non ∧ Q (.ref x) H2) fun cls d H' => W cls d σ H') :
    wpAny (model X.prog X.w) X.A (call (.ref c) us) (EP X pins σ Q) X.xe s := by
  have hq := h (s.heap.objs.size + 1) s.heap.objs.size (I.hok.fresh (Nat.le_succ _)) (I.hok.fresh (Nat.le_refl _)) (Nat.ne_of_lt (Nat.lt_succ_self _))
  have I2 := inv_conv (Nat.ne_of_lt (Nat.lt_succ_self _)) (Inv.made (C := c) I)
  have r2 : Vals (V.ref (s.heap.objs.size + 1) :: (vs ++ dvs)) (Value.ref (s.heap.objs.size + 1) :: (us ++ dus)) := .cons rfl (r.append hd)
  have hl : (Value.ref (s.heap.objs.size + 1) :: us ++ dus).length = ps.length := by
    have e := r2.length
    rw [F.len _ _ _ _ hq] at e
    exact e.symm
  refine wpAny_call (make_map (f := f) I.kIn Mk'.makes Mk'.init (beq_iff_eq.mp Mk'.fn) (codeAny_mono (F.run _ X.stack _ _ ⟨Value.ref (s.heap.objs.size + 1) :: us, []⟩ (Value.ref (s.heap.objs.size + 1) :: (us ++ dus)) _ _ _ (hr.make c us [])
    (I2.env0.make c us []) (hb _ (Value.ref (s.heap.objs.size + 1) :: us) I2.kIn hl) r2 hq) fun r s' hq' => ?_))
  cases r with
  | error e => exact tk e s' (XE.of_call I2 (fun _ _ _ z => z) hq')
  | ok fl =>
    cases fl with
    | ret u =>
      obtain ⟨v, H', I3, rv, ev, q3⟩ := I2.after hq'
      subst ev
      exact ⟨rv, ⟨V.ref (s.heap.objs.size + 1), H', I3, rfl, q3⟩⟩
    | next => exact False.elim hq'
    | brk => exact False.elim hq'
    | cont => exact False.elim hq'
def tMakeSl (c : Addr) (sp : Sp) (dvs : List V) (W : WX) (t : TA) : TE := fun σ H Q => t σ H fun vs H1 => ∀ x dx, H1 x = none → H1 dx = none → dx ≠ x → sp (.ref x :: (vs ++ dvs)) (upd (upd H1 dx (.xd [])) x (SlX.SlO x c dx [])) (fun v H2 => v = .non ∧ Q (.ref x) H2) fun cls d H' => W cls d σ H'
theorem pe_makeSl {x : Str} {p pos : Pos} {e : Expr} {es : List Expr} {t : TA} {dus : List Value} {dvs : List V} (Mk' : Mk X.K c f) (F : FnG X.prog X.w X.K X.mg X.base k f fd ps sp) (hr : Rm (k + 1) X.A) (hb : Binds X.K fd ps dus) (hd : Vals dvs dus) (tk : Takes X W)
    (hg : Gl X x) (hm : X.mg x = some (.ref c)) (ha : PA X (e :: es) t) (hdb : (x == ("__debug__" : Str)) = false)
    (hst : starEach (e :: es) X.env = (false, eval e X.env) :: starEach es X.env) (hpl : (backTo pos (starEach es X.env)).any (·.1) = false) : PE X (.Call (.Name x p) (e :: es) [] pos) (tMakeSl c sp dvs W t) := by
  refine ⟨fun pins s σ H Q I h => wpAny_Call_Name_kw (ld_glob I hg hm ?_ hdb)⟩
  have go := ha.run pos pins s σ H _ I h
  refine PySem.W.callWith_K (h₀ := X.base) I.ok.mod.kin Mk'.kp (thn go ?_) hst hpl
  rintro us s1 ⟨vs, H1, I1, r, q⟩
  exact ⟨I1.kIn, run_makeSl Mk' F hr hb hd tk I1 r q⟩
theorem pe_makeSl0 {x : Str} {p pos : Pos} {dus : List Value} {dvs : List V} (Mk' : Mk X.K c f) (F : FnG X.prog X.w X.K X.mg X.base k f fd ps sp) (hr : Rm (k + 1) X.A) (hb : Binds X.K fd ps dus) (hd : Vals dvs dus) (tk : Takes X W)
    (hg : Gl X x) (hm : X.mg x = some (.ref c)) (hdb : (x == ("__debug__" : Str)) = false) : PE X (.Call (.Name x p) [] [] pos) (tMakeSl c sp dvs W tNil) := by
  refine ⟨fun pins s σ H Q I h => wpAny_Call_Name_kw (ld_glob I hg hm ?_ hdb)⟩
  exact PySem.W.callWith_K0 I.kIn Mk'.kp (run_makeSl (us := []) Mk' F hr hb hd tk I .nil h)
end
end DL
set_option maxRecDepth 100000
set_option maxHeartbeats 4000000
namespace DL
open PySem L2
section
variable {Φ : Fns} {γ : List D} {X : Cx} {W : WX} {k : Nat} {f c : Addr} {fd : FuncData} {ps : List Str}
/-- C(..) -/
theorem make_read {C : Str} {i n : Nat} {ta : TA} {ies : Es} {dvs : List V} {dfs : List D} (hn : PySem.W.nsIn X.K mainGlobals C = some (some (.ref c))) (hD : ∀ G, DvAll X.K G dvs dfs)
    (ra : ∀ (σ : L2.St) (δ : DEnv) (G : Hp) (M : MS) (H : Hp) (Q : List V → Hp → Prop) (Qd : List D → MS → Prop) (Zd : KX), OkS X.K G M H → ER X.K G σ δ → (∀ ds M', Qd ds M' → ∀ vs G' H', Step X.K G M H G' M' H' → DvAll X.K G' vs ds → Q vs H') → (∀ x M', Zd x M' → PostX X.K G M H W σ x M') → evalEs Φ γ ies δ M Qd Zd → ta σ H Q)
    (σ : L2.St) (δ : DEnv) (G : Hp) (M : MS) (H : Hp) (Q : VK) (Qd : KR) (Zd : KX) (ok : OkS X.K G M H) (er : ER X.K G σ δ) (hq : ∀ r M', Qd r M' → PostV X.K G M H Q r M') (hz : ∀ x M', Zd x M' → PostX X.K G M H W σ x M')
    (h : evalE Φ γ (.make C i n (esApp ies (csts dfs))) δ M Qd Zd) : tMakeSl c (spD X.K (Φ i)) dvs W ta σ H Q := by
  unfold evalE at h
  rw [esApp_eval] at h
  refine ra σ δ G M H _ _ Zd ok er (fun ds M1 q vs G1 H1 s1 t => ?_) hz h
  rw [csts_eval] at q
  intro x dx hx hd ne
  have hm1 : M1 x = none := s1.ok.noM hx
  have s2 := s1.inst (C := C) (n := n) hn hx hd ne
  have hm0 : M x = none := ok.noM (s1.dom x hx)
  refine ⟨_, _, .obj x :: (ds ++ dfs), _, _, s2.ok, .cons (.obj x) ((t.mono (sub_upd (s1.ok.noG hd))).append (hD _)), fun r M' q' => ?_, fun x' M' z => ?_, q x hm1⟩
  · obtain ⟨rfl, fs, hf, q'⟩ := q'
    intro v G3 H3 s3 rv
    have rv' : Dv X.K G3 v .non := rv
    cases rv'
    obtain ⟨G4, s4, d4⟩ := (s2.trans s3).adoptI hm0 hf
    exact ⟨rfl, hq _ _ q' (.ref x) G4 H3 s4 d4⟩
  · intro cv dA G3 H3 s3 xr
    exact hz _ _ z cv dA G3 H3 ((s2.trans s3).dropN x hm0) xr
theorem se_make {C : Str} {i n : Nat} {p pos : Pos} {e : Expr} {es : List Expr} {ies : Es} {dus : List Value} {dvs : List V} {dfs : List D} (Mk' : Mk X.K c f) (hn : PySem.W.nsIn X.K mainGlobals C = some (some (.ref c))) (F : FnG X.prog X.w X.K X.mg X.base k f fd ps (spD X.K (Φ i))) (hr : Rm (k + 1) X.A)
    (hb : Binds X.K fd ps dus) (hd : Vals dvs dus) (hD : ∀ G, DvAll X.K G dvs dfs) (tk : Takes X W) (hg : Gl X C) (hm : X.mg C = some (.ref c)) (hdb : (C == ("__debug__" : Str)) = false) (ha : SA Φ γ X W (e :: es) ies)
    (hst : starEach (e :: es) X.env = (false, eval e X.env) :: starEach es X.env) (hpl : (backTo pos (starEach es X.env)).any (·.1) = false) : SE Φ γ X W (.Call (.Name C p) (e :: es) [] pos) (.make C i n (esApp ies (csts dfs))) := by
  obtain ⟨ta, pa, ra⟩ := ha
  exact ⟨_, pe_makeSl Mk' F hr hb hd tk hg hm pa hdb hst hpl, make_read hn hD ra⟩
theorem se_make0 {C : Str} {i n : Nat} {p pos : Pos} {dus : List Value} {dvs : List V} {dfs : List D} (Mk' : Mk X.K c f) (hn : PySem.W.nsIn X.K mainGlobals C = some (some (.ref c))) (F : FnG X.prog X.w X.K X.mg X.base k f fd ps (spD X.K (Φ i))) (hr : Rm (k + 1) X.A)
    (hb : Binds X.K fd ps dus) (hd : Vals dvs dus) (hD : ∀ G, DvAll X.K G dvs dfs) (tk : Takes X W) (hg : Gl X C) (hm : X.mg C = some (.ref c)) (hdb : (C == ("__debug__" : Str)) = false) : SE Φ γ X W (.Call (.Name C p) [] [] pos) (.make C i n (esApp .nil (csts dfs))) := by
  refine ⟨_, pe_makeSl0 Mk' F hr hb hd tk hg hm hdb, make_read hn hD fun σ δ G M H Q Qd Zd ok er hq hz h => ?_⟩
  unfold evalEs at h
  exact hq _ _ h [] G H (Step.refl ok) .nil
/-- e.f -/
theorem se_fld {a : Expr} {ia : E} {m : Str} {t : List (Str × Nat)} {pos : Pos} (ha : SE Φ γ X W a ia) (hbase : attributeBase a m X.env (eval a X.env) = eval a X.env)
    (ht : ∀ C i, assoc t C = some i → ∃ c p, PySem.W.nsIn X.K mainGlobals C = some (some (.ref c)) ∧ SlX.SCls X.K c ∧ SlX.Slot1 X.K c m p i) : SE Φ γ X W (.Attribute a m pos) (.fld ia t) := by
  obtain ⟨t1, p1, r1⟩ := ha
  refine ⟨_, SlX.pe_sl p1 hbase, fun σ δ G M H Q Qd Zd ok er hq hz h => ?_⟩
  unfold evalE at h
  show t1 σ H _
  refine run_e r1 ok er hz h fun r M1 v G1 H1 q s1 dv => ?_
  obtain ⟨C, i, d, h1, h2, h3, q⟩ := q
  obtain ⟨b, c, dx, vs, rfl, hn, hs, hv⟩ := inst_slt s1.ok dv h1
  obtain ⟨c', p, hn', sc, s1'⟩ := ht C i h2
  rw [hn] at hn'
  cases hn'
  obtain ⟨u, hu, du⟩ := hv i d h3
  exact ⟨b, c, dx, p, vs, i, u, rfl, hs, sc, s1', hu, hq _ _ q u G1 H1 s1 du⟩
/-- o.f = e -/
theorem ss_stf {o e : Expr} {io ie : E} {m : Str} {t : List (Str × Nat)} {p' pos : Pos} (ho : SE Φ γ X W o io) (he : SE Φ γ X W e ie) (hs : swapsWith e (some (.Attribute o m p')) pos.line X.env = pure false)
    (ht : ∀ C i, assoc t C = some i → ∃ c p, PySem.W.nsIn X.K mainGlobals C = some (some (.ref c)) ∧ SlX.SCls X.K c ∧ SlX.Slot1 X.K c m p i) : SS Φ γ X W (.Assign [.Attribute o m p'] e pos) (.stf io t ie) := by
  obtain ⟨t1, p1, r1⟩ := ho
  obtain ⟨t3, p3, r3⟩ := he
  refine ⟨_, SlX.ps_sl p1 p3 hs, fun σ δ G M H N F ok er sim h => ?_⟩
  unfold execS at h
  show t3 σ H _
  refine run_e r3 ok er (sim.pz er) h fun r M1 v G1 H1 q s1 dv => ?_
  show t1 σ H1 _
  refine run_e r1 s1.ok (er.mono s1.sub) ((sim.after s1).pz (er.mono s1.sub)) q fun r2' M2 v2 G2 H2 q2 s2 dv2 => ?_
  have s12 := s1.trans s2
  obtain ⟨b, C, fs, i, e1, hm, h2, q⟩ := q2
  rw [e1] at dv2
  cases dv2
  obtain ⟨c, dx, vs, hn, hb, hg, hv⟩ := s2.ok.mok b _ hm
  obtain ⟨c', p, hn', sc, s1'⟩ := ht C i h2
  rw [hn] at hn'
  cases hn'
  refine ⟨b, c, dx, p, vs, i, rfl, .inr ⟨hb, s2.ok.sub _ _ hg⟩, sc, s1', ?_⟩
  have ne : dx ≠ b := fun z => by
    have := s2.ok.dis b _ hm
    rw [← z, hg] at this
    cases this
  have eH : SlX.slH H2 b c dx (SlX.putS i v vs) = upd H2 b (SlX.SlO b c dx (SlX.putS i v vs)) := by
    funext a
    unfold SlX.slH
    by_cases h1 : a = b
    · rw [h1, upd_same, upd_same]
    · rw [upd_ne h1, upd_ne h1]
      by_cases h2 : a = dx
      · rw [h2, upd_same]; exact (s2.ok.sub _ _ hg).symm
      · rw [upd_ne h2]
  rw [eH]
  refine sim.nx _ _ q σ G2 _ ?_ (er.mono s12.sub)
  have hgb := s2.ok.dis b _ hm
  refine ⟨⟨fun a u e => ?_, fun a mo e => ?_, fun a mo e => ?_⟩, s12.sub, fun a u e hma => ?_, fun a mo hma e => ?_, fun a e => ?_, s12.newG⟩
  · rw [upd_ne (fun z => by rw [z, hgb] at e; cases e)]; exact s2.ok.sub a u e
  · by_cases ha : a = b
    · rw [ha]; exact hgb
    · rw [updM_ne ha] at e; exact s2.ok.dis a mo e
  · by_cases ha : a = b
    · subst ha
      rw [updM_same] at e
      cases e
      refine ⟨c, dx, _, hn, upd_same, hg, fun j d hj => ?_⟩
      by_cases hji : i = j
      · subst hji
        rw [List.getElem?_set_self'] at hj
        cases hf : fs[i]? with
        | none => rw [hf] at hj; cases hj
        | some w =>
          rw [hf] at hj
          cases hj
          exact ⟨v, SlX.putS_get i v vs, dv.mono s2.sub⟩
      · rw [List.getElem?_set_ne hji] at hj
        obtain ⟨w, w1, w2⟩ := hv j d hj
        exact ⟨w, (SlX.putS_ne (Ne.symm hji)).mpr w1, w2⟩
    · rw [updM_ne ha] at e
      exact (s2.ok.mok a mo e).at_ (upd_ne ha)
  · have q := s12.keep a u e hma
    by_cases ha : a = b
    · subst ha
      have z := s12.noM e hma
      rw [hm] at z; cases z
    · rw [upd_ne ha]; exact q
  · by_cases ha : a = b
    · subst ha; exact s12.newM a _ hma hm
    · rw [updM_ne ha] at e; exact s12.newM a mo hma e
  · by_cases ha : a = b
    · subst ha; rw [upd_same] at e; cases e
    · rw [upd_ne ha] at e; exact s12.dom a e
theorem ss_never {st : Stmt} : SS Φ γ X W st .never := ⟨_, ps_never, fun σ δ G M H N F ok er sim h => by unfold execS at h; exact h.elim⟩
/-! ### methods -/
theorem mcall_eval {o : Expr} {m : Str} {apos pos : Pos} {args : List Expr} {env : Env} (hb : attributeBase o m env (eval o env) = eval o env) (hfew : methodCallForm (args.length + 0) (backTo pos (starEach args env)) (backToKw pos (keywordEach [] env)) = true) (hline : (apos.endLine == pos.line) = true) :
    eval (.Call (.Attribute o m apos) args [] pos) env = (do
      let ov ← eval o env
      standAt apos.atName
      let (f, first) ← holding [ov] (getMethod ov m (do return (← importBound o env).getD true))
      callWith pos f first (backTo pos (starEach args env)) (backToKw pos (keywordEach [] env))) := by
  refine mcall_of (kws := []) hb fun ov => ?_
  have hl : methodCallPos true o env apos pos = pure pos := by
    unfold methodCallPos
    rw [hline]; rfl
  unfold methodCall
  show (do
    let (f, first) ← holding [ov] (calleeOf (methodCallForm (args.length + 0) (backTo pos (starEach args env)) (backToKw pos (keywordEach [] env))) o env ov m)
    let callPos ← methodCallPos (methodCallForm (args.length + 0) (backTo pos (starEach args env)) (backToKw pos (keywordEach [] env))) o env apos pos
    callWith callPos f first (backTo pos (starEach args env)) (backToKw pos (keywordEach [] env))) = _
  rw [hfew, hl]
  simp only [pure_bind]
  rfl
/-- the def of a method, known behind the receiver -/
structure MtF (P : Program) (w : World) (K : PySem.W.Frag) (mg : Str → Option Value) (base : Heap) (A : Around) (c : Addr) (m : Str) (sp : Sp) : Prop where
  sc : SlX.SCls K c
  ex : ∃ f fd ps k, Meth K c m f ∧ Rm (k + 1) A ∧ FnG P w K mg base k f fd ps sp ∧ Binds K fd ps []
def tMethD (X : Cx) (m : Str) (W : WX) (te : TE) (ta : TA) : TE := fun σ H Q => te σ H fun x H1 => ∃ a c dx vs sp, x = .ref a ∧ SlX.Slt H1 a c dx vs ∧ MtF X.prog X.w X.K X.mg X.base X.A c m sp ∧ ta σ H1 fun ws H2 => sp (x :: ws) H2 Q fun cls d H' => W cls d σ H'
theorem Rm.one {k : Nat} {A : Around} (r : Rm (k + 1) A) : Rm k A := r.mono (Nat.le_succ k)
theorem pe_methD {o e : Expr} {es : List Expr} {m : Str} {apos pos : Pos} {te : TE} {t : TA} (he : PE X o te) (tk : Takes X W) (ha : PA X (e :: es) t) (hb : attributeBase o m X.env (eval o X.env) = eval o X.env)
    (hfew : methodCallForm ((e :: es).length + 0) (backTo pos (starEach (e :: es) X.env)) (backToKw pos (keywordEach [] X.env)) = true) (hline : (apos.endLine == pos.line) = true)
    (hst : starEach (e :: es) X.env = (false, eval e X.env) :: starEach es X.env) (hpl : (backTo pos (starEach es X.env)).any (·.1) = false) : PE X (.Call (.Attribute o m apos) (e :: es) [] pos) (tMethD X m W te t) := by
  refine ⟨fun pins s σ H Q I h => ?_⟩
  refine PySem.W.methodCall_KW (thn (he.run pins s σ H _ I h) fun u s1 ⟨x, H1, I1, rx, a, c, dx, vs, sp, ex, hsl, mt, q⟩ => ?_) (mcall_eval hb hfew hline)
  subst ex
  obtain rfl : u = Value.ref a := rx
  obtain ⟨f, fd, ps, k, hm, hr, F, hbd⟩ := mt.ex
  refine SlX.getmethsl_ok I1 hsl mt.sc hm ?_
  refine PySem.W.callWith_K (first := [.ref a]) (h₀ := X.base) I.ok.mod.kin hm.kp (thn (ha.run pos pins s1 σ H1 _ I1 q) fun us s2 ⟨ws, H2, I2, r, q2⟩ => ⟨I2.kIn, ?_⟩) hst hpl
  exact run_g (us := .ref a :: us) (vs := .ref a :: ws) (dvs := []) F hr.one hbd .nil tk I2 (.cons rfl r) (by rw [List.append_nil]; exact q2)
theorem pe_methD0 {o : Expr} {m : Str} {apos pos : Pos} {te : TE} (he : PE X o te) (tk : Takes X W) (hb : attributeBase o m X.env (eval o X.env) = eval o X.env) (hline : (apos.endLine == pos.line) = true) : PE X (.Call (.Attribute o m apos) [] [] pos) (tMethD X m W te tNil) := by
  refine ⟨fun pins s σ H Q I h => ?_⟩
  refine PySem.W.methodCall_KW (thn (he.run pins s σ H _ I h) fun u s1 ⟨x, H1, I1, rx, a, c, dx, vs, sp, ex, hsl, mt, q⟩ => ?_) (mcall_eval (args := []) hb rfl hline)
  subst ex
  obtain rfl : u = Value.ref a := rx
  obtain ⟨f, fd, ps, k, hm, hr, F, hbd⟩ := mt.ex
  refine SlX.getmethsl_ok I1 hsl mt.sc hm ?_
  exact PySem.W.callWith_K0 (first := [.ref a]) I1.kIn hm.kp (run_g (us := [.ref a]) (vs := [.ref a]) (dvs := []) F hr.one hbd .nil tk I1 (.cons rfl .nil) q)
/-- what a table of a method's defs must be -/
def MtT (Φ : Fns) (X : Cx) (m : Str) (t : List (Str × Nat)) : Prop := ∀ C i, assoc t C = some i → ∃ c, PySem.W.nsIn X.K mainGlobals C = some (some (.ref c)) ∧ MtF X.prog X.w X.K X.mg X.base X.A c m (spD X.K (Φ i))
theorem meth_read {m : Str} {t : List (Str × Nat)} {t1 : TE} {ta : TA} {ia : E} {ies : Es} (ht : MtT Φ X m t)
    (r1 : ∀ (σ : L2.St) (δ : DEnv) (G : Hp) (M : MS) (H : Hp) (Q : VK) (Qd : KR) (Zd : KX), OkS X.K G M H → ER X.K G σ δ → (∀ r M', Qd r M' → PostV X.K G M H Q r M') → (∀ x M', Zd x M' → PostX X.K G M H W σ x M') → evalE Φ γ ia δ M Qd Zd → t1 σ H Q)
    (ra : ∀ (σ : L2.St) (δ : DEnv) (G : Hp) (M : MS) (H : Hp) (Q : List V → Hp → Prop) (Qd : List D → MS → Prop) (Zd : KX), OkS X.K G M H → ER X.K G σ δ → (∀ ds M', Qd ds M' → ∀ vs G' H', Step X.K G M H G' M' H' → DvAll X.K G' vs ds → Q vs H') → (∀ x M', Zd x M' → PostX X.K G M H W σ x M') → evalEs Φ γ ies δ M Qd Zd → ta σ H Q)
    (σ : L2.St) (δ : DEnv) (G : Hp) (M : MS) (H : Hp) (Q : VK) (Qd : KR) (Zd : KX) (ok : OkS X.K G M H) (er : ER X.K G σ δ) (hq : ∀ r M', Qd r M' → PostV X.K G M H Q r M') (hz : ∀ x M', Zd x M' → PostX X.K G M H W σ x M')
    (h : evalE Φ γ (.meth ia t ies) δ M Qd Zd) : tMethD X m W t1 ta σ H Q := by
  unfold evalE at h
  show t1 σ H _
  refine run_e r1 ok er hz h fun r M1 v G1 H1 q s1 dv => ?_
  obtain ⟨C, i, h1, h2, q⟩ := q
  obtain ⟨b, c, dx, vs, rfl, hn, hs, hv⟩ := inst_slt s1.ok dv h1
  obtain ⟨c', hn', mt⟩ := ht C i h2
  rw [hn] at hn'
  cases hn'
  refine ⟨b, c, dx, vs, _, rfl, hs, mt, ?_⟩
  refine ra σ δ G1 M1 H1 _ _ Zd s1.ok (er.mono s1.sub) (fun ds M2 q2 ws G2 H2 s2 t => ?_) (px_after s1 hz) q
  have s12 := s1.trans s2
  exact ⟨G2, M2, _, Qd, Zd, s2.ok, .cons (dv.mono s2.sub) t, pv_after s12 hq, fun x M' z => px_after s12 hz x M' z, q2⟩
theorem se_meth {o e : Expr} {es : List Expr} {m : Str} {apos pos : Pos} {io : E} {ies : Es} {t : List (Str × Nat)} (ho : SE Φ γ X W o io) (tk : Takes X W) (ha : SA Φ γ X W (e :: es) ies) (ht : MtT Φ X m t) (hb : attributeBase o m X.env (eval o X.env) = eval o X.env)
    (hfew : methodCallForm ((e :: es).length + 0) (backTo pos (starEach (e :: es) X.env)) (backToKw pos (keywordEach [] X.env)) = true) (hline : (apos.endLine == pos.line) = true)
    (hst : starEach (e :: es) X.env = (false, eval e X.env) :: starEach es X.env) (hpl : (backTo pos (starEach es X.env)).any (·.1) = false) : SE Φ γ X W (.Call (.Attribute o m apos) (e :: es) [] pos) (.meth io t ies) := by
  obtain ⟨t1, p1, r1⟩ := ho
  obtain ⟨ta, pa, ra⟩ := ha
  exact ⟨_, pe_methD p1 tk pa hb hfew hline hst hpl, meth_read ht r1 ra⟩
theorem se_meth0 {o : Expr} {m : Str} {apos pos : Pos} {io : E} {t : List (Str × Nat)} (ho : SE Φ γ X W o io) (tk : Takes X W) (ht : MtT Φ X m t) (hb : attributeBase o m X.env (eval o X.env) = eval o X.env) (hline : (apos.endLine == pos.line) = true) : SE Φ γ X W (.Call (.Attribute o m apos) [] [] pos) (.meth io t .nil) := by
  obtain ⟨t1, p1, r1⟩ := ho
  refine ⟨_, pe_methD0 p1 tk hb hline, meth_read ht r1 fun σ δ G M H Q Qd Zd ok er hq hz h => ?_⟩
  unfold evalEs at h
  exact hq _ _ h [] G H (Step.refl ok) .nil
/-- a def called below the running body, from which nothing is raised -/
theorem run_low {pins : List (Addr × Obj)} {σ : L2.St} {H : Hp} {s : Shared} {A : Around} {sp : Sp} {Q : VK} {us : List Value} {vs : List V} (F : FnG X.prog X.w X.K X.mg X.base k f fd ps sp) (hr : Rm k A) (e0 : Env0 X.prog X.w X.K X.mg X.base A X.stack s H) (hb : Binds X.K fd ps []) (tk : Takes X W)
    (I : Inv X pins σ H s) (r : Vals vs us) (h : sp vs H Q fun _ _ _ => False) : wpAny (model X.prog X.w) A (call (.ref f) us) (EP X pins σ Q) X.xe s := by
  have hl : us.length = ps.length := r.length.symm.trans (F.len _ _ _ _ h)
  have bd : BindsTo s fd ⟨us, []⟩ (ps.zip us) := by
    have z := hb s us I.kIn (by rw [List.append_nil]; exact hl)
    rw [List.append_nil] at z
    exact z
  refine wpAny_call (codeAny_mono (F.run A X.stack s H ⟨us, []⟩ us vs Q _ hr e0 bd r h) fun res s' hq => ?_)
  match res, hq with
  | .error e, hq => exact tk e s' (XE.of_call I (fun _ _ _ z => z.elim) hq)
  | .ok (.ret u), hq => exact I.after hq
  | .ok .next, hq => exact hq.elim
  | .ok .brk, hq => exact hq.elim
  | .ok .cont, hq => exact hq.elim
/-- len(e) by an own __len__ -/
def rLenI (X : Cx) : List V → Hp → VK → Prop := fun xs H Q => ∃ a c dx vs sp, xs = [.ref a] ∧ SlX.Slt H a c dx vs ∧ MtF X.prog X.w X.K X.mg X.base X.A c "__len__" sp ∧ sp [.ref a] H (fun v H2 => ∃ n : Int, v = .int n ∧ 0 ≤ n ∧ n < 2 ^ 63 ∧ Q (.int n) H2) fun _ _ _ => False
theorem call_lenI (tk : Takes X W) : CallR X (.builtin "len") (rLenI X) := by
  intro pins s σ H xs us Q I r h
  obtain ⟨a, c, dx, vs, sp, rfl, hs, mt, q⟩ := h
  obtain ⟨u, rfl, ru⟩ := vals1 r
  obtain rfl : u = Value.ref a := ru
  obtain ⟨f, fd, ps, k, hm, hr, F, hbd⟩ := mt.ex
  obtain ⟨sl, od, _, J, _⟩ := SlX.slt_inst I hs
  obtain ⟨m, hF⟩ := I.fr
  refine PySem.W.len_K hF I.ok.mod.kin J hm.at_ hm.fn (wpAny_mono (run_low (us := [.ref a]) (vs := [.ref a]) F hr.in1 I.env0.in1 hbd tk I (.cons rfl .nil) q) (fun v s' z => ?_) fun _ _ x => x)
  obtain ⟨v', H', I', rv, n, rfl, h0, h1, qn⟩ := z
  obtain ⟨t, rfl⟩ := rv
  exact ⟨⟨h0, h1⟩, .int n, H', I'.tok _, ⟨_, rfl⟩, qn⟩
theorem se_lenI {a : Expr} {ia : E} {t : List (Str × Nat)} {p pos : Pos} (tk : Takes X W) (hg : Gl X "len") (hm : X.mg "len" = none) (ha : SE Φ γ X W a ia) (na : starEach [a] X.env = (false, eval a X.env) :: starEach [] X.env) (ht : MtT Φ X "__len__" t) :
    SE Φ γ X W (.Call (.Name "len" p) [a] [] pos) (.lenI ia t) := by
  obtain ⟨t1, p1, r1⟩ := ha
  refine ⟨_, pe_callB (call_lenI tk) hg hm (bi_boot .len) (pa_cons p1 pa_nil na) (by decide) (by decide) na rfl, fun σ δ G M H Q Qd Zd ok er hq hz h => ?_⟩
  unfold evalE at h
  show t1 σ H _
  refine run_e r1 ok er hz h fun r M1 v G1 H1 q s1 dv => ?_
  obtain ⟨C, i, h1, h2, q⟩ := q
  obtain ⟨b, c, dx, vs, rfl, hn, hs, hv⟩ := inst_slt s1.ok dv h1
  obtain ⟨c', hn', mt⟩ := ht C i h2
  rw [hn] at hn'
  cases hn'
  refine ⟨b, c, dx, vs, _, rfl, hs, mt, G1, M1, _, _, _, s1.ok, .one dv, fun r2 M2 q2 => ?_, fun _ _ z => z.elim, q⟩
  obtain ⟨n, rfl, n0, n1, q2⟩ := q2
  intro w G2 H2 s2 rv
  have rv' : Dv X.K G2 w (.int n) := rv
  cases rv'
  exact ⟨n, rfl, n0, n1, hq _ _ q2 (.int n) G2 H2 (s1.trans s2) (.int n)⟩
end
end DL
set_option maxRecDepth 100000
set_option maxHeartbeats 4000000
namespace DL
open PySem L2
/-! ### isinstance of own classes -/
theorem sub_ty {K : PySem.W.Frag} {C : Addr} : ∀ t ∈ ["NoneType", "bool", "int", "str", "list", "tuple", "dict"], PySem.W.subIn K (.type t) (.ref C) = some false := by
  intro t ht
  have h : (fastBuiltinMro t).map (·.contains (.ref C)) = some false := by
    have e1 : fastBuiltinMro "NoneType" = some [.type "NoneType", .type "object"] := by decide +kernel
    have e2 : fastBuiltinMro "bool" = some [.type "bool", .type "int", .type "object"] := by decide +kernel
    have e3 : fastBuiltinMro "int" = some [.type "int", .type "object"] := by decide +kernel
    have e4 : fastBuiltinMro "str" = some [.type "str", .type "object"] := by decide +kernel
    have e5 : fastBuiltinMro "list" = some [.type "list", .type "object"] := by decide +kernel
    have e6 : fastBuiltinMro "tuple" = some [.type "tuple", .type "object"] := by decide +kernel
    have e7 : fastBuiltinMro "dict" = some [.type "dict", .type "object"] := by decide +kernel
    simp only [List.mem_cons, List.not_mem_nil, or_false] at ht
    rcases ht with rfl | rfl | rfl | rfl | rfl | rfl | rfl
    · rw [e1]; first | rfl | simp
    · rw [e2]; first | rfl | simp
    · rw [e3]; first | rfl | simp
    · rw [e4]; first | rfl | simp
    · rw [e5]; first | rfl | simp
    · rw [e6]; first | rfl | simp
    · rw [e7]; first | rfl | simp
  exact h
theorem kit_ref {K : PySem.W.Frag} {t : Value} {cB : Addr} {b : Bool} (ic : PySem.W.isClsIn K cB = true) (ty : PySem.W.typeIn K (.ref cB) = some (.type "type")) (s : PySem.W.subIn K t (.ref cB) = some b) (hb : t = .ref cB → b = true) : PySem.W.kitOne K t (.ref cB) = some b := by
  unfold PySem.W.kitOne
  split
  · rename_i e
    rw [hb (beq_iff_eq.mp e)]
  · show (if ((PySem.W.clsIn K cB).isSome && PySem.W.typeIn K (.ref cB) == some (.type "type")) = true then PySem.W.subIn K t (.ref cB) else none) = some b
    have e2 : ((PySem.W.clsIn K cB).isSome && PySem.W.typeIn K (.ref cB) == some (.type "type")) = true := by
      rw [show (PySem.W.clsIn K cB).isSome = true from ic, ty]; rfl
    rw [if_pos e2]
    exact s
theorem tyD_mem {d : D} {t : String} (h : tyD d = some t) : t ∈ ["NoneType", "bool", "int", "str", "list", "tuple", "dict"] := by
  cases d <;> first | (cases h; decide) | (simp [tyD] at h)
section
variable {Φ : Fns} {γ : List D} {X : Cx} {W : WX}
def rIsiC (K : PySem.W.Frag) (cB : Addr) : List V → Hp → VK → Prop := fun xs H Q => ∃ (x : V) (b : Bool), xs = [x, .ref cB] ∧
  ((∃ a c dx vs, x = .ref a ∧ SlX.Slt H a c dx vs ∧ SlX.SCls K c ∧ SlX.SIsi K c ∧ PySem.W.kitOne K (.ref c) (.ref cB) = some b) ∨ (∃ t, TyX K H x (.type t) ∧ PySem.W.kitOne K (.type t) (.ref cB) = some b)) ∧ Q (.bl b) H
theorem call_isiC (cB : Addr) : CallR X (.builtin "isinstance") (rIsiC X.K cB) := by
  intro pins s σ H xs us Q I r h
  obtain ⟨x, b, rfl, h, q⟩ := h
  rcases h with ⟨a, c, dx, vs, rfl, hs, sc, si, e⟩ | ⟨t, ty, e⟩
  · exact SlX.call_isiSl (.ref cB) pins s σ H _ us Q I r ⟨a, c, dx, vs, .ref cB, b, rfl, rfl, fun w z => z, hs, sc, si, e, q⟩
  · exact call_isi pins s σ H _ us Q I r ⟨x, .ref cB, .type t, .ref cB, b, rfl, .own cB, ty, e, q⟩
/-- what the tables say of two classes: the first one is one below (or is) the second one -/
def SubT (K : PySem.W.Frag) (su : List (Str × List Str)) : Prop := ∀ C cs C' cs', assoc su C = some cs → assoc su C' = some cs' → ∃ c c', PySem.W.nsIn K mainGlobals C = some (some (.ref c)) ∧ PySem.W.nsIn K mainGlobals C' = some (some (.ref c')) ∧ ClsI K c ∧ ClsI K c' ∧
  PySem.W.subIn K (.ref c) (.ref c') = some (decide (C' ∈ cs))
theorem se_isiC {a : Expr} {ia : E} {C : Str} {c : Addr} {p p2 pos : Pos} {t : List (Str × Bool)} (hgi : Gl X "isinstance") (hmi : X.mg "isinstance" = none) (hg : Gl X C) (hm : X.mg C = some (.ref c)) (hdb : (C == ("__debug__" : Str)) = false) (ha : SE Φ γ X W a ia)
    (hst : starEach [a, .Name C p2] X.env = (false, eval a X.env) :: starEach [.Name C p2] X.env) (ci : ClsI X.K c)
    (ht : ∀ C1 b, assoc t C1 = some b → ∃ c1, PySem.W.nsIn X.K mainGlobals C1 = some (some (.ref c1)) ∧ ClsI X.K c1 ∧ PySem.W.subIn X.K (.ref c1) (.ref c) = some b ∧ (c1 = c → b = true)) :
    SE Φ γ X W (.Call (.Name "isinstance" p) [a, .Name C p2] [] pos) (.isiC ia t) := by
  obtain ⟨ta, pa, ra⟩ := ha
  refine ⟨_, pe_callB (call_isiC c) hgi hmi isi_boot (pa_cons pa (pa_cons (pe_glob hg hm (v := .ref c) rfl hdb) pa_nil) hst) (by decide) (by decide) hst, fun σ δ G M H Q Qd Zd ok er hq hz h => ?_⟩
  unfold evalE at h
  show ta σ H _
  refine run_e ra ok er hz h fun r M1 v G1 H1 q s1 dv => ?_
  obtain ⟨b, e, q⟩ := q
  refine ⟨v, b, rfl, ?_, hq _ _ q _ G1 H1 s1 (.bl b)⟩
  unfold isiCD at e
  split at e
  · rename_i C1 hc
    obtain ⟨x, c', dx, vs, rfl, hn, hs, _⟩ := inst_slt s1.ok dv hc
    obtain ⟨c1, hn1, ci1, hs1, hb1⟩ := ht C1 b e
    rw [hn] at hn1
    cases hn1
    exact .inl ⟨x, c', dx, vs, rfl, hs, ci1.sc, ci1.si, kit_ref ci.sc.ic ci.ty hs1 fun z => hb1 (by injection z)⟩
  · split at e
    · rename_i t' et
      cases e
      exact .inr ⟨t', ty_ok s1.ok (dv.vw s1.ok) et, kit_ref ci.sc.ic ci.ty (sub_ty t' (tyD_mem et)) fun z => by cases z⟩
    · cases e
/-! ### == and != by an own __eq__ -/
section
variable {prog : Program} {w : World} {A : Around} {E : Value → Shared → Prop} {s : Shared} {K : PySem.W.Frag} {x C : Addr} {ox : Obj} {od : Option Obj} {b tb : Value}
theorem rc_left {op : CmpOp} {Q : Value → Shared → Prop} (hu : A.units < cLine) (X : K.In s.heap) (I : PySem.W.InstAt s.heap x ox C od) (hb : PySem.W.Looks (model prog w) s.heap (typeOf b) tb) (hn : PySem.W.notFirst K C tb = true)
    (one : wpAny (model prog w) A (tryCompare (.ref x) (cmpInfo op).2.1 b) (fun r s' => ∃ v, r = some v ∧ Q v s') E s) : wpAny (model prog w) A (richCompare op (.ref x) b) Q E s := by
  unfold richCompare
  simp only [oneThing_ref]
  refine wpAny_holding (wpAny_bind (wpAny_cRoomFor hu ?_))
  refine wpAny_bind (I.type.here (wpAny_bind (hb.here ?_)))
  split
  · rename_i q
    have e : PySem.W.subIn K tb (.ref C) = some false := by
      rcases Bool.or_eq_true_iff.mp hn with e | e
      · rw [beq_iff_eq.mp e] at q; simp at q
      · exact beq_iff_eq.mp e
    refine wpAny_bind ((PySem.W.looks_subIn X e).here ?_)
    simp only [Bool.false_eq_true, if_false]
    refine wpAny_bind (wpAny_mono one (fun r s' z => ?_) fun _ _ e => e)
    obtain ⟨v, rfl, hq⟩ := z
    exact wpAny_pure hq
  · refine wpAny_bind (wpAny_pure ?_)
    simp only [Bool.false_eq_true, if_false]
    refine wpAny_bind (wpAny_mono one (fun r s' z => ?_) fun _ _ e => e)
    obtain ⟨v, rfl, hq⟩ := z
    exact wpAny_pure hq
theorem rc_right {op : CmpOp} {Q : Value → Shared → Prop} {y C' : Addr} {oy : Obj} {od' : Option Obj} (hu : A.units < cLine) (X : K.In s.heap) (I : PySem.W.InstAt s.heap x ox C od) (J : PySem.W.InstAt s.heap y oy C' od') (hne : C ≠ C') (hs : PySem.W.subIn K (.ref C') (.ref C) = some true)
    (one : wpAny (model prog w) A (tryCompare (.ref y) (cmpInfo op).2.2 (.ref x)) (fun r s' => ∃ v, r = some v ∧ Q v s') E s) : wpAny (model prog w) A (richCompare op (.ref x) (.ref y)) Q E s := by
  unfold richCompare
  simp only [oneThing_ref]
  refine wpAny_holding (wpAny_bind (wpAny_cRoomFor hu ?_))
  refine wpAny_bind (I.type.here (wpAny_bind (J.type.here ?_)))
  have e0 : (Value.ref C != Value.ref C') = true := by
    rw [bne_iff_ne]
    intro z
    injection z with z
    exact hne z
  rw [if_pos e0]
  refine wpAny_bind ((PySem.W.looks_subIn X hs).here ?_)
  simp only [if_true]
  refine wpAny_bind (wpAny_mono one (fun r s' z => ?_) fun _ _ e => e)
  obtain ⟨v, rfl, hq⟩ := z
  exact wpAny_bind (wpAny_rule (wpAny_pure hq))
theorem ifBound_ne {M : Model} {args : List Value} {Q : Option Value → Shared → Prop} (X : K.In s.heap) (I : PySem.W.InstAt s.heap x ox C od) (hs : PySem.W.findIn K (.ref C) "__ne__" = some (some (.builtin "object.__ne__")))
    (h : wpAny M A (call (.builtin "object.__ne__") (.ref x :: args)) (fun v => Q (some v)) E s) : wpAny M A (callSpecialIfBound? (.ref x) "__ne__" args) Q E s := by
  simp only [callSpecialIfBound?, bindSpecialIfBound?]
  refine wpAny_holding (wpAny_bind (wpAny_bind (wpAny_bind (I.type.here ((PySem.W.looks_findIn X hs).here ?_)))))
  refine wpAny_bind (wpAny_askSetting (wpAny_ite ?_))
  have fin : wpAny M A (call (.builtin "object.__ne__") ([.ref x] ++ args) >>= fun v => pure (some v)) Q E s := wpAny_bind (wpAny_mono h (fun v s' h' => wpAny_pure h') fun _ _ h' => h')
  split
  · exact wpAny_bind (wpAny_of_eq (F.cmp_object.ne.bind _) (wpAny_pure (by exact fin)))
  · exact wpAny_tryCatch (wpAny_bind (wpAny_of_eq (F.cmp_object.ne.bind _) (wpAny_pure (by exact fin))))
theorem try_eq {f : Addr} {Q : Value → Shared → Prop} (X : K.In s.heap) (I : PySem.W.InstAt s.heap x ox C od) (hs : PySem.W.findIn K (.ref C) "__eq__" = some (some (.ref f))) (hf : PySem.W.isFn K (.ref f) = true)
    (h : wpAny (model prog w) A (call (.ref f) [.ref x, b]) (fun v s' => ∃ k, v = .bool k ∧ Q (.bool k) s') E s) : wpAny (model prog w) A (tryCompare (.ref x) "__eq__" b) (fun r s' => ∃ v, r = some v ∧ Q v s') E s := by
  unfold tryCompare
  refine wpAny_bind (PySem.W.ifBound_K X I hs hf (wpAny_mono h (fun v s' hv => ?_) fun _ _ e => e))
  obtain ⟨k, rfl, q⟩ := hv
  exact wpAny_pure ⟨_, rfl, q⟩
theorem try_ne {f : Addr} {Q : Value → Shared → Prop} (hu : A.units + 1 < cLine) (X : K.In s.heap) (I : PySem.W.InstAt s.heap x ox C od) (hn : PySem.W.findIn K (.ref C) "__ne__" = some (some (.builtin "object.__ne__"))) (hm : PySem.W.mroIn K C (.type "object") = some true)
    (hs : PySem.W.findIn K (.ref C) "__eq__" = some (some (.ref f))) (hf : PySem.W.isFn K (.ref f) = true) (h : wpAny (model prog w) A.in1 (call (.ref f) [.ref x, b]) (fun v s' => ∃ k, v = .bool k ∧ Q (.bool (!k)) s') E s) :
    wpAny (model prog w) A (tryCompare (.ref x) "__ne__" b) (fun r s' => ∃ v, r = some v ∧ Q v s') E s := by
  unfold tryCompare
  refine wpAny_bind (ifBound_ne X I hn (wpAny_call (codeAny_call_builtin F.cmp_object.ne.plain F.cmpEntry_ne (PySem.W.check_slot F.cmpKind_ne F.cmpSplit_ne (I.type.andThen (PySem.W.looks_mroIn X hm)) (F.cmpArgs_ne _ _) ?_))))
  unfold Builtin.«object.__ne__»
  refine wpAny_bind (m := slotArgs "__ne__" 1 _) (wpAny_pure ?_)
  refine wpAny_bind (wpAny_cRoomFor (show A.in1.units < cLine from hu) ?_)
  refine wpAny_bind (PySem.W.ifBound_K X I hs hf (wpAny_mono h (fun v s' hv => ?_) fun _ _ e => e))
  obtain ⟨k, rfl, q⟩ := hv
  refine wpAny_bind (wpAny_truthy_bool ?_)
  exact wpAny_pure (wpAny_pure ⟨_, rfl, q⟩)
end
/-- the type of what stands on the right -/
def RtI (K : PySem.W.Frag) (H : Hp) (y : V) (tb : Value) : Prop := (∃ b c dx vs, y = .ref b ∧ SlX.Slt H b c dx vs ∧ tb = .ref c) ∨ (∃ t, tb = .type t ∧ TyX K H y (.type t))
theorem rt_looks {pins : List (Addr × Obj)} {σ : L2.St} {H : Hp} {s : Shared} {y : V} {u tb : Value} (I : Inv X pins σ H s) (ry : RelV y u) (h : RtI X.K H y tb) : PySem.W.Looks (model X.prog X.w) s.heap (typeOf u) tb := by
  rcases h with ⟨b, c, dx, vs, rfl, hs, rfl⟩ | ⟨t, rfl, ty⟩
  · obtain rfl : u = Value.ref b := ry
    obtain ⟨sl, od, _, J, _⟩ := SlX.slt_inst I hs
    exact J.type
  · obtain ⟨P, Z, p, _⟩ := kit_of I ry ty
    exact Z.ty _ _ I.kIn p
def opOf (neg : Bool) : CmpOp := if neg = true then .NotEq else .Eq
def rEqI (X : Cx) (neg : Bool) : R2 := fun x y H Q =>
  (∃ a c dx vs sp tb, x = .ref a ∧ SlX.Slt H a c dx vs ∧ MtF X.prog X.w X.K X.mg X.base X.A c "__eq__" sp ∧ ClsI X.K c ∧ RtI X.K H y tb ∧ PySem.W.notFirst X.K c tb = true ∧ sp [x, y] H (fun z H' => ∃ k, z = .bl k ∧ Q (.bl (if neg = true then !k else k)) H') fun _ _ _ => False) ∨
  (∃ a c dx vs b c' dy ws sp, x = .ref a ∧ y = .ref b ∧ SlX.Slt H a c dx vs ∧ SlX.Slt H b c' dy ws ∧ c ≠ c' ∧ PySem.W.subIn X.K (.ref c') (.ref c) = some true ∧ MtF X.prog X.w X.K X.mg X.base X.A c' "__eq__" sp ∧ ClsI X.K c' ∧ sp [y, x] H (fun z H' => ∃ k, z = .bl k ∧ Q (.bl (if neg = true then !k else k)) H') fun _ _ _ => False)
theorem op_eqI (neg : Bool) (hu : X.A.units + 64 < cLine) (tk : Takes X W) : OpR X (compareOp (opOf neg)) (rEqI X neg) := by
  intro pins s σ H x y v u Q I rx ry h
  have hc : ∀ a b, compareOp (opOf neg) a b = richCompare (opOf neg) a b := fun a b => by cases neg <;> rfl
  rw [hc]
  rcases h with ⟨a, c, dx, vs, sp, tb, rfl, hs, mt, ci, rt, nf, q⟩ | ⟨a, c, dx, vs, b, c', dy, ws, sp, rfl, rfl, hs, hs', ne, sb, mt, ci, q⟩
  · obtain rfl : v = Value.ref a := rx
    obtain ⟨f, fd, ps, k, hm, hr, F, hbd⟩ := mt.ex
    obtain ⟨sl, od, _, J, _⟩ := SlX.slt_inst I hs
    refine rc_left (by omega) I.kIn J (rt_looks I ry rt) nf ?_
    cases neg with
    | false =>
      refine try_eq I.kIn J hm.at_ hm.fn (wpAny_mono (run_low (us := [.ref a, u]) (vs := [.ref a, y]) F hr.one I.env0 hbd tk I (.cons rfl (.cons ry .nil)) q) (fun v s' z => ?_) fun _ _ x => x)
      obtain ⟨v', H', I', rv, k, rfl, qk⟩ := z
      obtain rfl : v = Value.bool k := rv
      exact ⟨k, rfl, .bl k, H', I', rfl, qk⟩
    | true =>
      refine try_ne (by omega) I.kIn J ci.ne ci.si.cm hm.at_ hm.fn (wpAny_mono (run_low (us := [.ref a, u]) (vs := [.ref a, y]) F hr.in1 I.env0.in1 hbd tk I (.cons rfl (.cons ry .nil)) q) (fun v s' z => ?_) fun _ _ x => x)
      obtain ⟨v', H', I', rv, k, rfl, qk⟩ := z
      obtain rfl : v = Value.bool k := rv
      exact ⟨k, rfl, .bl (!k), H', I', rfl, qk⟩
  · obtain rfl : v = Value.ref a := rx
    obtain rfl : u = Value.ref b := ry
    obtain ⟨f, fd, ps, k, hm, hr, F, hbd⟩ := mt.ex
    obtain ⟨sl, od, _, J, _⟩ := SlX.slt_inst I hs
    obtain ⟨sl', od', _, J', _⟩ := SlX.slt_inst I hs'
    refine rc_right (by omega) I.kIn J J' ne sb ?_
    cases neg with
    | false =>
      refine try_eq I.kIn J' hm.at_ hm.fn (wpAny_mono (run_low (us := [.ref b, .ref a]) (vs := [.ref b, .ref a]) F hr.one I.env0 hbd tk I (.cons rfl (.cons rfl .nil)) q) (fun v s' z => ?_) fun _ _ x => x)
      obtain ⟨v', H', I', rv, k, rfl, qk⟩ := z
      obtain rfl : v = Value.bool k := rv
      exact ⟨k, rfl, .bl k, H', I', rfl, qk⟩
    | true =>
      refine try_ne (by omega) I.kIn J' ci.ne ci.si.cm hm.at_ hm.fn (wpAny_mono (run_low (us := [.ref b, .ref a]) (vs := [.ref b, .ref a]) F hr.in1 I.env0.in1 hbd tk I (.cons rfl (.cons rfl .nil)) q) (fun v s' z => ?_) fun _ _ x => x)
      obtain ⟨v', H', I', rv, k, rfl, qk⟩ := z
      obtain rfl : v = Value.bool k := rv
      exact ⟨k, rfl, .bl (!k), H', I', rfl, qk⟩
/-- what the tables of == must be -/
structure EqT (Φ : Fns) (X : Cx) (t : List (Str × Nat)) (rv : List (Str × Str)) : Prop where
  mt : MtT Φ X "__eq__" t
  ci : ∀ C i c, assoc t C = some i → PySem.W.nsIn X.K mainGlobals C = some (some (.ref c)) → ClsI X.K c
  fst : ∀ C C' i i' c c', assoc t C = some i → assoc t C' = some i' → PySem.W.nsIn X.K mainGlobals C = some (some (.ref c)) → PySem.W.nsIn X.K mainGlobals C' = some (some (.ref c')) → (C, C') ∈ rv → c ≠ c' ∧ PySem.W.subIn X.K (.ref c') (.ref c) = some true
  lst : ∀ C C' i i' c c', assoc t C = some i → assoc t C' = some i' → PySem.W.nsIn X.K mainGlobals C = some (some (.ref c)) → PySem.W.nsIn X.K mainGlobals C' = some (some (.ref c')) → (C, C') ∉ rv → PySem.W.notFirst X.K c (.ref c') = true
theorem eqI_core {neg : Bool} {t : List (Str × Nat)} {rv : List (Str × Str)} {G2 : Hp} {M2 : MS} {H2 : Hp} {v v2 : V} {x y : D} {i : Nat} {ds : List D} {Q : VK} {Qd : KR} (ht : EqT Φ X t rv) (ok : OkS X.K G2 M2 H2) (dv' : Dv X.K G2 v x) (dv2 : Dv X.K G2 v2 y) (es : eqSel M2 t rv x y = some (i, ds))
    (q : Φ i ds M2 Qd fun _ _ => False) (k : ∀ r M3, Qd r M3 → ∃ b, r = .val (.bl b) ∧ ∀ G3 H3, Step X.K G2 M2 H2 G3 M3 H3 → Q (.bl (if neg = true then !b else b)) H3) : rEqI X neg v v2 H2 Q := by
  unfold eqSel at es
  split at es
  · rename_i C hC
    obtain ⟨x, c, dx, vs, rfl, hn, hs, _⟩ := inst_slt ok dv' hC
    have fin : ∀ {w1 w2 : V} {ds' : List D}, ds = ds' → DvAll X.K G2 [w1, w2] ds' → spD X.K (Φ i) [w1, w2] H2 (fun z H' => ∃ k, z = .bl k ∧ Q (.bl (if neg = true then !k else k)) H') fun _ _ _ => False := fun hd da => by
      subst hd
      refine ⟨G2, M2, _, _, _, ok, da, fun r3 M3 q3 => ?_, fun _ _ z => z.elim, q⟩
      obtain ⟨b, rfl, q4⟩ := k _ _ q3
      intro w G3 H3 s3 rv'
      have rv2 : Dv X.K G3 w (.bl b) := rv'
      cases rv2
      exact ⟨b, rfl, q4 G3 H3 s3⟩
    split at es
    · rename_i C' hC'
      obtain ⟨y, c', dy, ws, rfl, hn', hs', _⟩ := inst_slt ok dv2 hC'
      split at es
      · rename_i i1 i2 ei ei2
        split at es
        · rename_i hrv
          cases es
          obtain ⟨c2, hn2, mt⟩ := ht.mt C' _ ei2
          rw [hn'] at hn2
          cases hn2
          obtain ⟨h1, h2⟩ := ht.fst C C' _ _ c c' ei ei2 hn hn' hrv
          exact .inr ⟨x, c, dx, vs, y, c', dy, ws, _, rfl, rfl, hs, hs', h1, h2, mt, ht.ci C' _ c' ei2 hn', fin rfl (.cons dv2 (.one dv'))⟩
        · rename_i hrv
          cases es
          obtain ⟨c2, hn2, mt⟩ := ht.mt C _ ei
          rw [hn] at hn2
          cases hn2
          exact .inl ⟨x, c, dx, vs, _, .ref c', rfl, hs, mt, ht.ci C _ c ei hn, .inl ⟨y, c', dy, ws, rfl, hs', rfl⟩, ht.lst C C' _ _ c c' ei ei2 hn hn' hrv, fin rfl (.cons dv' (.one dv2))⟩
      · cases es
    · split at es
      · rename_i t' et
        cases ei : assoc t C with
        | none => rw [ei] at es; cases es
        | some i' =>
          rw [ei] at es
          cases es
          obtain ⟨c2, hn2, mt⟩ := ht.mt C _ ei
          rw [hn] at hn2
          cases hn2
          refine .inl ⟨x, c, dx, vs, _, .type t', rfl, hs, mt, ht.ci C _ c ei hn, .inr ⟨t', rfl, ty_ok ok (dv2.vw ok) et⟩, ?_, fin rfl (.cons dv' (.one dv2))⟩
          unfold PySem.W.notFirst
          rw [sub_ty t' (tyD_mem et)]
          simp
      · cases es
  · cases es
theorem se_eqI {neg : Bool} {a b : Expr} {ia ib : E} {t : List (Str × Nat)} {rv : List (Str × Str)} {pos : Pos} (hu : X.A.units + 64 < cLine) (tk : Takes X W) (ha : SE Φ γ X W a ia) (hb : SE Φ γ X W b ib) (hm : behindInMarks (opOf neg) b = false) (ht : EqT Φ X t rv) :
    SE Φ γ X W (.Compare a [opOf neg] [b] pos) (.eqI neg ia ib t rv) := by
  obtain ⟨t1, p1, r1⟩ := ha
  obtain ⟨t2, p2, r2⟩ := hb
  refine ⟨_, pe_cmpR (op_eqI neg hu tk) p1 p2 hm, fun σ δ G M H Q Qd Zd ok er hq hz h => ?_⟩
  unfold evalE at h
  show t1 σ H _
  refine run_e r1 ok er hz h fun r M1 v G1 H1 q s1 dv => ?_
  show t2 σ H1 _
  refine run_e r2 s1.ok (er.mono s1.sub) (px_after s1 hz) q fun r' M2 v2 G2 H2 q2 s2 dv2 => ?_
  obtain ⟨i, ds, es, q⟩ := q2
  refine eqI_core ht s2.ok (dv.mono s2.sub) dv2 es q fun r3 M3 q3 => ?_
  obtain ⟨k, rfl, q3⟩ := q3
  exact ⟨k, rfl, fun G3 H3 s3 => hq _ _ q3 _ G3 H3 ((s1.trans s2).trans s3) (.bl _)⟩
theorem st_eqI {neg : Bool} {a b : Expr} {ia ib : E} {t : List (Str × Nat)} {rv : List (Str × Str)} {pos : Pos} (hu : X.A.units + 64 < cLine) (tk : Takes X W) (ha : SE Φ γ X W a ia) (hb : SE Φ γ X W b ib) (hm : behindInMarks (opOf neg) b = false) (ht : EqT Φ X t rv) :
    ST Φ γ X W (.Compare a [opOf neg] [b] pos) (.e (.eqI neg ia ib t rv)) := by
  obtain ⟨t1, p1, r1⟩ := ha
  obtain ⟨t2, p2, r2⟩ := hb
  refine ⟨_, pt_cmpR (op_eqI neg hu tk) p1 p2 hm, fun σ δ G M H Q Qd Zd ok er hq hz h => ?_⟩
  unfold evalT evalE at h
  show t1 σ H _
  refine run_e r1 ok er hz h fun r M1 v G1 H1 q s1 dv => ?_
  show t2 σ H1 _
  refine run_e r2 s1.ok (er.mono s1.sub) (px_after s1 hz) q fun r' M2 v2 G2 H2 q2 s2 dv2 => ?_
  obtain ⟨i, ds, es, q⟩ := q2
  refine eqI_core ht s2.ok (dv.mono s2.sub) dv2 es q fun r3 M3 q3 => ?_
  obtain ⟨k, rfl, k', e', q3⟩ := q3
  have ek := truth_bl e'
  subst ek
  exact ⟨k, rfl, fun G3 H3 s3 => ⟨_, rfl, hq _ _ q3 G3 H3 ((s1.trans s2).trans s3)⟩⟩
end
end DL
set_option maxRecDepth 100000
set_option maxHeartbeats 2000000
namespace DL
open PySem L2
/-! ### from Python's syntax to the small language -/
/-- a def: its number, how many parameters, what the last ones are where they are not given -/
structure FnT where
  i : Nat
  ar : Nat
  dfs : List D
/-- what is known of a text: its defs, globals, built-ins; its classes: methods, slots, how they are made, what they stand below -/
structure TB where
  fns : List (Str × FnT)
  gls : List (Str × D)
  bls : List Str
  mts : List (Str × List (Str × FnT))
  sls : List (Str × List (Str × Nat))
  mks : List (Str × (FnT × Nat))
  sub : List (Str × List Str)
  xcs : List (Str × Str) := []
  xsu : List (Str × List Str) := []
  xfl : List Str := []
  hfs : List (Str × FnT) := []
  xc0 : List Str := []
structure CE where
  N : List Str
  tb : TB
  mu : List Nat
  ow : List Pos
  fz : List Pos
  ns : List Pos
  un : List Pos
  iq : List Pos
  dp : Bool
abbrev CE.gls (c : CE) : List (Str × D) := c.tb.gls
abbrev CE.bls (c : CE) : List Str := c.tb.bls
/-- which of two classes is asked first -/
def rvOf (su : List (Str × List Str)) : List (Str × Str) := (su.map (·.1)).flatMap fun C => (su.map (·.1)).filterMap fun C' => match assoc su C, assoc su C' with
  | some cs, some cs' => if C ∈ cs' ∧ C' ∉ cs then some (C, C') else none
  | _, _ => none
def subB (su : List (Str × List Str)) : Bool := su.all fun p => su.all fun q => match assoc su p.1, assoc su q.1 with
  | some cs, some cs' => !(decide (p.1 ∈ cs') && decide (q.1 ∈ cs)) || decide (p.1 = q.1)
  | _, _ => true
def numsT (cs : List (Str × FnT)) : List (Str × Nat) := cs.map fun p => (p.1, p.2.i)
def plainM (n : Nat) (cs : List (Str × FnT)) : Bool := cs.all fun p => p.2.ar == n && p.2.dfs.isEmpty
def isaT (su : List (Str × List Str)) (C : Str) : List (Str × Bool) := su.map fun p => (p.1, decide (C ∈ p.2))
/-- the table of the classes' own == -/
def eqT (c : CE) : Option (List (Str × Nat)) := match assoc c.tb.mts "__eq__" with
  | some cs => if plainM 2 cs = true ∧ subB c.tb.sub = true ∧ cs.all (fun p => (assoc c.tb.sub p.1).isSome) = true then some (numsT cs) else none
  | none => none
def lenT (c : CE) : Option (List (Str × Nat)) := match assoc c.tb.mts "__len__" with
  | some cs => if plainM 1 cs = true then some (numsT cs) else none
  | none => none
/-- a list that is made here and changed later -/
def wrapO (c : CE) (e : Expr) (ir : E) : E := if e.pos ∈ c.ow then .own ir else if e.pos ∈ c.fz then .frz ir else if e.pos ∈ c.ns then .nst ir else if e.pos ∈ c.un then .unn ir else ir
def idxIn : List Str → Str → Option Nat
  | [], _ => none
  | y :: r, x => if y = x then some 0 else (idxIn r x).map (· + 1)
theorem idxIn_get : ∀ {l : List Str} {x : Str} {i : Nat}, idxIn l x = some i → l[i]? = some x
  | [], _, _, h => by cases h
  | y :: r, x, i, h => by
    unfold idxIn at h
    split at h
    · cases h; rename_i e; rw [e]; rfl
    · cases e : idxIn r x with
      | none => rw [e] at h; cases h
      | some j =>
        rw [e] at h
        cases h
        exact idxIn_get (l := r) e
def vis (sc : Scope) (x : Str) : Bool := match sc.names.lookup x with
  | some .local => true
  | some .cell => true
  | some .free => true
  | _ => false
theorem vis_ok {sc : Scope} {x : Str} (h : vis sc x = true) : Vis sc x := by
  unfold vis at h
  split at h
  · exact .inl (by assumption)
  · exact .inr (.inl (by assumption))
  · exact .inr (.inr (by assumption))
  · cases h
def isLocal (sc : Scope) (x : Str) : Bool := match sc.names.lookup x with
  | some .local => true
  | _ => false
theorem isLocal_ok {sc : Scope} {x : Str} (h : isLocal sc x = true) : sc.names.lookup x = some .local := by
  unfold isLocal at h
  split at h
  · assumption
  · cases h
def isCell (sc : Scope) (x : Str) : Bool := match sc.names.lookup x with
  | some .cell => true
  | _ => false
theorem isCell_ok {sc : Scope} {x : Str} (h : isCell sc x = true) : sc.names.lookup x = some .cell := by
  unfold isCell at h
  split at h
  · assumption
  · cases h
def isGl (sc : Scope) (x : Str) : Bool := match sc.names.lookup x with
  | some .globalImplicit => true
  | _ => false
theorem isGl_ok {sc : Scope} {x : Str} (h : isGl sc x = true) : sc.names.lookup x = some .globalImplicit := by
  unfold isGl at h
  split at h
  · assumption
  · cases h
def plainName (x : Str) : Bool := !(x == ("__debug__" : Str)) && !(x == ("__classdict__" : Str))
theorem plainName_ok {x : Str} (h : plainName x = true) : (x == ("__debug__" : Str)) = false ∧ (x == ("__classdict__" : Str)) = false := by
  unfold plainName at h
  simp only [Bool.and_eq_true, Bool.not_eq_true'] at h
  exact h
def noStar : Expr → Bool
  | .Starred .. => false
  | _ => true
theorem star_cons {e : Expr} (h : noStar e = true) (es : List Expr) (env : Env) : starEach (e :: es) env = (false, eval e env) :: starEach es env := by
  cases e <;> first | rfl | cases h
def noStars (es : List Expr) : Bool := es.all noStar
theorem stars_any {pos : Pos} {env : Env} : ∀ {es : List Expr}, noStars es = true → (backTo pos (starEach es env)).any (·.1) = false
  | [], _ => rfl
  | e :: es, h => by
    unfold noStars at h
    simp only [List.all_cons, Bool.and_eq_true] at h
    rw [star_cons h.1]
    show ((false || (backTo pos (starEach es env)).any (·.1))) = false
    rw [Bool.false_or]
    exact stars_any h.2
def noCall0 : Expr → Bool
  | .Call (.Name _ _) [] [] _ => false
  | _ => true
theorem base_ok {o : Expr} (h : noCall0 o = true) (attr : Str) (env : Env) (whole : Sem Value) : attributeBase o attr env whole = whole := by
  unfold attributeBase
  split
  · cases h
  · rfl
def noSet : Expr → Bool
  | .Set .. => false
  | _ => true
theorem folded_ok {e : Expr} (h : noSet e = true) (env : Env) : ∀ x, foldedSetIterable e env x = pure x := by
  intro x
  unfold foldedSetIterable
  split
  · cases h
  · rfl
theorem marks_ok {e : Expr} (h : noSet e = true) (o : CmpOp) : behindInMarks o e = false := by
  cases e <;> first | rfl | cases h
def noComp : Expr → Bool
  | .ListComp .. => false
  | .SetComp .. => false
  | .DictComp .. => false
  | _ => true
theorem swaps_ok {e : Expr} (h : noComp e = true) (t : Option Expr) (l : Nat) (env : Env) : swapsWith e t l env = pure false := by
  unfold swapsWith
  cases e <;> first | rfl | cases h
abbrev noSlice := noSliceE
theorem plainIx_ok {e : Expr} (h : noSlice e = true) : PlainIx e := by
  intro o i
  unfold subscripted
  cases e <;> first | rfl | cases h
def plainTest : Expr → Bool
  | .UnaryOp .Not _ _ => false
  | .BoolOp .. => false
  | .IfExp .. => false
  | .Compare .. => false
  | _ => true
theorem plainTest_ok {e : Expr} (h : plainTest e = true) (env : Env) : ∀ whole, isTrue e env whole = (do let v ← whole; standAt e.pos; holding [v] (truthy v)) := by
  intro whole
  cases e with
  | UnaryOp op x p => cases op <;> first | rfl | cases h
  | BoolOp _ _ _ => cases h
  | IfExp _ _ _ _ => cases h
  | Compare _ _ _ _ => cases h
  | _ => rfl
def biOf (x : Str) : Option BI :=
  if x = "len" then some .len else if x = "int" then some .int else if x = "abs" then some .abs else if x = "repr" then some .repr else if x = "all" then some .all
  else if x = "any" then some .any else if x = "tuple" then some .tuple else if x = "list" then some .list else if x = "max" then some .max else none
theorem biOf_ok {x : Str} {b : BI} (h : biOf x = some b) : x = biName b := by
  unfold biOf at h
  repeat' split at h
  all_goals (cases h; try assumption)
def mtOf (x : Str) : Option MT := if x = "split" then some .split else if x = "join" then some .join else none
theorem mtOf_ok {x : Str} {b : MT} (h : mtOf x = some b) : x = mtName b := by
  unfold mtOf at h
  repeat' split at h
  all_goals (cases h; try assumption)
def tys : List String := ["bool", "int", "str", "list", "tuple", "dict"]
def tyOf (x : Str) : Option String := tys.find? fun u => decide (Str.ofString u = x)
theorem tyOf_ok {x : Str} {u : String} (h : tyOf x = some u) : u ∈ ["bool", "int", "str", "list", "tuple", "dict"] ∧ x = Str.ofString u := by
  unfold tyOf at h
  have h2 := List.find?_some h
  simp only [decide_eq_true_eq] at h2
  exact ⟨List.mem_of_find?_eq_some h, h2.symm⟩
def compEs (f : Expr → Option E) : List Expr → Option Es
  | [] => some .nil
  | e :: es => if noStar e = true then match f e, compEs f es with
    | some a, some b => some (.cons a b)
    | _, _ => none else none
/-- parts of a display, some of them starred -/
def compEsS (f : Expr → Option E) : List Expr → Option Es
  | [] => some .nil
  | .Starred e _ :: es => match f e, compEsS f es with
    | some a, some b => some (.star a b)
    | _, _ => none
  | e :: es => if noStar e = true then match f e, compEsS f es with
    | some a, some b => some (.cons a b)
    | _, _ => none else none
/-- sorted(set(a)) -/
def sortSet : Str → List Expr → Option (Str × Expr)
  | x, [.Call (.Name s _) [a] [] _] => if x = "sorted" ∧ s = "set" then some (s, a) else none
  | _, _ => none
def sortOne : Str → List Expr → Option Expr
  | x, [a] => if x = "sorted" then some a else none
  | _, _ => none
def lenSet : Str → List Expr → Option (Str × Expr)
  | x, [.Call (.Name s _) [a] [] _] => if x = "len" ∧ s = "set" then some (s, a) else none
  | _, _ => none
/-- dict(zip(a, b)), dict(a), list(o.items()) -/
def dictZip : Str → List Expr → Option (Str × Expr × Expr)
  | x, [.Call (.Name s _) [a, b] [] _] => if x = "dict" ∧ s = "zip" then some (s, a, b) else none
  | _, _ => none
def dictOne : Str → List Expr → Option Expr
  | x, [a] => if x = "dict" then some a else none
  | _, _ => none
def listItems : Str → List Expr → Option (Expr × Pos × Pos)
  | x, [.Call (.Attribute o m ap) [] [] cp] => if x = "list" ∧ m = "items" then some (o, ap, cp) else none
  | _, _ => none
/-- len of an instance -/
def lenOne (c : CE) : Str → List Expr → Option Expr
  | x, [a] => if x = "len" ∧ a.pos ∈ c.iq then some a else none
  | _, _ => none
def isTupE : Expr → Bool
  | .Tuple .. => true
  | _ => false
def isRep : E → Bool
  | .reprd _ => true
  | _ => false
def eqOf (c : CE) (o : CmpOp) (a b : E) : E := if c.dp = true ∧ isRep a = false then (match o with
  | .Eq => .eqd false a b
  | .NotEq => .eqd true a b
  | _ => .cmp o a b) else .cmp o a b
def compCall (c : CE) (sc : Scope) (f : Expr → Option E) (x : Str) (args : List Expr) : Option E :=
  if isGl sc x = true ∧ plainName x = true then
    match assoc c.tb.fns x with
    | some t => if args.length ≤ t.ar ∧ t.ar - args.length ≤ t.dfs.length then (compEs f args).map fun ies => E.call t.i (esApp ies (csts (t.dfs.drop (t.dfs.length - (t.ar - args.length))))) else none
    | none => match assoc c.tb.mks x with
    | some (t, n) => if args.length + 1 ≤ t.ar ∧ t.ar - (args.length + 1) ≤ t.dfs.length then (compEs f args).map fun ies => E.make x t.i n (esApp ies (csts (t.dfs.drop (t.dfs.length - (t.ar - (args.length + 1)))))) else none
    | none => if x ∈ c.bls then
        if x = "isinstance" then match args with
          | [a, .Name t _] => match assoc c.tb.sub t with
            | some us => if noStar a = true ∧ isGl sc t = true ∧ plainName t = true ∧ t ∈ us then (f a).map fun ia => .isiC ia (isaT c.tb.sub t) else none
            | none => match tyOf t, f a with
            | some u, some ia => if noStar a = true ∧ isGl sc t = true ∧ t ∈ c.bls then some (.isi ia [u]) else none
            | _, _ => none
          | [a, .Tuple [.Name t _, .Name t' _] _ _] => match tyOf t, tyOf t', f a with
            | some u, some u', some ia => if noStar a = true ∧ isGl sc t = true ∧ t ∈ c.bls ∧ isGl sc t' = true ∧ t' ∈ c.bls then some (.isi ia [u, u']) else none
            | _, _, _ => none
          | _ => none
        else match dictZip x args with
          | some (s, a, b) => if isGl sc s = true ∧ s ∈ c.bls ∧ noStar a = true ∧ noStar b = true then match f a, f b with
            | some ia, some ib => some (.dictZ ia ib)
            | _, _ => none else none
          | none => match dictOne x args with
          | some a => if noStar a = true then (f a).map E.dictP else none
          | none => match listItems x args with
          | some (o, ap, cp) => if noCall0 o = true ∧ (ap.endLine == cp.line) = true then (f o).map E.items else none
          | none => match lenSet x args with
          | some (s, a) => if isGl sc s = true ∧ s ∈ c.bls ∧ noStar a = true then (f a).map E.lens else none
          | none => match sortSet x args with
          | some (s, a) => if isGl sc s = true ∧ s ∈ c.bls ∧ noStar a = true then (f a).map E.sset else none
          | none => match sortOne x args with
          | some a => if noStar a = true then (f a).map E.sortd else none
          | none => match lenOne c x args with
          | some a => if noStar a = true then match lenT c with
            | some t => (f a).map fun ia => .lenI ia t
            | none => none else none
          | none => if c.dp = true ∧ x = "repr" then (match args with
              | [a] => if noStar a = true then (f a).map E.reprd else none
              | _ => none) else match biOf x, args with
            | some b, _ :: _ => (compEs f args).map (E.bi b)
            | _, _ => none
      else none
  else none
/-- o.m(..) -/
def compAttr (c : CE) (f : Expr → Option E) (o : Expr) (m : Str) (ap : Pos) (args : List Expr) (p : Pos) : Option E := match assoc c.tb.mts m with
  | some cs => if noCall0 o = true ∧ (ap.endLine == p.line) = true ∧ args.length < 30 ∧ plainM (args.length + 1) cs = true then match f o, compEs f args with
    | some io, some ies => some (.meth io (numsT cs) ies)
    | _, _ => none else none
  | none => match args with
    | [k, d] => if m = "get" ∧ noCall0 o = true ∧ noStar k = true ∧ noStar d = true ∧ (ap.endLine == p.line) = true then match f o, f k, f d with
      | some o, some k, some d => some (.get o k d)
      | _, _, _ => none else none
    | [a] => match mtOf m, f o, f a with
      | some m, some o', some a' => if noCall0 o = true ∧ noStar a = true ∧ (ap.endLine == p.line) = true then some (.mt m o' (.cons a' .nil)) else none
      | _, _, _ => none
    | _ => none
/-- == and != -/
def compEq (c : CE) (o : CmpOp) (p : Pos) (a b : E) : Option E := if p ∈ c.iq then match eqT c with
    | some t => match o with
      | .Eq => some (.eqI false a b t (rvOf c.tb.sub))
      | .NotEq => some (.eqI true a b t (rvOf c.tb.sub))
      | _ => none
    | none => none
  else some (eqOf c o a b)
def compEqT (c : CE) (o : CmpOp) (p : Pos) (a b : E) : Option E := if p ∈ c.iq then match eqT c with
    | some t => match o with
      | .Eq => some (.eqI false a b t (rvOf c.tb.sub))
      | .NotEq => some (.eqI true a b t (rvOf c.tb.sub))
      | _ => none
    | none => none
  else some (.cmp o a b)
/-- a target's slots, where the names are the block's own -/
def compTg (c : CE) (sc : Scope) (ok : Str → Bool) : Expr → Option (List Nat × Bool)
  | .Name x _ => if ok x = true then (idxIn c.N x).map fun i => ([i], true) else none
  | .Tuple [.Tuple [.Name x _, .Name y _] _ _, .Name z _] _ _ => if ok x = true ∧ ok y = true ∧ ok z = true then match idxIn c.N x, idxIn c.N y, idxIn c.N z with
    | some i, some j, some k => some ([i, j, k], true)
    | _, _, _ => none else none
  | .Tuple ts _ _ => (go ts).map fun is => (is, false)
  | _ => none
where go : List Expr → Option (List Nat)
  | [] => some []
  | .Name x _ :: r => if ok x = true then match idxIn c.N x, go r with
    | some i, some is => some (i :: is)
    | _, _ => none else none
  | _ :: _ => none
def compI (c : CE) (sc : Scope) (f : Expr → Option E) (tg e : Expr) : Option I := match e with
  | .Call (.Name x _) [a] [] _ => if x = "range" then (if isGl sc x = true ∧ x ∈ c.bls ∧ noStar a = true then (f a).map I.rng1 else none)
      else if x = "enumerate" then (if isGl sc x = true ∧ x ∈ c.bls ∧ noStar a = true ∧ isTupE tg = true then (f a).map I.enum else none) else (f e).map I.seq
  | .Call (.Name x _) [a, b] [] _ => if x = "range" then (if isGl sc x = true ∧ x ∈ c.bls ∧ noStar a = true ∧ noStar b = true then match f a, f b with
      | some a, some b => some (.rng2 a b)
      | _, _ => none else none) else if x = "zip" then (if isGl sc x = true ∧ x ∈ c.bls ∧ noStar a = true ∧ noStar b = true ∧ isTupE tg = true then match f a, f b with
      | some a, some b => some (.zip a b)
      | _, _ => none else none) else (f e).map I.seq
  | .Call (.Name x _) [a, b, d] [] _ => if x = "range" ∧ isGl sc x = true ∧ x ∈ c.bls ∧ noStar a = true ∧ noStar b = true ∧ noStar d = true then match f a, f b, f d with
      | some a, some b, some d => some (.rng3 a b d)
      | _, _, _ => none else (f e).map I.seq
  | e => if noSet e = true then (f e).map I.seq else none
def ownOf (c : CE) (scope : Scope) : List (Str × Nat) := scope.names.filterMap fun (y, k) => if k = .local ∨ k = .cell then (idxIn c.N y).map fun i => (y, i) else none
def compPs (f : Expr → Option E) : List (Option Expr) → List Expr → Option Es
  | [], [] => some .nil
  | some k :: ks, v :: vs => match f k, f v, compPs f ks vs with
    | some a, some b, some r => some (.cons a (.cons b r))
    | _, _, _ => none
  | _, _ => none
def compO (f : Expr → Option E) : Option Expr → Option O
  | none => some .none
  | some e => (f e).map O.some
mutual
def compE (c : CE) : Nat → Scope → Expr → Option E
  | 0, _, _ => none
  | n + 1, sc, e => (match e with
    | .Name x _ => if plainName x = true then (if vis sc x = true then (idxIn c.N x).map E.var else if isGl sc x = true then (assoc c.gls x).map E.cst else none) else none
    | .Constant (.int i) _ _ => some (.cst (.int i))
    | .Constant (.str x) _ _ => some (.cst (.str x))
    | .Constant (.bool b) _ _ => some (.cst (.bl b))
    | .Constant .none _ _ => some (.cst .non)
    | .Tuple es _ _ => (compEsS (compE c n sc) es).map E.tup
    | .List es _ => (compEs (compE c n sc) es).map E.lst
    | .Dict ks vs _ => if ks.length ≤ 15 then (compPs (compE c n sc) ks vs).map E.dct else none
    | .BinOp a o b _ => match compE c n sc a, compE c n sc b with
      | some a, some b => some (.bin o a b)
      | _, _ => none
    | .UnaryOp .USub a _ => (compE c n sc a).map E.neg
    | .UnaryOp .Not a _ => (compE c n sc a).map E.not
    | .Compare a [o] [b] p => if noSet b = true then match compE c n sc a, compE c n sc b with
      | some a, some b => compEq c o p a b
      | _, _ => none else none
    | .Compare a [o, o'] [b, d] _ => if noSet d = true then match compE c n sc a, compE c n sc b, compE c n sc d with
      | some a, some b, some d => some (.chain o o' a b d)
      | _, _, _ => none else none
    | .BoolOp _ [a] _ => compE c n sc a
    | .BoolOp .And (a :: b :: r) p => match compE c n sc a, compE c n sc (.BoolOp .And (b :: r) p) with
      | some a, some b => some (.and a b)
      | _, _ => none
    | .BoolOp .Or (a :: b :: r) p => match compE c n sc a, compE c n sc (.BoolOp .Or (b :: r) p) with
      | some a, some b => some (.or a b)
      | _, _ => none
    | .IfExp t a b _ => match compT c n sc t, compE c n sc a, compE c n sc b with
      | some t, some a, some b => some (.ife t a b)
      | _, _, _ => none
    | .Subscript a (.Slice lo hi none _) _ => match compE c n sc a, compO (compE c n sc) lo, compO (compE c n sc) hi with
      | some a, some l, some h => some (.slc a l h)
      | _, _, _ => none
    | .Subscript a b _ => if noSlice b = true then match compE c n sc a, compE c n sc b with
      | some a, some b => some (.idx a b)
      | _, _ => none else none
    | .Call (.Name x _) args [] _ => compCall c sc (compE c n sc) x args
    | .Call (.Name x _) [a] [⟨some k, d, _⟩] _ => if x = "max" ∧ k = "default" ∧ isGl sc x = true ∧ x ∈ c.bls ∧ noStar a = true then match compE c n sc a, compE c n sc d with
      | some a, some d => some (.maxd a d)
      | _, _ => none else none
    | .Call (.Attribute o m ap) args [] p => compAttr c (compE c n sc) o m ap args p
    | .Attribute a m _ => match assoc c.tb.sls m with
      | some cs => if noCall0 a = true then (compE c n sc a).map fun ia => .fld ia cs else none
      | none => none
    | .ListComp elt [⟨tg, iter, ifs, 0⟩] scope _ => compLC c n sc elt tg iter ifs scope
    | .ListComp elt [⟨tg, iter, ifs, 0⟩, ⟨tg1, iter1, ifs1, 0⟩] scope _ => compLC2 c n sc elt tg iter ifs tg1 iter1 ifs1 scope
    | _ => none).map (wrapO c e)
def compT (c : CE) : Nat → Scope → Expr → Option T
  | 0, _, _ => none
  | n + 1, sc, e => match e with
    | .UnaryOp .Not a _ => (compT c n sc a).map T.not
    | .BoolOp _ [a] _ => compT c n sc a
    | .BoolOp .And (a :: b :: r) p => match compT c n sc a, compT c n sc (.BoolOp .And (b :: r) p) with
      | some a, some b => some (.and a b)
      | _, _ => none
    | .BoolOp .Or (a :: b :: r) p => match compT c n sc a, compT c n sc (.BoolOp .Or (b :: r) p) with
      | some a, some b => some (.or a b)
      | _, _ => none
    | .Compare a [o] [b] p => if noSet b = true then match compE c n sc a, compE c n sc b with
      | some a, some b => (compEqT c o p a b).map T.e
      | _, _ => none else none
    | .Compare a [o, o'] [b, d] p => if noSet d = true then match compE c n sc a, compE c n sc b, compE c n sc d with
      | some a, some b, some d => some (.e (.chain o o' a b d))
      | _, _, _ => none else none
    | e => if plainTest e = true then (compE c n sc e).map T.e else none
def compLC (c : CE) : Nat → Scope → Expr → Expr → Expr → List Expr → Scope → Option E
  | 0, _, _, _, _, _, _ => none
  | n + 1, sc, elt, tg, iter, ifs, scope =>
    if blkC c.N sc scope (ownOf c scope) = true then
      match compI c sc (compE c n sc) tg iter, compTg c (relS scope sc) (fun x => isLocal (relS scope sc) x || (isCell scope x && isCell (relS scope sc) x)) tg, compE c n (relS scope sc) elt with
      | some it, some (is, one), some ie =>
        if noSet iter = true ∧ is.all (fun i => decide (i ∈ (ownOf c scope).map (·.2))) = true then
          match ifs with
          | [] => some (.comp ie is one ((ownOf c scope).map (·.2)) it .yes)
          | [t] => (compT c n (relS scope sc) t).map fun t => .comp ie is one ((ownOf c scope).map (·.2)) it t
          | _ => none
        else none
      | _, _, _ => none
    else none
def compLC2 (c : CE) : Nat → Scope → Expr → Expr → Expr → List Expr → Expr → Expr → List Expr → Scope → Option E
  | 0, _, _, _, _, _, _, _, _, _ => none
  | n + 1, sc, elt, tg, iter, ifs, tg1, iter1, ifs1, scope =>
    if blkC c.N sc scope (ownOf c scope) = true then
      match compI c sc (compE c n sc) tg iter, compTg c (relS scope sc) (fun x => isLocal (relS scope sc) x || (isCell scope x && isCell (relS scope sc) x)) tg, compI c (relS scope sc) (compE c n (relS scope sc)) tg1 iter1,
        compTg c (relS scope sc) (fun x => isLocal (relS scope sc) x || (isCell scope x && isCell (relS scope sc) x)) tg1, compE c n (relS scope sc) elt with
      | some it, some (is, one), some it1, some (is1, one1), some ie =>
        if noSet iter = true ∧ noSet iter1 = true ∧ is.all (fun i => decide (i ∈ (ownOf c scope).map (·.2))) = true ∧ is1.all (fun i => decide (i ∈ (ownOf c scope).map (·.2))) = true ∧ ifs = [] then
          match ifs1 with
          | [] => some (.comp2 ie is one ((ownOf c scope).map (·.2)) it .yes is1 one1 it1 .yes)
          | [t] => (compT c n (relS scope sc) t).map fun t => .comp2 ie is one ((ownOf c scope).map (·.2)) it .yes is1 one1 it1 t
          | _ => none
        else none
      | _, _, _, _, _ => none
    else none
end
end DL
set_option maxRecDepth 100000
set_option maxHeartbeats 2000000
namespace DL
open PySem PySem.Spec PyProof.Rows L2
/-! ### sorted(list of data), l.index(x) -/
theorem toPs_map : ∀ ds : List D, toPs ds = ds.map toP
  | [] => rfl
  | d :: ds => by simp only [toPs, List.map_cons, toPs_map ds]
def RvD (K : PySem.W.Frag) (G : Hp) (v : Value) (d : D) : Prop := ∃ x, RelV x v ∧ Dv K G x d
theorem each_of_all {K : PySem.W.Frag} {G : Hp} : ∀ {xs : List V} {us : List Value} {ds : List D}, Vals xs us → DvAll K G xs ds → PySem.W.EachIs (RvD K G) us ds
  | _, _, _, .nil, .nil => .nil
  | _, _, _, .cons r rr, .cons h t => .cons ⟨_, r, h⟩ (each_of_all rr t)
theorem all_of_each {K : PySem.W.Frag} {G : Hp} : ∀ {us : List Value} {ds : List D}, PySem.W.EachIs (RvD K G) us ds → ∃ xs, Vals xs us ∧ DvAll K G xs ds
  | _, _, .nil => ⟨[], .nil, .nil⟩
  | _, _, .cons ⟨x, r, h⟩ t => let ⟨xs, a, b⟩ := all_of_each t; ⟨x :: xs, .cons r a, .cons h b⟩
section
variable {Φ : Fns} {γ : List D} {X : Cx} {W : WX}
theorem each_reads {G H : Hp} {pins : List (Addr × Obj)} {σ : L2.St} {s : Shared} (I : Inv X pins σ H s) (o : Sub G H) : ∀ {xs : List V} {us : List Value} {ds : List D}, Vals xs us → DvAll X.K G xs ds → isPs ds = true → PyData.canLayAll0 (toPs ds) = true → PySem.W.EachIs (fun v d => ∃ as, Reads s.heap v (toP d) as) us ds
  | _, _, _, .nil, .nil, _, _ => .nil
  | _, _, _, .cons r rr, .cons h t, p, c => by
    unfold isPs at p
    simp only [Bool.and_eq_true] at p
    unfold toPs at c
    simp only [PyData.canLayAll0, Bool.and_eq_true] at c
    exact .cons (Dp.reads I _ _ _ (h.dp o p.1 c.1) r) (each_reads I o rr t p.2 c.2)
def rSortD (K : PySem.W.Frag) : List V → Hp → VK → Prop := fun xs H Q => ∃ (G : Hp) (a : Addr) (vs : List V) (ds : List D), xs = [.ref a] ∧ Sub G H ∧ SqL K H a vs ∧ DvAll K G vs ds ∧ SortOk ds ∧ ∀ p ws, H p = none → DvAll K G ws (sortP ds) → Q (.ref p) (upd H p (.lst ws))
theorem call_sortD (hu : X.A.units + 64 < cLine) : CallR X (.builtin "sorted") (rSortD X.K) := by
  intro pins s σ H xs us Q I r h
  obtain ⟨G, a, vs, ds, rfl, sg, hs, da, so, q⟩ := h
  obtain ⟨its, rv, pl, hz⟩ := I.list hs
  rw [Vals.ref1 r]
  have ea := so.a
  have ek := so.k
  rw [toPs_map] at ea ek
  refine PySem.W.sorted_data (enc := toP) (R := RvD X.K G) (bs := ds) pl.isList (by simpa using each_of_all rv da) (by simpa using each_reads I sg rv da so.p so.c) ea ek so.l (fun b hb => by have := so.d b hb; omega) fun out ho eo => ?_
  obtain ⟨ws, rw, dw⟩ := all_of_each eo
  obtain ⟨c, hc⟩ := sortedAll_at s.heap its out.toArray
  have hnp : H (s.heap.objs.size + 1) = none := I.hok.fresh (Nat.le_succ _)
  have hlen : ws.length ≤ sizeLine := by rw [rw.length, ho]; exact so.l
  have J : Inv X pins σ (upd H (s.heap.objs.size + 1) (.lst ws)) { s with heap := sortedAll s.heap its out.toArray } :=
    I.call (ch := []) (Un.laid (fun b o => sortedAll_old) (Nat.le_succ _) hnp) (I.hok.laid (fun b o => sortedAll_old) (Nat.le_succ _) ⟨hlen, out, c, rw, hc⟩) I.bare (fun _ z => nomatch z)
  exact ⟨.ref (s.heap.objs.size + 1), _, J, rfl, q _ ws hnp dw⟩
theorem se_sortd {a : Expr} {ia : E} {p pos : Pos} (hu : X.A.units + 64 < cLine) (hg : Gl X "sorted") (hm : X.mg "sorted" = none) (ha : SE Φ γ X W a ia) (hs : starEach [a] X.env = [(false, eval a X.env)]) : SE Φ γ X W (.Call (.Name "sorted" p) [a] [] pos) (.sortd ia) := by
  obtain ⟨ta, pa, ra⟩ := ha
  refine ⟨_, pe_callB (call_sortD hu) hg hm boot_sorted (pa_cons pa pa_nil hs) (by decide) (by decide) hs, fun σ δ G M H Q Qd Zd ok er hq hz h => ?_⟩
  unfold evalE at h
  show ta σ H _
  refine run_e ra ok er hz h fun r M1 v G1 H1 q s1 dv => ?_
  obtain ⟨xs, e, so, q⟩ := q
  have vw := dv.vw s1.ok
  rw [e] at vw
  cases vw with
  | lst h1 t => exact ⟨G1, _, _, _, rfl, s1.ok.sub, SqL.of h1, t, so, fun p ws hp dw => ans_new (hq _ _ q) s1 hp dw⟩
theorem ix_of {K : PySem.W.Frag} {G : Hp} {xs : List V} {ds : List D} {y : V} {dy : D} {k : Nat} (t : DvAll K G xs ds) (hf : ds.all flatD = true) (hy : flatD dy = true) (h : Dv K G y dy) (e : ds.findIdx? (fun z => PyData.eqv (toP z) (toP dy)) = some k) :
    ∃ z, xs[k]? = some z ∧ eqV z y = true ∧ ∀ (m : Nat) (z' : V), m < k → xs[m]? = some z' → eqV z' y = false := by
  obtain ⟨hk, h1, h2⟩ := List.findIdx?_eq_some_iff_getElem.mp e
  have fl : ∀ {d : D}, d ∈ ds → flatD d = true := fun hd => List.all_eq_true.mp hf _ hd
  obtain ⟨z, z1, z2⟩ := t.get (List.getElem?_eq_getElem hk)
  refine ⟨z, z1, by rw [eqv_flat z2 h (fl (List.getElem_mem hk)) hy]; exact h1, fun m z' hm e' => ?_⟩
  obtain ⟨d', e3, e4⟩ := t.get' e'
  obtain ⟨hm', e5⟩ := List.getElem?_eq_some_iff.mp e3
  have := h2 m hm
  rw [eqv_flat e4 h (fl (by rw [← e5]; exact List.getElem_mem hm')) hy]
  rw [e5] at this
  simpa using this
theorem at_all {K : PySem.W.Frag} {G : Hp} : ∀ {xs : List V} {ds : List D} {m : Nat} {z : V}, DvAll K G xs ds → xs[m]? = some z → ∃ d, ds[m]? = some d ∧ Dv K G z d := fun t e => t.get' e
theorem se_ixof {o a : Expr} {io ia : E} {apos pos : Pos} (ho : SE Φ γ X W o io) (ha : SE Φ γ X W a ia) (hs : starEach [a] X.env = [(false, eval a X.env)]) (hbase : attributeBase o "index" X.env (eval o X.env) = eval o X.env) (hline : (apos.endLine == pos.line) = true) : SE Φ γ X W (.Call (.Attribute o "index" apos) [a] [] pos) (.ixof io ia) := by
  obtain ⟨ta, pa, ra⟩ := ho
  obtain ⟨tb, pb, rb⟩ := ha
  refine ⟨_, pe_bm PySem.F.plainAttrs_list PySem.F.slot_list_index PySem.F.type_list_index mt_index pa (pa_cons pb pa_nil hs) hbase (by rw [hs]; rfl) hline hs rfl, fun σ δ G M H Q Qd Zd ok er hq hz h => ?_⟩
  unfold evalE at h
  show ta σ H _
  refine run_e ra ok er hz h fun r M1 v G1 H1 q s1 dv => ?_
  obtain ⟨⟨xs0, e0⟩, q⟩ := q
  have vw0 := dv.vw s1.ok
  rw [e0] at vw0
  have lq : tyV X.K "list" v H1 := by
    cases vw0 with
    | lst h1 t => exact .inl ⟨rfl, _, SqL.of h1⟩
  refine ⟨lq, ?_⟩
  show tb σ H1 _
  refine run_e rb s1.ok (er.mono s1.sub) (px_after s1 hz) q fun r2 M2 v2 G2 H2 q2 s2 dv2 => ?_
  obtain ⟨xs, k, e1, e2, q⟩ := q2
  have vw := (dv.mono s2.sub).vw s2.ok
  rw [e1] at vw
  unfold ixofD at e2
  split at e2
  · rename_i hf
    cases vw with
    | lst h1 t =>
      obtain ⟨z, z1, z2, z3⟩ := ix_of t hf.2 hf.1 dv2 e2
      have fl := (any_flat dv2 hf.1 t hf.2).1
      exact ⟨_, _, v2, k, z, rfl, rfl, SqL.of h1, dv2.flat hf.1, fl, z1, z2, z3, hq _ _ q _ G2 H2 (s1.trans s2) (.int _)⟩
  · cases e2
end
end DL
set_option maxRecDepth 100000
set_option maxHeartbeats 2000000
namespace DL
open PySem L2 PyProof.Rows
/-! ### errors: raised, caught -/
/-- what an error's own __init__ does: self.f = y -/
def spInit (K : PySem.W.Frag) (f : Str) : Sp := fun vs H Q _ => ∃ (a C : Addr) (y : V), vs = [.ref a, y] ∧ OexC K C ∧ PySem.W.findIn K (.ref C) f = some none ∧ H a = some (exo a C none) ∧
  ∀ dx, H dx = none → dx ≠ a → Q .non (upd (upd H dx (exd dx [(f, y)])) a (exo a C (some dx)))
section
variable {X : Cx} {W : WX}
theorem pmk_oexG {x : Str} {C fI : Addr} {k : Nat} {fd : FuncData} {ps : List Str} {sp : Sp} {ds : List Value} {dvs : List V} {e : Expr} {ta : TA} {p pos : Pos} (T : OexC X.K C) (iC : PySem.W.findIn X.K (.ref C) "__init__" = some (some (.ref fI))) (tI : PySem.W.typeIn X.K (.ref fI) = some (.type "function"))
    (F1 : FnG X.prog X.w X.K X.mg X.base k fI fd ps sp) (hr : Rm (k + 1) X.A) (hb : Binds X.K fd ps ds) (hd : Vals dvs ds) (hg : Gl X x) (hm : X.mg x = some (.ref C)) (ha : PA X [e] ta)
    (hdb : (x == ("__debug__" : Str)) = false) (he : starEach [e] X.env = (false, eval e X.env) :: starEach [] X.env) (hpl : (backTo pos (starEach [] X.env)).any (·.1) = false) :
    PMk X (.Call (.Name x p) [e] [] pos) (tMkO C sp dvs ta) := by
  intro pins s σ H Q I h
  obtain ⟨nm, q, N, bs, bm, sn, sub, ab, col, dd, k0, k1, k2, k3, k5, hC, hbm⟩ := T.cls
  refine wpAny_Call_Name_kw (ld_glob I hg hm ?_ hdb)
  refine PySem.W.callWith_K (h₀ := X.base) I.ok.mod.kin T.kC (thn (ha.run pos pins s σ H _ I h) fun us s1 ⟨vs, H1, I1, r1, hz, q1⟩ => ⟨I1.kIn, ?_⟩) he hpl
  show wpAny _ _ (call (.ref C) us) _ _ _
  obtain ⟨hp, g, dr, tk, os⟩ := s1
  have hsz : hp.objs.size ≤ hp.objs.size + 1 := Nat.le_succ _
  have hn : H1 (hp.objs.size + 1) = none := I1.hok.fresh hsz
  have hq := q1 (hp.objs.size + 1) hn
  have kk : ∀ b o, hp.get? b = some o → ((hp.push (PySem.W.kdv_tup us)).push (PySem.HandSPX.excO C hp.objs.size)).get? b = some o := fun b o e => Heap.get?_push_of_some _ (Heap.get?_push_of_some _ e)
  have hget : ((hp.push (PySem.W.kdv_tup us)).push (PySem.HandSPX.excO C hp.objs.size)).get? (hp.objs.size + 1) = some (PySem.HandSPX.excO C hp.objs.size) := by heap_get
  have I2 : Inv X pins σ (upd H1 (hp.objs.size + 1) (exo (hp.objs.size + 1) C none)) ⟨(hp.push (PySem.W.kdv_tup us)).push (PySem.HandSPX.excO C hp.objs.size), g, dr, tk, os⟩ :=
    I1.laid (t' := tk) (a := hp.objs.size + 1) (o := exo (hp.objs.size + 1) C none) (h' := (hp.push (PySem.W.kdv_tup us)).push (PySem.HandSPX.excO C hp.objs.size)) kk hsz (exo_ok hget)
  have r2 : Vals (V.ref (hp.objs.size + 1) :: (vs ++ dvs)) (Value.ref (hp.objs.size + 1) :: (us ++ ds)) := .cons rfl (r1.append hd)
  have hl : (Value.ref (hp.objs.size + 1) :: us ++ ds).length = ps.length := by
    have e := r2.length
    rw [F1.len _ _ _ _ hq] at e
    exact e.symm
  have hus : us.length ≤ sizeLine := by
    rw [← Paired.length r1, sizeLine_eq]
    omega
  refine wpAny_call (PySem.HandSPX.call_own F.excBase_ValueError (fun Y => PySem.HandSPX.refsVE_contains Y bm hbm) (I1.kIn _ _ hC) (PySem.W.looks_findIn I1.kIn iC) (fun self => PySem.W.bind_fn I1.kIn self tI) hus
    (codeAny_mono (F1.run _ X.stack _ _ ⟨Value.ref (hp.objs.size + 1) :: us, []⟩ (Value.ref (hp.objs.size + 1) :: (us ++ ds)) _ _ (fun _ _ _ => False) (hr.make C us []) (I2.env0.make C us []) (hb _ (Value.ref (hp.objs.size + 1) :: us) I2.kIn hl) r2 hq) fun r s' hq' => ?_))
  cases r with
  | error er =>
    obtain ⟨a, B, H', cls, d, rfl, fl, hok, ub, na, os, ag, hE⟩ := hq'
    exact hE.elim
  | ok fl =>
    cases fl with
    | ret u =>
      obtain ⟨v, H2, os2, bare2, un2, hok2, rv, ev, d, fs, ea, ed, hd1, q2⟩ := hq'
      subst ev
      obtain ⟨h2, g2, d2, t2, os'⟩ := s'
      exact ⟨rv, mk_end (raises_own T.exC T.tyC) I1 hsz kk un2 hok2 os2 bare2 ea ed hd1 q2⟩
    | next => exact False.elim hq'
    | brk => exact False.elim hq'
    | cont => exact False.elim hq'
end
/-- an error's class without an __init__ of its own -/
structure Ex0 (K : PySem.W.Frag) (C : Addr) : Prop where
  ex : PySem.W.excIn K C [.type "ValueError", .type "Exception", .type "BaseException", .type "object"] "ValueError.__new__" = true
  kC : PySem.W.keepIn K (.ref C) = true
  exC : PySem.W.subIn K (.ref C) (.type "BaseException") = some true
  tyC : PySem.W.typeIn K (.ref C) = some (.type "type")
def ex0B (K : PySem.W.Frag) (C : Addr) : Bool := PySem.W.excIn K C [.type "ValueError", .type "Exception", .type "BaseException", .type "object"] "ValueError.__new__" && (PySem.W.keepIn K (.ref C) && (decide (PySem.W.subIn K (.ref C) (.type "BaseException") = some true) && decide (PySem.W.typeIn K (.ref C) = some (.type "type"))))
theorem ex0B_ok {K : PySem.W.Frag} {C : Addr} (h : ex0B K C = true) : Ex0 K C := by
  unfold ex0B at h
  simp only [Bool.and_eq_true, decide_eq_true_eq] at h
  exact ⟨h.1, h.2.1, h.2.2.1, h.2.2.2⟩
theorem pmk_own0 {X : Cx} {x : Str} {C : Addr} {p pos : Pos} (T : Ex0 X.K C) (gC : X.mg x = some (.ref C)) (hg : Gl X x) (hdb : (x == ("__debug__" : Str)) = false) : PMk X (.Call (.Name x p) [] [] pos) (fun _ H Q => Q (.ref C) none H) := by
  intro pins s σ H Q I h
  refine wpAny_Call_Name_kw (ld_glob I hg gC ?_ hdb)
  refine PySem.W.callWith_K0 I.kIn T.kC ?_
  show wpAny _ _ (call (.ref C) []) _ _ _
  obtain ⟨bm, N, nm, qn, bs, hdct, sn, sub, ab, col, dd, k0, k1, k2, k3, k5, mN, hC, hN, hni, T'⟩ := exc_obj I.kIn T.ex
  refine wpAny_call_exc_subT F.excBase_ValueError T' hC hN hni (fun h' e hm => ?_) (by show 0 ≤ sizeLine; omega)
  exact mk_of I hm (raises_own T.exC T.tyC) h (I.hok.gone hm.new)
section
variable {Φ : Fns} {γ : List D} {X : Cx} {W : WX}
/-- raise C(), where C has no __init__ of its own -/
theorem ss_rse0 {C : Str} {cA : Addr} {p cpos pos : Pos} (hc : X.calm = true) (tk : Takes X W) (hn : PySem.W.nsIn X.K mainGlobals C = some (some (.ref cA))) (T : Ex0 X.K cA) (hg : Gl X C) (hm : X.mg C = some (.ref cA)) (hdb : (C == ("__debug__" : Str)) = false) :
    SS Φ γ X W (.Raise (some (.Call (.Name C p) [] [] cpos)) none pos) (.rse0 C) := by
  refine ⟨_, ps_raise hc tk (pmk_own0 T hm hg hdb), fun σ δ G M H N F ok er sim h => ?_⟩
  unfold execS at h
  exact sim.xc _ _ _ h (.ref cA) none σ G H (Step.refl ok) ⟨hn, rfl⟩ er
/-- raise C(e), where C's own __init__ is: self.f = e -/
theorem ss_rse {C f : Str} {cA fI : Addr} {k : Nat} {fd : FuncData} {ps : List Str} {e : Expr} {ie : E} {p cpos pos : Pos} (hc : X.calm = true) (tk : Takes X W) (hn : PySem.W.nsIn X.K mainGlobals C = some (some (.ref cA))) (T : OexC X.K cA)
    (hf : PySem.W.findIn X.K (.ref cA) f = some none) (iC : PySem.W.findIn X.K (.ref cA) "__init__" = some (some (.ref fI))) (tI : PySem.W.typeIn X.K (.ref fI) = some (.type "function"))
    (F1 : FnG X.prog X.w X.K X.mg X.base k fI fd ps (spInit X.K f)) (hr : Rm (k + 1) X.A) (hb : Binds X.K fd ps []) (hg : Gl X C) (hm : X.mg C = some (.ref cA)) (he : SE Φ γ X W e ie)
    (hdb : (C == ("__debug__" : Str)) = false) (hst : starEach [e] X.env = (false, eval e X.env) :: starEach [] X.env) (hpl : (backTo cpos (starEach [] X.env)).any (·.1) = false) :
    SS Φ γ X W (.Raise (some (.Call (.Name C p) [e] [] cpos)) none pos) (.rse C f ie) := by
  obtain ⟨te, pe, re⟩ := he
  refine ⟨_, ps_raise hc tk (pmk_oexG (dvs := []) T iC tI F1 hr hb .nil hg hm (pa_cons pe pa_nil hst) hdb hst hpl), fun σ δ G M H N F ok er sim h => ?_⟩
  unfold execS at h
  refine run_e re ok er (sim.pz er) h fun r M1 v G1 H1 q s1 dv => ?_
  refine ⟨by simp, fun a ha => ⟨a, cA, v, rfl, T, hf, upd_same, fun dx hd ne => ⟨rfl, dx, [(f, v)], upd_same, by rw [upd_ne ne, upd_same], ?_, ?_⟩⟩⟩
  · rwa [upd_ne ne] at hd
  · rw [upd_ne ne] at hd
    have eh : upd (del (upd (upd (upd H1 a (exo a cA none)) dx (exd dx [(f, v)])) a (exo a cA (some dx))) a) dx (.xd [(f, v)]) = upd H1 dx (.xd [(f, v)]) := by
      funext b
      by_cases hb : b = dx
      · rw [hb, upd_same, upd_same]
      · rw [upd_ne hb, upd_ne hb]
        by_cases hb2 : b = a
        · rw [hb2, del_same, ha]
        · rw [del_ne hb2, upd_ne hb2, upd_ne hb, upd_ne hb2]
    rw [eh]
    have s2 := s1.allocG (o := .xd [(f, v)]) hd
    exact sim.xc _ _ _ q (.ref cA) (some dx) σ _ _ s2 ⟨hn, dx, [v], rfl, upd_same, .cons (dv.mono (fun b o hb => by
      by_cases hbd : b = dx
      · subst hbd
        have := s1.ok.sub _ _ hb
        rw [hd] at this
        cases this
      · rw [upd_ne hbd]; exact hb)) .nil⟩ (er.mono s2.sub)
end
end DL
set_option maxRecDepth 100000
set_option maxHeartbeats 2000000
namespace DL
open PySem L2 PyProof.Rows
/-! ### try: body / except x as n: suite -/
theorem zip_self : ∀ fs : List (Str × D), fs = List.zip (fs.map (·.1)) (fs.map (·.2))
  | [] => rfl
  | p :: fs => by simp only [List.map_cons, List.zip_cons_cons]; rw [← zip_self fs]
section
variable {Φ : Fns} {γ : List D} {X : Cx} {W : WX}
theorem xrel_dv {K : PySem.W.Frag} {G : Hp} {x : Xn} {cv : Value} {dA : Option Addr} {a : Addr} (h : XRel K G x cv dA) : Dv K G (.ref a) (.exc a dA x.cls (x.fs.getD [])) ∧ dA.isSome = x.fs.isSome := by
  obtain ⟨C, fs⟩ := x
  obtain ⟨_, h⟩ := h
  cases fs with
  | none =>
    simp only at h
    subst h
    exact ⟨.excN, rfl⟩
  | some fs =>
    obtain ⟨d, vs, rfl, h1, h2⟩ := h
    have hl : (fs.map (·.1)).length = vs.length := by rw [List.length_map, h2.length, List.length_map]
    have e := zip_self fs
    have := Dv.exc (a := a) (C := C) h1 hl h2
    rw [← e] at this
    exact ⟨this, rfl⟩
theorem ss_try {b₀ : Stmt} {body suite : List Stmt} {x n : Str} {c : Value} {i : Nat} {np pos pos' : Pos} {ib isu : Ss} {t : List (Str × Bool)} (hs : X.stack = X.env :: X.outer) (hf : X.env.frame = some X.env.locals) (hN : X.N.Nodup) (hi : X.N[i]? = some n) (hln : X.env.kindOf n = some .local) (hc : Names X x c) (tk : Takes X W)
    (hb : ∀ (W' : WX) (pn : List (Addr × Obj)) (xe : Value → Shared → Prop), Takes (X.tr pn xe) W' → PassesOwn (model X.prog X.w) X.A X.env xe → SSs Φ γ (X.tr pn xe) W' body ib)
    (hsu : ∀ (a : Addr) (oe : Obj) (cls : Value) (d : Option Addr) (pn : List (Addr × Obj)) (C : Str) (fs : List (Str × D)), Zc cls d oe → (∃ vs, oe.data = .fields vs) → PySem.W.nsIn X.K mainGlobals C = some (some cls) → assoc t C = some true → SSs Φ [.exc a d C fs] (X.suite a ((a, oe) :: pn)) (fun _ _ _ _ => False) (b₀ :: suite) isu)
    (ht : ∀ (C : Str) (k : Bool) (cv : Value), assoc t C = some k → PySem.W.nsIn X.K mainGlobals C = some (some cv) → PySem.W.exmOne X.K cv c = some k) :
    SS Φ γ X W (.Try body [.ExceptHandler (some (.Name x np)) (some n) (b₀ :: suite) pos'] [] [] pos) (.try_ ib i t isu) := by
  let tb : WX → TS := fun W' N σ H => ∃ (δ : DEnv) (G : Hp) (M : MS) (F : DE), OkS X.K G M H ∧ ER X.K G σ δ ∧ Sim X.K W' G M H N F ∧ execSs Φ γ ib F δ M
  let ts : Addr → Value → Option Addr → TS := fun a cls d N σ H => ∃ (C : Str) (fs : List (Str × D)) (δ : DEnv) (G : Hp) (M : MS) (F : DE), PySem.W.nsIn X.K mainGlobals C = some (some cls) ∧ assoc t C = some true ∧ OkS X.K G M H ∧ ER X.K G σ δ ∧ Sim X.K (fun _ _ _ _ => False) G M H N F ∧ execSs Φ [.exc a d C fs] isu F δ M
  have hbP : ∀ (W' : WX) (pn : List (Addr × Obj)) (xe : Value → Shared → Prop), Takes (X.tr pn xe) W' → PassesOwn (model X.prog X.w) X.A X.env xe → PSs (X.tr pn xe) body (tb W') := fun W' pn xe h1 h2 => by
    obtain ⟨t', p, r⟩ := hb W' pn xe h1 h2
    refine ⟨fun pins s σ H N I h => p.run pins s σ H N I ?_⟩
    obtain ⟨δ, G, M, F, ok, er, sim, h⟩ := h
    exact r σ δ G M H N F ok er sim h
  have hsP : ∀ (a : Addr) (oe : Obj) (cls : Value) (d : Option Addr) (pn : List (Addr × Obj)), Zc cls d oe → (∃ vs, oe.data = .fields vs) → PSs (X.suite a ((a, oe) :: pn)) (b₀ :: suite) (ts a cls d) := fun a oe cls d pn z hd => by
    refine ⟨fun pins s σ H N I h => ?_⟩
    obtain ⟨C, fs, δ, G, M, F, h1, h2, ok, er, sim, h⟩ := h
    obtain ⟨t', p, r⟩ := hsu a oe cls d pn C fs z hd h1 h2
    exact p.run pins s σ H N I (r σ δ G M H N F ok er sim h)
  refine ⟨_, ps_try_as (tb := tb) (ts := ts) hs hf hN hi hln hc tk hbP hsP, fun σ δ G M H N F ok er sim h => ?_⟩
  unfold execS at h
  refine ⟨δ, G, M, _, ok, er, ?_, h⟩
  refine ⟨sim.nx, sim.rt, sim.bk, sim.ct, fun x δ' M' q cv dA σ' G' H' st xr er' => ?_⟩
  obtain ⟨k, hk, hy, hn⟩ := q
  refine ⟨k, ht x.cls k cv hk xr.1, fun ek a ha => ?_, fun ek => sim.xc x δ' M' (hn ek) cv dA σ' G' H' st xr er'⟩
  subst ek
  obtain ⟨dv, hse⟩ := xrel_dv (a := a) xr
  have sm := sim.after st
  refine ⟨x.cls, x.fs.getD [], _, G', M', _, xr.1, hk, st.ok, er'.set i dv, ?_, hy rfl a dA hse⟩
  refine ⟨fun δ2 M2 q σ2 G2 H2 s2 e2 => ?_, fun r M2 q v G2 H2 s2 rv => sm.rt r M2 q v G2 H2 s2 rv, fun δ2 M2 q σ2 G2 H2 s2 e2 => ?_, fun δ2 M2 q σ2 G2 H2 s2 e2 => ?_, fun _ _ _ q => q.elim⟩
  · exact sm.nx _ _ q _ _ _ s2 (e2.unset i)
  · exact sm.bk _ _ q _ _ _ s2 (e2.unset i)
  · exact sm.ct _ _ q _ _ _ s2 (e2.unset i)
end
end DL
set_option maxRecDepth 100000
set_option maxHeartbeats 2000000
namespace DL
open PySem L2 PyProof.Rows
/-! ### the caught error: its fields, its class -/
theorem lookup_of {K : PySem.W.Frag} {G : Hp} {f : Str} {d : D} : ∀ {ks : List Str} {vs : List V} {ds : List D}, ks.length = vs.length → DvAll K G vs ds → assoc (List.zip ks ds) f = some d → ∃ v, (List.zip ks vs).lookup f = some v ∧ Dv K G v d
  | [], vs, ds, _, _, h => by simp [assoc] at h
  | k :: ks, [], ds, l, _, _ => by simp at l
  | k :: ks, v :: vs, _, l, .cons (ds := ds) (d := d') h1 t, h => by
    simp only [List.zip_cons_cons, assoc] at h
    simp only [List.zip_cons_cons, List.lookup]
    by_cases e : k = f
    · rw [if_pos e] at h
      cases h
      rw [show (f == k) = true from by rw [e]; simp]
      exact ⟨v, rfl, h1⟩
    · rw [if_neg e] at h
      rw [show (f == k) = false from by simpa using fun z => e z.symm]
      exact lookup_of (by simpa using l) t h
section
variable {Φ : Fns} {X : Cx} {W : WX} {a : Addr} {oe : Obj} {cls : Value} {d : Option Addr} {C : Str} {fs : List (Str × D)}
/-- err.f, where the error stands among the pinned objects -/
theorem pe_xfG {cA : Addr} {e : Expr} {te : TE} {pos : Pos} {n : Str} (hp : (a, oe) ∈ X.pn) (T : XfC X.K cA) (hno : PySem.W.findIn X.K (.ref cA) n = some none)
    (hz : Zc cls d oe) (hf : ∃ vs, oe.data = .fields vs) (he : PE X e te) (hb : attributeBase e n X.env (eval e X.env) = eval e X.env) :
    PE X (.Attribute e n pos) (tXf a cls d cA n te) := by
  refine ⟨fun pins s σ H Q I h => ?_⟩
  refine attr_of hb (thn (he.run pins s σ H _ I h) fun u s1 hh => ?_)
  obtain ⟨x, H1, I1, rx, ex, ec, dd, fs, v, ed, ea, l, q⟩ := hh
  subst ex
  obtain rfl : u = Value.ref a := rx
  subst ec
  subst ed
  obtain ⟨ha, _⟩ := I1.pin (a, oe) (List.mem_append_left _ hp)
  obtain ⟨vs, hd⟩ := hf
  have hx : ObjOk X.prog X.w H1 s1.heap dd (.xd fs) := I1.hok dd _ ea
  obtain ⟨mA, hns, hr⟩ := hx
  obtain ⟨od, ho, hl⟩ := lookIn_ns hns
  obtain ⟨u, hu, ru⟩ := RelO.some_of (v := v) (o := mA n) (by rw [← l]; exact hr n)
  have J : PySem.W.InstAt s1.heap a oe cA (some od) := ⟨ha, hz.1, by unfold PySem.W.notCls; rw [hd] <;> rfl, by rw [hz.2]; exact ho⟩
  exact HandSPX.exc_get I1.kIn J T.ga T.gg T.exC (PySem.W.findObj_own T.hdC hno rfl (by rw [hl, hu])) (handed_of ru) ⟨v, H1, I1.tok _, ru, q⟩
theorem se_xf {cA : Addr} {e : Expr} {ie : E} {f : Str} {pos : Pos} (hp : (a, oe) ∈ X.pn) (hcl : cls = .ref cA) (T : XfC X.K cA) (hno : PySem.W.findIn X.K (.ref cA) f = some none) (hz : Zc cls d oe) (hf : ∃ vs, oe.data = .fields vs)
    (he : SE Φ [.exc a d C fs] X W e ie) (hb : attributeBase e f X.env (eval e X.env) = eval e X.env) : SE Φ [.exc a d C fs] X W (.Attribute e f pos) (.xf ie f) := by
  obtain ⟨te, pe, re⟩ := he
  refine ⟨_, pe_xfG hp T hno hz hf pe hb, fun σ δ G M H Q Qd Zd ok er hq hzz h => ?_⟩
  unfold evalE at h
  show te σ H _
  refine run_e re ok er hzz h fun r M1 v G1 H1 q s1 dv => ?_
  obtain ⟨p, dd, C', fs', d', e1, e2, e3, q⟩ := q
  simp only [List.getElem?_cons_zero, Option.some.injEq, D.exc.injEq] at e2
  obtain ⟨rfl, rfl, rfl, rfl⟩ := e2
  rw [e1] at dv
  generalize hfs : fs = fs2 at dv e3
  cases dv with
  | exc g l t =>
    obtain ⟨v', h1, h2⟩ := lookup_of l t e3
    exact ⟨rfl, hcl, _, _, v', rfl, s1.ok.sub _ _ g, h1, hq _ _ q _ G1 H1 s1 h2⟩
  | excN => simp [assoc] at e3
def rIsX (K : PySem.W.Frag) (cls : Value) (d : Option Addr) (a : Addr) : List V → Hp → VK → Prop := fun xs H Q => ∃ (c : V) (cv : Value) (b : Bool) (cA : Addr), xs = [.ref a, c] ∧ (∀ u, RelV c u → u = cv) ∧ cls = .ref cA ∧ ExcC K cA ∧ PySem.W.kitOne K (.ref cA) cv = some b ∧ (∀ dd, d = some dd → ∃ fs, H dd = some (.xd fs)) ∧ Q (.bl b) H
theorem inst_of {pins : List (Addr × Obj)} {σ : L2.St} {H : Hp} {s : Shared} {cA : Addr} (hp : (a, oe) ∈ X.pn) (hz : Zc cls d oe) (hf : ∃ vs, oe.data = .fields vs) (hcl : cls = .ref cA) (I : Inv X pins σ H s) (hd : ∀ dd, d = some dd → ∃ fs, H dd = some (.xd fs)) : ∃ od, PySem.W.InstAt s.heap a oe cA od := by
  obtain ⟨hget, _⟩ := I.pin (a, oe) (List.mem_append_left _ hp)
  obtain ⟨vs, hv⟩ := hf
  cases d with
  | none =>
    refine ⟨none, hget, by rw [hz.1, hcl], by unfold PySem.W.notCls; rw [hv] <;> rfl, ?_⟩
    rw [hz.2]
    trivial
  | some dd =>
    obtain ⟨fs, ef⟩ := hd dd rfl
    obtain ⟨mA, hns, hr⟩ := (show ObjOk X.prog X.w H s.heap dd (.xd fs) from I.hok dd _ ef)
    obtain ⟨od, ho, hl⟩ := lookIn_ns hns
    exact ⟨some od, hget, by rw [hz.1, hcl], by unfold PySem.W.notCls; rw [hv] <;> rfl, by rw [hz.2]; exact ho⟩
theorem call_isX (hp : (a, oe) ∈ X.pn) (hz : Zc cls d oe) (hf : ∃ vs, oe.data = .fields vs) : CallR X (.builtin "isinstance") (rIsX X.K cls d a) := by
  intro pins s σ H xs us Q I r h
  obtain ⟨c, cv, b, cA, rfl, hcv, hcl, E, e, hd, q⟩ := h
  cases r with
  | cons rx rr =>
    cases rr with
    | cons rt rr =>
      cases rr
      cases rx
      have ec := hcv _ rt
      subst ec
      have hcm : (PySem.W.clsIn X.K cA).isSome = true := by
        obtain ⟨cd, hc, _⟩ := PySem.W.any_some E.hd
        rw [hc]; rfl
      obtain ⟨od, J⟩ := inst_of hp hz hf hcl I hd
      exact PySem.W.kia_one (PySem.W.kitx_exc hcm E.hg E.hk E.hs E.ha E.hn E.ht E.hm) I.kIn J e (fun z => nomatch z) fun tk => ⟨.bl b, H, I.kept (t' := tk) fun _ _ z => z, rfl, q⟩
theorem se_isE {cA : Addr} {e : Expr} {ie : E} {D0 : Str} {dA : Addr} {p p2 pos : Pos} {t : List (Str × Bool)} (hp : (a, oe) ∈ X.pn) (hgi : Gl X "isinstance") (hmi : X.mg "isinstance" = none) (hg : Gl X D0) (hm : X.mg D0 = some (.ref dA)) (hdb : (D0 == ("__debug__" : Str)) = false)
    (hcl : cls = .ref cA) (E : ExcC X.K cA) (hz : Zc cls d oe) (hf : ∃ vs, oe.data = .fields vs) (he : SE Φ [.exc a d C fs] X W e ie)
    (hst : starEach [e, .Name D0 p2] X.env = (false, eval e X.env) :: starEach [.Name D0 p2] X.env) (ht : ∀ b, assoc t C = some b → PySem.W.kitOne X.K (.ref cA) (.ref dA) = some b) :
    SE Φ [.exc a d C fs] X W (.Call (.Name "isinstance" p) [e, .Name D0 p2] [] pos) (.isE ie t) := by
  obtain ⟨ta, pa, ra⟩ := he
  refine ⟨_, pe_callB (call_isX hp hz hf) hgi hmi isi_boot (pa_cons pa (pa_cons (pe_glob hg hm (v := .ref dA) rfl hdb) pa_nil) hst) (by decide) (by decide) hst, fun σ δ G M H Q Qd Zd ok er hq hzz h => ?_⟩
  unfold evalE at h
  show ta σ H _
  refine run_e ra ok er hzz h fun r M1 v G1 H1 q s1 dv => ?_
  obtain ⟨p', dd, C', fs', b, e1, e2, e3, q⟩ := q
  simp only [List.getElem?_cons_zero, Option.some.injEq, D.exc.injEq] at e2
  obtain ⟨rfl, rfl, rfl, rfl⟩ := e2
  rw [e1] at dv
  generalize hfs : fs = fs2 at dv
  cases dv with
  | exc g l t' => exact ⟨.ref dA, .ref dA, b, cA, rfl, fun u hu => hu, hcl, E, ht b e3, fun dd hd => (by cases hd; exact ⟨_, s1.ok.sub _ _ g⟩), hq _ _ q _ G1 H1 s1 (.bl b)⟩
  | excN => exact ⟨.ref dA, .ref dA, b, cA, rfl, fun u hu => hu, hcl, E, ht b e3, fun dd hd => (by cases hd), hq _ _ q _ G1 H1 s1 (.bl b)⟩
end
/-- built-in classes of errors that are asked for -/
def bexc : List (Str × String) := [("ValueError", "ValueError"), ("LookupError", "LookupError")]
theorem bexc_boot : ∀ q ∈ bexc, bootBuiltins q.1 = some (.type q.2) ∧ q.1 ≠ "__name__" ∧ (q.1 == ("__debug__" : Str)) = false := by decide +kernel
section
variable {Φ : Fns} {X : Cx} {W : WX} {a : Addr} {oe : Obj} {cls : Value} {d : Option Addr} {C : Str} {fs : List (Str × D)}
theorem se_isEB {cA : Addr} {e : Expr} {ie : E} {D0 : Str} {T : String} {p p2 pos : Pos} {t : List (Str × Bool)} (hp : (a, oe) ∈ X.pn) (hgi : Gl X "isinstance") (hmi : X.mg "isinstance" = none) (hT : (D0, T) ∈ bexc) (hg : Gl X D0) (hm : X.mg D0 = none)
    (hcl : cls = .ref cA) (E : ExcC X.K cA) (hz : Zc cls d oe) (hf : ∃ vs, oe.data = .fields vs) (he : SE Φ [.exc a d C fs] X W e ie)
    (hst : starEach [e, .Name D0 p2] X.env = (false, eval e X.env) :: starEach [.Name D0 p2] X.env) (ht : ∀ b, assoc t C = some b → PySem.W.kitOne X.K (.ref cA) (.type T) = some b) :
    SE Φ [.exc a d C fs] X W (.Call (.Name "isinstance" p) [e, .Name D0 p2] [] pos) (.isE ie t) := by
  obtain ⟨ta, pa, ra⟩ := he
  obtain ⟨b1, b2, b3⟩ := bexc_boot _ hT
  refine ⟨_, pe_callB (call_isX hp hz hf) hgi hmi isi_boot (pa_cons pa (pa_cons (pe_bltn hg hm b1 (v := .ty T) rfl b2 b3) pa_nil) hst) (by decide) (by decide) hst, fun σ δ G M H Q Qd Zd ok er hq hzz h => ?_⟩
  unfold evalE at h
  show ta σ H _
  refine run_e ra ok er hzz h fun r M1 v G1 H1 q s1 dv => ?_
  obtain ⟨p', dd, C', fs', b, e1, e2, e3, q⟩ := q
  simp only [List.getElem?_cons_zero, Option.some.injEq, D.exc.injEq] at e2
  obtain ⟨rfl, rfl, rfl, rfl⟩ := e2
  rw [e1] at dv
  generalize hfs : fs = fs2 at dv
  cases dv with
  | exc g l t' => exact ⟨.ty T, .type T, b, cA, rfl, fun u hu => hu, hcl, E, ht b e3, fun dd hd => (by cases hd; exact ⟨_, s1.ok.sub _ _ g⟩), hq _ _ q _ G1 H1 s1 (.bl b)⟩
  | excN => exact ⟨.ty T, .type T, b, cA, rfl, fun u hu => hu, hcl, E, ht b e3, fun dd hd => (by cases hd), hq _ _ q _ G1 H1 s1 (.bl b)⟩
end
/-- what is known of the errors' classes: what they stand below, which names are no attributes of theirs -/
def XsK (K : PySem.W.Frag) (su : List (Str × List Str)) (fl c0 : List Str) : Prop := ∀ (C : Str) (as : List Str), assoc su C = some as → ∃ cA, PySem.W.nsIn K mainGlobals C = some (some (.ref cA)) ∧ XfC K cA ∧ ExcC K cA ∧ (∀ f, f ∈ fl → PySem.W.findIn K (.ref cA) f = some none) ∧
  (∀ (D0 : Str) (as' : List Str), assoc su D0 = some as' → ∃ dA, PySem.W.nsIn K mainGlobals D0 = some (some (.ref dA)) ∧ PySem.W.kitOne K (.ref cA) (.ref dA) = some (decide (D0 ∈ as)) ∧ PySem.W.exmOne K (.ref cA) (.ref dA) = some (decide (D0 ∈ as))) ∧
  (∀ q ∈ bexc, PySem.W.kitOne K (.ref cA) (.type q.2) = some (decide (q.1 ∈ as))) ∧ (C ∈ c0 → Ex0 K cA)
/-- an error's class, with its own __init__: self.f = y -/
def XcK (P : Program) (w : World) (K : PySem.W.Frag) (mg : Str → Option Value) (base : Heap) (k : Nat) (C f : Str) : Prop := ∃ (cA fI : Addr) (fd : FuncData) (ps : List Str), PySem.W.nsIn K mainGlobals C = some (some (.ref cA)) ∧ OexC K cA ∧ PySem.W.findIn K (.ref cA) f = some none ∧
  PySem.W.findIn K (.ref cA) "__init__" = some (some (.ref fI)) ∧ PySem.W.typeIn K (.ref fI) = some (.type "function") ∧ FnG P w K mg base k fI fd ps (spInit K f) ∧ Binds K fd ps []
end DL
set_option maxRecDepth 100000
set_option maxHeartbeats 2000000
namespace DL
open PySem L2 PyProof.Rows
/-! ### defs called where an error is held -/
structure RmH (k : Nat) (A : Around) : Prop where
  room : L2H.RoomH k A
  gd : A.guards = some []
theorem RmH.mono {j k : Nat} {A : Around} (r : RmH k A) (h : j ≤ k) : RmH j A := ⟨r.room.mono h, r.gd⟩
theorem RmH.deeper {k : Nat} {A : Around} (r : RmH (k + 1) A) (env : Env) : RmH k (A.deeper env) := ⟨r.room.deeper env, r.gd⟩
theorem Rm.hot {k : Nat} {A : Around} (r : Rm k A) (v : Option Value) : RmH k (A.mark v) := ⟨⟨r.room.dp, r.room.un⟩, r.gd⟩
/-- p's object is the error that is held -/
def Hot0 (A : Around) (p : Addr × Obj) : Prop := A.handled = some (.ref p.1) ∧ ∃ vs : Array Value, p.2.data = .fields vs
abbrev SpH := Addr × Obj → Sp
structure FnHG (P : Program) (w : World) (K : PySem.W.Frag) (mg : Str → Option Value) (base : Heap) (k : Nat) (f : Addr) (fd : FuncData) (ps : List Str) (sp : SpH) : Prop where
  len : ∀ p vs H Q E, sp p vs H Q E → vs.length = ps.length
  run : ∀ (A : Around) (outer : List Env) (s : Shared) (H : Hp) (args : Args) (us : List Value) (vs : List V) (Q : VK) (E : XK) (p : Addr × Obj), RmH k A → Hot0 A p → L2H.PinOk outer H s p → Env0 P w K mg base A outer s H → BindsTo s fd args (ps.zip us) → Vals vs us → sp p vs H Q E →
    codeAny (model P w) A (.call (.ref f) args) (CR (L2.CX P w) outer P w H s Q E) s
theorem FnHG.mono {P : Program} {w : World} {K : PySem.W.Frag} {mg : Str → Option Value} {base : Heap} {j k : Nat} {f : Addr} {fd : FuncData} {ps : List Str} {sp : SpH} (F : FnHG P w K mg base j f fd ps sp) (h : j ≤ k) : FnHG P w K mg base k f fd ps sp :=
  ⟨F.len, fun A outer s H args us vs Q E p hr => F.run A outer s H args us vs Q E p (hr.mono h)⟩
theorem FnHG.never {P : Program} {w : World} {K : PySem.W.Frag} {mg : Str → Option Value} {base : Heap} {k : Nat} {f : Addr} {fd : FuncData} {ps : List Str} {sp : SpH} (h : ∀ p vs H Q E, ¬ sp p vs H Q E) : FnHG P w K mg base k f fd ps sp :=
  ⟨fun p vs H Q E z => (h p vs H Q E z).elim, fun _ _ _ H _ _ vs Q E p _ _ _ _ _ _ z => (h p vs H Q E z).elim⟩
section
variable {X : Cx} {W : WX} {k : Nat} {f : Addr} {fd : FuncData} {ps : List Str} {sp : SpH} {p : Addr × Obj}
theorem run_h {pins : List (Addr × Obj)} {σ : L2.St} {H : Hp} {s : Shared} {Q : VK} {us : List Value} {vs : List V} (F : FnHG X.prog X.w X.K X.mg X.base k f fd ps sp) (hr : RmH k X.A) (hot : Hot0 X.A p) (hp : p ∈ X.pn) (hb : Binds X.K fd ps []) (tk : Takes X W)
    (I : Inv X pins σ H s) (r : Vals vs us) (h : sp p vs H Q fun cls d H' => W cls d σ H') : wpAny (model X.prog X.w) X.A (call (.ref f) us) (EP X pins σ Q) X.xe s := by
  have hl : us.length = ps.length := by rw [← r.length]; exact F.len _ _ _ _ _ h
  have b := hb s us I.kIn (by rw [List.append_nil]; exact hl)
  rw [List.append_nil] at b
  have P1 := I.pin p (List.mem_append_left _ hp)
  have hpin : L2H.PinOk X.stack H s p := ⟨P1.1, P1.2.1, fun hm => (List.mem_cons.mp (I.stkSub p.1 hm)).elim P1.2.2.1 P1.2.2.2.1, P1.2.2.2.2⟩
  refine wpAny_call (codeAny_mono (F.run X.A X.stack s H ⟨us, []⟩ us vs Q _ p hr hot hpin I.env0 b r h) fun res s' hq => ?_)
  match res, hq with
  | .error e, hq => exact tk e s' (XE.of_call I (fun _ _ _ z => z) hq)
  | .ok (.ret u), hq => exact I.after hq
  | .ok .next, hq => exact hq.elim
  | .ok .brk, hq => exact hq.elim
  | .ok .cont, hq => exact hq.elim
def tCallH (sp : Sp) (W : WX) (t : TA) : TE := fun σ H Q => t σ H fun vs H1 => sp vs H1 Q fun cls d H' => W cls d σ H'
theorem pe_callHG {x : Str} {q pos : Pos} {e : Expr} {es : List Expr} {t : TA} (F : FnHG X.prog X.w X.K X.mg X.base k f fd ps sp) (hr : RmH k X.A) (hot : Hot0 X.A p) (hp : p ∈ X.pn) (hb : Binds X.K fd ps []) (tk : Takes X W)
    (hg : Gl X x) (hm : X.mg x = some (.ref f)) (hk : PySem.W.keepIn X.K (.ref f) = true) (ha : PA X (e :: es) t) (hdb : (x == ("__debug__" : Str)) = false)
    (hst : starEach (e :: es) X.env = (false, eval e X.env) :: starEach es X.env) (hpl : (backTo pos (starEach es X.env)).any (·.1) = false) : PE X (.Call (.Name x q) (e :: es) [] pos) (tCallH (sp p) W t) := by
  refine ⟨fun pins s σ H Q I h => wpAny_Call_Name_kw (ld_glob I hg hm ?_ hdb)⟩
  have go := ha.run pos pins s σ H _ I h
  refine PySem.W.callWith_K (h₀ := X.base) I.ok.mod.kin hk (thn go ?_) hst hpl
  rintro us s1 ⟨vs, H1, I1, r, q⟩
  exact ⟨I1.kIn, run_h F hr hot hp hb tk I1 r q⟩
end
/-- the promise «it does what φ tells», of a def that is handed the error that is held -/
def spDp (K : PySem.W.Frag) (su : List (Str × List Str)) (φ : List D → MS → KR → KX → Prop) : SpH := fun p vs H Q E => ∃ (G : Hp) (M : MS) (ds : List D) (Qd : KR) (Zd : KX) (C : Str) (fs : List (Str × D)), OkS K G M H ∧ DvAll K G vs ds ∧
  (∀ r M', Qd r M' → PostV K G M H Q r M') ∧ (∀ x M', Zd x M' → PostXF K G M H E x M') ∧ excOf ds = [.exc p.1 p.2.dict C fs] ∧ PySem.W.nsIn K mainGlobals C = some (some p.2.cls) ∧ (assoc su C).isSome = true ∧ φ ds M Qd Zd
section
variable {Φ : Fns} {X : Cx} {W : WX} {a : Addr} {oe : Obj} {cls : Value} {d : Option Addr} {C : Str} {fs : List (Str × D)} {su : List (Str × List Str)}
/-- f(.., e, ..) in a suite: the error must be handed in -/
theorem se_hcall {i k : Nat} {f : Addr} {fd : FuncData} {ps : List Str} {x : Str} {q pos : Pos} {e : Expr} {es : List Expr} {ies : Es} (F : FnHG X.prog X.w X.K X.mg X.base k f fd ps (spDp X.K su (Φ i))) (hr : RmH k X.A) (hot : Hot0 X.A (a, oe)) (hp : (a, oe) ∈ X.pn) (hz : Zc cls d oe) (hn : PySem.W.nsIn X.K mainGlobals C = some (some cls)) (hs : (assoc su C).isSome = true)
    (hb : Binds X.K fd ps []) (tk : Takes X W) (hg : Gl X x) (hm : X.mg x = some (.ref f)) (hk : PySem.W.keepIn X.K (.ref f) = true) (hdb : (x == ("__debug__" : Str)) = false) (ha : SA Φ [.exc a d C fs] X W (e :: es) ies)
    (hst : starEach (e :: es) X.env = (false, eval e X.env) :: starEach es X.env) (hpl : (backTo pos (starEach es X.env)).any (·.1) = false) : SE Φ [.exc a d C fs] X W (.Call (.Name x q) (e :: es) [] pos) (.hcall i ies) := by
  obtain ⟨ta, pa, ra⟩ := ha
  refine ⟨_, pe_callHG F hr hot hp hb tk hg hm hk pa hdb hst hpl, fun σ δ G M H Q Qd Zd ok er hq hzz h => ?_⟩
  unfold evalE at h
  refine ra σ δ G M H _ _ Zd ok er (fun ds M1 qq vs G1 H1 s1 t => ?_) hzz h
  obtain ⟨hx, qq⟩ := qq
  refine ⟨G1, M1, ds, Qd, Zd, C, fs, s1.ok, t, pv_after s1 hq, fun x M' z => px_after s1 hzz x M' z, ?_, ?_, hs, qq⟩
  · rw [hx, hz.2]
  · rw [hz.1]; exact hn
end
end DL
set_option maxRecDepth 100000
set_option maxHeartbeats 4000000
namespace DL
open PySem L2
/-! ### dict displays -/
def flat2 : List (V × V) → List V
  | [] => []
  | (x, y) :: r => x :: y :: flat2 r
def SP (Φ : Fns) (γ : List D) (X : Cx) (W : WX) (pos : Pos) (ks : List (Option Expr)) (vs : List Expr) (ir : Es) : Prop := ∃ trs, PPs X pos ks vs trs ∧ ∀ (σ : L2.St) (δ : DEnv) (G : Hp) (M : MS) (H : Hp) (Q : List (V × V) → Hp → Prop) (Qd : List D → MS → Prop) (Zd : KX), OkS X.K G M H → ER X.K G σ δ →
  (∀ ds M', Qd ds M' → ∀ ps G' H', Step X.K G M H G' M' H' → DvAll X.K G' (flat2 ps) ds → Q ps H') → (∀ x M', Zd x M' → PostX X.K G M H W σ x M') → evalEs Φ γ ir δ M Qd Zd → tPairs trs σ H Q
section
variable {Φ : Fns} {γ : List D} {X : Cx} {W : WX} {pos : Pos}
theorem sp_nil : SP Φ γ X W pos [] [] .nil :=
  ⟨_, pps_nil, fun σ δ G M H Q Qd Zd ok er hq hz h => by unfold evalEs at h; exact hq _ _ h [] G H (Step.refl ok) .nil⟩
theorem sp_cons {k v : Expr} {ks : List (Option Expr)} {vs : List Expr} {ik iv : E} {r : Es} (hk : SE Φ γ X W k ik) (hv : SE Φ γ X W v iv) (hr : SP Φ γ X W pos ks vs r) : SP Φ γ X W pos (some k :: ks) (v :: vs) (.cons ik (.cons iv r)) := by
  obtain ⟨tk, pk, rk⟩ := hk
  obtain ⟨tv, pv, rv⟩ := hv
  obtain ⟨trs, pr, rr⟩ := hr
  refine ⟨_, pps_cons pk pv pr, fun σ δ G M H Q Qd Zd ok er hq hz h => ?_⟩
  unfold evalEs evalEs at h
  show tk σ H _
  refine run_e rk ok er hz h fun r1 M1 v1 G1 H1 q s1 dv => ?_
  show tv σ H1 _
  refine run_e rv s1.ok (er.mono s1.sub) (px_after s1 hz) q fun r2 M2 v2 G2 H2 q2 s2 dv2 => ?_
  have s12 := s1.trans s2
  refine rr σ δ G2 M2 H2 _ _ Zd s2.ok (er.mono s12.sub) (fun ds M3 q3 ps G3 H3 s3 t => ?_) (px_after s12 hz) q2
  exact hq _ _ q3 ((v1, v2) :: ps) G3 H3 (s12.trans s3) (.cons (dv.mono (s2.sub.trans s3.sub)) (.cons (dv2.mono s3.sub) t))
theorem pairs_of {K : PySem.W.Frag} {G : Hp} : ∀ {ps : List (V × V)} {ds : List D} {kvs : List (Key × D)}, DvAll K G (flat2 ps) ds → pairsD ds = some kvs →
    ∃ xs, ps = (List.zip (kvs.map (·.1)) xs).map (fun kv => (kV kv.1, kv.2)) ∧ (kvs.map (·.1)).length = xs.length ∧ DvAll K G xs (kvs.map (·.2))
  | [], _, kvs, t, e => by
    cases t
    cases e
    exact ⟨[], rfl, rfl, .nil⟩
  | (x, y) :: ps, _, kvs, t, e => by
    cases t with
    | cons hx t =>
      cases t with
      | cons hy t =>
        rename_i d0 d1 ds
        unfold pairsD at e
        split at e
        · rename_i h; cases h
        · rename_i h
          cases h
          cases e2 : pairsD ds with
          | none => rw [e2] at e; cases e
          | some r =>
            rw [e2] at e
            cases e
            obtain ⟨xs, h1, h2, h3⟩ := pairs_of t e2
            cases hx
            exact ⟨y :: xs, by rw [h1]; rfl, by simpa using h2, .cons hy h3⟩
        · rename_i h
          cases h
          cases e2 : pairsD ds with
          | none => rw [e2] at e; cases e
          | some r =>
            rw [e2] at e
            cases e
            obtain ⟨xs, h1, h2, h3⟩ := pairs_of t e2
            cases hx
            exact ⟨y :: xs, by rw [h1]; rfl, by simpa using h2, .cons hy h3⟩
        · cases e
theorem merge_nodup : ∀ (more acc : List (Key × V)), (acc.map (·.1) ++ more.map (·.1)).Nodup → mergeK acc more = acc ++ more
  | [], acc, _ => by simp [mergeK]
  | p :: r, acc, h => by
    have e : mergeK acc (p :: r) = mergeK (putK acc p.1 p.2) r := rfl
    rw [e]
    have hn : p.1 ∉ acc.map (·.1) := by
      intro hm
      rw [List.map_cons, List.nodup_append] at h
      exact h.2.2 p.1 hm p.1 List.mem_cons_self rfl
    have e2 : putK acc p.1 p.2 = acc ++ [p] := by
      unfold putK
      rw [if_neg]
      intro z
      rw [List.any_eq_true] at z
      obtain ⟨q, hq, hd⟩ := z
      exact hn (by rw [← of_decide_eq_true hd]; exact List.mem_map_of_mem hq)
    rw [e2, merge_nodup r (acc ++ [p]) (by simpa using h), List.append_assoc]
    rfl
theorem zip_fst_snd {α β : Type} : ∀ (l : List (α × β)), List.zip (l.map (·.1)) (l.map (·.2)) = l
  | [] => rfl
  | (a, b) :: r => by simp [zip_fst_snd r]
theorem ans_dct {K : PySem.W.Frag} {G G1 : Hp} {M M1 : MS} {H H1 : Hp} {Q : VK} {kvs : List (Key × D)} {xs : List V} {p : Addr} (q : PostV K G M H Q (.val (.dct kvs)) M1) (s : Step K G M H G1 M1 H1) (h0 : H p = none) (hg : G1 p = none) (hm : M1 p = none)
    (l : (kvs.map (·.1)).length = xs.length) (t : DvAll K G1 xs (kvs.map (·.2))) : ∀ o, Q (.ref p) (upd H1 p (.frz o (.dK (List.zip (kvs.map (·.1)) xs)))) := by
  intro ob
  have e : Sub G1 (upd G1 p (.frz ob (.dK (List.zip (kvs.map (·.1)) xs)))) := sub_upd hg
  have z : Dv K (upd G1 p (.frz ob (.dK (List.zip (kvs.map (·.1)) xs)))) (.ref p) (.dct (List.zip (kvs.map (·.1)) (kvs.map (·.2)))) := .dct upd_same l (t.mono e)
  rw [zip_fst_snd] at z
  refine q _ _ _ ⟨⟨?_, fun a mo q => ?_, fun a mo q => ?_⟩, s.sub.trans e, fun a u h hma => ?_, s.newM, fun a h => ?_, fun a u hga h hma => ?_⟩ z
  · intro a u h
    by_cases ha : a = p
    · subst ha; rw [upd_same] at h ⊢; exact h
    · rw [upd_ne ha] at h ⊢; exact s.ok.sub a u h
  · have ha : a ≠ p := fun z => by rw [z, hm] at q; cases q
    rw [upd_ne ha]; exact s.ok.dis a mo q
  · have ha : a ≠ p := fun z => by rw [z, hm] at q; cases q
    exact ((s.ok.mok a mo q).mono e).at_ (upd_ne ha)
  · have ha : a ≠ p := fun z => by rw [z, h0] at h; cases h
    rw [upd_ne ha]; exact s.keep a u h hma
  · by_cases ha : a = p
    · rw [ha]; exact h0
    · rw [upd_ne ha] at h; exact s.dom a h
  · by_cases ha : a = p
    · rw [ha]; exact h0
    · rw [upd_ne ha] at h; exact s.newG a u hga h hma
theorem se_dct {k : Option Expr} {ks : List (Option Expr)} {vs : List Expr} {ir : Es} (hp : SP Φ γ X W pos (k :: ks) vs ir) (hall : (k :: ks).all (·.isSome) = true) (hl : (k :: ks).length = vs.length) (h15 : (k :: ks).length ≤ 15) : SE Φ γ X W (.Dict (k :: ks) vs pos) (.dct ir) := by
  obtain ⟨trs, pp, rp⟩ := hp
  refine ⟨_, pe_frz (pe_disp pp hall hl (by simp) h15), fun σ δ G M H Q Qd Zd ok er hq hz h => ?_⟩
  unfold evalE at h
  intro p hp
  have s0 := (Step.refl ok).alloc (o := HO.dK []) hp
  refine rp σ δ G M _ _ _ Zd s0.ok er (fun ds M1 q ps G1 H1 s1 t => ?_) (px_after s0 hz) h
  obtain ⟨kvs, e, l15, nd, q⟩ := q
  obtain ⟨xs, h1, h2, h3⟩ := pairs_of t e
  have hm0 : M p = none := ok.noM hp
  refine ⟨s1.keep p _ upd_same hm0, List.zip (kvs.map (·.1)) xs, h1, ?_, ?_⟩
  · rw [List.length_zip, ← h2, Nat.min_self, List.length_map]; exact l15
  · rw [merge_nodup _ [] (by
      rw [List.map_nil, List.nil_append, List.map_fst_zip (by omega)]
      exact nd), List.nil_append]
    refine ⟨p, _, rfl, upd_same, trivial, fun ob => ?_⟩
    rw [upd_upd]
    refine ans_dct (hq _ _ q) (s0.trans s1) hp ?_ (s1.noM upd_same hm0) h2 h3 ob
    cases eg : G1 p with
    | none => rfl
    | some u =>
      have z := s1.newG p u (ok.noG hp) eg hm0
      rw [upd_same] at z; cases z
theorem se_dct0 : SE Φ γ X W (.Dict [] [] pos) (.dct .nil) := by
  refine ⟨_, pe_frz pe_dnewK, fun σ δ G M H Q Qd Zd ok er hq hz h => ?_⟩
  unfold evalE evalEs at h
  obtain ⟨kvs, e, _, _, q⟩ := h
  cases e
  intro p hp
  refine ⟨p, _, rfl, upd_same, trivial, fun ob => ?_⟩
  rw [upd_upd]
  exact ans_dct (kvs := []) (xs := []) (hq _ _ q) (Step.refl ok) hp (ok.noG hp) (ok.noM hp) rfl .nil ob
/-! dict(pairs), dict(zip(xs, ys)), list(d.items()) -/
theorem pairsT_of {K : PySem.W.Frag} {G : Hp} : ∀ {vs : List V} {ds : List D} {kvs : List (Key × D)}, DvAll K G vs ds → pairsT ds = some kvs → ∃ (ps : List Addr) (xs : List V), vs = ps.map V.ref ∧
    Paired (fun (p : Addr) (kv : Key × V) => SqT K G p [kV kv.1, kv.2]) ps (List.zip (kvs.map (·.1)) xs) ∧ (kvs.map (·.1)).length = xs.length ∧ DvAll K G xs (kvs.map (·.2))
  | _, _, kvs, .nil, e => by
    cases e
    exact ⟨[], [], rfl, .nil, rfl, .nil⟩
  | _, _, kvs, .cons (ds := ds) h t, e => by
    unfold pairsT at e
    split at e
    · rename_i hd; cases hd
    · rename_i x d r hd
      cases hd
      cases e2 : pairsT ds with
      | none => rw [e2] at e; cases e
      | some r =>
        rw [e2] at e
        cases e
        obtain ⟨ps, xs, rfl, h2, h3, h4⟩ := pairsT_of t e2
        cases h with
        | tup hs ts =>
          cases ts with
          | cons q1 t1 =>
            cases t1 with
            | cons q2 t2 =>
              cases t2
              cases q1
              exact ⟨_ :: ps, _ :: xs, rfl, .cons hs h2, by simpa using h3, .cons q2 h4⟩
    · rename_i x d r hd
      cases hd
      cases e2 : pairsT ds with
      | none => rw [e2] at e; cases e
      | some r =>
        rw [e2] at e
        cases e
        obtain ⟨ps, xs, rfl, h2, h3, h4⟩ := pairsT_of t e2
        cases h with
        | tup hs ts =>
          cases ts with
          | cons q1 t1 =>
            cases t1 with
            | cons q2 t2 =>
              cases t2
              cases q1
              exact ⟨_ :: ps, _ :: xs, rfl, .cons hs h2, by simpa using h3, .cons q2 h4⟩
    · cases e
theorem pairsZ_of {K : PySem.W.Frag} {G : Hp} : ∀ {vs ws : List V} {ds es : List D} {kvs : List (Key × D)}, DvAll K G vs ds → DvAll K G ws es → pairsZ ds es = some kvs → ∃ (xs : List V), List.zip vs ws = (List.zip (kvs.map (·.1)) xs).map (fun kv => (kV kv.1, kv.2)) ∧
    (kvs.map (·.1)).length = xs.length ∧ DvAll K G xs (kvs.map (·.2))
  | _, ws, _, es, kvs, .nil, _, e => by
    have : kvs = [] := by
      unfold pairsZ at e
      cases e; rfl
    subst this
    exact ⟨[], by simp, rfl, .nil⟩
  | _, _, _, _, kvs, .cons (d := d0) (ds := ds) h t, .nil, e => by
    have : kvs = [] := by
      cases d0 <;> (unfold pairsZ at e; cases e; rfl)
    subst this
    exact ⟨[], by simp, rfl, .nil⟩
  | _, _, _, _, kvs, .cons (d := d0) (ds := ds) h t, .cons (d := d1) (ds := es) h1 t1, e => by
    unfold pairsZ at e
    split at e
    · rename_i x r d' t' hd he
      cases hd; cases he
      cases e2 : pairsZ ds es with
      | none => rw [e2] at e; cases e
      | some r =>
        rw [e2] at e
        cases e
        obtain ⟨xs, q1, q2, q3⟩ := pairsZ_of t t1 e2
        cases h
        exact ⟨_ :: xs, by simp only [List.zip_cons_cons, List.map_cons, q1]; rfl, by simpa using q2, .cons h1 q3⟩
    · rename_i x r d' t' hd he
      cases hd; cases he
      cases e2 : pairsZ ds es with
      | none => rw [e2] at e; cases e
      | some r =>
        rw [e2] at e
        cases e
        obtain ⟨xs, q1, q2, q3⟩ := pairsZ_of t t1 e2
        cases h
        exact ⟨_ :: xs, by simp only [List.zip_cons_cons, List.map_cons, q1]; rfl, by simpa using q2, .cons h1 q3⟩
    · rename_i hd; cases hd
    · rename_i he; first | (cases he; done) | simp at *
    · cases e
theorem view_lst {K : PySem.W.Frag} {G : Hp} {M : MS} {H : Hp} {v : V} {d : D} {xs : List D} (ok : OkS K G M H) (dv : Dv K G v d) (e : view M d = .lst xs) : ∃ a vs, v = .ref a ∧ SqL K H a vs ∧ DvAll K G vs xs := by
  have h := dv.vw ok
  rw [e] at h
  cases h with
  | lst h t => exact ⟨_, _, rfl, SqL.of h, t⟩
theorem Paired.mono2 {α β : Type} {F F' : α → β → Prop} (h : ∀ a b, F a b → F' a b) : ∀ {xs : List α} {ys : List β}, Paired F xs ys → Paired F' xs ys
  | _, _, .nil => .nil
  | _, _, .cons r t => .cons (h _ _ r) (Paired.mono2 h t)
theorem dct_fin {K : PySem.W.Frag} {G G1 : Hp} {M M1 : MS} {H H1 : Hp} {Q : VK} {kvs : List (Key × D)} {xs : List V} (q : PostV K G M H Q (.val (.dct kvs)) M1) (s : Step K G M H G1 M1 H1) (nd : (kvs.map (·.1)).Nodup)
    (l : (kvs.map (·.1)).length = xs.length) (t : DvAll K G1 xs (kvs.map (·.2))) : ∀ p, H1 p = none → ∃ d u, V.ref p = .ref d ∧ (upd H1 p (.dK (mergeK [] (List.zip (kvs.map (·.1)) xs)))) d = some u ∧ Mut (some u) ∧ ∀ o, Q (.ref p) (upd (upd H1 p (.dK (mergeK [] (List.zip (kvs.map (·.1)) xs)))) d (.frz o u)) := by
  intro p hp
  refine ⟨p, _, rfl, upd_same, trivial, fun ob => ?_⟩
  rw [upd_upd, merge_nodup _ [] (by
      rw [List.map_nil, List.nil_append, List.map_fst_zip (by omega)]
      exact nd), List.nil_append]
  exact ans_dct q s (s.dom p hp) (s.ok.noG hp) (s.ok.noM hp) l t ob
theorem se_dictP {a : Expr} {ia : E} {p pos : Pos} (hc : X.calm = true) (hg : Gl X "dict") (hm : X.mg "dict" = none) (ha : SE Φ γ X W a ia) (na : starEach [a] X.env = (false, eval a X.env) :: starEach [] X.env) : SE Φ γ X W (.Call (.Name "dict" p) [a] [] pos) (.dictP ia) := by
  obtain ⟨t1, p1, r1⟩ := ha
  refine ⟨_, pe_frz (pe_callTy (call_dictP hc) hg hm (by rfl) (pa_cons p1 pa_nil na) (by decide +kernel) (by decide +kernel) na rfl), fun σ δ G M H Q Qd Zd ok er hq hz h => ?_⟩
  unfold evalE at h
  show t1 σ H _
  refine run_e r1 ok er hz h fun r M1 v G1 H1 q s1 dv => ?_
  obtain ⟨xs, kvs, e1, e2, nd, q⟩ := q
  obtain ⟨a', vs, rfl, hs, t⟩ := view_lst s1.ok dv e1
  obtain ⟨ps, us, rfl, h2, h3, h4⟩ := pairsT_of t e2
  exact ⟨a', ps, _, rfl, hs, Paired.mono2 (fun _ _ z => s1.ok.sub.sqT z) h2, dct_fin (hq _ _ q) s1 nd h3 h4⟩
theorem se_dictZ {a b : Expr} {ia ib : E} {p p2 pos pos2 : Pos} (hc : X.calm = true) (hg : Gl X "dict") (hm : X.mg "dict" = none) (hg2 : Gl X "zip") (hm2 : X.mg "zip" = none) (ha : SE Φ γ X W a ia) (hb : SE Φ γ X W b ib)
    (na : starEach [a, b] X.env = (false, eval a X.env) :: starEach [b] X.env) (nb : starEach [b] X.env = (false, eval b X.env) :: starEach [] X.env) : SE Φ γ X W (.Call (.Name "dict" p) [.Call (.Name "zip" p2) [a, b] [] pos2] [] pos) (.dictZ ia ib) := by
  obtain ⟨t1, p1, r1⟩ := ha
  obtain ⟨t2, p2, r2⟩ := hb
  refine ⟨_, pe_frz (pe_dictZ hc hg hm hg2 hm2 (pa_cons p1 (pa_cons p2 pa_nil nb) na) na (by rw [nb]; rfl)), fun σ δ G M H Q Qd Zd ok er hq hz h => ?_⟩
  unfold evalE at h
  show t1 σ H _
  refine run_e r1 ok er hz h fun r M1 v G1 H1 q s1 dv => ?_
  show t2 σ H1 _
  refine run_e r2 s1.ok (er.mono s1.sub) (px_after s1 hz) q fun r' M2 v2 G2 H2 q2 s2 dv2 => ?_
  obtain ⟨xs, ys, kvs, e1, e2, e3, nd, q⟩ := q2
  obtain ⟨a', vs, rfl, hs, t⟩ := view_lst s2.ok (dv.mono s2.sub) e1
  obtain ⟨b', ws, rfl, hs2, t'⟩ := view_lst s2.ok dv2 e2
  obtain ⟨us, h1, h2, h3⟩ := pairsZ_of t t' e3
  exact ⟨a', b', _, _, _, rfl, hs, hs2, h1, dct_fin (hq _ _ q) (s1.trans s2) nd h2 h3⟩
theorem items_all {K : PySem.W.Frag} {G' H' : Hp} : ∀ {ts : List Addr} {ks : List Key} {xs : List V} {ds : List D}, (∀ t ∈ ts, G' t = H' t) → Paired (fun (t : Addr) (q : Key × V) => H' t = some (.tup [kV q.1, q.2])) ts (List.zip ks xs) → ks.length = xs.length → DvAll K G' xs ds →
    DvAll K G' (ts.map V.ref) ((List.zip ks ds).map fun kv => D.tup [keyE kv.1, kv.2])
  | ts, [], xs, ds, _, h, _, _ => by
    rw [List.zip_nil_left] at h
    cases h
    exact .nil
  | ts, k :: ks, [], ds, _, h, l, _ => by simp at l
  | ts, k :: ks, x :: xs, _, hg, h, l, .cons r t => by
    cases h with
    | cons r1 t1 =>
      refine .cons (.tup (SqT.of ((hg _ List.mem_cons_self).trans r1)) (.cons (keyE_dv k) (.one r))) ?_
      exact items_all (fun t ht => hg t (List.mem_cons_of_mem _ ht)) t1 (by simpa using l) t
theorem Step.lays {K : PySem.W.Frag} {G G1 : Hp} {M M1 : MS} {H H1 H' : Hp} (s : Step K G M H G1 M1 H1) (ts : List Addr) (k : ∀ b o, H1 b = some o → H' b = some o) (new : ∀ t ∈ ts, H1 t = none) :
    Step K G M H (fun a => if a ∈ ts then H' a else G1 a) M1 H' ∧ Sub G1 (fun a => if a ∈ ts then H' a else G1 a) := by
  have off : ∀ a u, H1 a = some u → a ∉ ts := fun a u h z => by rw [new a z] at h; cases h
  have sb : Sub G1 (fun a => if a ∈ ts then H' a else G1 a) := fun a u h => by
    show (if a ∈ ts then H' a else G1 a) = some u
    rw [if_neg (off a u (s.ok.sub a u h))]; exact h
  refine ⟨⟨⟨fun a u h => ?_, fun a mo h => ?_, fun a mo h => ?_⟩, s.sub.trans sb, fun a u h hm => k a u (s.keep a u h hm), s.newM, fun a h => s.dom a ?_, fun a u hg h hm => ?_⟩, sb⟩
  · by_cases z : a ∈ ts
    · have h' : (if a ∈ ts then H' a else G1 a) = some u := h
      rw [if_pos z] at h'; exact h'
    · have h' : (if a ∈ ts then H' a else G1 a) = some u := h
      rw [if_neg z] at h'; exact k a u (s.ok.sub a u h')
  · obtain ⟨u, hu⟩ := (s.ok.mok a mo h).there
    show (if a ∈ ts then H' a else G1 a) = none
    rw [if_neg (off a u hu)]; exact s.ok.dis a mo h
  · obtain ⟨u, hu⟩ := (s.ok.mok a mo h).there
    exact ((s.ok.mok a mo h).mono sb).at_ ((k a u hu).trans hu.symm)
  · cases e : H1 a with
    | none => rfl
    | some u => rw [k a u e] at h; cases h
  · by_cases z : a ∈ ts
    · exact s.dom a (new a z)
    · have h' : (if a ∈ ts then H' a else G1 a) = some u := h
      rw [if_neg z] at h'
      exact s.newG a u hg h' hm
theorem se_items {a : Expr} {ia : E} {p apos cpos pos : Pos} (hc : X.calm = true) (hg : Gl X "list") (hm : X.mg "list" = none) (ha : SE Φ γ X W a ia) (hbase : attributeBase a "items" X.env (eval a X.env) = eval a X.env) (hline : (apos.endLine == cpos.line) = true) :
    SE Φ γ X W (.Call (.Name "list" p) [.Call (.Attribute a "items" apos) [] [] cpos] [] pos) (.items ia) := by
  obtain ⟨t1, p1, r1⟩ := ha
  refine ⟨_, pe_itemsF hc p1 hg hm hbase hline, fun σ δ G M H Q Qd Zd ok er hq hz h => ?_⟩
  unfold evalE at h
  show t1 σ H _
  refine run_e r1 ok er hz h fun r M1 v G1 H1 q s1 dv => ?_
  obtain ⟨kvs, e1, q⟩ := q
  rw [e1] at dv
  cases dv with
  | dct h1 l t =>
    refine ⟨_, _, _, rfl, s1.ok.sub _ _ h1, fun H' p' ts k1 k2 k3 k4 k5 k6 => ?_⟩
    obtain ⟨s2, sb⟩ := s1.lays ts k1 k3
    refine hq _ _ q _ _ H' s2 ⟨p', _, rfl, s1.dom _ k2, k5, ?_, s1.ok.noM k2, items_all (H' := H') (fun t ht => ?_) k6 l (t.mono sb)⟩
    · show (if p' ∈ ts then H' p' else G1 p') = none
      rw [if_neg k4]; exact s1.ok.noG k2
    · show (if t ∈ ts then H' t else G1 t) = H' t
      rw [if_pos ht]
end
/-! ### the expressions: what is compiled means the same -/
/-- what a context must bear -/
structure XOk (c : CE) (Φ : Fns) (γ : List D) (X : Cx) (scp : Scope) : Prop where
  N : X.N = c.N
  nd : c.N.Nodup
  cal : Cal X
  sc : X.env.scope = scp
  kind : scp.kind = .function
  mgn : ∀ (y : Str) (v : Value), PySem.W.nsIn X.K mainGlobals y = some (some v) → X.mg y = some v
  fn : ∀ (t : FnT) (x : Str), assoc c.tb.fns x = some t → ∃ f fd ps k, X.mg x = some (.ref f) ∧ PySem.W.keepIn X.K (.ref f) = true ∧ Rm (k + 1) X.A ∧ FnG X.prog X.w X.K X.mg X.base k f fd ps (spD X.K (Φ t.i)) ∧ DflOk X.K fd ps t.dfs
  gl : ∀ (x : Str) (d : D), assoc c.gls x = some d → ∃ v u, X.mg x = some u ∧ RelV v u ∧ ∀ G, Dv X.K G v d
  bl : ∀ x, x ∈ c.bls → X.mg x = none
  mt : ∀ (m : Str) (cs : List (Str × FnT)) (C : Str) (t : FnT), assoc c.tb.mts m = some cs → assoc cs C = some t → t.dfs = [] → ∃ cA, PySem.W.nsIn X.K mainGlobals C = some (some (.ref cA)) ∧ MtF X.prog X.w X.K X.mg X.base X.A cA m (spD X.K (Φ t.i))
  sl : ∀ (m : Str) (cs : List (Str × Nat)) (C : Str) (i : Nat), assoc c.tb.sls m = some cs → assoc cs C = some i → ∃ cA p, PySem.W.nsIn X.K mainGlobals C = some (some (.ref cA)) ∧ SlX.SCls X.K cA ∧ SlX.Slot1 X.K cA m p i
  mkc : ∀ (C : Str) (t : FnT) (n : Nat), assoc c.tb.mks C = some (t, n) → ∃ cA f fd ps k, PySem.W.nsIn X.K mainGlobals C = some (some (.ref cA)) ∧ Mk X.K cA f ∧ Rm (k + 1) X.A ∧ FnG X.prog X.w X.K X.mg X.base k f fd ps (spD X.K (Φ t.i)) ∧ DflOk X.K fd ps t.dfs
  su : SubT X.K c.tb.sub
  xc : ∀ (C f : Str), assoc c.tb.xcs C = some f → ∃ k, Rm (k + 1) X.A ∧ XcK X.prog X.w X.K X.mg X.base k C f
  xs : XsK X.K c.tb.xsu c.tb.xfl c.tb.xc0
  hf : ∀ (t : FnT) (x : Str), assoc c.tb.hfs x = some t → ∃ f fd ps k, X.mg x = some (.ref f) ∧ PySem.W.keepIn X.K (.ref f) = true ∧ Rm (k + 1) X.A ∧ FnHG X.prog X.w X.K X.mg X.base k f fd ps (spDp X.K c.tb.xsu (Φ t.i)) ∧ Binds X.K fd ps []
theorem assoc_nums : ∀ {cs : List (Str × FnT)} {C : Str} {i : Nat}, assoc (numsT cs) C = some i → ∃ t, assoc cs C = some t ∧ t.i = i ∧ (C, t) ∈ cs
  | [], _, _, h => by cases h
  | (y, t) :: cs, C, i, h => by
    have h' : (if y = C then some t.i else assoc (numsT cs) C) = some i := h
    split at h'
    · rename_i e
      cases h'
      exact ⟨t, by unfold assoc; rw [if_pos e], rfl, by rw [e]; exact List.mem_cons_self⟩
    · rename_i e
      obtain ⟨t', h1, h2, h3⟩ := assoc_nums h'
      exact ⟨t', by unfold assoc; rw [if_neg e]; exact h1, h2, List.mem_cons_of_mem _ h3⟩
theorem assoc_mem {α : Type} : ∀ {l : List (Str × α)} {C : Str} {a : α}, assoc l C = some a → (C, a) ∈ l
  | [], _, _, h => by cases h
  | (y, t) :: cs, C, i, h => by
    unfold assoc at h
    split at h
    · rename_i e
      cases h
      rw [e]; exact List.mem_cons_self
    · exact List.mem_cons_of_mem _ (assoc_mem h)
theorem assoc_isa {su : List (Str × List Str)} {C : Str} : ∀ {l : List (Str × List Str)} {C1 : Str} {b : Bool}, assoc (l.map fun p => (p.1, decide (C ∈ p.2))) C1 = some b → ∃ cs, assoc l C1 = some cs ∧ b = decide (C ∈ cs)
  | [], _, _, h => by cases h
  | (y, t) :: cs, C1, b, h => by
    have h' : (if y = C1 then some (decide (C ∈ t)) else assoc (cs.map fun p => (p.1, decide (C ∈ p.2))) C1) = some b := h
    split at h'
    · rename_i e
      cases h'
      exact ⟨t, by unfold assoc; rw [if_pos e], rfl⟩
    · rename_i e
      obtain ⟨t', h1, h2⟩ := assoc_isa (su := su) h'
      exact ⟨t', by unfold assoc; rw [if_neg e]; exact h1, h2⟩
section
variable {c : CE} {Φ : Fns} {γ : List D}
theorem plainM_ok {n : Nat} {cs : List (Str × FnT)} {C : Str} {t : FnT} (h : plainM n cs = true) (hm : (C, t) ∈ cs) : t.dfs = [] := by
  unfold plainM at h
  have z := List.all_eq_true.mp h _ hm
  simp only [Bool.and_eq_true, List.isEmpty_iff] at z
  exact z.2
theorem XOk.mtT {X : Cx} {sc : Scope} (x : XOk c Φ γ X sc) {m : Str} {n : Nat} {cs : List (Str × FnT)} (h : assoc c.tb.mts m = some cs) (hp : plainM n cs = true) : MtT Φ X m (numsT cs) := fun C i hi => by
  obtain ⟨t, h1, h2, h3⟩ := assoc_nums hi
  obtain ⟨cA, q1, q2⟩ := x.mt m cs C t h h1 (plainM_ok hp h3)
  rw [h2] at q2
  exact ⟨cA, q1, q2⟩
theorem rv_mem {su : List (Str × List Str)} {C C' : Str} (h : (C, C') ∈ rvOf su) : ∃ cs cs', assoc su C = some cs ∧ assoc su C' = some cs' ∧ C ∈ cs' ∧ C' ∉ cs := by
  unfold rvOf at h
  rw [List.mem_flatMap] at h
  obtain ⟨C1, _, h⟩ := h
  rw [List.mem_filterMap] at h
  obtain ⟨C2, _, h⟩ := h
  split at h
  · rename_i cs cs' e1 e2
    split at h
    · rename_i hc
      cases h
      exact ⟨cs, cs', e1, e2, hc.1, hc.2⟩
    · cases h
  · cases h
theorem rv_in {su : List (Str × List Str)} {C C' : Str} {cs cs' : List Str} (e1 : assoc su C = some cs) (e2 : assoc su C' = some cs') (h1 : C ∈ cs') (h2 : C' ∉ cs) : (C, C') ∈ rvOf su := by
  unfold rvOf
  rw [List.mem_flatMap]
  refine ⟨C, List.mem_map_of_mem (f := (·.1)) (assoc_mem e1), ?_⟩
  rw [List.mem_filterMap]
  refine ⟨C', List.mem_map_of_mem (f := (·.1)) (assoc_mem e2), ?_⟩
  rw [e1, e2]
  exact if_pos ⟨h1, h2⟩
theorem subB_ok {su : List (Str × List Str)} (h : subB su = true) {C C' : Str} {cs cs' : List Str} (e1 : assoc su C = some cs) (e2 : assoc su C' = some cs') (h1 : C ∈ cs') (h2 : C' ∈ cs) : C = C' := by
  unfold subB at h
  have z := List.all_eq_true.mp (List.all_eq_true.mp h _ (assoc_mem e1)) _ (assoc_mem e2)
  simp only [e1, e2, decide_eq_true h1, decide_eq_true h2, Bool.and_self, Bool.not_true, Bool.false_or] at z
  exact of_decide_eq_true z
theorem XOk.eqT {X : Cx} {sc : Scope} (x : XOk c Φ γ X sc) {t : List (Str × Nat)} (h : DL.eqT c = some t) : EqT Φ X t (rvOf c.tb.sub) := by
  unfold DL.eqT at h
  split at h
  · rename_i cs hcs
    split at h
    · rename_i hc
      cases h
      have key : ∀ {C i}, assoc (numsT cs) C = some i → ∃ us, assoc c.tb.sub C = some us := fun hi => by
        obtain ⟨t, _, _, h3⟩ := assoc_nums hi
        have z := List.all_eq_true.mp hc.2.2 _ h3
        exact Option.isSome_iff_exists.mp z
      refine ⟨x.mtT hcs hc.1, fun C i cA hi hn => ?_, fun C C' i i' cA cA' hi hi' hn hn' hrv => ?_, fun C C' i i' cA cA' hi hi' hn hn' hrv => ?_⟩
      · obtain ⟨us, hu⟩ := key hi
        obtain ⟨c1, c2, n1, n2, k1, k2, _⟩ := x.su C us C us hu hu
        rw [hn] at n1
        cases n1
        exact k1
      · obtain ⟨us, us', hu, hu', m1, m2⟩ := rv_mem hrv
        obtain ⟨c1, c2, n1, n2, _, _, s1⟩ := x.su C' us' C us hu' hu
        rw [hn'] at n1
        rw [hn] at n2
        cases n1; cases n2
        rw [decide_eq_true m1] at s1
        refine ⟨fun e => ?_, s1⟩
        obtain ⟨c3, c4, n3, n4, _, _, s2⟩ := x.su C us C' us' hu hu'
        rw [hn] at n3
        rw [hn'] at n4
        cases n3; cases n4
        rw [decide_eq_false m2] at s2
        rw [e] at s1 s2
        rw [s1] at s2
        cases s2
      · obtain ⟨us, hu⟩ := key hi
        obtain ⟨us', hu'⟩ := key hi'
        unfold PySem.W.notFirst
        by_cases m1 : C ∈ us'
        · have m2 : C' ∈ us := by
            apply Classical.byContradiction
            intro m2
            exact hrv (rv_in hu hu' m1 m2)
          have e := subB_ok hc.2.1 hu hu' m1 m2
          subst e
          rw [hn] at hn'
          cases hn'
          simp
        · obtain ⟨c1, c2, n1, n2, _, _, s1⟩ := x.su C' us' C us hu' hu
          rw [hn'] at n1
          rw [hn] at n2
          cases n1; cases n2
          rw [s1, decide_eq_false m1]
          simp
    · cases h
  · cases h
end
section
variable {c : CE} {Φ : Fns} {γ : List D}
theorem es_ok {X : Cx} {W : WX} {f : Expr → Option E} (hf : ∀ e ir, f e = some ir → SE Φ γ X W e ir) : ∀ {es : List Expr} {ies : Es}, compEs f es = some ies → SA Φ γ X W es ies ∧ noStars es = true
  | [], _, h => by cases h; exact ⟨sa_nil, rfl⟩
  | e :: es, ies, h => by
    unfold compEs at h
    split at h
    · rename_i hs
      split at h
      · rename_i a b ha hb
        cases h
        obtain ⟨h1, h2⟩ := es_ok hf hb
        exact ⟨sa_cons (hf _ _ ha) h1 (star_cons hs _ _), by unfold noStars at h2 ⊢; simp [hs, h2]⟩
      · cases h
    · cases h
theorem ess_ok {X : Cx} {W : WX} {f : Expr → Option E} (hf : ∀ e ir, f e = some ir → SE Φ γ X W e ir) : ∀ {es : List Expr} {ies : Es}, compEsS f es = some ies → SA Φ γ X W es ies
  | [], _, h => by cases h; exact sa_nil
  | e :: es, ies, h => by
    unfold compEsS at h
    split at h
    · rename_i z; cases z
    · rename_i e0 p es0 z
      cases z
      split at h
      · rename_i a b ha hb
        cases h
        exact sa_star (hf _ _ ha) (ess_ok hf hb)
      · cases h
    · rename_i z
      cases z
      split at h
      · rename_i hs
        split at h
        · rename_i a b ha hb
          cases h
          exact sa_cons (hf _ _ ha) (ess_ok hf hb) (star_cons hs _ _)
        · cases h
      · cases h
theorem ps_ok {X : Cx} {W : WX} {pos : Pos} {f : Expr → Option E} (hf : ∀ e ir, f e = some ir → SE Φ γ X W e ir) : ∀ {ks : List (Option Expr)} {vs : List Expr} {ir : Es}, compPs f ks vs = some ir → SP Φ γ X W pos ks vs ir ∧ ks.all (·.isSome) = true ∧ ks.length = vs.length
  | [], [], _, h => by cases h; exact ⟨sp_nil, rfl, rfl⟩
  | some k :: ks, v :: vs, ir, h => by
    unfold compPs at h
    split at h
    · rename_i a b r ha hb hr
      cases h
      obtain ⟨h1, h2, h3⟩ := ps_ok (pos := pos) hf hr
      exact ⟨sp_cons (hf _ _ ha) (hf _ _ hb) h1, by simpa using h2, by simpa using h3⟩
    · cases h
  | [], _ :: _, _, h => by cases h
  | none :: _, _, _, h => by cases h
  | some _ :: _, [], _, h => by cases h
theorem o_ok {X : Cx} {W : WX} {f : Expr → Option E} (hf : ∀ e ir, f e = some ir → SE Φ γ X W e ir) {o : Option Expr} {io : O} (h : compO f o = some io) : SO Φ γ X W o io := by
  cases o with
  | none => cases h; exact so_none
  | some e =>
    have h : (f e).map O.some = some io := h
    cases e2 : f e with
    | none => rw [e2] at h; cases h
    | some ie => rw [e2] at h; cases h; exact so_some (hf _ _ e2)
theorem gl_of {X : Cx} {sc : Scope} (x : XOk c Φ γ X sc) {y : Str} (h : isGl sc y = true) : Gl X y := by
  show X.env.scope.names.lookup y = _
  rw [x.sc]; exact isGl_ok h
theorem call_ok {X : Cx} {W : WX} {sc : Scope} {f : Expr → Option E} (xo : XOk c Φ γ X sc) (tk : Takes X W) (hf : ∀ e ir, f e = some ir → SE Φ γ X W e ir) {x : Str} {args : List Expr} {p pos : Pos} {ir : E} (h : compCall c sc f x args = some ir) :
    SE Φ γ X W (.Call (.Name x p) args [] pos) ir := by
  unfold compCall at h
  split at h
  · rename_i hx
    have pn := plainName_ok hx.2
    split at h
    · rename_i t hi
      obtain ⟨fa, fd, ps, k, h1, h2, h3, h4, h5⟩ := xo.fn t x hi
      split at h
      · rename_i hn
        obtain ⟨dvs, dus, hv, hD, hbd⟩ := h5 (t.dfs.length - (t.ar - args.length)) (Nat.sub_le _ _)
        cases ea : compEs f args with
        | none => rw [ea] at h; cases h
        | some ies =>
          rw [ea] at h
          cases h
          obtain ⟨sa, st⟩ := es_ok hf ea
          cases args with
          | nil => cases ea; exact se_call0 h4 h3.one hbd hv hD tk (gl_of xo hx.1) h1 h2 pn.1
          | cons e es =>
            unfold noStars at st
            simp only [List.all_cons, Bool.and_eq_true] at st
            exact se_call h4 h3.one hbd hv hD tk (gl_of xo hx.1) h1 h2 pn.1 sa (star_cons st.1 _ _) (stars_any st.2)
      · cases h
    · split at h
      · rename_i t n hi
        obtain ⟨cA, fa, fd, ps, k, h1, h2, h3, h4, h5⟩ := xo.mkc x t n hi
        split at h
        · rename_i hn
          obtain ⟨dvs, dus, hv, hD, hbd⟩ := h5 (t.dfs.length - (t.ar - (args.length + 1))) (Nat.sub_le _ _)
          cases ea : compEs f args with
          | none => rw [ea] at h; cases h
          | some ies =>
            rw [ea] at h
            cases h
            obtain ⟨sa, st⟩ := es_ok hf ea
            cases args with
            | nil => cases ea; exact se_make0 h2 h1 h4 h3 hbd hv hD tk (gl_of xo hx.1) (xo.mgn _ _ h1) pn.1
            | cons e es =>
              unfold noStars at st
              simp only [List.all_cons, Bool.and_eq_true] at st
              exact se_make h2 h1 h4 h3 hbd hv hD tk (gl_of xo hx.1) (xo.mgn _ _ h1) pn.1 sa (star_cons st.1 _ _) (stars_any st.2)
        · cases h
      split at h
      · rename_i hb
        split at h
        · rename_i hi
          subst hi
          split at h
          · rename_i a t p2
            split at h
            · rename_i us hu
              split at h
              · rename_i hc
                cases e2 : f a with
                | none => rw [e2] at h; cases h
                | some ia =>
                  rw [e2] at h
                  cases h
                  obtain ⟨cA, cB, n1, n2, k1, k2, _⟩ := xo.su t us t us hu hu
                  refine se_isiC (c := cA) (gl_of xo hx.1) (xo.bl _ hb) (gl_of xo hc.2.1) (xo.mgn _ _ n1) (plainName_ok hc.2.2.1).1 (hf _ _ e2) (star_cons hc.1 _ _) k1 fun C1 b hC => ?_
                  obtain ⟨cs, h1, rfl⟩ := assoc_isa (su := c.tb.sub) hC
                  obtain ⟨c1, c2, m1, m2, j1, j2, s1⟩ := xo.su C1 cs t us h1 hu
                  rw [n1] at m2
                  cases m2
                  refine ⟨c1, m1, j1, s1, fun e => ?_⟩
                  obtain ⟨c3, c4, m3, m4, _, _, s2⟩ := xo.su t us t us hu hu
                  rw [n1] at m3 m4
                  cases m3; cases m4
                  rw [e, s2, decide_eq_true hc.2.2.2] at s1
                  exact (Option.some.inj s1).symm
              · cases h
            split at h
            · rename_i u ia hu ha
              split at h
              · rename_i hc
                cases h
                obtain ⟨h1, rfl⟩ := tyOf_ok hu
                exact se_isi1 h1 (gl_of xo hx.1) (xo.bl _ hb) (gl_of xo hc.2.1) (xo.bl _ hc.2.2) (hf _ _ ha) (star_cons hc.1 _ _)
              · cases h
            · cases h
          · rename_i a t p2 t' p3 kk p4
            split at h
            · rename_i u u' ia hu hu' ha
              split at h
              · rename_i hc
                cases h
                obtain ⟨h1, rfl⟩ := tyOf_ok hu
                obtain ⟨h2, rfl⟩ := tyOf_ok hu'
                exact se_isi2 h1 h2 (gl_of xo hx.1) (xo.bl _ hb) (gl_of xo hc.2.1) (xo.bl _ hc.2.2.1) (gl_of xo hc.2.2.2.1) (xo.bl _ hc.2.2.2.2) (hf _ _ ha) (star_cons hc.1 _ _)
              · cases h
            · cases h
          · cases h
        · split at h
          · rename_i s a b hls
            split at h
            · rename_i hc
              split at h
              · rename_i ia ib ha hb2
                cases h
                unfold dictZip at hls
                split at hls
                · split at hls
                  · rename_i hz
                    cases hls
                    obtain ⟨rfl, rfl⟩ := hz
                    exact se_dictZ xo.cal.calm (gl_of xo hx.1) (xo.bl _ hb) (gl_of xo hc.1) (xo.bl _ hc.2.1) (hf _ _ ha) (hf _ _ hb2) (star_cons hc.2.2.1 _ _) (star_cons hc.2.2.2 _ _)
                  · cases hls
                · cases hls
              · cases h
            · cases h
          · split at h
            · rename_i a hls
              split at h
              · rename_i hc
                cases e2 : f a with
                | none => rw [e2] at h; cases h
                | some ie =>
                  rw [e2] at h
                  cases h
                  unfold dictOne at hls
                  split at hls
                  · split at hls
                    · rename_i hz
                      cases hls
                      subst hz
                      exact se_dictP xo.cal.calm (gl_of xo hx.1) (xo.bl _ hb) (hf _ _ e2) (star_cons hc _ _)
                    · cases hls
                  · cases hls
              · cases h
            · split at h
              · rename_i o ap cp hls
                split at h
                · rename_i hc
                  cases e2 : f o with
                  | none => rw [e2] at h; cases h
                  | some ie =>
                    rw [e2] at h
                    cases h
                    unfold listItems at hls
                    split at hls
                    · split at hls
                      · rename_i hz
                        cases hls
                        obtain ⟨rfl, rfl⟩ := hz
                        exact se_items xo.cal.calm (gl_of xo hx.1) (xo.bl _ hb) (hf _ _ e2) (base_ok hc.1 _ _ _) hc.2
                      · cases hls
                    · cases hls
                · cases h
              · split at h
                · rename_i s a hls
                  split at h
                  · rename_i hc
                    cases e2 : f a with
                    | none => rw [e2] at h; cases h
                    | some ie =>
                      rw [e2] at h
                      cases h
                      unfold lenSet at hls
                      split at hls
                      · split at hls
                        · rename_i hz
                          cases hls
                          obtain ⟨rfl, rfl⟩ := hz
                          exact se_lens xo.cal.calm (gl_of xo hx.1) (xo.bl _ hb) (gl_of xo hc.1) (xo.bl _ hc.2.1) (hf _ _ e2) (star_cons hc.2.2 _ _)
                        · cases hls
                      · cases hls
                  · cases h
                · split at h
                  · rename_i s a hls
                    split at h
                    · rename_i hc
                      cases e2 : f a with
                      | none => rw [e2] at h; cases h
                      | some ie =>
                        rw [e2] at h
                        cases h
                        unfold sortSet at hls
                        split at hls
                        · split at hls
                          · rename_i hz
                            cases hls
                            obtain ⟨rfl, rfl⟩ := hz
                            exact se_sset xo.cal.calm (gl_of xo hx.1) (xo.bl _ hb) (gl_of xo hc.1) (xo.bl _ hc.2.1) (hf _ _ e2) (star_cons hc.2.2 _ _)
                          · cases hls
                        · cases hls
                    · cases h
                  · split at h
                    · rename_i a hls
                      split at h
                      · rename_i hc
                        cases e2 : f a with
                        | none => rw [e2] at h; cases h
                        | some ie =>
                          rw [e2] at h
                          cases h
                          unfold sortOne at hls
                          split at hls
                          · split at hls
                            · rename_i hz
                              cases hls
                              subst hz
                              exact se_sortd (by have := xo.cal.hu; omega) (gl_of xo hx.1) (xo.bl _ hb) (hf _ _ e2) (star_cons hc _ _)
                            · cases hls
                          · cases hls
                      · cases h
                    · split at h
                      · rename_i a hls
                        split at h
                        · rename_i hc
                          split at h
                          · rename_i t ht
                            cases e2 : f a with
                            | none => rw [e2] at h; cases h
                            | some ia =>
                              rw [e2] at h
                              cases h
                              unfold lenOne at hls
                              split at hls
                              · split at hls
                                · rename_i hz
                                  cases hls
                                  obtain ⟨rfl, _⟩ := hz
                                  unfold lenT at ht
                                  split at ht
                                  · rename_i cs hcs
                                    split at ht
                                    · rename_i hp
                                      cases ht
                                      exact se_lenI tk (gl_of xo hx.1) (xo.bl _ hb) (hf _ _ e2) (star_cons hc _ _) (xo.mtT hcs hp)
                                    · cases ht
                                  · cases ht
                                · cases hls
                              · cases hls
                          · cases h
                        · cases h
                      split at h
                      · rename_i hr
                        split at h
                        · rename_i a _ _ _ _ _ _ _
                          split at h
                          · rename_i hs
                            cases e2 : f a with
                            | none => rw [e2] at h; cases h
                            | some ie =>
                              rw [e2] at h
                              cases h
                              obtain ⟨_, rfl⟩ := hr
                              exact se_reprd xo.cal (gl_of xo hx.1) (xo.bl _ hb) (hf _ _ e2) (star_cons hs _ _)
                          · cases h
                        · cases h
                      split at h
                      rotate_left
                      · cases h
                      rename_i b a0 r0 hbi _ _ _ _ _ _ _
                      have eb := biOf_ok hbi
                      subst eb
                      cases ea : compEs f (a0 :: r0) with
                      | none => rw [ea] at h; cases h
                      | some ies =>
                        rw [ea] at h
                        cases h
                        obtain ⟨sa, st⟩ := es_ok hf ea
                        unfold noStars at st
                        simp only [List.all_cons, Bool.and_eq_true] at st
                        exact se_bi xo.cal (gl_of xo hx.1) (xo.bl _ hb) sa (star_cons st.1 _ _) (stars_any st.2)
      · cases h
  · cases h
theorem i_ok {X : Cx} {W : WX} {sc : Scope} {f : Expr → Option E} {tg : Expr} (xo : XOk c Φ γ X sc) (hf : ∀ e ir, f e = some ir → SE Φ γ X W e ir) {e : Expr} {ir : I} (h : compI c sc f tg e = some ir) : SI Φ γ X W tg e ir := by
  have seq : ∀ e' ir', (f e').map I.seq = some ir' → SI Φ γ X W tg e' ir' := fun e' ir' h => by
    cases e2 : f e' with
    | none => rw [e2] at h; cases h
    | some ie => rw [e2] at h; cases h; exact si_seq (hf _ _ e2)
  unfold compI at h
  split at h
  · rename_i x p a p2
    split at h
    · rename_i hx
      subst hx
      split at h
      · rename_i hc
        cases e2 : f a with
        | none => rw [e2] at h; cases h
        | some ie => rw [e2] at h; cases h; exact si_rng1 (gl_of xo hc.1) (xo.bl _ hc.2.1) (hf _ _ e2) (star_cons hc.2.2 _ _)
      · cases h
    · split at h
      · rename_i hx
        subst hx
        split at h
        · rename_i hc
          cases e2 : f a with
          | none => rw [e2] at h; cases h
          | some ie =>
            rw [e2] at h; cases h
            cases tg with
            | Tuple elts kk tpos => exact si_enum (gl_of xo hc.1) (xo.bl _ hc.2.1) (hf _ _ e2) (star_cons hc.2.2.1 _ _)
            | _ => exact absurd hc.2.2.2 (by simp [isTupE])
        · cases h
      · exact seq _ _ h
  · rename_i x p a b p2
    split at h
    · rename_i hx
      subst hx
      split at h
      · rename_i hc
        split at h
        · rename_i ia ib ha hb
          cases h
          exact si_rng2 (gl_of xo hc.1) (xo.bl _ hc.2.1) (hf _ _ ha) (hf _ _ hb) (by rw [star_cons hc.2.2.1, star_cons hc.2.2.2]; rfl) (star_cons hc.2.2.2 _ _)
        · cases h
      · cases h
    · split at h
      · rename_i hx
        subst hx
        split at h
        · rename_i hc
          split at h
          · rename_i ia ib ha hb
            cases h
            cases tg with
            | Tuple elts kk tpos => exact si_zip (gl_of xo hc.1) (xo.bl _ hc.2.1) (hf _ _ ha) (hf _ _ hb) (star_cons hc.2.2.1 _ _) (star_cons hc.2.2.2.1 _ _)
            | _ => exact absurd hc.2.2.2.2 (by simp [isTupE])
          · cases h
        · cases h
      · exact seq _ _ h
  · rename_i x p a b d p2
    split at h
    · rename_i hc
      obtain ⟨rfl, h1, h2, h3, h4, h5⟩ := hc
      split at h
      · rename_i ia ib id ha hb hd
        cases h
        exact si_rng3 (gl_of xo h1) (xo.bl _ h2) (hf _ _ ha) (hf _ _ hb) (hf _ _ hd) (star_cons h3 _ _) (star_cons h4 _ _) (star_cons h5 _ _)
      · cases h
    · exact seq _ _ h
  · split at h
    · exact seq _ _ h
    · cases h
theorem tg_ok {X : Cx} {sc : Scope} {ok : Str → Bool} (hN : X.N = c.N) (nd : c.N.Nodup) (hc : X.calm = true) (hok : ∀ x, ok x = true → Loc X.env.scope x ∧ (X.fn x = true ∨ X.env.scope.names.lookup x = some .local)) {tg : Expr} {is : List Nat} {one : Bool} (h : compTg c sc ok tg = some (is, one)) :
    PG X tg (gT X.K is one) := by
  have nm : ∀ {x : Str} {p : Pos} {i : Nat}, ok x = true → idxIn c.N x = some i → PG X (.Name x p) (gName i) := fun {x p i} h1 h2 =>
    pg_name (by rw [hN]; exact nd) (by rw [hN]; exact idxIn_get h2) (hok x h1).1 (hok x h1).2
  have go : ∀ {ts : List Expr} {is : List Nat}, compTg.go c ok ts = some is → PGs X ts (gNames is) ∧ (assignEach ts X.env).length = is.length ∧ (assignEach ts X.env).findIdx? (·.1) = none := by
    intro ts
    induction ts with
    | nil => intro is h; cases h; exact ⟨pgs_nil, rfl, rfl⟩
    | cons t r ih =>
      intro is h
      unfold compTg.go at h
      split at h
      · rename_i hz; cases hz
      · rename_i x p r' hz
        cases hz
        split at h
        · rename_i hx
          split at h
          · rename_i i is' hi hr
            cases h
            obtain ⟨h1, h2, h3⟩ := ih hr
            refine ⟨pgs_cons (nm hx hi) h1 rfl, by simp [assignEach, h2], ?_⟩
            show ((false, assign (.Name x p) X.env) :: assignEach r X.env).findIdx? (·.1) = none
            rw [List.findIdx?_cons]
            simp only [Bool.false_eq_true, if_false]
            rw [h3]; rfl
          · cases h
        · cases h
      · cases h
  unfold compTg at h
  split at h
  · rename_i x p
    split at h
    · rename_i hx
      cases e : idxIn c.N x with
      | none => rw [e] at h; cases h
      | some i => rw [e] at h; cases h; exact nm hx e
    · cases h
  · split at h
    · rename_i hx
      split at h
      · rename_i i j k hi hj hk
        cases h
        exact pg_tup hc (pgs_cons (pg_tup hc (pgs_cons (nm hx.1 hi) (pgs_cons (nm hx.2.1 hj) pgs_nil))) (pgs_cons (nm hx.2.2 hk) pgs_nil))
      · cases h
    · cases h
  · rename_i ts kk p _
    cases e : compTg.go c ok ts with
    | none => rw [e] at h; cases h
    | some is' =>
      rw [e] at h
      cases h
      obtain ⟨h1, h2, h3⟩ := go e
      refine ⟨fun pins s σ H v u Q I r hw => ?_⟩
      rcases hw with hw | hw
      · exact (pg_tup hc h1 h2 h3).run pins s σ H v u Q I r hw
      · exact (pg_unl hc h1 h2 h3).run pins s σ H v u Q I r hw
  · cases h
theorem XOk.blk {X : Cx} {sc scope : Scope} (xo : XOk c Φ γ X sc) (hk : scope.kind = .function) (s : Shared) (H : Hp) (C : Addr) (cl : List (Str × Addr)) (fp : List Addr) : XOk c Φ γ (X.blk s H scope (compEnvC scope cl C X.env) fp) (relS scope sc) where
  N := xo.N
  nd := xo.nd
  cal := ⟨xo.cal.calm, xo.cal.gd, xo.cal.hu, xo.cal.sm⟩
  sc := by show relS scope X.env.scope = _; rw [xo.sc]
  kind := hk
  mgn := xo.mgn
  fn := xo.fn
  gl := xo.gl
  bl := xo.bl
  mt := xo.mt
  sl := xo.sl
  mkc := xo.mkc
  su := xo.su
  xc := xo.xc
  xs := xo.xs
  hf := xo.hf
theorem XOk.tr {X : Cx} {sc : Scope} (xo : XOk c Φ γ X sc) (pn : List (Addr × Obj)) (xe : Value → Shared → Prop) : XOk c Φ γ (X.tr pn xe) sc where
  N := xo.N
  nd := xo.nd
  cal := ⟨xo.cal.calm, xo.cal.gd, xo.cal.hu, xo.cal.sm⟩
  sc := xo.sc
  kind := xo.kind
  mgn := xo.mgn
  fn := xo.fn
  gl := xo.gl
  bl := xo.bl
  mt := xo.mt
  sl := xo.sl
  mkc := xo.mkc
  su := xo.su
  xc := xo.xc
  xs := xo.xs
  hf := xo.hf
end
end DL
set_option maxRecDepth 100000
set_option maxHeartbeats 8000000
namespace DL
open PySem L2
section
variable {c : CE} {Φ : Fns} {γ : List D}
/-- what a compiled comprehension brings -/
structure LC (Φ : Fns) (γ : List D) (X : Cx) (W : WX) (elt tg iter : Expr) (ifs : List Expr) (scope : Scope) (own : List (Str × Nat)) (ie : E) (is : List Nat) (one : Bool) (it : I) (cond : T) : Prop where
  si : SI Φ γ X W tg iter it
  blk : BlkOk X.N X.env.scope scope own
  pg : ∀ (s : Shared) (H : Hp) (C : Addr) (cl : List (Str × Addr)) (fp : List Addr), PG (X.blk s H scope (compEnvC scope cl C X.env) fp) tg (gT X.K is one)
  sc : ∀ (s : Shared) (H : Hp) (C : Addr) (cl : List (Str × Addr)) (fp : List Addr), SC Φ γ (X.blk s H scope (compEnvC scope cl C X.env) fp) W0 ifs cond
  se : ∀ (s : Shared) (H : Hp) (C : Addr) (cl : List (Str × Addr)) (fp : List Addr), SE Φ γ (X.blk s H scope (compEnvC scope cl C X.env) fp) W0 elt ie
  fs : ∀ x, foldedSetIterable iter X.env x = pure x
  own : ∀ i ∈ is, i ∈ own.map (·.2)
def POk (c : CE) (Φ : Fns) (γ : List D) (n : Nat) : Prop :=
  (∀ (sc : Scope) (e : Expr) (ir : E), compE c n sc e = some ir → ∀ (X : Cx) (W : WX), XOk c Φ γ X sc → Takes X W → SE Φ γ X W e ir) ∧
  (∀ (sc : Scope) (e : Expr) (ir : T), compT c n sc e = some ir → ∀ (X : Cx) (W : WX), XOk c Φ γ X sc → Takes X W → ST Φ γ X W e ir ∧ ∀ op v vs p, e = .BoolOp op (v :: vs) p → SW Φ γ X W e ir) ∧
  (∀ (sc : Scope) (elt tg iter : Expr) (ifs : List Expr) (scope : Scope) (ir : E), compLC c n sc elt tg iter ifs scope = some ir → ∀ (X : Cx) (W : WX), XOk c Φ γ X sc → Takes X W →
    ∃ ie is one it cond, ir = .comp ie is one ((ownOf c scope).map (·.2)) it cond ∧ LC Φ γ X W elt tg iter ifs scope (ownOf c scope) ie is one it cond) ∧
  (∀ (sc : Scope) (elt tg iter : Expr) (ifs : List Expr) (tg1 iter1 : Expr) (ifs1 : List Expr) (scope : Scope) (ir : E), compLC2 c n sc elt tg iter ifs tg1 iter1 ifs1 scope = some ir → ∀ (X : Cx) (W : WX), XOk c Φ γ X sc → Takes X W →
    ∃ ie is one it cond is1 one1 it1 cond1, ir = .comp2 ie is one ((ownOf c scope).map (·.2)) it cond is1 one1 it1 cond1 ∧ LC2 Φ γ X W elt tg iter ifs tg1 iter1 ifs1 scope (ownOf c scope) ie is one it cond is1 one1 it1 cond1)
theorem lc2_ok {n : Nat} (ih : POk c Φ γ n) {sc : Scope} {elt tg iter tg1 iter1 : Expr} {ifs ifs1 : List Expr} {scope : Scope} {ir : E} (h : compLC2 c (n + 1) sc elt tg iter ifs tg1 iter1 ifs1 scope = some ir) {X : Cx} {W : WX} (xo : XOk c Φ γ X sc) (tk : Takes X W) :
    ∃ ie is one it cond is1 one1 it1 cond1, ir = .comp2 ie is one ((ownOf c scope).map (·.2)) it cond is1 one1 it1 cond1 ∧ LC2 Φ γ X W elt tg iter ifs tg1 iter1 ifs1 scope (ownOf c scope) ie is one it cond is1 one1 it1 cond1 := by
  unfold compLC2 at h
  split at h
  · rename_i hb
    have bo := blkOk_by hb
    split at h
    · rename_i it is one it1 is1 one1 ie h1 h2 h3 h4 h5
      split at h
      · rename_i hc
        obtain ⟨c1, c2, c3, c4, c5⟩ := hc
        subst c5
        have hblk : BlkOk X.N X.env.scope scope (ownOf c scope) := by rw [xo.N, xo.sc]; exact bo
        have hpg : ∀ {tg : Expr} {is : List Nat} {one : Bool}, compTg c (relS scope sc) (fun x => isLocal (relS scope sc) x || (isCell scope x && isCell (relS scope sc) x)) tg = some (is, one) →
            ∀ (s : Shared) (H : Hp) (C : Addr) (cl : List (Str × Addr)) (fp : List Addr), PG (X.blk s H scope (compEnvC scope cl C X.env) fp) tg (gT X.K is one) := fun h2 s H C cl fp => by
          have xb := xo.blk bo.kind s H C cl fp
          refine tg_ok xb.N xb.nd xb.cal.calm (fun x hx => ?_) h2
          rw [xb.sc]
          simp only [Bool.or_eq_true, Bool.and_eq_true] at hx
          rcases hx with hx | ⟨hx, hx2⟩
          · exact ⟨.inl (isLocal_ok hx), .inr (isLocal_ok hx)⟩
          · refine ⟨.inr (isCell_ok hx2), .inl ?_⟩
            show (scope.names.lookup x == some .cell) = true
            rw [isCell_ok hx]; rfl
        have hse : ∀ (s : Shared) (H : Hp) (C : Addr) (cl : List (Str × Addr)) (fp : List Addr), SE Φ γ (X.blk s H scope (compEnvC scope cl C X.env) fp) W0 elt ie := fun s H C cl fp => ih.1 _ _ _ h5 _ _ (xo.blk bo.kind s H C cl fp) takes0
        have hsi : SI Φ γ X W tg iter it := i_ok xo (fun e ir h => ih.1 _ _ _ h _ _ xo tk) h1
        have hsi1 : ∀ (s : Shared) (H : Hp) (C : Addr) (cl : List (Str × Addr)) (fp : List Addr), SI Φ γ (X.blk s H scope (compEnvC scope cl C X.env) fp) W0 tg1 iter1 it1 := fun s H C cl fp =>
          i_ok (xo.blk bo.kind s H C cl fp) (fun e ir h => ih.1 _ _ _ h _ _ (xo.blk bo.kind s H C cl fp) takes0) h3
        have hown : ∀ {l : List Nat}, l.all (fun i => decide (i ∈ (ownOf c scope).map (·.2))) = true → ∀ i ∈ l, i ∈ (ownOf c scope).map (·.2) := fun z i hi => of_decide_eq_true (List.all_eq_true.mp z i hi)
        split at h
        · cases h
          exact ⟨ie, is, one, it, .yes, is1, one1, it1, .yes, rfl, hsi, hblk, hpg h2, fun _ _ _ _ _ => sc_nil, hsi1, hpg h4, fun _ _ _ _ _ => sc_nil, hse, folded_ok c1 _, fun env => folded_ok c2 env, hown c3, hown c4⟩
        · rename_i t
          cases et : compT c n (relS scope sc) t with
          | none => rw [et] at h; cases h
          | some t' =>
            rw [et] at h
            cases h
            exact ⟨ie, is, one, it, .yes, is1, one1, it1, t', rfl, hsi, hblk, hpg h2, fun _ _ _ _ _ => sc_nil, hsi1, hpg h4, fun s H C cl fp => sc_one (ih.2.1 _ _ _ et _ _ (xo.blk bo.kind s H C cl fp) takes0).1, hse, folded_ok c1 _, fun env => folded_ok c2 env, hown c3, hown c4⟩
        · cases h
      · cases h
    · cases h
  · cases h
theorem lc_ok {n : Nat} (ih : POk c Φ γ n) {sc : Scope} {elt tg iter : Expr} {ifs : List Expr} {scope : Scope} {ir : E} (h : compLC c (n + 1) sc elt tg iter ifs scope = some ir) {X : Cx} {W : WX} (xo : XOk c Φ γ X sc) (tk : Takes X W) :
    ∃ ie is one it cond, ir = .comp ie is one ((ownOf c scope).map (·.2)) it cond ∧ LC Φ γ X W elt tg iter ifs scope (ownOf c scope) ie is one it cond := by
  unfold compLC at h
  split at h
  · rename_i hb
    have bo := blkOk_by hb
    split at h
    · rename_i it is one ie h1 h2 h3
      split at h
      · rename_i hc
        have hblk : BlkOk X.N X.env.scope scope (ownOf c scope) := by rw [xo.N, xo.sc]; exact bo
        have hpg : ∀ (s : Shared) (H : Hp) (C : Addr) (cl : List (Str × Addr)) (fp : List Addr), PG (X.blk s H scope (compEnvC scope cl C X.env) fp) tg (gT X.K is one) := fun s H C cl fp => by
          have xb := xo.blk bo.kind s H C cl fp
          refine tg_ok xb.N xb.nd xb.cal.calm (fun x hx => ?_) h2
          rw [xb.sc]
          simp only [Bool.or_eq_true, Bool.and_eq_true] at hx
          rcases hx with hx | ⟨hx, hx2⟩
          · exact ⟨.inl (isLocal_ok hx), .inr (isLocal_ok hx)⟩
          · refine ⟨.inr (isCell_ok hx2), .inl ?_⟩
            show (scope.names.lookup x == some .cell) = true
            rw [isCell_ok hx]; rfl
        have hse : ∀ (s : Shared) (H : Hp) (C : Addr) (cl : List (Str × Addr)) (fp : List Addr), SE Φ γ (X.blk s H scope (compEnvC scope cl C X.env) fp) W0 elt ie := fun s H C cl fp => ih.1 _ _ _ h3 _ _ (xo.blk bo.kind s H C cl fp) takes0
        have hsi : SI Φ γ X W tg iter it := i_ok xo (fun e ir h => ih.1 _ _ _ h _ _ xo tk) h1
        have hown : ∀ i ∈ is, i ∈ (ownOf c scope).map (·.2) := fun i hi => by
          have z := List.all_eq_true.mp hc.2 i hi
          exact of_decide_eq_true z
        have hfs : ∀ x, foldedSetIterable iter X.env x = pure x := folded_ok hc.1 _
        split at h
        · cases h
          exact ⟨ie, is, one, it, .yes, rfl, hsi, hblk, hpg, fun _ _ _ _ _ => sc_nil, hse, hfs, hown⟩
        · rename_i t
          cases et : compT c n (relS scope sc) t with
          | none => rw [et] at h; cases h
          | some t' =>
            rw [et] at h
            cases h
            exact ⟨ie, is, one, it, t', rfl, hsi, hblk, hpg, fun s H C cl fp => sc_one (ih.2.1 _ _ _ et _ _ (xo.blk bo.kind s H C cl fp) takes0).1, hse, hfs, hown⟩
        · cases h
      · cases h
    · cases h
  · cases h
theorem LC.sexp {X : Cx} {W : WX} {sc : Scope} {elt tg iter : Expr} {ifs : List Expr} {scope : Scope} {own : List (Str × Nat)} {ie : E} {is : List Nat} {one : Bool} {it : I} {cond : T} {pos : Pos} (xo : XOk c Φ γ X sc) (l : LC Φ γ X W elt tg iter ifs scope own ie is one it cond) :
    SE Φ γ X W (.ListComp elt [⟨tg, iter, ifs, 0⟩] scope pos) (.comp ie is one (own.map (·.2)) it cond) :=
  se_comp xo.cal.calm (by rw [xo.N]; exact xo.nd) l.si l.blk l.pg l.sc l.se l.fs l.own
theorem Cal.u64 {X : Cx} (c : Cal X) : X.A.units + 64 < cLine := by have := c.hu; omega
theorem se_eqOf {X : Cx} {W : WX} {o : CmpOp} {a b : Expr} {ia ib : E} {pos : Pos} (hu : X.A.units + 64 < cLine) (ha : SE Φ γ X W a ia) (hb : SE Φ γ X W b ib) (hm : behindInMarks o b = false) : SE Φ γ X W (.Compare a [o] [b] pos) (eqOf c o ia ib) := by
  unfold eqOf
  split
  · cases o with
    | Eq => exact se_eqd hu (.inl ⟨rfl, rfl⟩) ha hb hm
    | NotEq => exact se_eqd hu (.inr ⟨rfl, rfl⟩) ha hb hm
    | _ => exact se_cmp hu ha hb hm
  · exact se_cmp hu ha hb hm
theorem se_compEq {X : Cx} {W : WX} {sc : Scope} {o : CmpOp} {p : Pos} {a b : Expr} {ia ib ir : E} (xo : XOk c Φ γ X sc) (tk : Takes X W) (h : compEq c o p ia ib = some ir) (ha : SE Φ γ X W a ia) (hb : SE Φ γ X W b ib) (hm : ∀ o, behindInMarks o b = false) : SE Φ γ X W (.Compare a [o] [b] p) ir := by
  unfold compEq at h
  split at h
  · split at h
    · rename_i t ht
      split at h
      · cases h; exact se_eqI (neg := false) xo.cal.u64 tk ha hb (hm _) (xo.eqT ht)
      · cases h; exact se_eqI (neg := true) xo.cal.u64 tk ha hb (hm _) (xo.eqT ht)
      · cases h
    · cases h
  · cases h
    exact se_eqOf xo.cal.u64 ha hb (hm _)
theorem st_compEq {X : Cx} {W : WX} {sc : Scope} {o : CmpOp} {p : Pos} {a b : Expr} {ia ib ir : E} (xo : XOk c Φ γ X sc) (tk : Takes X W) (h : compEqT c o p ia ib = some ir) (ha : SE Φ γ X W a ia) (hb : SE Φ γ X W b ib) (hm : ∀ o, behindInMarks o b = false) : ST Φ γ X W (.Compare a [o] [b] p) (.e ir) := by
  unfold compEqT at h
  split at h
  · split at h
    · rename_i t ht
      split at h
      · cases h; exact st_eqI (neg := false) xo.cal.u64 tk ha hb (hm _) (xo.eqT ht)
      · cases h; exact st_eqI (neg := true) xo.cal.u64 tk ha hb (hm _) (xo.eqT ht)
      · cases h
    · cases h
  · cases h
    exact st_cmp xo.cal.u64 ha hb (hm _)
theorem few_of {X : Cx} {pos : Pos} : ∀ {es : List Expr}, noStars es = true → (backTo pos (starEach es X.env)).all (fun x => !x.1) = true
  | [], _ => rfl
  | e :: es, h => by
    unfold noStars at h
    simp only [List.all_cons, Bool.and_eq_true] at h
    rw [star_cons h.1]
    show (true && (backTo pos (starEach es X.env)).all (fun x => !x.1)) = true
    rw [Bool.true_and]
    exact few_of h.2
theorem attr_ok {X : Cx} {W : WX} {sc : Scope} {f : Expr → Option E} (xo : XOk c Φ γ X sc) (tk : Takes X W) (hf : ∀ e ir, f e = some ir → SE Φ γ X W e ir) {o : Expr} {m : Str} {ap p : Pos} {args : List Expr} {ir : E} (h : compAttr c f o m ap args p = some ir) :
    SE Φ γ X W (.Call (.Attribute o m ap) args [] p) ir := by
  have hu := xo.cal.u64
  unfold compAttr at h
  split at h
  · rename_i cs hcs
    split at h
    · rename_i hc
      obtain ⟨c1, c2, c3, c4⟩ := hc
      split at h
      · rename_i io ies ho ea
        cases h
        obtain ⟨sa, st⟩ := es_ok hf ea
        cases args with
        | nil => cases ea; exact se_meth0 (hf _ _ ho) tk (xo.mtT hcs c4) (base_ok c1 _ _ _) c2
        | cons e es =>
          have st' := st
          unfold noStars at st
          simp only [List.all_cons, Bool.and_eq_true] at st
          refine se_meth (hf _ _ ho) tk sa (xo.mtT hcs c4) (base_ok c1 _ _ _) ?_ c2 (star_cons st.1 _ _) (stars_any st.2)
          unfold methodCallForm
          rw [few_of st']
          have e1 : decide ((e :: es).length + 0 + (if (backToKw p (keywordEach [] X.env)).isEmpty then 0 else 1) < 30) = true := decide_eq_true c3
          rw [e1]; rfl
      · cases h
    · cases h
  · split at h
    · split at h
      · rename_i hc
        obtain ⟨rfl, c2, c3, c4, c5⟩ := hc
        split at h
        · rename_i o k d ho hk hd
          cases h
          refine se_get hu (hf _ _ ho) (hf _ _ hk) (hf _ _ hd) ⟨base_ok c2 _ _ _, ?_, c5, ?_⟩
          · rw [star_cons c3, star_cons c4]; rfl
          · rw [star_cons c3, star_cons c4]; rfl
        · cases h
      · cases h
    · split at h
      · rename_i m o' a' hm ho ha
        split at h
        · rename_i hc
          cases h
          have em := mtOf_ok hm
          subst em
          exact se_mt (hf _ _ ho) (hf _ _ ha) (star_cons hc.2.1 _ _) (base_ok hc.1 _ _ _) hc.2.2
        · cases h
      · cases h
    · cases h
theorem e_ok {n : Nat} (ih : POk c Φ γ n) {sc : Scope} {e : Expr} {ir : E} (h : compE c (n + 1) sc e = some ir) {X : Cx} {W : WX} (xo : XOk c Φ γ X sc) (tk : Takes X W) : SE Φ γ X W e ir := by
  have rcE : ∀ e ir, compE c n sc e = some ir → SE Φ γ X W e ir := fun e ir h => ih.1 _ _ _ h _ _ xo tk
  have hu := xo.cal.u64
  unfold compE at h
  have h0 := Option.map_eq_some_iff.mp h
  clear h
  obtain ⟨ir0, h, rfl⟩ := h0
  suffices z : SE Φ γ X W e ir0 by
    unfold wrapO
    split
    · exact se_own z
    · split
      · exact se_frz z
      · split
        · exact se_nst z
        · split
          · exact se_unn z
          · exact z
  split at h
  · -- a name
    rename_i x p
    split at h
    · rename_i hp
      have pn := plainName_ok hp
      split at h
      · rename_i hv
        cases e2 : idxIn c.N x with
        | none => rw [e2] at h; cases h
        | some i =>
          rw [e2] at h; cases h
          exact se_var (by rw [xo.N]; exact idxIn_get e2) (by rw [xo.sc]; exact vis_ok hv) pn.1 pn.2
      · split at h
        · rename_i hg
          cases e2 : assoc c.gls x with
          | none => rw [e2] at h; cases h
          | some i =>
            rw [e2] at h; cases h
            obtain ⟨v, u, h2, h3, h4⟩ := xo.gl x i e2
            exact se_glc (gl_of xo hg) h2 h3 h4 pn.1
        · cases h
    · cases h
  · cases h; exact se_int
  · cases h; exact se_str
  · cases h; exact se_bl
  · cases h; exact se_non
  · rename_i es k p
    cases ea : compEsS (compE c n sc) es with
    | none => rw [ea] at h; cases h
    | some ies => rw [ea] at h; cases h; exact se_tup (ess_ok rcE ea)
  · rename_i es p
    cases ea : compEs (compE c n sc) es with
    | none => rw [ea] at h; cases h
    | some ies => rw [ea] at h; cases h; exact se_lst (es_ok rcE ea).1
  · rename_i ks vs p
    split at h
    · rename_i h15
      cases ea : compPs (compE c n sc) ks vs with
      | none => rw [ea] at h; cases h
      | some ies =>
        rw [ea] at h; cases h
        obtain ⟨h1, h2, h3⟩ := ps_ok (pos := p) rcE ea
        cases ks with
        | nil =>
          cases vs with
          | nil => cases ea; exact se_dct0
          | cons _ _ => simp at h3
        | cons k ks => exact se_dct h1 h2 h3 h15
    · cases h
  · split at h
    · rename_i a b ha hb; cases h; exact se_bin (rcE _ _ ha) (rcE _ _ hb)
    · cases h
  · rename_i a p
    cases e2 : compE c n sc a with
    | none => rw [e2] at h; cases h
    | some ia => rw [e2] at h; cases h; exact se_neg (rcE _ _ e2)
  · rename_i a p
    cases e2 : compE c n sc a with
    | none => rw [e2] at h; cases h
    | some ia => rw [e2] at h; cases h; exact se_not (rcE _ _ e2)
  · split at h
    · rename_i hs
      split at h
      · rename_i a b ha hb; exact se_compEq xo tk h (rcE _ _ ha) (rcE _ _ hb) (marks_ok hs)
      · cases h
    · cases h
  · split at h
    · rename_i hs
      split at h
      · rename_i a b d ha hb hd; cases h; exact se_chain hu (rcE _ _ ha) (rcE _ _ hb) (rcE _ _ hd) (marks_ok hs _)
      · cases h
    · cases h
  · exact se_one (rcE _ _ h)
  · split at h
    · rename_i a b ha hb; cases h; exact se_and (rcE _ _ ha) (rcE _ _ hb)
    · cases h
  · split at h
    · rename_i a b ha hb; cases h; exact se_or (rcE _ _ ha) (rcE _ _ hb)
    · cases h
  · split at h
    · rename_i t a b ht ha hb; cases h; exact se_ife (ih.2.1 _ _ _ ht _ _ xo tk).1 (rcE _ _ ha) (rcE _ _ hb)
    · cases h
  · split at h
    · rename_i a l hh ha hl hhi; cases h; exact se_slc (rcE _ _ ha) (o_ok rcE hl) (o_ok rcE hhi)
    · cases h
  · split at h
    · rename_i hs
      split at h
      · rename_i a b ha hb; cases h; exact se_idx hu (rcE _ _ ha) (rcE _ _ hb) (plainIx_ok hs)
      · cases h
    · cases h
  · exact call_ok xo tk rcE h
  · split at h
    · rename_i hc
      obtain ⟨rfl, rfl, c3, c4, c5⟩ := hc
      split at h
      · rename_i a d ha hd
        cases h
        exact se_maxd xo.cal.calm hu (gl_of xo c3) (xo.bl _ c4) (rcE _ _ ha) (rcE _ _ hd) (star_cons c5 _ _)
      · cases h
    · cases h
  · exact attr_ok xo tk rcE h
  · rename_i a m p
    split at h
    · rename_i cs hcs
      split at h
      · rename_i hc
        cases e2 : compE c n sc a with
        | none => rw [e2] at h; cases h
        | some ia =>
          rw [e2] at h
          cases h
          exact se_fld (rcE _ _ e2) (base_ok hc _ _ _) fun C i hi => xo.sl _ cs C i hcs hi
      · cases h
    · cases h
  · obtain ⟨ie, is, one, it, cond, rfl, l⟩ := ih.2.2.1 _ _ _ _ _ _ _ h _ _ xo tk
    exact l.sexp xo
  · obtain ⟨ie, is, one, it, cond, is1, one1, it1, cond1, rfl, l⟩ := ih.2.2.2 _ _ _ _ _ _ _ _ _ _ h _ _ xo tk
    exact se_comp2 xo.cal.calm (by rw [xo.N]; exact xo.nd) l
  · cases h
theorem t_ok {n : Nat} (ih : POk c Φ γ n) {sc : Scope} {e : Expr} {ir : T} (h : compT c (n + 1) sc e = some ir) {X : Cx} {W : WX} (xo : XOk c Φ γ X sc) (tk : Takes X W) :
    ST Φ γ X W e ir ∧ ∀ op v vs p, e = .BoolOp op (v :: vs) p → SW Φ γ X W e ir := by
  have rcE : ∀ e ir, compE c n sc e = some ir → SE Φ γ X W e ir := fun e ir h => ih.1 _ _ _ h _ _ xo tk
  have rct : ∀ e ir, compT c n sc e = some ir → ST Φ γ X W e ir ∧ ∀ op v vs p, e = .BoolOp op (v :: vs) p → SW Φ γ X W e ir := fun e ir h => ih.2.1 _ _ _ h _ _ xo tk
  have hu := xo.cal.u64
  unfold compT at h
  split at h
  · rename_i a p
    cases e2 : compT c n sc a with
    | none => rw [e2] at h; cases h
    | some ia => rw [e2] at h; cases h; exact ⟨st_not (rct _ _ e2).1, fun _ _ _ _ z => by cases z⟩
  · rename_i op a p
    have sw : SW Φ γ X W (.BoolOp op [a] p) ir := by
      cases op with
      | And => exact sw_and1 (rct _ _ h).1
      | Or => exact sw_or1 (rct _ _ h).1
    exact ⟨sw.st, fun _ _ _ _ _ => sw⟩
  · split at h
    · rename_i a b ha hb
      cases h
      have sw := sw_and (rct _ _ ha).1 ((rct _ _ hb).2 _ _ _ _ rfl)
      exact ⟨sw.st, fun _ _ _ _ _ => sw⟩
    · cases h
  · split at h
    · rename_i a b ha hb
      cases h
      have sw := sw_or (rct _ _ ha).1 ((rct _ _ hb).2 _ _ _ _ rfl)
      exact ⟨sw.st, fun _ _ _ _ _ => sw⟩
    · cases h
  · split at h
    · rename_i hs
      split at h
      · rename_i a b ha hb
        obtain ⟨ir', h', rfl⟩ := Option.map_eq_some_iff.mp h
        exact ⟨st_compEq xo tk h' (rcE _ _ ha) (rcE _ _ hb) (marks_ok hs), fun _ _ _ _ z => by cases z⟩
      · cases h
    · cases h
  · split at h
    · rename_i hs
      split at h
      · rename_i a b d ha hb hd; cases h; exact ⟨st_chain hu (rcE _ _ ha) (rcE _ _ hb) (rcE _ _ hd) (marks_ok hs _), fun _ _ _ _ z => by cases z⟩
      · cases h
    · cases h
  · split at h
    · rename_i hp
      cases e2 : compE c n sc e with
      | none => rw [e2] at h; cases h
      | some ia =>
        rw [e2] at h; cases h
        exact ⟨st_plain (rcE _ _ e2) (plainTest_ok hp _), fun _ _ _ _ z => by subst z; cases hp⟩
    · cases h
theorem all_ok : ∀ n : Nat, POk c Φ γ n
  | 0 => ⟨fun _ _ _ h => (by unfold compE at h; cases h), fun _ _ _ h => (by unfold compT at h; cases h), fun _ _ _ _ _ _ _ h => (by unfold compLC at h; cases h), fun _ _ _ _ _ _ _ _ _ _ h => (by unfold compLC2 at h; cases h)⟩
  | n + 1 => ⟨fun _ _ _ h X W xo tk => e_ok (all_ok n) h xo tk, fun _ _ _ h X W xo tk => t_ok (all_ok n) h xo tk, fun _ _ _ _ _ _ _ h X W xo tk => lc_ok (all_ok n) h xo tk, fun _ _ _ _ _ _ _ _ _ _ h X W xo tk => lc2_ok (all_ok n) h xo tk⟩
end
end DL
set_option maxRecDepth 100000
set_option maxHeartbeats 8000000
namespace DL
open PySem L2
/-! ### a, b = x, y -/
section
variable {Φ : Fns} {γ : List D} {X : Cx} {W : WX} {pos : Pos}
theorem ss_par2 {i j : Nat} {x y : Str} {a b : Expr} {px py pt : Pos} {kt k2 pt2} {ies : Es} (hc : X.calm = true) (hN : X.N.Nodup) (hi : X.N[i]? = some x) (hj : X.N[j]? = some y) (hij : i ≠ j)
    (hx : X.env.scope.names.lookup x = some .local) (hy : X.env.scope.names.lookup y = some .local) (ha : SA Φ γ X W [a, b] ies)
    (hw : swappedStores [.Tuple [.Name x px, .Name y py] kt pt] (.Tuple [a, b] k2 pt2) X.env = pure (some [x, y])) :
    SS Φ γ X W (.Assign [.Tuple [.Name x px, .Name y py] kt pt] (.Tuple [a, b] k2 pt2) pos) (.par [i, j] ies) := by
  obtain ⟨ta, pa, ra⟩ := ha
  refine ⟨_, ps_par hc hN hi hj hij hx hy pa hw rfl, fun σ δ G M H N F ok er sim h => ?_⟩
  unfold execS at h
  refine ra σ δ G M H _ _ _ ok er (fun ds M1 q vs G1 H1 s1 t => ?_) (sim.pz er) h
  obtain ⟨_, hl, q⟩ := q
  match ds, vs, t, hl with
  | [d1, d2], _, .cons (v := v1) h1 (.cons (v := v2) h2 .nil), _ =>
    exact ⟨v1, v2, rfl, sim.nx _ _ q _ G1 H1 s1 (((er.mono s1.sub).set i h1).set j h2)⟩
theorem ss_par3 {i j l : Nat} {x y z : Str} {a b c : Expr} {px py pz pt : Pos} {kt k2 pt2} {ies : Es} (hc : X.calm = true) (hN : X.N.Nodup) (hi : X.N[i]? = some x) (hj : X.N[j]? = some y) (hl : X.N[l]? = some z) (hij : i ≠ j) (hil : i ≠ l) (hjl : j ≠ l)
    (hx : X.env.scope.names.lookup x = some .local) (hy : X.env.scope.names.lookup y = some .local) (hz : X.env.scope.names.lookup z = some .local) (ha : SA Φ γ X W [a, b, c] ies)
    (hw : swappedStores [.Tuple [.Name x px, .Name y py, .Name z pz] kt pt] (.Tuple [a, b, c] k2 pt2) X.env = pure (some [x, y, z])) :
    SS Φ γ X W (.Assign [.Tuple [.Name x px, .Name y py, .Name z pz] kt pt] (.Tuple [a, b, c] k2 pt2) pos) (.par [i, j, l] ies) := by
  obtain ⟨ta, pa, ra⟩ := ha
  refine ⟨_, ps_par3 hc hN hi hj hl hij hil hjl hx hy hz pa hw rfl, fun σ δ G M H N F ok er sim h => ?_⟩
  unfold execS at h
  refine ra σ δ G M H _ _ _ ok er (fun ds M1 q vs G1 H1 s1 t => ?_) (sim.pz er) h
  obtain ⟨_, hl, q⟩ := q
  match ds, vs, t, hl with
  | [d1, d2, d3], _, .cons (v := v1) h1 (.cons (v := v2) h2 (.cons (v := v3) h3 .nil)), _ =>
    exact ⟨v1, v2, v3, rfl, sim.nx _ _ q _ G1 H1 s1 ((((er.mono s1.sub).set i h1).set j h2).set l h3)⟩
/-- the tuple is made, then taken apart -/
theorem ss_parN {ts es : List Expr} {kt k2 : Nat} {pt pt2 : Pos} {is : List Nat} {ies : Es} (hg : PG X (.Tuple ts kt pt) (gT X.K is false)) (ha : SA Φ γ X W es ies) (hw : swappedStores [.Tuple ts kt pt] (.Tuple es k2 pt2) X.env = pure none) :
    SS Φ γ X W (.Assign [.Tuple ts kt pt] (.Tuple es k2 pt2) pos) (.par is ies) := by
  obtain ⟨ta, pa, ra⟩ := ha
  refine ⟨_, ps_asg (pe_tup pa) hg rfl hw rfl, fun σ δ G M H N F ok er sim h => ?_⟩
  unfold execS at h
  refine ra σ δ G M H _ _ _ ok er (fun ds M1 q vs G1 H1 s1 t => ?_) (sim.pz er) h
  obtain ⟨hsz, hl, q⟩ := q
  refine ⟨by rw [t.length]; exact hsz, fun p hp => ?_⟩
  have s2 := s1.allocG (o := HO.tup vs) hp
  have e := sub_upd (o := HO.tup vs) (s1.ok.noG hp)
  refine gT_ok (δ' := (is.zip ds).foldl (fun δ p => δ.set p.1 (some p.2)) δ) s2.ok (er.mono s2.sub) (.tup (SqT.of upd_same) (t.mono e)) (by unfold bindT; simp [hl]) fun σ' er' _ => ?_
  exact sim.nx _ _ q σ' _ _ s2 er'
/-- a, b = e, e any tuple -/
theorem ss_unp {ts : List Expr} {kt : Nat} {pt : Pos} {is : List Nat} {e : Expr} {ie : E} (hg : PG X (.Tuple ts kt pt) (gT X.K is false)) (he : SE Φ γ X W e ie) (hs : swapsWithSole [.Tuple ts kt pt] e pos.line X.env = pure false) (hw : swappedStores [.Tuple ts kt pt] e X.env = pure none) :
    SS Φ γ X W (.Assign [.Tuple ts kt pt] e pos) (.unp is ie) := by
  obtain ⟨t1, p1, r1⟩ := he
  refine ⟨_, ps_asg p1 hg hs hw rfl, fun σ δ G M H N F ok er sim h => ?_⟩
  unfold execS at h
  show t1 σ H _
  refine run_e r1 ok er (sim.pz er) h fun r M1 v G1 H1 q s1 dv => ?_
  obtain ⟨δ', hb, q⟩ := q
  exact gT_ok s1.ok (er.mono s1.sub) dv hb fun σ' er' _ => sim.nx _ _ q σ' G1 H1 s1 er'
end
/-! ### which stores are exchanged -/
def isStar : Expr → Bool
  | .Starred .. => true
  | _ => false
def swapP (sc : Scope) (ts vs : List Expr) : Option (Option (List Str)) :=
  if (!(ts.length == 2 || ts.length == 3) || vs.length != ts.length) = true then some none
  else if vs.any isStar = true then some none
  else
    let line := (ts.head?.map (·.pos.line)).getD 0
    let names := ts.filterMap fun
      | .Name id pos => if sc.names.lookup id == some .local && pos.line == line then some id else none
      | _ => none
    if (names.length != ts.length || names.eraseDups.length != names.length) = true then some none
    else if vs.all (foldedForSure 8) = true then some none
    else if vs.all (constantsAlone 8) = true then none
    else some (some names)
theorem swapP_ok {sc : Scope} {env : Env} {ts vs : List Expr} {k k2 : Nat} {p p2 : Pos} {r : Option (List Str)} (hs : env.scope = sc) (hk : sc.kind = .function) (h : swapP sc ts vs = some r) : swappedStores [.Tuple ts k p] (.Tuple vs k2 p2) env = pure r := by
  have hb : env.blockKind = .function := by
    unfold Env.blockKind
    rw [hs, hk]; rfl
  have hkind : ∀ id, env.kindOf id = sc.names.lookup id := fun id => by unfold Env.kindOf; rw [hs]
  unfold swappedStores
  unfold swapP at h
  simp only [hb, hkind, bne_self_eq_false, Bool.or_false]
  split at h
  · rename_i h1
    cases h
    rw [if_pos h1]
  · rename_i h1
    rw [if_neg h1]
    split at h
    · rename_i h2
      cases h
      exact if_pos h2
    · rename_i h2
      refine (if_neg h2).trans ?_
      simp only at h
      split at h
      · rename_i h3
        cases h
        exact if_pos h3
      · rename_i h3
        refine (if_neg h3).trans ?_
        split at h
        · rename_i h4
          cases h
          exact if_pos h4
        · rename_i h4
          refine (if_neg h4).trans ?_
          split at h
          · cases h
          · rename_i h5
            cases h
            exact if_neg h5
end DL
set_option maxRecDepth 100000
set_option maxHeartbeats 2000000
namespace DL
open PySem L2 PyProof.Rows
/-! ### isinstance(e, (C, D, ..)), e the held error -/
def nmE (l : List (Str × Pos)) : List Expr := l.map fun p => .Name p.1 p.2
theorem pa_names {X : Cx} : ∀ (l : List (Str × Pos)) (as : List Addr), l.length = as.length → (∀ q ∈ List.zip l as, Gl X q.1.1 ∧ X.mg q.1.1 = some (.ref q.2) ∧ (q.1.1 == ("__debug__" : Str)) = false) → ∃ t : TA, PA X (nmE l) t ∧ ∀ (σ : L2.St) (H : Hp) (Q : List V → Hp → Prop), Q (as.map V.ref) H → t σ H Q
  | [], [], _, _ => ⟨_, pa_nil, fun σ H Q q => q⟩
  | [], _ :: _, h, _ => by simp at h
  | _ :: _, [], h, _ => by simp at h
  | q :: l, a :: as, h, hq => by
    obtain ⟨h1, h2, h3⟩ := hq (q, a) (by simp)
    obtain ⟨t, pt, rt⟩ := pa_names l as (by simpa using h) fun z hz => hq z (by simp [hz])
    refine ⟨_, pa_cons (pe_glob h1 h2 (v := .ref a) rfl h3) pt (star_nm q l X.env), fun σ H Q qq => ?_⟩
    exact rt σ H _ qq
where star_nm (q : Str × Pos) (l : List (Str × Pos)) (env : Env) : starEach (Expr.Name q.1 q.2 :: nmE l) env = (false, eval (.Name q.1 q.2) env) :: starEach (nmE l) env := rfl
def rIsT (K : PySem.W.Frag) (cls : Value) (d : Option Addr) (a : Addr) : List V → Hp → VK → Prop := fun xs H Q => ∃ (tp : Addr) (as : List Addr) (b : Bool) (cA : Addr), xs = [.ref a, .ref tp] ∧ H tp = some (.tup (as.map V.ref)) ∧ cls = .ref cA ∧ ExcC K cA ∧ PySem.W.kitAny K (.ref cA) (as.map Value.ref) = some b ∧ (∀ dd, d = some dd → ∃ fs, H dd = some (.xd fs)) ∧ Q (.bl b) H
theorem vals_refs : ∀ {as : List Addr} {us : List Value}, Vals (as.map V.ref) us → us = as.map Value.ref
  | [], us, h => by cases h; rfl
  | a :: as, us, h => by
    cases h with
    | cons h1 h2 =>
      rw [vals_refs h2]
      cases h1
      rfl
section
variable {Φ : Fns} {X : Cx} {W : WX} {a : Addr} {oe : Obj} {cls : Value} {d : Option Addr} {C : Str} {fs : List (Str × D)}
theorem call_isT (hp : (a, oe) ∈ X.pn) (hz : Zc cls d oe) (hf : ∃ vs, oe.data = .fields vs) : CallR X (.builtin "isinstance") (rIsT X.K cls d a) := by
  intro pins s σ H xs us Q I r h
  obtain ⟨tp, as, b, cA, rfl, ht, hcl, E, e, hd, q⟩ := h
  cases r with
  | cons rx rr =>
    cases rr with
    | cons rt rr =>
      cases rr
      cases rx
      cases rt
      have hcm : (PySem.W.clsIn X.K cA).isSome = true := by
        obtain ⟨cd, hc, _⟩ := PySem.W.any_some E.hd
        rw [hc]; rfl
      obtain ⟨od, J⟩ := inst_of hp hz hf hcl I hd
      obtain ⟨_, its, rv, o, h1, h2, n, h3⟩ := (show ObjOk X.prog X.w H s.heap tp (.tup (as.map V.ref)) from I.hok tp _ ht)
      have ei := vals_refs rv
      obtain ⟨oc, od2, oda, osl⟩ := o
      simp only at h2 h3
      subst h2 h3
      subst ei
      exact PySem.W.kia_tup (PySem.W.kitx_exc hcm E.hg E.hk E.hs E.ha E.hn E.ht E.hm) I.kIn J h1 e (fun z => nomatch z) fun tk => ⟨.bl b, H, I.kept (t' := tk) fun _ _ z => z, rfl, q⟩
theorem se_isET {cA : Addr} {e : Expr} {ie : E} {l : List (Str × Pos)} {as : List Addr} {kk : Nat} {p p4 pos : Pos} {t : List (Str × Bool)} (hp : (a, oe) ∈ X.pn) (hgi : Gl X "isinstance") (hmi : X.mg "isinstance" = none) (hl : l.length = as.length) (hle : l.length ≤ 100)
    (hq : ∀ q ∈ List.zip l as, Gl X q.1.1 ∧ X.mg q.1.1 = some (.ref q.2) ∧ (q.1.1 == ("__debug__" : Str)) = false) (hcl : cls = .ref cA) (E : ExcC X.K cA) (hz : Zc cls d oe) (hf : ∃ vs, oe.data = .fields vs) (he : SE Φ [.exc a d C fs] X W e ie)
    (hst : starEach [e, .Tuple (nmE l) kk p4] X.env = (false, eval e X.env) :: starEach [.Tuple (nmE l) kk p4] X.env) (ht : ∀ b, assoc t C = some b → PySem.W.kitAny X.K (.ref cA) (as.map Value.ref) = some b) :
    SE Φ [.exc a d C fs] X W (.Call (.Name "isinstance" p) [e, .Tuple (nmE l) kk p4] [] pos) (.isE ie t) := by
  obtain ⟨ta, pa, ra⟩ := he
  obtain ⟨tn, pn, rn⟩ := pa_names l as hl hq
  refine ⟨_, pe_callB (call_isT hp hz hf) hgi hmi isi_boot (pa_cons pa (pa_cons (pe_tup pn) pa_nil) hst) (by decide) (by decide) hst, fun σ δ G M H Q Qd Zd ok er hq' hzz h => ?_⟩
  unfold evalE at h
  show ta σ H _
  refine run_e ra ok er hzz h fun r M1 v G1 H1 q s1 dv => ?_
  obtain ⟨p', dd, C', fs', b, e1, e2, e3, q⟩ := q
  simp only [List.getElem?_cons_zero, Option.some.injEq, D.exc.injEq] at e2
  obtain ⟨rfl, rfl, rfl, rfl⟩ := e2
  rw [e1] at dv
  show tn σ H1 _
  refine rn σ H1 _ ⟨by rw [List.length_map, ← hl, sizeLine_eq]; omega, fun pt hpt => ?_⟩
  have s2 := s1.alloc (o := HO.tup (as.map V.ref)) hpt
  generalize hfs : fs = fs2 at dv
  cases dv with
  | exc g l' t' => exact ⟨pt, as, b, cA, rfl, upd_same, hcl, E, ht b e3, fun dd hd => (by cases hd; exact ⟨_, s2.ok.sub _ _ g⟩), hq' _ _ q _ G1 _ s2 (.bl b)⟩
  | excN => exact ⟨pt, as, b, cA, rfl, upd_same, hcl, E, ht b e3, fun dd hd => (by cases hd), hq' _ _ q _ G1 _ s2 (.bl b)⟩
end
end DL
set_option maxRecDepth 100000
set_option maxHeartbeats 2000000
namespace DL
open PySem L2 PyProof.Rows
/-! ### the suite of an except clause: a small compiler of its own -/
def namesOf : List Expr → Option (List (Str × Pos))
  | [] => some []
  | .Name x p :: es => (namesOf es).map ((x, p) :: ·)
  | _ :: _ => none
theorem namesOf_ok : ∀ {es : List Expr} {l : List (Str × Pos)}, namesOf es = some l → es = nmE l
  | [], l, h => by cases h; rfl
  | e :: es, l, h => by
    cases e with
    | Name x p =>
      simp only [namesOf] at h
      obtain ⟨l', h1, rfl⟩ := Option.map_eq_some_iff.mp h
      rw [namesOf_ok h1]
      rfl
    | _ => simp [namesOf] at h
/-- which of the errors' classes stand below one of some -/
def isaTs (su : List (Str × List Str)) (Ds : List Str) : List (Str × Bool) := su.map fun p => (p.1, Ds.any fun D0 => decide (D0 ∈ p.2))
theorem assoc_isaTs {su : List (Str × List Str)} {Ds : List Str} {C : Str} {b : Bool} (h : assoc (isaTs su Ds) C = some b) : ∃ as, assoc su C = some as ∧ (Ds.any fun D0 => decide (D0 ∈ as)) = b := by
  induction su with
  | nil => cases h
  | cons p su ih =>
    unfold isaTs at h ih
    simp only [List.map_cons, assoc] at h
    unfold assoc
    split at h
    · rename_i e
      rw [if_pos e]
      cases h
      exact ⟨_, rfl, rfl⟩
    · rename_i e
      rw [if_neg e]
      exact ih h
theorem assoc_isaT1 {su : List (Str × List Str)} {D0 C : Str} {as : List Str} (h : assoc su C = some as) : assoc (isaT su D0) C = some (decide (D0 ∈ as)) := by
  induction su with
  | nil => cases h
  | cons p su ih =>
    unfold isaT at ih ⊢
    simp only [List.map_cons, assoc]
    unfold assoc at h
    split at h
    · rename_i e
      rw [if_pos e]
      cases h
      rfl
    · rename_i e
      rw [if_neg e]
      exact ih h
/-- a def called in a suite -/
def compHC (c : CE) (sc : Scope) (f : Expr → Option E) (x : Str) (args : List Expr) : Option E := match assoc c.tb.hfs x, args with
  | some t, e :: es => if isGl sc x = true ∧ plainName x = true then (compEs f (e :: es)).map (E.hcall t.i) else none
  | _, _ => none
def mkSet (c : CE) (i : Nat) (e : E) : S := if i ∈ c.mu then .setM i e else .set i e
def bexcT : List (Str × String) → Str → Option String
  | [], _ => none
  | q :: r, x => if q.1 = x then some q.2 else bexcT r x
theorem bexcT_mem : ∀ {l : List (Str × String)} {x : Str} {T : String}, bexcT l x = some T → (x, T) ∈ l
  | [], x, T, h => by cases h
  | q :: r, x, T, h => by
    unfold bexcT at h
    split at h
    · rename_i e
      cases h
      subst e
      exact List.mem_cons_self
    · exact List.mem_cons_of_mem _ (bexcT_mem h)
mutual
def compHE (c : CE) : Nat → Scope → Expr → Option E
  | 0, _, _ => none
  | n + 1, sc, e => match e with
    | .Name x _ => if plainName x = true ∧ vis sc x = true then (idxIn c.N x).map E.var else none
    | .Constant (.int i) _ _ => some (.cst (.int i))
    | .Constant (.str x) _ _ => some (.cst (.str x))
    | .Constant (.bool b) _ _ => some (.cst (.bl b))
    | .Constant .none _ _ => some (.cst .non)
    | .Tuple es _ _ => (compEs (compHE c n sc) es).map E.tup
    | .List es _ => (compEs (compHE c n sc) es).map E.lst
    | .IfExp t a b _ => match compHT c n sc t, compHE c n sc a, compHE c n sc b with
      | some t, some a, some b => some (.ife t a b)
      | _, _, _ => none
    | .Compare a [o] [b] _ => if noSet b = true then match compHE c n sc a, compHE c n sc b with
      | some a, some b => some (.cmp o a b)
      | _, _ => none else none
    | .BinOp a o b _ => match compHE c n sc a, compHE c n sc b with
      | some a, some b => some (.bin o a b)
      | _, _ => none
    | .Subscript a b _ => if noSlice b = true then match compHE c n sc a, compHE c n sc b with
      | some a, some b => some (.idx a b)
      | _, _ => none else none
    | .Call (.Name x _) [a, .Name D0 p2] [] _ => if x = "isinstance" then (if isGl sc x = true ∧ x ∈ c.bls ∧ isGl sc D0 = true ∧ plainName D0 = true ∧ D0 ∈ c.tb.xsu.map (·.1) ∧ noStar a = true then (compHE c n sc a).map fun ia => .isE ia (isaT c.tb.xsu D0) else
        (match bexcT bexc D0 with
        | some _ => if isGl sc x = true ∧ x ∈ c.bls ∧ isGl sc D0 = true ∧ D0 ∈ c.bls ∧ noStar a = true then (compHE c n sc a).map fun ia => .isE ia (isaT c.tb.xsu D0) else none
        | none => none))
      else compHC c sc (compHE c n sc) x [a, .Name D0 p2]
    | .Call (.Name x _) [a, .Tuple es kk p4] [] _ => if x = "isinstance" then (match namesOf es with
        | some l => if isGl sc x = true ∧ x ∈ c.bls ∧ noStar a = true ∧ l.length ≤ 100 ∧ (∀ q ∈ l, isGl sc q.1 = true ∧ plainName q.1 = true ∧ q.1 ∈ c.tb.xsu.map (·.1)) then (compHE c n sc a).map fun ia => .isE ia (isaTs c.tb.xsu (l.map (·.1))) else none
        | none => none)
      else compHC c sc (compHE c n sc) x [a, .Tuple es kk p4]
    | .Call (.Name x _) args [] _ => compHC c sc (compHE c n sc) x args
    | .Call (.Attribute o m ap) [a] [] cp => if m = "index" ∧ noCall0 o = true ∧ noStar a = true ∧ (ap.endLine == cp.line) = true then match compHE c n sc o, compHE c n sc a with
      | some io, some ia => some (.ixof io ia)
      | _, _ => none else none
    | .Attribute a f _ => if f ∈ c.tb.xfl ∧ noCall0 a = true then (compHE c n sc a).map fun ia => .xf ia f else none
    | _ => none
def compHT (c : CE) : Nat → Scope → Expr → Option T
  | 0, _, _ => none
  | n + 1, sc, e => match e with
    | .UnaryOp .Not a _ => (compHT c n sc a).map T.not
    | .Compare a [o] [b] _ => if noSet b = true then match compHE c n sc a, compHE c n sc b with
      | some a, some b => some (.e (.cmp o a b))
      | _, _ => none else none
    | e => if plainTest e = true then (compHE c n sc e).map T.e else none
end
mutual
def compHS (c : CE) : Nat → Scope → Stmt → Option S
  | 0, _, _ => none
  | n + 1, sc, st => match st with
    | .Return (some e) _ => (compHE c n sc e).map S.ret
    | .If t a b _ => match compHT c n sc t, compHSs c n sc a, compHSs c n sc b with
      | some t, some a, some b => some (.iff t a b)
      | _, _, _ => none
    | .Assign [.Name x _] e _ => if noComp e = true ∧ isLocal sc x = true then (match idxIn c.N x, compHE c n sc e with
      | some i, some e => some (mkSet c i e)
      | _, _ => none) else none
    | .AugAssign (.Name x _) op e _ => if isLocal sc x = true then (match idxIn c.N x, compHE c n sc e with
      | some i, some ie => some (.aug i op ie)
      | _, _ => none) else none
    | _ => none
def compHSs (c : CE) : Nat → Scope → List Stmt → Option Ss
  | 0, _, _ => none
  | n + 1, sc, sts => match sts with
    | [] => some .nil
    | s :: ss => match compHS c n sc s, compHSs c n sc ss with
      | some a, some b => some (.cons a b)
      | _, _ => none
end
/-- what is known where a suite runs -/
structure HX (c : CE) (Φ : Fns) (X : Cx) (W : WX) (scp : Scope) (a : Addr) (oe : Obj) (cA : Addr) (C : Str) : Prop where
  N : X.N = c.N
  nd : c.N.Nodup
  sc : X.env.scope = scp
  kind : scp.kind = .function
  hu : X.A.units + 70 < cLine
  bl : ∀ x, x ∈ c.bls → X.mg x = none
  xf : XfC X.K cA
  ex : ExcC X.K cA
  fl : ∀ f, f ∈ c.tb.xfl → PySem.W.findIn X.K (.ref cA) f = some none
  pin : (a, oe) ∈ X.pn
  hot : Hot0 X.A (a, oe)
  ns : PySem.W.nsIn X.K mainGlobals C = some (some (.ref cA))
  inX : (assoc c.tb.xsu C).isSome = true
  tk : Takes X W
  hf : ∀ (t : FnT) (x : Str), assoc c.tb.hfs x = some t → ∃ f fd ps k, X.mg x = some (.ref f) ∧ PySem.W.keepIn X.K (.ref f) = true ∧ RmH k X.A ∧ FnHG X.prog X.w X.K X.mg X.base k f fd ps (spDp X.K c.tb.xsu (Φ t.i)) ∧ Binds X.K fd ps []
  is : ∀ D0, D0 ∈ c.tb.xsu.map (·.1) → ∃ dA, X.mg D0 = some (.ref dA) ∧ ∀ b, assoc (isaT c.tb.xsu D0) C = some b → PySem.W.kitOne X.K (.ref cA) (.ref dA) = some b
  ib : ∀ q ∈ bexc, ∀ b, assoc (isaT c.tb.xsu q.1) C = some b → PySem.W.kitOne X.K (.ref cA) (.type q.2) = some b
section
variable {c : CE} {Φ : Fns} {X : Cx} {W : WX} {sc : Scope} {a : Addr} {oe : Obj} {cls : Value} {d : Option Addr} {C : Str} {cA : Addr} {fs : List (Str × D)}
theorem hgl (x : HX c Φ X W sc a oe cA C) {y : Str} (h : isGl sc y = true) : Gl X y := by
  have := isGl_ok h
  rw [← x.sc] at this
  exact this
theorem names_at (x : HX c Φ X W sc a oe cA C) : ∀ (l : List (Str × Pos)), (∀ q ∈ l, isGl sc q.1 = true ∧ plainName q.1 = true ∧ q.1 ∈ c.tb.xsu.map (·.1)) →
    ∃ as : List Addr, l.length = as.length ∧ (∀ q ∈ List.zip l as, Gl X q.1.1 ∧ X.mg q.1.1 = some (.ref q.2) ∧ (q.1.1 == ("__debug__" : Str)) = false) ∧ ∀ asC, assoc c.tb.xsu C = some asC → PySem.W.kitAny X.K (.ref cA) (as.map Value.ref) = some ((l.map (·.1)).any fun D0 => decide (D0 ∈ asC))
  | [], _ => ⟨[], rfl, by simp, fun asC _ => rfl⟩
  | q :: l, h => by
    obtain ⟨h1, h2, h3⟩ := h q (by simp)
    obtain ⟨as, e1, e2, e3⟩ := names_at x l fun z hz => h z (List.mem_cons_of_mem _ hz)
    obtain ⟨dA, k1, k2⟩ := x.is _ h3
    refine ⟨dA :: as, by simp [e1], fun z hz => ?_, fun asC hA => ?_⟩
    · rw [List.zip_cons_cons] at hz
      rcases List.mem_cons.mp hz with rfl | hz
      · exact ⟨hgl x h1, k1, (plainName_ok h2).1⟩
      · exact e2 z hz
    · have k3 := k2 _ (assoc_isaT1 hA)
      simp only [List.map_cons, PySem.W.kitAny, List.any_cons, k3]
      cases hd : decide (q.1 ∈ asC) with
      | true => simp
      | false => simp [e3 asC hA]
theorem hc_ok (x : HX c Φ X W sc a oe cA C) (hcl : cls = .ref cA) (hz : Zc cls d oe) {f : Expr → Option E} (hf : ∀ e ir, f e = some ir → SE Φ [.exc a d C fs] X W e ir) {y : Str} {args : List Expr} {ir : E} {q pos : Pos} (h : compHC c sc f y args = some ir) : SE Φ [.exc a d C fs] X W (.Call (.Name y q) args [] pos) ir := by
  unfold compHC at h
  split at h
  · rename_i t e es ht
    split at h
    · rename_i hx
      obtain ⟨ies, hi, rfl⟩ := Option.map_eq_some_iff.mp h
      obtain ⟨ha, hns⟩ := es_ok hf hi
      obtain ⟨g, fd, ps, k, h1, h2, h3, h4, h5⟩ := x.hf _ _ ht
      unfold noStars at hns
      simp only [List.all_cons, Bool.and_eq_true] at hns
      exact se_hcall h4 h3 x.hot x.pin hz (by rw [hcl]; exact x.ns) x.inX h5 x.tk (hgl x hx.1) h1 h2 (plainName_ok hx.2).1 ha (star_cons hns.1 _ _) (stars_any hns.2)
    · cases h
  · cases h
theorem he_ok (x : HX c Φ X W sc a oe cA C) (hcl : cls = .ref cA) (hz : Zc cls d oe) (hf : ∃ vs, oe.data = .fields vs) : ∀ n,
    (∀ e ir, compHE c n sc e = some ir → SE Φ [.exc a d C fs] X W e ir) ∧ (∀ e ir, compHT c n sc e = some ir → ST Φ [.exc a d C fs] X W e ir) := by
  have hu := x.hu
  intro n
  induction n with
  | zero => exact ⟨fun e ir h => by simp [compHE] at h, fun e ir h => by simp [compHT] at h⟩
  | succ n ih =>
    obtain ⟨ihE, ihT⟩ := ih
    have cmpE : ∀ {u v : Expr} {o : CmpOp} {iu iv : E}, noSet v = true → compHE c n sc u = some iu → compHE c n sc v = some iv → ∀ p, SE Φ [.exc a d C fs] X W (.Compare u [o] [v] p) (.cmp o iu iv) := fun h1 h2 h3 p => se_cmp (by show X.A.units + 64 < cLine; omega) (ihE _ _ h2) (ihE _ _ h3) (marks_ok h1 _)
    constructor
    · intro e ir h
      unfold compHE at h
      split at h
      · split at h
        · rename_i hx
          obtain ⟨i, hi, rfl⟩ := Option.map_eq_some_iff.mp h
          have pn' := plainName_ok hx.1
          have v := vis_ok hx.2
          refine se_var (by show X.N[i]? = _; rw [x.N]; exact idxIn_get hi) ?_ pn'.1 pn'.2
          show Vis X.env.scope _
          rw [x.sc]; exact v
        · cases h
      · cases h; exact se_int
      · cases h; exact se_str
      · cases h; exact se_bl
      · cases h; exact se_non
      · obtain ⟨ies, hi, rfl⟩ := Option.map_eq_some_iff.mp h
        exact se_tup (es_ok ihE hi).1
      · obtain ⟨ies, hi, rfl⟩ := Option.map_eq_some_iff.mp h
        exact se_lst (es_ok ihE hi).1
      · split at h
        · rename_i h1 h2 h3
          cases h
          exact se_ife (ihT _ _ h1) (ihE _ _ h2) (ihE _ _ h3)
        · cases h
      · split at h
        · rename_i hs
          split at h
          · rename_i h1 h2
            cases h
            exact cmpE hs h1 h2 _
          · cases h
        · cases h
      · split at h
        · rename_i h1 h2
          cases h
          exact se_bin (ihE _ _ h1) (ihE _ _ h2)
        · cases h
      · split at h
        · rename_i hs
          split at h
          · rename_i h1 h2
            cases h
            exact se_idx (by show X.A.units + 64 < cLine; omega) (ihE _ _ h1) (ihE _ _ h2) (plainIx_ok hs)
          · cases h
        · cases h
      · split at h
        · rename_i hx
          subst hx
          split at h
          · rename_i hx
            obtain ⟨g1, b1, g2, p2, m2, ns⟩ := hx
            obtain ⟨ia, hi, rfl⟩ := Option.map_eq_some_iff.mp h
            obtain ⟨dA, hm, hk⟩ := x.is _ m2
            exact se_isE x.pin (hgl x g1) (x.bl _ b1) (hgl x g2) hm (plainName_ok p2).1 hcl x.ex hz hf (ihE _ _ hi) (star_cons ns _ _) hk
          · split at h
            · rename_i T hT
              split at h
              · rename_i hx
                obtain ⟨g1, b1, g2, b2, ns⟩ := hx
                obtain ⟨ia, hi, rfl⟩ := Option.map_eq_some_iff.mp h
                have hm := bexcT_mem hT
                exact se_isEB x.pin (hgl x g1) (x.bl _ b1) hm (hgl x g2) (x.bl _ b2) hcl x.ex hz hf (ihE _ _ hi) (star_cons ns _ _) (x.ib _ hm)
              · cases h
            · cases h
        · exact hc_ok x hcl hz ihE h
      · split at h
        · rename_i hx
          subst hx
          split at h
          · rename_i l hnl
            split at h
            · rename_i hx
              obtain ⟨g1, b1, ns, le, hall⟩ := hx
              obtain ⟨ia, hi, rfl⟩ := Option.map_eq_some_iff.mp h
              have es := namesOf_ok hnl
              subst es
              obtain ⟨as, hl, hq, hk⟩ := names_at x l hall
              refine se_isET x.pin (hgl x g1) (x.bl _ b1) hl le hq hcl x.ex hz hf (ihE _ _ hi) (star_cons ns _ _) fun b hb => ?_
              obtain ⟨asC, h1, h2⟩ := assoc_isaTs hb
              rw [hk asC h1, h2]
            · cases h
          · cases h
        · exact hc_ok x hcl hz ihE h
      · exact hc_ok x hcl hz ihE h
      · split at h
        · rename_i hx
          obtain ⟨rfl, h1, h2, h3⟩ := hx
          split at h
          · rename_i ho ha
            cases h
            exact se_ixof (ihE _ _ ho) (ihE _ _ ha) (star_cons h2 _ _) (base_ok h1 _ _ _) h3
          · cases h
        · cases h
      · split at h
        · rename_i hx
          obtain ⟨ia, hi, rfl⟩ := Option.map_eq_some_iff.mp h
          exact se_xf x.pin hcl x.xf (x.fl _ hx.1) hz hf (ihE _ _ hi) (base_ok hx.2 _ _ _)
        · cases h
      · cases h
    · intro e ir h
      unfold compHT at h
      split at h
      · obtain ⟨t, hi, rfl⟩ := Option.map_eq_some_iff.mp h
        exact st_not (ihT _ _ hi)
      · split at h
        · rename_i hs
          split at h
          · rename_i h1 h2
            cases h
            exact st_cmp (by show X.A.units + 64 < cLine; omega) (ihE _ _ h1) (ihE _ _ h2) (marks_ok hs _)
          · cases h
        · cases h
      · split at h
        · rename_i hp
          obtain ⟨t, hi, rfl⟩ := Option.map_eq_some_iff.mp h
          exact st_plain (ihE _ _ hi) (plainTest_ok hp _)
        · cases h
theorem hs_ok (x : HX c Φ X W sc a oe cA C) (hcl : cls = .ref cA) (hz : Zc cls d oe) (hf : ∃ vs, oe.data = .fields vs) : ∀ n,
    (∀ e ir, compHS c n sc e = some ir → SS Φ [.exc a d C fs] X W e ir) ∧ (∀ e ir, compHSs c n sc e = some ir → SSs Φ [.exc a d C fs] X W e ir) := by
  intro n
  induction n with
  | zero => exact ⟨fun e ir h => by simp [compHS] at h, fun e ir h => by simp [compHSs] at h⟩
  | succ n ih =>
    obtain ⟨ihS, ihSs⟩ := ih
    have HE := (he_ok (Φ := Φ) (W := W) (a := a) (fs := fs) x hcl hz hf n).1
    have HT := (he_ok (Φ := Φ) (W := W) (a := a) (fs := fs) x hcl hz hf n).2
    constructor
    · intro st ir h
      unfold compHS at h
      split at h
      · obtain ⟨ie, hi, rfl⟩ := Option.map_eq_some_iff.mp h
        exact ss_ret (HE _ _ hi)
      · split at h
        · rename_i h1 h2 h3
          cases h
          exact ss_iff (HT _ _ h1) (ihSs _ _ h2) (ihSs _ _ h3)
        · cases h
      · split at h
        · rename_i hx
          split at h
          · rename_i h1 h2
            cases h
            have hl := isLocal_ok hx.2
            have hl' := hl; rw [← x.sc] at hl'
            unfold mkSet
            split
            · exact ss_setM (by show X.N.Nodup; rw [x.N]; exact x.nd) (by show X.N[_]? = _; rw [x.N]; exact idxIn_get h1) (.inl hl') (HE _ _ h2) (swaps_ok hx.1 _ _ _) (.inr hl')
            · exact ss_set (by show X.N.Nodup; rw [x.N]; exact x.nd) (by show X.N[_]? = _; rw [x.N]; exact idxIn_get h1) (.inl hl') (HE _ _ h2) (swaps_ok hx.1 _ _ _) (.inr hl')
          · cases h
        · cases h
      · split at h
        · rename_i hx
          split at h
          · rename_i h1 h2
            cases h
            have hl := isLocal_ok hx
            have hl' := hl; rw [← x.sc] at hl'
            exact ss_aug (by show X.N.Nodup; rw [x.N]; exact x.nd) (by show X.N[_]? = _; rw [x.N]; exact idxIn_get h1) (.inl hl') (HE _ _ h2) (.inr hl')
          · cases h
        · cases h
      · cases h
    · intro sts ir h
      unfold compHSs at h
      split at h
      · cases h; exact sss_nil
      · split at h
        · rename_i h1 h2
          cases h
          exact sss_cons (ihS _ _ h1) (ihSs _ _ h2)
        · cases h
end
end DL
set_option maxRecDepth 100000
set_option maxHeartbeats 8000000
namespace DL
open PySem L2
/-! ### statements compiled -/
def swB (sc : Scope) (x : Str) (px : Pos) (s : Scope) (cp : Pos) : Bool := sc.names.lookup x == some .local && px.line == cp.line && !(s.names.any fun (n, k) => n == x && (k == .local || k == .cell))
theorem swB_ok {sc : Scope} {env : Env} {x : Str} {px cp : Pos} {s : Scope} {elt : Expr} {gs : List Comprehension} {l : Nat} (hs : env.scope = sc) (hk : sc.kind = .function) : swapsWith (.ListComp elt gs s cp) (some (.Name x px)) l env = pure (swB sc x px s cp) := by
  have hb : env.blockKind = .function := by
    unfold Env.blockKind
    rw [hs, hk]; rfl
  have hkd : env.kindOf x = sc.names.lookup x := by unfold Env.kindOf; rw [hs]
  unfold swapsWith swB
  simp only [hb, hkd, Expr.pos]
  rfl
/-- a name that may be stored -/
def stoN (c : CE) (sc : Scope) (x : Str) : Option Nat := if (isLocal sc x || isCell sc x) = true then idxIn c.N x else none
def isAppend (m : Str) : Bool := decide (m = "append")
def isInsert (m : Str) : Bool := decide (m = "insert")
def isTuple : Expr → Bool
  | .Tuple .. => true
  | _ => false
def compPar (c : CE) (sc : Scope) (f : Expr → Option E) (ts es : List Expr) : Option S := match swapP sc ts es, compEs f es with
  | some (some _), some ies => match ts with
    | [.Name x _, .Name y _] => if isLocal sc x = true ∧ isLocal sc y = true then match idxIn c.N x, idxIn c.N y, es with
      | some i, some j, [_, _] => if i ≠ j ∧ swapP sc ts es = some (some [x, y]) then some (.par [i, j] ies) else none
      | _, _, _ => none else none
    | [.Name x _, .Name y _, .Name z _] => if isLocal sc x = true ∧ isLocal sc y = true ∧ isLocal sc z = true then match idxIn c.N x, idxIn c.N y, idxIn c.N z, es with
      | some i, some j, some l, [_, _, _] => if i ≠ j ∧ i ≠ l ∧ j ≠ l ∧ swapP sc ts es = some (some [x, y, z]) then some (.par [i, j, l] ies) else none
      | _, _, _, _ => none else none
    | _ => none
  | some none, some ies => match compTg.go c (fun x => isLocal sc x || isCell sc x) ts with
    | some is => some (.par is ies)
    | none => none
  | _, _ => none
mutual
def compS (c : CE) : Nat → Scope → Stmt → Option S
  | 0, _, _ => none
  | n + 1, sc, st => match st with
    | .Pass _ => some .pass
    | .Break _ => some .brk
    | .Continue _ => some .cnt
    | .Return none _ => some .retN
    | .Return (some e) _ => (compE c n sc e).map S.ret
    | .Expr (.Constant (.str _) _ _) _ => some .pass
    | .Expr (.Call (.Attribute o m ap) [a] [] cp) _ => if m = "append" then
        (match compE c n sc o, compE c n sc a with
        | some io, some ia => if noCall0 o = true ∧ noStar a = true ∧ (ap.endLine == cp.line) = true then some (.app io ia) else none
        | _, _ => none) else if m = "extend" then
        (match compE c n sc o, compE c n sc a with
        | some io, some ia => if noCall0 o = true ∧ noStar a = true ∧ (ap.endLine == cp.line) = true then some (.ext io ia) else none
        | _, _ => none) else (compE c n sc (.Call (.Attribute o m ap) [a] [] cp)).map S.exp
    | .Expr (.Call (.Attribute o m ap) [i, a] [] cp) _ => if m = "insert" then
        (match compE c n sc o, compE c n sc i, compE c n sc a with
        | some io, some ii, some ia => if noCall0 o = true ∧ noStar i = true ∧ noStar a = true ∧ (ap.endLine == cp.line) = true then some (.ins io ii ia) else none
        | _, _, _ => none) else (compE c n sc (.Call (.Attribute o m ap) [i, a] [] cp)).map S.exp
    | .Expr e _ => if noComp e = true then (compE c n sc e).map S.exp else none
    | .Assign [.Name x px] (.ListComp elt [⟨tg, iter, ifs, 0⟩] scope cp) _ => match stoN c sc x, compLC c n sc elt tg iter ifs scope with
      | some i, some e => some (mkSet c i e)
      | _, _ => none
    | .Assign [.Name x px] (.ListComp elt [⟨tg, iter, ifs, 0⟩, ⟨tg1, iter1, ifs1, 0⟩] scope cp) _ => match stoN c sc x, compLC2 c n sc elt tg iter ifs tg1 iter1 ifs1 scope with
      | some i, some e => some (mkSet c i e)
      | _, _ => none
    | .Assign [.Name x px] e _ => if noComp e = true then (match stoN c sc x, compE c n sc e with
      | some i, some e => some (mkSet c i e)
      | _, _ => none) else none
    | .Assign [.Tuple ts _ _] (.Tuple es _ _) _ => compPar c sc (compE c n sc) ts es
    | .Assign [.Tuple ts _ _] e _ => if isTuple e = false then (match compTg.go c (fun x => isLocal sc x || isCell sc x) ts, compE c n sc e with
      | some is, some ie => some (.unp is ie)
      | _, _ => none) else none
    | .Assign [.Subscript o i _] e _ => if noComp e = true ∧ noSlice i = true then (match compE c n sc o, compE c n sc i, compE c n sc e with
      | some io, some ii, some ie => some (.sto io ii ie)
      | _, _, _ => none) else none
    | .AugAssign (.Name x _) op e _ => match stoN c sc x, compE c n sc e with
      | some i, some ie => some (.aug i op ie)
      | _, _ => none
    | .AugAssign (.Subscript o i _) op e _ => if noSlice i = true then (match compE c n sc o, compE c n sc i, compE c n sc e with
      | some io, some ii, some ie => some (.augS io ii op ie)
      | _, _, _ => none) else none
    | .If t a b _ => match compT c n sc t, compSs c n sc a, compSs c n sc b with
      | some t, some a, some b => some (.iff t a b)
      | _, _, _ => none
    | .For tg iter body [] _ => if noSet iter = true then (match compTg c sc (fun x => isLocal sc x || isCell sc x) tg, compI c sc (compE c n sc) tg iter, compSs c n sc body with
      | some (is, one), some it, some b => some (.for_ is one it b)
      | _, _, _ => none) else none
    | .Assign [.Attribute o m _] e _ => match assoc c.tb.sls m with
      | some cs => (match compE c n sc o, compE c n sc e with
        | some io, some ie => some (.stf io cs ie)
        | _, _ => none)
      | none => none
    | .Raise (some (.Call (.Name C _) [e] [] _)) none _ => match assoc c.tb.xcs C with
      | some f => if isGl sc C = true ∧ plainName C = true ∧ noStar e = true then (compE c n sc e).map (S.rse C f) else none
      | none => some .never
    | .Raise (some (.Call (.Name C _) [] [] _)) none _ => if C ∈ c.tb.xc0 ∧ isGl sc C = true ∧ plainName C = true ∧ (assoc c.tb.xsu C).isSome = true then some (.rse0 C) else some .never
    | .Raise _ _ _ => some .never
    | .Try body [.ExceptHandler (some (.Name x _)) (some y) (s0 :: su) _] [] [] _ => if isGl sc x = true ∧ plainName x = true ∧ isLocal sc y = true ∧ (assoc c.tb.xsu x).isSome = true then (match compSs c n sc body, idxIn c.N y, compHSs c n sc (s0 :: su) with
      | some ib, some i, some is => some (.try_ ib i (isaT c.tb.xsu x) is)
      | _, _, _ => none) else none
    | _ => none
def compSs (c : CE) : Nat → Scope → List Stmt → Option Ss
  | 0, _, _ => none
  | _ + 1, _, [] => some .nil
  | n + 1, sc, s :: ss => match compS c n sc s, compSs c n sc ss with
    | some a, some b => some (.cons a b)
    | _, _ => none
end
section
variable {c : CE} {Φ : Fns} {γ : List D}
/-- a def's own context -/
structure BOk (c : CE) (Φ : Fns) (γ : List D) (X : Cx) (W : WX) (scp : Scope) : Prop where
  x : XOk c Φ γ X scp
  tk : Takes X W
  own : PassesOwn (model X.prog X.w) X.A X.env X.xe
  fnT : ∀ y, X.fn y = true
  stk : X.stack = X.env :: X.outer
  frm : X.env.frame = some X.env.locals
def QOk (c : CE) (Φ : Fns) (γ : List D) (n : Nat) : Prop :=
  (∀ (sc : Scope) (st : Stmt) (ir : S), compS c n sc st = some ir → ∀ (X : Cx) (W : WX), BOk c Φ γ X W sc → SS Φ γ X W st ir) ∧
  (∀ (sc : Scope) (st : List Stmt) (ir : Ss), compSs c n sc st = some ir → ∀ (X : Cx) (W : WX), BOk c Φ γ X W sc → SSs Φ γ X W st ir)
theorem BOk.nd {X : Cx} {W : WX} {sc : Scope} (b : BOk c Φ γ X W sc) : X.N.Nodup := by rw [b.x.N]; exact b.x.nd
theorem BOk.sto {X : Cx} {W : WX} {sc : Scope} (b : BOk c Φ γ X W sc) {x : Str} {i : Nat} (h : stoN c sc x = some i) : X.N[i]? = some x ∧ Loc X.env.scope x := by
  unfold stoN at h
  split at h
  · rename_i hc
    simp only [Bool.or_eq_true] at hc
    refine ⟨by rw [b.x.N]; exact idxIn_get h, ?_⟩
    rw [b.x.sc]
    rcases hc with hc | hc
    · exact .inl (isLocal_ok hc)
    · exact .inr (isCell_ok hc)
  · cases h
theorem BOk.tgN {X : Cx} {W : WX} {sc : Scope} (b : BOk c Φ γ X W sc) : ∀ x, (isLocal sc x || isCell sc x) = true → Loc X.env.scope x ∧ (X.fn x = true ∨ X.env.scope.names.lookup x = some .local) := fun x hx => by
  simp only [Bool.or_eq_true] at hx
  refine ⟨?_, .inl (b.fnT x)⟩
  rw [b.x.sc]
  rcases hx with hx | hx
  · exact .inl (isLocal_ok hx)
  · exact .inr (isCell_ok hx)
theorem tg_go {sc : Scope} {ok : Str → Bool} {ts : List Expr} {k : Nat} {p : Pos} {is : List Nat} (h : compTg.go c ok ts = some is) : compTg c sc ok (.Tuple ts k p) = some (is, false) := by
  unfold compTg
  split
  · rename_i z; cases z
  · rename_i z; cases z; simp [compTg.go] at h
  · rename_i z; cases z; rw [h]; rfl
  · rename_i z1 z2 z3; exact absurd rfl (z3 ts k p)
theorem BOk.tup {X : Cx} {W : WX} {sc : Scope} (b : BOk c Φ γ X W sc) {ts : List Expr} {k : Nat} {p : Pos} {is : List Nat} (h : compTg.go c (fun x => isLocal sc x || isCell sc x) ts = some is) : PG X (.Tuple ts k p) (gT X.K is false) :=
  tg_ok (sc := sc) (ok := fun x => isLocal sc x || isCell sc x) b.x.N b.x.nd b.x.cal.calm b.tgN (tg_go h)
theorem par_ok {X : Cx} {W : WX} {sc : Scope} (b : BOk c Φ γ X W sc) {f : Expr → Option E} (hf : ∀ e ir, f e = some ir → SE Φ γ X W e ir) {ts es : List Expr} {kt k2 : Nat} {pt p2 pos : Pos} {ir : S} (h : compPar c sc f ts es = some ir) :
    SS Φ γ X W (.Assign [.Tuple ts kt pt] (.Tuple es k2 p2) pos) ir := by
  have loc : ∀ {x}, isLocal sc x = true → X.env.scope.names.lookup x = some .local := fun h => by rw [b.x.sc]; exact isLocal_ok h
  have ix : ∀ {x i}, idxIn c.N x = some i → X.N[i]? = some x := fun h => by rw [b.x.N]; exact idxIn_get h
  unfold compPar at h
  split at h
  · rename_i nm ies h1 h2
    split at h
    · split at h
      · rename_i hl
        split at h
        · split at h
          · rename_i i j _ _ hi hj hc
            cases h
            exact ss_par2 b.x.cal.calm b.nd (ix hi) (ix hj) hc.1 (loc hl.1) (loc hl.2) (es_ok hf h2).1 (swapP_ok b.x.sc b.x.kind hc.2)
          · cases h
        · cases h
      · cases h
    · split at h
      · rename_i hl
        split at h
        · split at h
          · rename_i i j l _ _ _ hi hj hk hc
            cases h
            exact ss_par3 b.x.cal.calm b.nd (ix hi) (ix hj) (ix hk) hc.1 hc.2.1 hc.2.2.1 (loc hl.1) (loc hl.2.1) (loc hl.2.2) (es_ok hf h2).1 (swapP_ok b.x.sc b.x.kind hc.2.2.2)
          · cases h
        · cases h
      · cases h
    · cases h
  · rename_i ies h1 h2
    split at h
    · rename_i is hi
      cases h
      exact ss_parN (b.tup hi) (es_ok hf h2).1 (swapP_ok b.x.sc b.x.kind h1)
    · cases h
  · cases h
theorem asg_sub {o i : Expr} {p : Pos} {env : Env} (h : noSlice i = true) (v : Value) : assign (.Subscript o i p) env v = (do
      let ov ← holding [v] (eval o env)
      let iv ← holding [v, ov] (eval i env)
      standAt p
      holding [v, ov, iv] (setItem ov iv v)
      release [v, ov, iv] []) := by
  cases i <;> first | rfl | cases h
theorem sole_ok {e t : Expr} (h : noComp e = true) (l : Nat) (env : Env) : swapsWithSole [t] e l env = pure false := swaps_ok h (some t) l env
theorem sole_tup {e : Expr} {ts : List Expr} {k : Nat} {p : Pos} (l : Nat) (env : Env) : swapsWithSole [.Tuple ts k p] e l env = pure false := by
  show swapsWith e (some (.Tuple ts k p)) l env = pure false
  unfold swapsWith
  cases e <;> rfl
theorem sws_sub {o i e : Expr} {p : Pos} (env : Env) : swappedStores [.Subscript o i p] e env = pure none := by
  unfold swappedStores
  rfl
theorem sws_tup {ts : List Expr} {k : Nat} {p : Pos} {e : Expr} (h : isTuple e = false) (env : Env) : swappedStores [.Tuple ts k p] e env = pure none := by
  unfold swappedStores
  cases e <;> first | rfl | cases h
theorem swaps_attr {e o : Expr} {m : Str} {p : Pos} (l : Nat) (env : Env) : swapsWith e (some (.Attribute o m p)) l env = pure false := by
  unfold swapsWith
  cases e <;> rfl
theorem takes_no {X : Cx} : Takes X (fun _ _ _ _ => False) := fun u s ⟨_, _, _, _, _, _, _, _, _, _, _, _, _, _, _, _, z⟩ => z.elim
theorem assoc_isaT {su : List (Str × List Str)} {D0 C : Str} {b : Bool} (h : assoc (isaT su D0) C = some b) : ∃ as, assoc su C = some as ∧ decide (D0 ∈ as) = b := by
  induction su with
  | nil => cases h
  | cons p su ih =>
    unfold isaT at h ih
    simp only [List.map_cons, assoc] at h
    unfold assoc
    split at h
    · rename_i e
      rw [if_pos e]
      cases h
      exact ⟨_, rfl, rfl⟩
    · rename_i e
      rw [if_neg e]
      exact ih h
theorem mem_assoc {α : Type} {su : List (Str × α)} {D0 : Str} (h : D0 ∈ su.map (·.1)) : ∃ as, assoc su D0 = some as := by
  induction su with
  | nil => simp at h
  | cons p su ih =>
    unfold assoc
    by_cases e : p.1 = D0
    · exact ⟨_, if_pos e⟩
    · rw [if_neg e]
      rw [List.map_cons] at h
      rcases List.mem_cons.mp h with h | h
      · exact absurd h.symm e
      · exact ih h
theorem s_ok {n : Nat} (ih : QOk c Φ γ n) {sc : Scope} {st : Stmt} {ir : S} (h : compS c (n + 1) sc st = some ir) {X : Cx} {W : WX} (b : BOk c Φ γ X W sc) : SS Φ γ X W st ir := by
  have rcE : ∀ e ir, compE c n sc e = some ir → SE Φ γ X W e ir := fun e ir h => (all_ok n).1 _ _ _ h _ _ b.x b.tk
  have one : ∀ {e : Expr}, noStar e = true → starEach [e] X.env = [(false, eval e X.env)] := fun h => star_cons h [] _
  unfold compS at h
  split at h
  · cases h; exact ss_pass
  · cases h; exact ss_brk
  · cases h; exact ss_cnt
  · cases h; exact ss_retN
  · rename_i e p
    cases e2 : compE c n sc e with
    | none => rw [e2] at h; cases h
    | some ie => rw [e2] at h; cases h; exact ss_ret (rcE _ _ e2)
  · cases h; exact ss_doc
  · rename_i o m ap a cp p
    split at h
    · rename_i hm
      subst hm
      split at h
      · rename_i io ia ho ha
        split at h
        · rename_i hc
          cases h
          exact ss_app (rcE _ _ ho) (rcE _ _ ha) (base_ok hc.1 _ _ _) (by rw [one hc.2.1]; rfl) hc.2.2 (star_cons hc.2.1 _ _)
        · cases h
      · cases h
    · split at h
      · rename_i hm
        subst hm
        split at h
        · rename_i io ia ho ha
          split at h
          · rename_i hc
            cases h
            exact ss_ext (rcE _ _ ho) (rcE _ _ ha) (base_ok hc.1 _ _ _) (by rw [one hc.2.1]; rfl) hc.2.2 (star_cons hc.2.1 _ _)
          · cases h
        · cases h
      · cases e2 : compE c n sc (.Call (.Attribute o m ap) [a] [] cp) with
        | none => rw [e2] at h; cases h
        | some ie => rw [e2] at h; cases h; exact ss_exp (rcE _ _ e2) (swaps_ok rfl _ _ _)
  · rename_i o m ap i a cp p
    split at h
    · rename_i hm
      subst hm
      split at h
      · rename_i io ii ia ho hi ha
        split at h
        · rename_i hc
          cases h
          refine ss_ins (rcE _ _ ho) (rcE _ _ hi) (rcE _ _ ha) (base_ok hc.1 _ _ _) (by rw [star_cons hc.2.1, one hc.2.2.1]; rfl) hc.2.2.2 (star_cons hc.2.1 _ _) (star_cons hc.2.2.1 _ _) (by rw [one hc.2.2.1]; rfl)
        · cases h
      · cases h
    · cases e2 : compE c n sc (.Call (.Attribute o m ap) [i, a] [] cp) with
      | none => rw [e2] at h; cases h
      | some ie => rw [e2] at h; cases h; exact ss_exp (rcE _ _ e2) (swaps_ok rfl _ _ _)
  · rename_i e p _ _ _
    split at h
    · rename_i hn
      cases e2 : compE c n sc e with
      | none => rw [e2] at h; cases h
      | some ie => rw [e2] at h; cases h; exact ss_exp (rcE _ _ e2) (swaps_ok hn _ _ _)
    · cases h
  · -- name = [..]
    rename_i x px elt tg iter ifs scope cp p
    split at h
    · rename_i i e hi he
      obtain ⟨ie, is, on, it, cond, rfl, l⟩ := (all_ok n).2.2.1 _ _ _ _ _ _ _ he _ _ b.x b.tk
      obtain ⟨h1, h2⟩ := b.sto hi
      cases hsw : swB sc x px scope cp with
      | true =>
        have hx : X.env.scope.names.lookup x = some .local := by
          unfold swB at hsw
          simp only [Bool.and_eq_true, beq_iff_eq] at hsw
          rw [b.x.sc]; exact hsw.1.1
        have z := ss_setLc (pos := cp) (py := px) (spos := p) b.x.cal.calm b.nd h1 hx (by rw [swB_ok b.x.sc b.x.kind, hsw]) l.si l.blk l.pg l.sc l.se l.fs l.own
        cases h
        unfold mkSet
        split
        · exact z.2
        · exact z.1
      | false =>
        have sx := l.sexp (pos := cp) b.x
        have hs : swapsWith (.ListComp elt [⟨tg, iter, ifs, 0⟩] scope cp) (some (.Name x px)) p.line X.env = pure false := by rw [swB_ok b.x.sc b.x.kind, hsw]
        cases h
        unfold mkSet
        split
        · exact ss_setM b.nd h1 h2 sx hs (.inl (b.fnT x))
        · exact ss_set b.nd h1 h2 sx hs (.inl (b.fnT x))
    · cases h
  · rename_i x px elt tg iter ifs tg1 iter1 ifs1 scope cp p
    split at h
    · rename_i i e hi he
      obtain ⟨ie, is, on, it, cond, is1, on1, it1, cond1, rfl, l⟩ := (all_ok n).2.2.2 _ _ _ _ _ _ _ _ _ _ he _ _ b.x b.tk
      obtain ⟨h1, h2⟩ := b.sto hi
      cases hsw : swB sc x px scope cp with
      | true =>
        have hx : X.env.scope.names.lookup x = some .local := by
          unfold swB at hsw
          simp only [Bool.and_eq_true, beq_iff_eq] at hsw
          rw [b.x.sc]; exact hsw.1.1
        have z := ss_setLc2 (pos := cp) (py := px) (spos := p) b.x.cal.calm b.nd h1 hx (by rw [swB_ok b.x.sc b.x.kind, hsw]) l
        cases h
        unfold mkSet
        split
        · exact z.2
        · exact z.1
      | false =>
        have sx := se_comp2 (pos := cp) b.x.cal.calm b.nd l
        have hs : swapsWith (.ListComp elt [⟨tg, iter, ifs, 0⟩, ⟨tg1, iter1, ifs1, 0⟩] scope cp) (some (.Name x px)) p.line X.env = pure false := by rw [swB_ok b.x.sc b.x.kind, hsw]
        cases h
        unfold mkSet
        split
        · exact ss_setM b.nd h1 h2 sx hs (.inl (b.fnT x))
        · exact ss_set b.nd h1 h2 sx hs (.inl (b.fnT x))
    · cases h
  · rename_i x px e p _ _
    split at h
    · rename_i hn
      split at h
      · rename_i i ie hi he
        obtain ⟨h1, h2⟩ := b.sto hi
        cases h
        unfold mkSet
        split
        · exact ss_setM b.nd h1 h2 (rcE _ _ he) (swaps_ok hn _ _ _) (.inl (b.fnT x))
        · exact ss_set b.nd h1 h2 (rcE _ _ he) (swaps_ok hn _ _ _) (.inl (b.fnT x))
      · cases h
    · cases h
  · exact par_ok b rcE h
  · split at h
    · rename_i hn
      split at h
      · rename_i is ie hi he
        cases h
        exact ss_unp (b.tup hi) (rcE _ _ he) (sole_tup _ _) (sws_tup hn _)
      · cases h
    · cases h
  · split at h
    · rename_i hn
      split at h
      · rename_i io ii ie ho hi he
        cases h
        exact ss_sto (rcE _ _ ho) (rcE _ _ hi) (rcE _ _ he) (asg_sub hn.2) (sole_ok hn.1 _ _) (sws_sub _) rfl
      · cases h
    · cases h
  · split at h
    · rename_i i ie hi he
      obtain ⟨h1, h2⟩ := b.sto hi
      cases h
      exact ss_aug b.nd h1 h2 (rcE _ _ he) (.inl (b.fnT _))
    · cases h
  · split at h
    · rename_i hn
      split at h
      · rename_i io ii ie ho hi he
        cases h
        exact ss_augS (rcE _ _ ho) (rcE _ _ hi) (rcE _ _ he) hn
      · cases h
    · cases h
  · split at h
    · rename_i t a b' ht ha hb
      cases h
      exact ss_iff ((all_ok n).2.1 _ _ _ ht _ _ b.x b.tk).1 (ih.2 _ _ _ ha _ _ b) (ih.2 _ _ _ hb _ _ b)
    · cases h
  · split at h
    · rename_i hn
      split at h
      · rename_i is on it bd hg hi hb
        cases h
        exact ss_for b.own b.x.cal.calm (i_ok b.x rcE hi) (tg_ok b.x.N b.x.nd b.x.cal.calm b.tgN hg) (ih.2 _ _ _ hb _ _ b) (folded_ok hn _)
      · cases h
    · cases h
  · split at h
    · rename_i cs hcs
      split at h
      · rename_i io ie ho he
        cases h
        exact ss_stf (rcE _ _ ho) (rcE _ _ he) (swaps_attr _ _) fun C i hi => b.x.sl _ cs C i hcs hi
      · cases h
    · cases h
  · split at h
    · rename_i f hf
      split at h
      · rename_i hx
        obtain ⟨ie, he, rfl⟩ := Option.map_eq_some_iff.mp h
        obtain ⟨k, hr, cA, fI, fd, ps, h1, h2, h3, h4, h5, h6, h7⟩ := b.x.xc _ _ hf
        exact ss_rse b.x.cal.calm b.tk h1 h2 h3 h4 h5 h6 hr h7 (gl_of b.x hx.1) (b.x.mgn _ _ h1) (rcE _ _ he) (plainName_ok hx.2.1).1 (star_cons hx.2.2 _ _) rfl
      · cases h
    · cases h; exact ss_never
  · split at h
    · rename_i hx
      cases h
      obtain ⟨as, has⟩ := Option.isSome_iff_exists.mp hx.2.2.2
      obtain ⟨cA, h1, _, _, _, _, _, h6⟩ := b.x.xs _ _ has
      exact ss_rse0 b.x.cal.calm b.tk h1 (h6 hx.1) (gl_of b.x hx.2.1) (b.x.mgn _ _ h1) (plainName_ok hx.2.2.1).1
    · cases h; exact ss_never
  · cases h; exact ss_never
  · split at h
    · rename_i hx
      split at h
      · rename_i ib i is hb hi hsu
        cases h
        obtain ⟨as, has⟩ := Option.isSome_iff_exists.mp hx.2.2.2
        obtain ⟨dA, hd1, _⟩ := b.x.xs _ _ has
        have hl := isLocal_ok hx.2.2.1
        refine ss_try (c := .ref dA) b.stk b.frm b.nd (by rw [b.x.N]; exact idxIn_get hi) ?_ ⟨gl_of b.x hx.1, (plainName_ok hx.2.1).1, .inl (b.x.mgn _ _ hd1)⟩ b.tk (fun W' pn xe tk' own' => ih.2 _ _ _ hb _ _ ⟨b.x.tr pn xe, tk', own', b.fnT, b.stk, b.frm⟩) (fun a oe cls d pn C fs hz hf hn ht => ?_) (fun C k cv ht hn => ?_)
        · unfold Env.kindOf
          rw [b.x.sc]; exact hl
        · obtain ⟨as', ha', _⟩ := assoc_isaT ht
          obtain ⟨cA, g1, g2, g3, g4, g5, g6, _⟩ := b.x.xs _ _ ha'
          rw [g1] at hn
          cases hn
          exact (hs_ok (Φ := Φ) (W := fun _ _ _ _ => False) (X := X.suite a ((a, oe) :: pn)) ⟨b.x.N, b.x.nd, b.x.sc, b.x.kind, b.x.cal.hu, b.x.bl, g2, g3, g4, List.mem_cons_self, ⟨rfl, hf⟩, g1, by rw [ha']; rfl, takes_no, fun t x e => let ⟨f, fd, ps, k, q1, q2, q3, q4, q5⟩ := b.x.hf t x e; ⟨f, fd, ps, k, q1, q2, (q3.mono (Nat.le_succ _)).hot _, q4, q5⟩, fun D0 hD => by
            obtain ⟨as2, h2⟩ := mem_assoc hD
            obtain ⟨dA2, k1, k2, _⟩ := g5 _ _ h2
            refine ⟨dA2, b.x.mgn _ _ k1, fun b' hb' => ?_⟩
            obtain ⟨as3, h3, h4⟩ := assoc_isaT hb'
            rw [ha'] at h3
            cases h3
            rw [k2, h4], fun q hq b' hb' => by
            obtain ⟨as3, h3, h4⟩ := assoc_isaT hb'
            rw [ha'] at h3
            cases h3
            show PySem.W.kitOne X.K (.ref cA) (.type q.2) = some b'
            rw [g6 q hq, h4]⟩ rfl hz hf n).2 _ _ hsu
        · obtain ⟨as', ha', hk⟩ := assoc_isaT ht
          obtain ⟨cA, g1, g2, g3, g4, g5, _, _⟩ := b.x.xs _ _ ha'
          rw [g1] at hn
          cases hn
          obtain ⟨dA2, k1, _, k3⟩ := g5 _ _ has
          rw [hd1] at k1
          cases k1
          rw [k3, hk]
      · cases h
    · cases h
  · cases h
theorem stmts_ok : ∀ n : Nat, QOk c Φ γ n
  | 0 => ⟨fun _ _ _ h => (by unfold compS at h; cases h), fun _ _ _ h => (by unfold compSs at h; cases h)⟩
  | n + 1 => ⟨fun _ _ _ h X W b => s_ok (stmts_ok n) h b, fun sc st ir h X W b => by
      cases st with
      | nil => unfold compSs at h; cases h; exact sss_nil
      | cons s ss =>
        unfold compSs at h
        split at h
        · rename_i ia ib ha hb
          cases h
          exact sss_cons ((stmts_ok n).1 _ _ _ ha _ _ b) ((stmts_ok n).2 _ _ _ hb _ _ b)
        · cases h⟩
end
end DL
set_option maxRecDepth 100000
set_option maxHeartbeats 8000000
namespace DL
open PySem L2
/-! ### defs -/
section
variable {K : PySem.W.Frag} {G G1 : Hp} {M M1 : MS} {H H1 : Hp}
theorem restrict_some {a : Addr} {mo : MO} (h : restrict M M1 a = some mo) : M1 a = some mo := by
  unfold restrict at h
  split at h
  · rename_i ds e
    split at h
    · rw [e]; exact h
    · cases h
  · exact h
theorem restrict_none {a : Addr} (h : M1 a = none) : restrict M M1 a = none := by unfold restrict; rw [h]
theorem Step.restrict (s : Step K G M H G1 M1 H1) : Step K G M H G1 (restrict M M1) H1 where
  ok := ⟨s.ok.sub, fun a mo e => s.ok.dis a mo (restrict_some e), fun a mo e => s.ok.mok a mo (restrict_some e)⟩
  sub := s.sub
  keep := s.keep
  newM := fun a mo hm e => s.newM a mo hm (restrict_some e)
  dom := s.dom
  newG := s.newG
theorem Rv.restrict {v : V} {r : R} (h : Rv K H G1 M1 H1 v r) : Rv K H G1 (DL.restrict M M1) H1 v r := by
  cases r with
  | val d => exact h
  | new ds => obtain ⟨p, vs, e1, e2, e3, e4, e5, e6⟩ := h; exact ⟨p, vs, e1, e2, e3, e4, restrict_none e5, e6⟩
  | nst ds => obtain ⟨p, vs, e1, e2, e3, e4, e5, e6⟩ := h; exact ⟨p, vs, e1, e2, e3, e4, restrict_none e5, e6⟩
theorem ret_ok {Q : VK} {Qd : KR} {v : V} {r : R} (hq : ∀ r M', Qd r M' → PostV K G M H Q r M') (s : Step K G M H G1 M1 H1) (rv : Rv K H G1 M1 H1 v r) (h : retR M Qd r M1) : Q v H1 := by
  have plain : Qd r (DL.restrict M M1) → Q v H1 := fun q => hq _ _ q v G1 H1 s.restrict rv.restrict
  unfold retR at h
  split at h
  · rename_i p
    split at h
    · rename_i ds h1 h2
      have rv' : Dv K G1 v (.obj p) := rv
      cases rv'
      obtain ⟨vs, hv, t⟩ := s.ok.mok p _ h2
      refine hq _ _ h _ G1 H1 s.restrict ⟨p, vs, rfl, s.newM p _ h1 h2, hv, s.ok.dis p _ h2, ?_, t⟩
      unfold DL.restrict
      rw [h2, h1]; rfl
    · exact plain h
  · exact hq _ _ h v G1 H1 s rv
  · exact plain h
end
/-- the names of a def -/
def scopeB (N ps : List Str) (sc : Scope) : Bool :=
  (match sc.kind with | .function => true | _ => false) && !sc.isCoroutine && !sc.isGenerator && decide N.Nodup && decide (N.take ps.length = ps) &&
    (ps.all fun x => match sc.names.lookup x with | some .local => true | some .cell => true | _ => false) && (sc.names.all fun y => decide (y.2 ≠ .free))
theorem scopeB_ok {N ps : List Str} {sc : Scope} (h : scopeB N ps sc = true) : FnScope N ps sc := by
  unfold scopeB at h
  simp only [Bool.and_eq_true, Bool.not_eq_true', decide_eq_true_eq, List.all_eq_true] at h
  obtain ⟨⟨⟨⟨⟨⟨h1, h2⟩, h3⟩, h4⟩, h5⟩, h6⟩, h7⟩ := h
  refine ⟨?_, h2, h3, h4, h5, fun x hx => ?_, h7⟩
  · split at h1
    · assumption
    · cases h1
  · have z := h6 x hx
    split at z
    · exact .inl (by assumption)
    · exact .inr (by assumption)
    · cases z
/-- a def that the top has left at f -/
structure FunG (K : PySem.W.Frag) (x qual : Str) (st : Stmt) (f : Addr) (fd : FuncData) : Prop where
  ex : ∃ (oc : Value) (od : Option Addr) (dV kV doc pm : Value) (an : Option Addr) (cdv ct : Value) (osl : Array (Option Value)),
    fd = PySem.W.fnOf x qual (defArgs st) (defBody st) (defScope st) dV kV doc pm an cdv ct ∧ K.lookup f = some ⟨oc, od, .func fd, osl⟩ ∧ PySem.W.codeIn K cdv qual = true
  kp : PySem.W.keepIn K (.ref f) = true
section
variable {P : Program} {w : World} {K : PySem.W.Frag} {mg : Str → Option Value} {base : Heap}
/-- a def of the text, by its body's rules -/
theorem fn_g {k : Nat} {x qual : Str} {st : Stmt} {f : Addr} {fd : FuncData} {N ps : List Str} {sp : Sp} (F : FunG K x qual st f fd) (S : FnScope N ps (defScope st)) (len : ∀ vs H Q E, sp vs H Q E → vs.length = ps.length)
    (body : ∀ (cdv : Value) (A : Around) (outer : List Env) (s : Shared) (H : Hp) (vs : List V) (Q : VK) (E : XK), Rm k (A.deeper (PyProof.Rows.envOfC qual (defScope st) s.heap.objs.size f cdv)) → sp vs H Q E →
      ∃ t, PSs (cxOf (L2.CX P w) P w K mg base N qual (defScope st) f cdv A outer s H E) (defBody st) t ∧ t { nx := fun _ H' => Q .non H', rt := Q } (L2.start N vs) H) : FnG P w K mg base (k + 1) f fd ps sp := by
  obtain ⟨oc, od, dV, kV, doc, pm, an, cdv, ct, osl, rfl, lk, hcd⟩ := F.ex
  refine ⟨len, ?_⟩
  intro A outer s H args us vs Q E hr e0 hb r hsp
  have kin : K.In s.heap := e0.mod.kin.keeps fun b o e => (e0.bs b o e).1
  have nol : s.heap.NoLimit := e0.mod.nolimit.keeps fun b o e => (e0.bs b o e).1
  have kinds : ∀ y ∈ ps.zip us, (defScope st).names.lookup y.1 = some .local ∨ ((defScope st).names.lookup y.1 = some .cell ∧ ((cellsFrom (s.heap.objs.size + 1) (defScope st).names []).lookup y.1).isSome = true) := by
    rintro ⟨n, v⟩ hy
    exact (S.par n (List.of_mem_zip hy).1).imp (fun q => q) fun q => ⟨q, PySem.W.cellsFrom_some _ _ _ (.inl q)⟩
  refine codeAny_call_function hr.room.depth (kin _ _ lk) rfl S.co S.gen rfl (PySem.W.codeRec_of kin hcd) (hb _ _ _ _ ?_)
  refine wpAny_newFunctionEnv_cells S.kind kinds ?_
  rintro env rfl s1 x
  refine ⟨nol.keeps x.toInCall.keep, codeAny_func ?_⟩
  obtain ⟨t, ht, hq⟩ := body cdv A outer s H vs Q E (hr.deeper _) hsp
  have inv : Inv (cxOf (L2.CX P w) P w K mg base N qual (defScope st) f cdv A outer s H E) [] (L2.start N vs) H s1 := inv_start S hr.room.hd e0 (len _ _ _ _ hsp) r x
  refine wpAny_mono (ht.run [] s1 (L2.start N vs) H _ inv hq) ?_ fun _ _ z => z
  intro fl s' hs
  match fl, hs with
  | .ret u, ⟨v, σ', H', J, rv, q⟩ => exact ⟨v, H', J.os, J.bare, J.base, J.hok, rv, q⟩
  | .next, ⟨σ', H', J, q⟩ => exact ⟨V.non, H', J.os, J.bare, J.base, J.hok, rfl, q⟩
  | .brk, ⟨_, _, _, q⟩ => exact q.elim
  | .cont, ⟨_, _, _, q⟩ => exact q.elim
/-- a def that is called where an error is held, by its body's rules -/
theorem fn_h {k : Nat} {x qual : Str} {st : Stmt} {f : Addr} {fd : FuncData} {N ps : List Str} {sp : SpH} (F : FunG K x qual st f fd) (S : FnScope N ps (defScope st)) (len : ∀ p vs H Q E, sp p vs H Q E → vs.length = ps.length)
    (body : ∀ (cdv : Value) (A : Around) (outer : List Env) (s : Shared) (H : Hp) (vs : List V) (Q : VK) (E : XK) (p : Addr × Obj), RmH k (A.deeper (PyProof.Rows.envOfC qual (defScope st) s.heap.objs.size f cdv)) → Hot0 A p → sp p vs H Q E →
      ∃ t, PSs (L2H.cxH (L2.CX P w) P w K mg base N qual (defScope st) f cdv A outer s H E p) (defBody st) t ∧ t { nx := fun _ H' => Q .non H', rt := Q } (L2.start N vs) H) : FnHG P w K mg base (k + 1) f fd ps sp := by
  obtain ⟨oc, od, dV, kV, doc, pm, an, cdv, ct, osl, rfl, lk, hcd⟩ := F.ex
  refine ⟨len, ?_⟩
  intro A outer s H args us vs Q E p hr hot hpin e0 hb r hsp
  have kin : K.In s.heap := e0.mod.kin.keeps fun b o e => (e0.bs b o e).1
  have nol : s.heap.NoLimit := e0.mod.nolimit.keeps fun b o e => (e0.bs b o e).1
  have kinds : ∀ y ∈ ps.zip us, (defScope st).names.lookup y.1 = some .local ∨ ((defScope st).names.lookup y.1 = some .cell ∧ ((cellsFrom (s.heap.objs.size + 1) (defScope st).names []).lookup y.1).isSome = true) := by
    rintro ⟨n, v⟩ hy
    exact (S.par n (List.of_mem_zip hy).1).imp (fun q => q) fun q => ⟨q, PySem.W.cellsFrom_some _ _ _ (.inl q)⟩
  refine codeAny_call_function hr.room.depth (kin _ _ lk) rfl S.co S.gen rfl (PySem.W.codeRec_of kin hcd) (hb _ _ _ _ ?_)
  refine wpAny_newFunctionEnv_cells S.kind kinds ?_
  rintro env rfl s1 x
  refine ⟨nol.keeps x.toInCall.keep, codeAny_func ?_⟩
  obtain ⟨t, ht, hq⟩ := body cdv A outer s H vs Q E p (hr.deeper _) hot hsp
  have inv : Inv (L2H.cxH (L2.CX P w) P w K mg base N qual (defScope st) f cdv A outer s H E p) [] (L2.start N vs) H s1 := L2H.inv_startH S hpin e0 (len _ _ _ _ _ hsp) r x
  refine wpAny_mono (ht.run [] s1 (L2.start N vs) H _ inv hq) ?_ fun _ _ z => z
  intro fl s' hs
  match fl, hs with
  | .ret u, ⟨v, σ', H', J, rv, q⟩ => exact ⟨v, H', J.os, J.bare, J.base, J.hok, rv, q⟩
  | .next, ⟨σ', H', J, q⟩ => exact ⟨V.non, H', J.os, J.bare, J.base, J.hok, rfl, q⟩
  | .brk, ⟨_, _, _, q⟩ => exact q.elim
  | .cont, ⟨_, _, _, q⟩ => exact q.elim
/-- what is known of the text, for defs of the level k -/
structure TOk (P : Program) (w : World) (K : PySem.W.Frag) (mg : Str → Option Value) (base : Heap) (tb : TB) (Φ : Fns) (k : Nat) : Prop where
  mgn : ∀ (y : Str) (v : Value), PySem.W.nsIn K mainGlobals y = some (some v) → mg y = some v
  fn : ∀ (t : FnT) (y : Str), assoc tb.fns y = some t → ∃ f fd ps, mg y = some (.ref f) ∧ PySem.W.keepIn K (.ref f) = true ∧ FnG P w K mg base k f fd ps (spD K (Φ t.i)) ∧ DflOk K fd ps t.dfs
  gl : ∀ (y : Str) (d : D), assoc tb.gls y = some d → ∃ v u, mg y = some u ∧ RelV v u ∧ ∀ G, Dv K G v d
  bl : ∀ y, y ∈ tb.bls → mg y = none
  mt : ∀ (m : Str) (cs : List (Str × FnT)) (C : Str) (t : FnT), assoc tb.mts m = some cs → assoc cs C = some t → t.dfs = [] → ∃ cA f fd ps, PySem.W.nsIn K mainGlobals C = some (some (.ref cA)) ∧ SlX.SCls K cA ∧ Meth K cA m f ∧ FnG P w K mg base k f fd ps (spD K (Φ t.i)) ∧ Binds K fd ps []
  sl : ∀ (m : Str) (cs : List (Str × Nat)) (C : Str) (i : Nat), assoc tb.sls m = some cs → assoc cs C = some i → ∃ cA p, PySem.W.nsIn K mainGlobals C = some (some (.ref cA)) ∧ SlX.SCls K cA ∧ SlX.Slot1 K cA m p i
  mkc : ∀ (C : Str) (t : FnT) (n : Nat), assoc tb.mks C = some (t, n) → ∃ cA f fd ps, PySem.W.nsIn K mainGlobals C = some (some (.ref cA)) ∧ Mk K cA f ∧ FnG P w K mg base k f fd ps (spD K (Φ t.i)) ∧ DflOk K fd ps t.dfs
  su : SubT K tb.sub
  sm : ∃ o, base.get? sysModules = some o
  xc : ∀ (C f : Str), assoc tb.xcs C = some f → XcK P w K mg base k C f
  xs : XsK K tb.xsu tb.xfl tb.xc0
  hf : ∀ (t : FnT) (y : Str), assoc tb.hfs y = some t → ∃ f fd ps, mg y = some (.ref f) ∧ PySem.W.keepIn K (.ref f) = true ∧ FnHG P w K mg base k f fd ps (spDp K tb.xsu (Φ t.i)) ∧ Binds K fd ps []
/-- what a compiled def does is what its small form tells -/
theorem fn_comp {c : CE} {Φ : Fns} {γ : List D} {k n : Nat} {x qual : Str} {st : Stmt} {f : Addr} {fd : FuncData} {ps : List Str} {b : Ss} (F : FunG K x qual st f fd) (hS : scopeB c.N ps (defScope st) = true) (hb : compSs c n (defScope st) (defBody st) = some b)
    (T : TOk P w K mg base c.tb Φ k) : FnG P w K mg base (k + 2) f fd ps (spD K (callDef Φ γ ⟨ps.length, c.N.length, b⟩)) := by
  have S := scopeB_ok hS
  refine fn_g F S (fun vs H Q E h => ?_) (fun cdv A outer s H vs Q E hr h => ?_)
  · obtain ⟨G, M, ds, Qd, Zd, _, t, _, _, h, _⟩ := h
    exact t.length.trans h
  · obtain ⟨G, M, ds, Qd, Zd, ok, t, hq, hz, hl, h⟩ := h
    have bo : BOk c Φ γ (cxOf (L2.CX P w) P w K mg base c.N qual (defScope st) f cdv A outer s H E) (fun cls d _ H' => E cls d H') (defScope st) :=
      ⟨⟨rfl, S.nd, ⟨rfl, hr.gd, by have := hr.room.un; show (A.deeper _).units + 70 < cLine; omega, T.sm⟩, rfl, S.kind, T.mgn,
        fun t y e => let ⟨f, fd, ps, h1, h2, h3, h4⟩ := T.fn t y e; ⟨f, fd, ps, k, h1, h2, hr, h3, h4⟩, T.gl, T.bl,
        fun m cs C t e1 e2 e3 => let ⟨cA, f, fd, ps, h1, h2, h3, h4, h5⟩ := T.mt m cs C t e1 e2 e3; ⟨cA, h1, h2, f, fd, ps, k, h3, hr, h4, h5⟩, T.sl,
        fun C t n e => let ⟨cA, f, fd, ps, h1, h2, h3, h4⟩ := T.mkc C t n e; ⟨cA, f, fd, ps, k, h1, h2, hr, h3, h4⟩, T.su, fun C f e => ⟨k, hr, T.xc C f e⟩, T.xs, fun t y e => let ⟨f, fd, ps, h1, h2, h3, h4⟩ := T.hf t y e; ⟨f, fd, ps, k, h1, h2, hr, h3, h4⟩⟩, takes_of rfl rfl rfl rfl, passes_of rfl, fun _ => rfl, rfl, rfl⟩
    obtain ⟨t', pt, rt⟩ := (stmts_ok n).2 _ _ _ hb _ _ bo
    refine ⟨t', pt, rt (L2.start c.N vs) (ds.map some ++ List.replicate (c.N.length - ps.length) none) G M H _ _ ok ?_ ⟨?_, ?_, ?_, ?_, ?_⟩ h⟩
    · have tl := t.length
      have hl' : ds.length = ps.length := hl
      refine ⟨?_, fun i d e => ?_⟩
      · unfold L2.start
        simp only [List.length_append, List.length_map, List.length_replicate]
        omega
      · unfold L2.start
        by_cases hi : i < ds.length
        · rw [List.getElem?_append_left (by simpa using hi), List.getElem?_map] at e
          cases e2 : ds[i]? with
          | none => rw [e2] at e; cases e
          | some d' =>
            rw [e2] at e
            cases e
            obtain ⟨v, h1, h2⟩ := t.get e2
            refine ⟨v, ?_, h2⟩
            rw [List.getElem?_append_left (by simp; omega), List.getElem?_map, h1]; rfl
        · rw [List.getElem?_append_right (by simpa using hi), List.getElem?_replicate] at e
          split at e <;> cases e
    · intro δ' M' q σ' G' H' s' er
      exact hq _ _ q .non G' H' s'.restrict .non
    · intro r M' q v G' H' s' rv
      exact ret_ok hq s' rv q
    · intro δ' M' q
      exact q.elim
    · intro δ' M' q
      exact q.elim
    · intro x δ' M' q cv dA σ' G' H' s' xr er
      exact hz _ _ q cv dA G' H' s'.restrict xr
theorem er_start {K : PySem.W.Frag} {G : Hp} {vs : List V} {ds : List D} {N ps : List Str} (t : DvAll K G vs ds) (hl : ds.length = ps.length) (hp : ps.length ≤ N.length) : ER K G (L2.start N vs) (ds.map some ++ List.replicate (N.length - ps.length) none) := by
  have tl := t.length
  refine ⟨?_, fun i d e => ?_⟩
  · unfold L2.start
    simp only [List.length_append, List.length_map, List.length_replicate]
    omega
  · unfold L2.start
    by_cases hi : i < ds.length
    · rw [List.getElem?_append_left (by simpa using hi), List.getElem?_map] at e
      cases e2 : ds[i]? with
      | none => rw [e2] at e; cases e
      | some d' =>
        rw [e2] at e
        cases e
        obtain ⟨v, h1, h2⟩ := t.get e2
        refine ⟨v, ?_, h2⟩
        rw [List.getElem?_append_left (by simp; omega), List.getElem?_map, h1]; rfl
    · rw [List.getElem?_append_right (by simpa using hi), List.getElem?_replicate] at e
      split at e <;> cases e
/-- what a def does that is called where an error is held -/
theorem fn_compH {c : CE} {Φ : Fns} {k n : Nat} {x qual : Str} {st : Stmt} {f : Addr} {fd : FuncData} {ps : List Str} {b : Ss} (F : FunG K x qual st f fd) (hS : scopeB c.N ps (defScope st) = true) (hb : compHSs c n (defScope st) (defBody st) = some b)
    (T : TOk P w K mg base c.tb Φ k) : FnHG P w K mg base (k + 2) f fd ps (spDp K c.tb.xsu (fun ds => callDef Φ (excOf ds) ⟨ps.length, c.N.length, b⟩ ds)) := by
  have S := scopeB_ok hS
  refine fn_h F S (fun p vs H Q E h => ?_) (fun cdv A outer s H vs Q E p hr hot h => ?_)
  · obtain ⟨G, M, ds, Qd, Zd, _, _, _, t, _, _, _, _, _, h, _⟩ := h
    exact t.length.trans h
  · obtain ⟨G, M, ds, Qd, Zd, C, fs, ok, t, hq, hz, hx, hn, hin, hl, h⟩ := h
    obtain ⟨as, has⟩ := Option.isSome_iff_exists.mp hin
    obtain ⟨cA, g1, g2, g3, g4, g5, g6, _⟩ := T.xs _ _ has
    have hcl : p.2.cls = .ref cA := by rw [g1] at hn; exact (Option.some.inj (Option.some.inj hn)).symm
    have hpl : ps.length ≤ c.N.length := by have := congrArg List.length S.pre; rw [List.length_take] at this; omega
    have hX : HX c Φ (L2H.cxH (L2.CX P w) P w K mg base c.N qual (defScope st) f cdv A outer s H E p) (fun cls d _ H' => E cls d H') (defScope st) p.1 p.2 cA C :=
      ⟨rfl, S.nd, rfl, S.kind, by have := hr.room.un; show (A.deeper _).units + 70 < cLine; omega, T.bl, g2, g3, g4, List.mem_singleton.mpr rfl, ⟨hot.1, hot.2⟩, g1, hin, takes_of rfl rfl rfl rfl,
        fun t y e => let ⟨f, fd, ps, h1, h2, h3, h4⟩ := T.hf t y e; ⟨f, fd, ps, k, h1, h2, hr.mono (Nat.le_succ _), h3, h4⟩, fun D0 hD => by
          obtain ⟨as2, h2⟩ := mem_assoc hD
          obtain ⟨dA2, k1, k2, _⟩ := g5 _ _ h2
          refine ⟨dA2, T.mgn _ _ k1, fun b' hb' => ?_⟩
          obtain ⟨as3, h3, h4⟩ := assoc_isaT hb'
          rw [has] at h3
          cases h3
          show PySem.W.kitOne K (.ref cA) (.ref dA2) = some b'
          rw [k2, h4], fun q hq b' hb' => by
          obtain ⟨as3, h3, h4⟩ := assoc_isaT hb'
          rw [has] at h3
          cases h3
          show PySem.W.kitOne K (.ref cA) (.type q.2) = some b'
          rw [g6 q hq, h4]⟩
    obtain ⟨t', pt, rt⟩ := (hs_ok (fs := fs) (d := p.2.dict) hX hcl ⟨rfl, rfl⟩ hot.2 n).2 _ _ hb
    rw [hx] at h
    refine ⟨t', pt, rt (L2.start c.N vs) (ds.map some ++ List.replicate (c.N.length - ps.length) none) G M H _ _ ok (er_start t hl hpl) ⟨?_, ?_, ?_, ?_, ?_⟩ h⟩
    · intro δ' M' q σ' G' H' s' er
      exact hq _ _ q .non G' H' s'.restrict .non
    · intro r M' q v G' H' s' rv
      exact ret_ok hq s' rv q
    · intro δ' M' q
      exact q.elim
    · intro δ' M' q
      exact q.elim
    · intro x δ' M' q cv dA σ' G' H' s' xr er
      exact hz _ _ q cv dA G' H' s'.restrict xr
end
/-! ### the whole table, by the depth of calls -/
inductive Ent where
  | comp (d : Def) | prim (φ : List D → MS → KR → KX → Prop) | hot (d : Def)
def tabGet : List (Nat × Ent) → Nat → Option Ent
  | [], _ => none
  | (j, e) :: r, i => if j = i then some e else tabGet r i
def callN (tab : List (Nat × Ent)) (γ : List D) : Nat → Fns
  | 0, _ => fun _ _ _ _ => False
  | n + 1, i => match tabGet tab i with
    | some (.comp d) => callDef (callN tab γ n) γ d
    | some (.prim φ) => φ
    | some (.hot d) => fun ds => callDef (callN tab γ n) (excOf ds) d ds
    | none => fun _ _ _ _ => False
/-- what the top has left of a def, and how it was compiled -/
def EntOk (P : Program) (w : World) (K : PySem.W.Frag) (mg : Str → Option Value) (base : Heap) (tb : TB) (L : Nat) (e : Ent) (f : Addr) (fd : FuncData) (ps : List Str) : Prop := match e with
  | .comp d => ∃ (c : CE) (n : Nat) (x qual : Str) (st : Stmt), c.tb = tb ∧ FunG K x qual st f fd ∧ scopeB c.N ps (defScope st) = true ∧ compSs c n (defScope st) (defBody st) = some d.body ∧ d.arity = ps.length ∧ d.slots = c.N.length
  | .prim φ => FnG P w K mg base L f fd ps (spD K φ)
  | .hot _ => False
def EntH (K : PySem.W.Frag) (tb : TB) (d : Def) (f : Addr) (fd : FuncData) (ps : List Str) : Prop := ∃ (c : CE) (n : Nat) (x qual : Str) (st : Stmt), c.tb = tb ∧ FunG K x qual st f fd ∧ scopeB c.N ps (defScope st) = true ∧ compHSs c n (defScope st) (defBody st) = some d.body ∧ d.arity = ps.length ∧ d.slots = c.N.length
/-- what the whole text brings -/
structure TAll (P : Program) (w : World) (K : PySem.W.Frag) (mg : Str → Option Value) (base : Heap) (tb : TB) (tab : List (Nat × Ent)) (L : Nat) : Prop where
  mgn : ∀ (y : Str) (v : Value), PySem.W.nsIn K mainGlobals y = some (some v) → mg y = some v
  fn : ∀ (t : FnT) (y : Str), assoc tb.fns y = some t → ∃ e f fd ps, tabGet tab t.i = some e ∧ mg y = some (.ref f) ∧ PySem.W.keepIn K (.ref f) = true ∧ EntOk P w K mg base tb L e f fd ps ∧ DflOk K fd ps t.dfs
  gl : ∀ (y : Str) (d : D), assoc tb.gls y = some d → ∃ v u, mg y = some u ∧ RelV v u ∧ ∀ G, Dv K G v d
  bl : ∀ y, y ∈ tb.bls → mg y = none
  mt : ∀ (m : Str) (cs : List (Str × FnT)) (C : Str) (t : FnT), assoc tb.mts m = some cs → assoc cs C = some t → t.dfs = [] → ∃ e cA f fd ps, tabGet tab t.i = some e ∧ PySem.W.nsIn K mainGlobals C = some (some (.ref cA)) ∧ SlX.SCls K cA ∧ Meth K cA m f ∧ EntOk P w K mg base tb L e f fd ps ∧ Binds K fd ps []
  sl : ∀ (m : Str) (cs : List (Str × Nat)) (C : Str) (i : Nat), assoc tb.sls m = some cs → assoc cs C = some i → ∃ cA p, PySem.W.nsIn K mainGlobals C = some (some (.ref cA)) ∧ SlX.SCls K cA ∧ SlX.Slot1 K cA m p i
  mkc : ∀ (C : Str) (t : FnT) (n : Nat), assoc tb.mks C = some (t, n) → ∃ e cA f fd ps, tabGet tab t.i = some e ∧ PySem.W.nsIn K mainGlobals C = some (some (.ref cA)) ∧ Mk K cA f ∧ EntOk P w K mg base tb L e f fd ps ∧ DflOk K fd ps t.dfs
  su : SubT K tb.sub
  sm : ∃ o, base.get? sysModules = some o
  xc : ∀ (C f : Str), assoc tb.xcs C = some f → XcK P w K mg base L C f
  xs : XsK K tb.xsu tb.xfl tb.xc0
  hf : ∀ (t : FnT) (y : Str), assoc tb.hfs y = some t → ∃ d f fd ps, tabGet tab t.i = some (.hot d) ∧ mg y = some (.ref f) ∧ PySem.W.keepIn K (.ref f) = true ∧ EntH K tb d f fd ps ∧ Binds K fd ps []
theorem FnG.never {P : Program} {w : World} {K : PySem.W.Frag} {mg : Str → Option Value} {base : Heap} {k : Nat} {f : Addr} {fd : FuncData} {ps : List Str} {sp : Sp} (h : ∀ vs H Q E, ¬ sp vs H Q E) : FnG P w K mg base k f fd ps sp :=
  ⟨fun vs H Q E z => (h vs H Q E z).elim, fun _ _ _ H _ _ vs Q E _ _ _ _ z => (h vs H Q E z).elim⟩
theorem spD_never {K : PySem.W.Frag} : ∀ vs H Q E, ¬ spD K (fun _ _ _ _ => False) vs H Q E := fun vs H Q E ⟨_, _, _, _, _, _, _, _, _, z⟩ => z
theorem spDp_never {K : PySem.W.Frag} {su : List (Str × List Str)} : ∀ p vs H Q E, ¬ spDp K su (fun _ _ _ _ => False) p vs H Q E := fun p vs H Q E ⟨_, _, _, _, _, _, _, _, _, _, _, _, _, _, z⟩ => z
theorem table_both {P : Program} {w : World} {K : PySem.W.Frag} {mg : Str → Option Value} {base : Heap} {tb : TB} {tab : List (Nat × Ent)} {γ : List D} {L : Nat} (A : TAll P w K mg base tb tab L) :
    ∀ (n : Nat), (∀ (i : Nat) (e : Ent) (f : Addr) (fd : FuncData) (ps : List Str), tabGet tab i = some e → EntOk P w K mg base tb L e f fd ps → FnG P w K mg base (L + 2 * n) f fd ps (spD K (callN tab γ n i))) ∧
      (∀ (i : Nat) (d : Def) (f : Addr) (fd : FuncData) (ps : List Str), tabGet tab i = some (.hot d) → EntH K tb d f fd ps → FnHG P w K mg base (L + 2 * n) f fd ps (spDp K tb.xsu (callN tab γ n i))) := by
  intro n
  induction n with
  | zero => exact ⟨fun i e f fd ps _ _ => FnG.never fun vs H Q E h => spD_never vs H Q E h, fun i d f fd ps _ _ => FnHG.never fun p vs H Q E h => spDp_never p vs H Q E h⟩
  | succ n ih =>
    obtain ⟨ih, ihH⟩ := ih
    have T : TOk P w K mg base tb (callN tab γ n) (L + 2 * n) := ⟨A.mgn,
        fun t y e => let ⟨e', f, fd, ps, q0, q1, q2, q3, q4⟩ := A.fn t y e; ⟨f, fd, ps, q1, q2, ih t.i e' f fd ps q0 q3, q4⟩, A.gl, A.bl,
        fun m cs C t e1 e2 e3 => let ⟨e', cA, f, fd, ps, q0, q1, q2, q3, q4, q5⟩ := A.mt m cs C t e1 e2 e3; ⟨cA, f, fd, ps, q1, q2, q3, ih t.i e' f fd ps q0 q4, q5⟩, A.sl,
        fun C t n e => let ⟨e', cA, f, fd, ps, q0, q1, q2, q3, q4⟩ := A.mkc C t n e; ⟨cA, f, fd, ps, q1, q2, ih t.i e' f fd ps q0 q3, q4⟩, A.su, A.sm, fun C f e => let ⟨cA, fI, fd, ps, q1, q2, q3, q4, q5, q6, q7⟩ := A.xc C f e; ⟨cA, fI, fd, ps, q1, q2, q3, q4, q5, q6.mono (by omega), q7⟩, A.xs,
        fun t y e => let ⟨d, f, fd, ps, q0, q1, q2, q3, q4⟩ := A.hf t y e; ⟨f, fd, ps, q1, q2, ihH t.i d f fd ps q0 q3, q4⟩⟩
    constructor
    · intro i e f fd ps he eo
      unfold callN
      rw [he]
      cases e with
      | prim φ =>
        have ok : FnG P w K mg base L f fd ps (spD K φ) := eo
        exact ok.mono (by omega)
      | hot d => exact eo.elim
      | comp d =>
        obtain ⟨c, m, x, qual, st, h1, F, h4, h5, h6, h7⟩ := eo
        subst h1
        have z := fn_comp (P := P) (w := w) (mg := mg) (base := base) (Φ := callN tab γ n) (γ := γ) (k := L + 2 * n) F h4 h5 T
        obtain ⟨ar, sl, bd⟩ := d
        simp only at h5 h6 h7
        subst h6 h7
        exact z
    · intro i d f fd ps he eo
      unfold callN
      rw [he]
      obtain ⟨c, m, x, qual, st, h1, F, h4, h5, h6, h7⟩ := eo
      subst h1
      have z := fn_compH (P := P) (w := w) (mg := mg) (base := base) (Φ := callN tab γ n) (k := L + 2 * n) F h4 h5 T
      obtain ⟨ar, sl, bd⟩ := d
      simp only at h5 h6 h7
      subst h6 h7
      exact z
theorem table_ok {P : Program} {w : World} {K : PySem.W.Frag} {mg : Str → Option Value} {base : Heap} {tb : TB} {tab : List (Nat × Ent)} {γ : List D} {L : Nat} (A : TAll P w K mg base tb tab L) :
    ∀ (n i : Nat) (e : Ent) (f : Addr) (fd : FuncData) (ps : List Str), tabGet tab i = some e → EntOk P w K mg base tb L e f fd ps → FnG P w K mg base (L + 2 * n) f fd ps (spD K (callN tab γ n i)) := fun n => (table_both A n).1
end DL
set_option maxRecDepth 100000
set_option maxHeartbeats 8000000
namespace DL
open PySem L2 PyProof.Rows
/-! ### the law's own call -/
/-- the heap without what is tracked is a ground to stand on -/
theorem ground {P : Program} {w : World} {K : PySem.W.Frag} {mg mb : Str → Option Value} {s : Shared} {a : Addr} {vs : List Value} {H : Hp} (kin : K.In s.heap) (gl : s.heap.Ns mainGlobals mg) (bl : s.heap.Ns builtinsNs mb)
    (bb : ∀ x : Str, x ≠ "__name__" → mb x = bootBuiltins x) (lim : s.heap.NoLimit) (sys : ∃ mm, s.heap.Ns sysModules mm) (gen : s.gens = #[]) (ha : s.heap.get? a = some { cls := .type "list", data := .seq vs.toArray })
    (hok : HOk P w H s.heap) (alone : ∀ b, H b ≠ none → b = a) (hk : H a ≠ none → K.lookup a = none) :
    K.In (hidT s.heap H) ∧ (hidT s.heap H).Ns mainGlobals mg ∧ (∃ o, (hidT s.heap H).get? sysModules = some o) ∧ Env0 P w K mg (hidT s.heap H) callerA [] s H := by
  have dic : ∀ {b : Addr} {m : Str → Option Value}, s.heap.Ns b m → (hidT s.heap H).Ns b m := by
    rintro b m ⟨o, es, ep, e, d, r⟩
    refine ⟨o, es, ep, hidT_get e ?_, d, r⟩
    cases hb : H b with
    | none => rfl
    | some u =>
      have eb := alone b (by rw [hb]; simp)
      subst eb
      rw [ha] at e
      cases e
      cases d
  have kin' : K.In (hidT s.heap H) := fun b o e => hidT_get (kin b o e) (by
    cases hb : H b with
    | none => rfl
    | some u =>
      have eb := alone b (by rw [hb]; simp)
      subst eb
      rw [hk (by rw [hb]; simp)] at e
      cases e)
  obtain ⟨mc, l1, l2⟩ := lim
  obtain ⟨mm, y⟩ := sys
  obtain ⟨o, _, _, yo, _⟩ := dic y
  exact ⟨kin', dic gl, ⟨o, yo⟩, ⟨rfl, ⟨kin', dic gl, ⟨mb, dic bl, bb⟩, ⟨mc, dic l1, l2⟩⟩, fun b o e => of_hidT e, Nat.le_of_eq (hidT_size _ _), trivial, fun b hb => absurd (show b ∈ ([] : List Addr) from hb) (by simp), hok, .of_eq gen⟩⟩
theorem cx_none {P : Program} {w : World} {H : Hp} {s s' : Shared} {e : Value} (h : L2.CX P w [] H s (fun _ _ _ => False) e s') : False := by
  obtain ⟨_, _, _, _, _, _, _, _, _, _, _, _, z⟩ := h
  exact z
theorem law_g {P : Program} {w : World} {K : PySem.W.Frag} {mg mb : Str → Option Value} {k : Nat} {fa a : Addr} {fd : FuncData} {x : Str} {sp : Sp} {s : Shared} {vs : List Value} {ns : List Int} (kin : K.In s.heap) (gl : s.heap.Ns mainGlobals mg)
    (bl : s.heap.Ns builtinsNs mb) (bb : ∀ x : Str, x ≠ "__name__" → mb x = bootBuiltins x) (lim : s.heap.NoLimit) (sys : ∃ mm, s.heap.Ns sysModules mm) (gen : s.gens = #[]) (ha : s.heap.get? a = some { cls := .type "list", data := .seq vs.toArray })
    (hi : IntsAre vs ns) (hl : ns.length ≤ sizeLine) (hr : Room k callerA)
    (F : ∀ base : Heap, K.In base → base.Ns mainGlobals mg → (∃ o, base.get? sysModules = some o) → FnG P w K mg base k fa fd [x] sp) (hb : ∀ (s : Shared) (u : Value), BindsTo s fd ⟨[u], []⟩ [(x, u)])
    (hsp : ∀ H : Hp, Only H → SqL K H a (ns.map V.int) → sp [.ref a] H (fun v _ => v = .bl true) fun _ _ _ => False) :
    codeAny (model P w) callerA (.call (.ref fa) ⟨[.ref a], []⟩) (fun r s' => r = .ok (.ret (.bool true)) ∧ OldK s.heap s'.heap ∧ s'.os = s.os ∧ AllBare s'.gens) s := by
  have main : ∀ H : Hp, Only H → SqL K H a (ns.map V.int) → HOk P w H s.heap → (∀ b, H b ≠ none → b = a) → (H a ≠ none → K.lookup a = none) →
      codeAny (model P w) callerA (.call (.ref fa) ⟨[.ref a], []⟩) (fun r s' => r = .ok (.ret (.bool true)) ∧ OldK s.heap s'.heap ∧ s'.os = s.os ∧ AllBare s'.gens) s := fun H only sq hok alone hk => by
    obtain ⟨g1, g2, g3, e0⟩ := ground (P := P) (w := w) kin gl bl bb lim sys gen ha hok alone hk
    have run := (F _ g1 g2 g3).run callerA [] s H ⟨[.ref a], []⟩ [.ref a] [.ref a] _ _ ⟨hr, rfl⟩ e0 (hb s (.ref a)) (.cons rfl .nil) (hsp H only sq)
    refine codeAny_mono run fun r s' h => ?_
    match r, h with
    | .error e, h => exact (cx_none h).elim
    | .ok .next, h => exact h.elim
    | .ok .brk, h => exact h.elim
    | .ok .cont, h => exact h.elim
    | .ok (.ret u), ⟨v, H', os, bare, un, hok', rv, q⟩ =>
      have q' : v = .bl true := q
      subst q'
      obtain rfl : u = Value.bool true := rv
      refine ⟨rfl, OldK.of_keep fun b o e => ?_, os, bare⟩
      rcases only b with z | ⟨ob, xs, z⟩
      · exact un.keep b o e z (fun y => absurd (show b ∈ ([] : List Addr) from y) (by simp)) (by simp)
      · have e1 := (hok b _ z).1
        have e2 := (hok' b _ (un.frzs b ob _ z)).1
        rw [e] at e1
        cases e1
        exact e2
  have rv := vals_ints hi
  cases hk : K.lookup a with
  | some o =>
    have e := kin a o hk
    rw [ha] at e
    cases e
    refine main (fun _ => none) (fun _ => .inl rfl) (.inr ⟨_, vs.toArray, _, hk, rfl, rfl, rfl, ?_, by simpa using rv⟩) (fun b u z => ?_) (fun b z => absurd rfl z) fun z => absurd rfl z
    · rw [List.size_toArray, hi.length]; exact hl
    · exact absurd (show (none : Option HO) = some u from z) (by simp)
  | none =>
    have only1 : ∀ b, (fun b => if b = a then some (HO.frz { cls := .type "list", data := .seq vs.toArray } (.lst (ns.map V.int))) else none : Hp) b ≠ none → b = a := fun b z => by
      by_cases e : b = a
      · exact e
      · exact absurd (if_neg e) z
    refine main (fun b => if b = a then some (.frz { cls := .type "list", data := .seq vs.toArray } (.lst (ns.map V.int))) else none) (fun b => ?_) (.inl (.inr ⟨_, if_pos rfl⟩)) (fun b u z => ?_) only1 fun _ => hk
    · by_cases e : b = a
      · exact .inr ⟨_, _, if_pos e⟩
      · exact .inl (if_neg e)
    · have e := only1 b (by rw [z]; simp)
      subst e
      have z' := (if_pos rfl).symm.trans z
      cases z'
      exact ⟨ha, by rw [List.length_map]; exact hl, vs, _, rv, ha⟩
theorem walk_g {l : PySem.W.OpenLaw} {n k : Nat} {q : Program} {loose : List Str} {XP : (Str → Option Value) → Heap → Prop} {YP : World → Heap → Prop} {d : DefRec} {K : Params → PySem.W.Frag} {sp : World → Sp} {x : Str}
    (hn : l.most = some n) (hn2 : n ≤ sizeLine) (hdf : d.params.defaults = []) (hr : Room k callerA) (himp : importsNone q = true) (hY : ∀ (w : World) (h : Heap), YP w h → (K w.params).In h)
    (F : ∀ (w : World) (mg : Str → Option Value) (fa : Addr) (h : Heap), (K w.params).In h → h.Ns mainGlobals mg → mg d.name = some (.ref fa) →
      ∃ fd : FuncData, (∀ (s : Shared) (u : Value), BindsTo s fd ⟨[u], []⟩ [(x, u)]) ∧
        ∀ base : Heap, (K w.params).In base → base.Ns mainGlobals mg → (∃ o, base.get? sysModules = some o) → FnG l.prog w (K w.params) mg base k fa fd [x] (sp w))
    (hsp : ∀ (w : World) (H : Hp) (a : Addr) (ns : List Int), ns.length ≤ n → Only H → SqL (K w.params) H a (ns.map V.int) → sp w [.ref a] H (fun v _ => v = .bl true) fun _ _ _ => False) :
    PySem.W.WalkO q loose XP YP l.row.toRowW d [] (fun f vs => PySem.call f vs) := by
  refine Att.attach_call hn hdf ?_
  intro w s₀ s₁ mg mb fa o pm cd doc a vs ns G Y _ _ _ hmg hobj hints hlen hg
  obtain ⟨fd, b1, b2⟩ := F w mg fa _ (hY w _ Y) G.T.g hmg
  obtain ⟨mm, y, _⟩ := (G.T.seer himp).mods
  exact law_g (hY w _ Y) G.T.g G.T.b G.T.builtins G.T.nolimit ⟨mm, y⟩ hg hobj hints (Nat.le_trans hlen hn2) hr b2 b1 fun H o s => hsp w H a ns hlen o s
end DL
set_option maxRecDepth 100000
set_option maxHeartbeats 8000000
namespace DL
open PySem L2
/-! ### steps: the small language's meaning, one construct at a time -/
section
variable {Φ : Fns} {γ : List D} {δ : DEnv} {M : MS} {Q : KR} {Z : KX} {F : DE}
theorem v_var {i : Nat} {d : D} (hd : δ[i]? = some (some d)) (h : Q (.val d) M) : evalE Φ γ (.var i) δ M Q Z := by unfold evalE; exact ⟨d, hd, h⟩
theorem v_cst {d : D} (h : Q (.val d) M) : evalE Φ γ (.cst d) δ M Q Z := by unfold evalE; exact h
theorem v_gl {i : Nat} {d : D} (hd : γ[i]? = some d) (h : Q (.val d) M) : evalE Φ γ (.gl i) δ M Q Z := by unfold evalE; exact ⟨d, hd, h⟩
theorem v_tup {es : Es} (h : evalEs Φ γ es δ M (fun ds M' => ds.length ≤ sizeLine ∧ Q (.val (.tup ds)) M') Z) : evalE Φ γ (.tup es) δ M Q Z := by unfold evalE; exact h
theorem v_lst {es : Es} (h : evalEs Φ γ es δ M (fun ds M' => ds.length ≤ sizeLine ∧ Q (.new ds) M') Z) : evalE Φ γ (.lst es) δ M Q Z := by unfold evalE; exact h
theorem v_dct {es : Es} (h : evalEs Φ γ es δ M (fun ds M' => ∃ kvs, pairsD ds = some kvs ∧ kvs.length ≤ 15 ∧ (kvs.map (·.1)).Nodup ∧ Q (.val (.dct kvs)) M') Z) : evalE Φ γ (.dct es) δ M Q Z := by unfold evalE; exact h
theorem v_bin {o : Operator} {a b : E} (h : evalE Φ γ a δ M (fun x M1 => evalE Φ γ b δ M1 (fun y M2 => ∃ r, op2 o (view M2 x.toD) (view M2 y.toD) = some r ∧ Q r M2) Z) Z) : evalE Φ γ (.bin o a b) δ M Q Z := by unfold evalE; exact h
theorem v_neg {a : E} (h : evalE Φ γ a δ M (fun x M1 => ∃ i, x.toD = .int i ∧ Q (.val (.int (-i))) M1) Z) : evalE Φ γ (.neg a) δ M Q Z := by unfold evalE; exact h
theorem v_cmp {o : CmpOp} {a b : E} (h : evalE Φ γ a δ M (fun x M1 => evalE Φ γ b δ M1 (fun y M2 => ∃ k, cmp2 o (view M2 x.toD) (view M2 y.toD) = some k ∧ Q (.val (.bl k)) M2) Z) Z) : evalE Φ γ (.cmp o a b) δ M Q Z := by unfold evalE; exact h
theorem v_chain {o o' : CmpOp} {a b c : E} (h : evalE Φ γ a δ M (fun x M1 => evalE Φ γ b δ M1 (fun y M2 => ∃ k, cmp2 o (view M2 x.toD) (view M2 y.toD) = some k ∧
      if k = true then evalE Φ γ c δ M2 (fun z M3 => ∃ k', cmp2 o' (view M3 y.toD) (view M3 z.toD) = some k' ∧ Q (.val (.bl k')) M3) Z else Q (.val (.bl false)) M2) Z) Z) : evalE Φ γ (.chain o o' a b c) δ M Q Z := by unfold evalE; exact h
theorem v_not {a : E} (h : evalE Φ γ a δ M (fun x M1 => ∃ k, truthD (view M1 x.toD) = some k ∧ Q (.val (.bl (!k))) M1) Z) : evalE Φ γ (.not a) δ M Q Z := by unfold evalE; exact h
theorem v_and {a b : E} (h : evalE Φ γ a δ M (fun x M1 => ∃ k, truthD (view M1 x.toD) = some k ∧ if k = true then evalE Φ γ b δ M1 Q Z else Q (.val x.toD) M1) Z) : evalE Φ γ (.and a b) δ M Q Z := by unfold evalE; exact h
theorem v_or {a b : E} (h : evalE Φ γ a δ M (fun x M1 => ∃ k, truthD (view M1 x.toD) = some k ∧ if k = true then Q (.val x.toD) M1 else evalE Φ γ b δ M1 Q Z) Z) : evalE Φ γ (.or a b) δ M Q Z := by unfold evalE; exact h
theorem v_ife {t : T} {a b : E} (h : evalT Φ γ t δ M (fun k M1 => if k = true then evalE Φ γ a δ M1 Q Z else evalE Φ γ b δ M1 Q Z) Z) : evalE Φ γ (.ife t a b) δ M Q Z := by unfold evalE; exact h
theorem v_idx {a i : E} (h : evalE Φ γ a δ M (fun x M1 => evalE Φ γ i δ M1 (fun y M2 => ∃ d, idxD (view M2 x.toD) y.toD = some d ∧ Q (.val d) M2) Z) Z) : evalE Φ γ (.idx a i) δ M Q Z := by unfold evalE; exact h
theorem v_slc {a : E} {lo hi : O} (h : evalE Φ γ a δ M (fun x M1 => evalO Φ γ lo δ M1 (fun l M2 => evalO Φ γ hi δ M2 (fun h M3 => ∃ r, slcD (view M3 x.toD) l h = some r ∧ Q r M3) Z) Z) Z) : evalE Φ γ (.slc a lo hi) δ M Q Z := by unfold evalE; exact h
theorem v_call {f : Nat} {es : Es} (h : evalEs Φ γ es δ M (fun ds M1 => Φ f ds M1 Q Z) Z) : evalE Φ γ (.call f es) δ M Q Z := by unfold evalE; exact h
theorem v_bi {b : BI} {es : Es} (h : evalEs Φ γ es δ M (fun ds M1 => ∃ r, biD b (ds.map (view M1)) = some r ∧ Q r M1) Z) : evalE Φ γ (.bi b es) δ M Q Z := by unfold evalE; exact h
theorem v_isi {a : E} {ts : List String} (h : evalE Φ γ a δ M (fun x M1 => ∃ k, isiD (view M1 x.toD) ts = some k ∧ Q (.val (.bl k)) M1) Z) : evalE Φ γ (.isi a ts) δ M Q Z := by unfold evalE; exact h
theorem v_mt {m : MT} {a : E} {es : Es} (h : evalE Φ γ a δ M (fun x M1 => ∃ z, x.toD = .str z ∧ evalEs Φ γ es δ M1 (fun ds M2 => ∃ r, mtD m (.str z) (ds.map (view M2)) = some r ∧ Q r M2) Z) Z) : evalE Φ γ (.mt m a es) δ M Q Z := by unfold evalE; exact h
theorem v_comp {elt : E} {tg : List Nat} {one : Bool} {own : List Nat} {it : I} {cond : T} (h : evalI Φ γ it δ M (fun src items M1 =>
      compLoop src (fun d acc M2 k => ∃ δ', bindT (wipeD δ own) tg one d = some δ' ∧ evalT Φ γ cond δ' M2 (fun b M3 =>
        if b = true then evalE Φ γ elt δ' M3 (fun r M4 => k (acc ++ [r.toD]) M4) (fun _ _ => False) else k acc M3) (fun _ _ => False)) items [] M1 fun acc M5 => Q (.new acc) M5) Z) : evalE Φ γ (.comp elt tg one own it cond) δ M Q Z := by unfold evalE; exact h
theorem v_own {a : E} (h : evalE Φ γ a δ M (fun r M1 => ∃ ds, r = .new ds ∧ ∀ p, M1 p = none → Q (.val (.obj p)) (updM M1 p (.lst ds))) Z) : evalE Φ γ (.own a) δ M Q Z := by unfold evalE; exact h
theorem v_frz {a : E} (h : evalE Φ γ a δ M (fun r M1 => ∃ p ds, r.toD = .obj p ∧ M1 p = some (.lst ds) ∧ Q (.val (.lst ds)) (dropM M1 p)) Z) : evalE Φ γ (.frz a) δ M Q Z := by unfold evalE; exact h
theorem v_lens {a : E} (h : evalE Φ γ a δ M (fun r M1 => ∃ ys, textsD (view M1 r.toD) = some ys ∧ ys.length ≤ 4000 ∧ Q (.val (.int (cntN ys ys.length : Nat))) M1) Z) : evalE Φ γ (.lens a) δ M Q Z := by unfold evalE; exact h
theorem va_nil {Q : List D → MS → Prop} (h : Q [] M) : evalEs Φ γ .nil δ M Q Z := by unfold evalEs; exact h
theorem va_cons {e : E} {es : Es} {Q : List D → MS → Prop} (h : evalE Φ γ e δ M (fun r M1 => evalEs Φ γ es δ M1 (fun ds M2 => Q (r.toD :: ds) M2) Z) Z) : evalEs Φ γ (.cons e es) δ M Q Z := by unfold evalEs; exact h
theorem vo_none {Q : Option Int → MS → Prop} (h : Q none M) : evalO Φ γ .none δ M Q Z := by unfold evalO; exact h
theorem vo_some {e : E} {Q : Option Int → MS → Prop} (h : evalE Φ γ e δ M (fun r M1 => ∃ i, r.toD = .int i ∧ Q (some i) M1) Z) : evalO Φ γ (.some e) δ M Q Z := by unfold evalO; exact h
theorem vt_yes {Q : Bool → MS → Prop} (h : Q true M) : evalT Φ γ .yes δ M Q Z := by unfold evalT; exact h
theorem vt_e {e : E} {Q : Bool → MS → Prop} (h : evalE Φ γ e δ M (fun r M1 => ∃ k, truthD (view M1 r.toD) = some k ∧ Q k M1) Z) : evalT Φ γ (.e e) δ M Q Z := by unfold evalT; exact h
theorem vt_and {a b : T} {Q : Bool → MS → Prop} (h : evalT Φ γ a δ M (fun k M1 => if k = true then evalT Φ γ b δ M1 Q Z else Q false M1) Z) : evalT Φ γ (.and a b) δ M Q Z := by unfold evalT; exact h
theorem vt_or {a b : T} {Q : Bool → MS → Prop} (h : evalT Φ γ a δ M (fun k M1 => if k = true then Q true M1 else evalT Φ γ b δ M1 Q Z) Z) : evalT Φ γ (.or a b) δ M Q Z := by unfold evalT; exact h
theorem vt_not {a : T} {Q : Bool → MS → Prop} (h : evalT Φ γ a δ M (fun k M1 => Q (!k) M1) Z) : evalT Φ γ (.not a) δ M Q Z := by unfold evalT; exact h
theorem vi_seq {e : E} {Q : (MS → Prop) → List D → MS → Prop} (h : evalE Φ γ e δ M (fun r M1 => ∃ items, itemsD (view M1 r.toD) = some items ∧ Q (fun M2 => itemsD (view M2 r.toD) = some items) items M1) Z) : evalI Φ γ (.seq e) δ M Q Z := by unfold evalI; exact h
theorem vi_rng1 {e : E} {Q : (MS → Prop) → List D → MS → Prop} (h : evalE Φ γ e δ M (fun r M1 => ∃ i, r.toD = .int i ∧ i < 2 ^ 62 ∧ -(2 ^ 62) ≤ i ∧ Q (fun _ => True) ((List.range i.toNat).map fun (k : Nat) => D.int (k : Int)) M1) Z) : evalI Φ γ (.rng1 e) δ M Q Z := by unfold evalI; exact h
theorem vi_rng2 {a b : E} {Q : (MS → Prop) → List D → MS → Prop} (h : evalE Φ γ a δ M (fun r M1 => evalE Φ γ b δ M1 (fun r' M2 => ∃ i j, r.toD = .int i ∧ r'.toD = .int j ∧ -(2 ^ 62) ≤ i ∧ i < 2 ^ 62 ∧ -(2 ^ 62) ≤ j ∧ j < 2 ^ 62 ∧
      Q (fun _ => True) ((List.range (j - i).toNat).map fun (k : Nat) => D.int (i + (k : Int))) M2) Z) Z) : evalI Φ γ (.rng2 a b) δ M Q Z := by unfold evalI; exact h
theorem vi_rng3 {a b c : E} {Q : (MS → Prop) → List D → MS → Prop} (h : evalE Φ γ a δ M (fun r M1 => evalE Φ γ b δ M1 (fun r' M2 => evalE Φ γ c δ M2 (fun r'' M3 => ∃ i j k n, r.toD = .int i ∧ r'.toD = .int j ∧ r''.toD = .int k ∧ RgC i j k n ∧
      Q (fun _ => True) ((List.range n).map fun (m : Nat) => D.int (i + (m : Nat) * k)) M3) Z) Z) Z) : evalI Φ γ (.rng3 a b c) δ M Q Z := by unfold evalI; exact h
theorem vi_enum {e : E} {Q : (MS → Prop) → List D → MS → Prop} (h : evalE Φ γ e δ M (fun r M1 => ∃ items, view M1 r.toD = .lst items ∧ Q (fun M2 => view M2 r.toD = .lst items) (items.mapIdx fun (k : Nat) d => D.tup [.int (k : Int), d]) M1) Z) : evalI Φ γ (.enum e) δ M Q Z := by unfold evalI; exact h
theorem x_ins {o i e : E} (h : evalE Φ γ o δ M (fun x M1 => ∃ p, x.toD = .obj p ∧ (∃ ds, M1 p = some (.lst ds)) ∧ evalE Φ γ i δ M1 (fun z M2 => evalE Φ γ e δ M2 (fun y M3 => ∃ ds k, M3 p = some (.lst ds) ∧ z.toD = .int k ∧ 0 ≤ k ∧ k < 2 ^ 63 ∧ ds.length < sizeLine ∧
      F.nx δ (updM M3 p (.lst (ds.take k.toNat ++ [y.toD] ++ ds.drop k.toNat)))) fun x M1 => F.xc x δ M1) fun x M1 => F.xc x δ M1) fun x M1 => F.xc x δ M1) : execS Φ γ (.ins o i e) F δ M := by unfold execS; exact h
theorem x_nil (h : F.nx δ M) : execSs Φ γ .nil F δ M := by unfold execSs; exact h
theorem x_cons {s : S} {ss : Ss} (h : execS Φ γ s { nx := fun δ' M' => execSs Φ γ ss F δ' M', rt := F.rt, bk := F.bk, ct := F.ct, xc := F.xc } δ M) : execSs Φ γ (.cons s ss) F δ M := by unfold execSs; exact h
theorem x_set {i : Nat} {e : E} (h : evalE Φ γ e δ M (fun r M1 => F.nx (δ.set i (some r.toD)) M1) fun x M1 => F.xc x δ M1) : execS Φ γ (.set i e) F δ M := by unfold execS; exact h
theorem x_setM {i : Nat} {e : E} (h : evalE Φ γ e δ M (fun r M1 => ∃ ds, r = .new ds ∧ ∀ p, M1 p = none → F.nx (δ.set i (some (.obj p))) (updM M1 p (.lst ds))) fun x M1 => F.xc x δ M1) : execS Φ γ (.setM i e) F δ M := by unfold execS; exact h
theorem x_par {is : List Nat} {es : Es} (h : evalEs Φ γ es δ M (fun ds M1 => ds.length ≤ sizeLine ∧ is.length = ds.length ∧ F.nx ((is.zip ds).foldl (fun δ p => δ.set p.1 (some p.2)) δ) M1) fun x M1 => F.xc x δ M1) : execS Φ γ (.par is es) F δ M := by unfold execS; exact h
theorem x_unp {is : List Nat} {e : E} (h : evalE Φ γ e δ M (fun r M1 => ∃ δ', bindT δ is false r.toD = some δ' ∧ F.nx δ' M1) fun x M1 => F.xc x δ M1) : execS Φ γ (.unp is e) F δ M := by unfold execS; exact h
theorem x_sto {o i e : E} (h : evalE Φ γ e δ M (fun y M1 => evalE Φ γ o δ M1 (fun x M2 => evalE Φ γ i δ M2 (fun z M3 => ∃ p ds k j, x.toD = .obj p ∧ M3 p = some (.lst ds) ∧ z.toD = .int k ∧ ixN ds.length k = some j ∧
      F.nx δ (updM M3 p (.lst (ds.set j y.toD)))) fun x M1 => F.xc x δ M1) fun x M1 => F.xc x δ M1) fun x M1 => F.xc x δ M1) : execS Φ γ (.sto o i e) F δ M := by unfold execS; exact h
theorem x_exp {e : E} (h : evalE Φ γ e δ M (fun _ M1 => F.nx δ M1) fun x M1 => F.xc x δ M1) : execS Φ γ (.exp e) F δ M := by unfold execS; exact h
theorem x_ret {e : E} (h : evalE Φ γ e δ M F.rt fun x M1 => F.xc x δ M1) : execS Φ γ (.ret e) F δ M := by unfold execS; exact h
theorem x_retN (h : F.rt (.val .non) M) : execS Φ γ .retN F δ M := by unfold execS; exact h
theorem x_iff {t : T} {a b : Ss} (h : evalT Φ γ t δ M (fun k M1 => if k = true then execSs Φ γ a F δ M1 else execSs Φ γ b F δ M1) fun x M1 => F.xc x δ M1) : execS Φ γ (.iff t a b) F δ M := by unfold execS; exact h
theorem x_pass (h : F.nx δ M) : execS Φ γ .pass F δ M := by unfold execS; exact h
theorem x_app {o e : E} (h : evalE Φ γ o δ M (fun x M1 => ∃ p, x.toD = .obj p ∧ (∃ ds, M1 p = some (.lst ds)) ∧ evalE Φ γ e δ M1 (fun y M2 => ∃ ds, M2 p = some (.lst ds) ∧ ds.length < sizeLine ∧ F.nx δ (updM M2 p (.lst (ds ++ [y.toD])))) fun x M1 => F.xc x δ M1) fun x M1 => F.xc x δ M1) : execS Φ γ (.app o e) F δ M := by unfold execS; exact h
theorem x_aug {i : Nat} {o : Operator} {e : E} {d : D} (hd : δ[i]? = some (some d)) (h : evalE Φ γ e δ M (fun y M1 =>
      (∃ p xs ys, d = .obj p ∧ o = .Add ∧ M1 p = some (.lst xs) ∧ view M1 y.toD = .lst ys ∧ xs.length + ys.length ≤ sizeLine ∧ F.nx δ (updM M1 p (.lst (xs ++ ys)))) ∨
      ∃ z, augD o d y.toD = some z ∧ F.nx (δ.set i (some z)) M1) fun x M1 => F.xc x δ M1) : execS Φ γ (.aug i o e) F δ M := by unfold execS; exact ⟨d, hd, h⟩
theorem x_augS {o i e : E} {op : Operator} (h : evalE Φ γ o δ M (fun x M1 => evalE Φ γ i δ M1 (fun z M2 => ∃ p k, x.toD = .obj p ∧ z.toD = .int k ∧ ∃ ds d, M2 p = some (.lst ds) ∧ atI ds k = some d ∧ evalE Φ γ e δ M2 (fun y M3 => ∃ w ds' j, augD op d y.toD = some w ∧ M3 p = some (.lst ds') ∧ ixN ds'.length k = some j ∧
      F.nx δ (updM M3 p (.lst (ds'.set j w)))) fun x M1 => F.xc x δ M1) fun x M1 => F.xc x δ M1) fun x M1 => F.xc x δ M1) : execS Φ γ (.augS o i op e) F δ M := by unfold execS; exact h
theorem x_for {tg : List Nat} {one : Bool} {it : I} {body : Ss} (h : evalI Φ γ it δ M (fun src items M1 => forLoop src (fun d δ' M' next => ∃ δ2, bindT δ' tg one d = some δ2 ∧ execSs Φ γ body { nx := next, rt := F.rt, bk := F.nx, ct := next, xc := F.xc } δ2 M') F.nx items δ M1) fun x M1 => F.xc x δ M1) : execS Φ γ (.for_ tg one it body) F δ M := by unfold execS; exact h
end
/-- an if whose test is a decision -/
theorem if_dec {c : Prop} [Decidable c] {A B : Prop} (h1 : c → A) (h2 : ¬ c → B) : if (decide c) = true then A else B := by
  by_cases h : c
  · rw [if_pos (decide_eq_true h)]; exact h1 h
  · rw [if_neg (by rw [decide_eq_false h]; exact Bool.false_ne_true)]; exact h2 h
theorem if_bl {k : Bool} {A B : Prop} (h1 : k = true → A) (h2 : k = false → B) : if k = true then A else B := by
  cases k
  · rw [if_neg Bool.false_ne_true]; exact h2 rfl
  · rw [if_pos rfl]; exact h1 rfl
theorem if_t {A B : Prop} (h : A) : if true = true then A else B := by rw [if_pos rfl]; exact h
theorem if_f {A B : Prop} (h : B) : if false = true then A else B := by rw [if_neg Bool.false_ne_true]; exact h
/-- a list with an identity, seen -/
theorem view_obj {M : MS} {p : Addr} {ds : List D} (h : M p = some (.lst ds)) : view M (.obj p) = .lst ds := by unfold view; simp only [h]
theorem idx_obj {M : MS} {p : Addr} {ds : List D} {k : Int} {d : D} (hM : M p = some (.lst ds)) (h : atI ds k = some d) : idxD (view M (R.toD (.val (.obj p)))) (R.toD (.val (.int k))) = some d := by
  show idxD (view M (.obj p)) (.int k) = some d
  rw [view_obj hM]; exact h
end DL
set_option maxRecDepth 100000
set_option maxHeartbeats 8000000
namespace DL
open PySem L2
theorem c_def {Φ : Fns} {γ : List D} {ar sl : Nat} {b : Ss} {ds : List D} {M : MS} {Q : KR} {Z : KX} (δ0 : DEnv) (hl : ds.length = ar) (hδ : ds.map some ++ List.replicate (sl - ar) none = δ0)
    (h : execSs Φ γ b { nx := fun _ M' => Q (.val .non) (restrict M M'), rt := retR M Q, xc := fun x _ M' => Z x (restrict M M') } δ0 M) : callDef Φ γ ⟨ar, sl, b⟩ ds M Q Z := by
  subst hδ
  exact ⟨hl, h⟩
/-! ### decisions -/
theorem shaped_int (i : Int) : SeqAt.shaped (toP (.int i)) = true := by simp [SeqAt.shaped, toP, PyData.canLay0, PyData.depth]
theorem shaped_bl (i : Bool) : SeqAt.shaped (toP (.bl i)) = true := by simp [SeqAt.shaped, toP, PyData.canLay0, PyData.depth]
theorem eqS_of {x y : D} (h1 : isP x = true) (h2 : isP y = true) (h3 : SeqAt.shaped (toP x) = true) (h4 : SeqAt.shaped (toP y) = true) : eqS x y = some (PyData.eqv (toP x) (toP y)) := by
  unfold eqS
  rw [if_pos ⟨h1, h2, h3, h4⟩]
theorem eqv_int (i j : Int) : PyData.eqv (toP (.int i)) (toP (.int j)) = decide (i = j) := by
  simp only [toP, PyData.eqv]
  exact Bool.beq_eq_decide_eq i j
theorem eq_int (i j : Int) : cmp2 .Eq (.int i) (.int j) = some (decide (i = j)) := by
  show eqS (.int i) (.int j) = _
  rw [eqS_of rfl rfl (shaped_int i) (shaped_int j), eqv_int]
theorem ne_int (i j : Int) : cmp2 .NotEq (.int i) (.int j) = some (!decide (i = j)) := by
  show (eqS (.int i) (.int j)).map (!·) = _
  rw [eqS_of rfl rfl (shaped_int i) (shaped_int j), eqv_int]; rfl
theorem mul_ok {i j : Int} (h : (-(2 ^ 64) < i ∧ i < 2 ^ 64) ∨ (-(2 ^ 64) < j ∧ j < 2 ^ 64)) : op2 .Mult (.int i) (.int j) = some (.val (.int (i * j))) := if_pos h
theorem mod_ok {i j : Int} (h : 0 < j) : op2 .Mod (.int i) (.int j) = some (.val (.int (i % j))) := if_pos h
theorem div_ok {i j : Int} (h : 0 < j ∧ j < 1073741824) : op2 .FloorDiv (.int i) (.int j) = some (.val (.int (i / j))) := if_pos h
/-! ### the law's draws -/
def TAKE : Ss :=
  (.cons (.iff (.e (.cmp .Eq (.idx (.var 0) (.cst (.int 0))) (.cst (.int 0)))) (.cons (.set 2 (.cst (.int 0))) (.cons (.iff (.e (.cmp .Lt (.idx (.var 0) (.cst (.int 2))) (.bi .len (.cons (.idx (.var 0) (.cst (.int 3))) .nil)))) (.cons (.set 2 (.idx (.idx (.var 0) (.cst (.int 3))) (.idx (.var 0) (.cst (.int 2))))) .nil) .nil) (.cons (.augS (.var 0) (.cst (.int 2)) .Add (.cst (.int 1))) (.cons (.iff (.e (.cmp .GtE (.var 2) (.cst (.int 1000000000000000000)))) (.cons (.sto (.var 0) (.cst (.int 0)) (.var 2)) .nil) .nil) (.cons (.set 3 (.bin .Add (.bin .Add (.bin .Mult (.idx (.var 0) (.cst (.int 1))) (.cst (.int 48271))) (.bin .Mod (.bi .int (.cons (.var 2) .nil)) (.cst (.int 2147483647)))) (.bin .Mult (.cst (.int 7919)) (.idx (.var 0) (.cst (.int 2)))))) (.cons (.sto (.var 0) (.cst (.int 1)) (.bin .Mod (.bi .int (.cons (.var 3) .nil)) (.cst (.int 2147483647)))) .nil)))))) .nil) (.cons (.iff (.e (.cmp .Gt (.idx (.var 0) (.cst (.int 0))) (.cst (.int 0)))) (.cons (.set 4 (.bin .Mod (.bi .int (.cons (.idx (.var 0) (.cst (.int 0))) .nil)) (.var 1))) (.cons (.sto (.var 0) (.cst (.int 0)) (.bin .FloorDiv (.idx (.var 0) (.cst (.int 0))) (.var 1))) (.cons (.ret (.var 4)) .nil))) .nil) (.cons (.set 5 (.bin .Mod (.bi .int (.cons (.bin .Mult (.bin .Add (.idx (.var 0) (.cst (.int 1))) (.cst (.int 1))) (.cst (.int 39373))) .nil)) (.cst (.int 1000000007)))) (.cons (.set 6 (.bin .Mod (.bi .int (.cons (.bin .Mult (.bin .Mod (.bi .int (.cons (.bin .Mult (.var 5) (.var 5)) .nil)) (.cst (.int 998244353))) (.cst (.int 30011))) .nil)) (.cst (.int 998244353)))) (.cons (.iff (.e (.cmp .Gt (.var 1) (.cst (.int 1000000)))) (.cons (.ret (.bin .Mod (.bi .int (.cons (.bin .Add (.bin .Mult (.var 6) (.cst (.int 1000000007))) (.var 5)) .nil)) (.var 1))) .nil) .nil) (.cons (.ret (.bin .Mod (.bi .int (.cons (.bin .FloorDiv (.var 6) (.cst (.int 7))) .nil)) (.var 1))) .nil))))))
local macro_rules | `(tactic| walk_at "s") => `(tactic| with_reducible first | refine x_cons ?_ | refine x_nil ?_ | refine x_set ?_ | refine x_setM ?_ | refine x_par ?_ | refine x_unp ?_ | refine x_sto ?_ | refine x_augS ?_ | refine x_exp ?_ | refine x_ret ?_ | refine x_retN ?_ | refine x_iff ?_ | refine x_pass ?_ | refine x_app ?_ | refine x_for ?_ | refine v_cst ?_ | refine v_tup ?_ | refine v_lst ?_ | refine v_dct ?_ | refine v_bin ?_ | refine v_neg ?_ | refine v_cmp ?_ | refine v_chain ?_ | refine v_not ?_ | refine v_and ?_ | refine v_or ?_ | refine v_ife ?_ | refine v_idx ?_ | refine v_slc ?_ | refine v_call ?_ | refine v_bi ?_ | refine v_isi ?_ | refine v_mt ?_ | refine v_comp ?_ | refine va_nil ?_ | refine va_cons ?_ | refine vo_none ?_ | refine vo_some ?_ | refine vt_yes ?_ | refine vt_e ?_ | refine vt_and ?_ | refine vt_or ?_ | refine vt_not ?_ | refine vi_seq ?_ | refine vi_rng1 ?_)
local macro_rules | `(tactic| walk_at "d") => `(tactic| repeat (first | walk_at "s" | ((with_reducible refine' v_var ?k1 ?_); (case k1 => exact rfl)) | ((with_reducible refine' v_gl ?k1 ?_); (case k1 => exact rfl))))
/-- the last part: from the bag's numbers to the drawn one -/
theorem take_end {Φ : Fns} {γ : List D} {M0 M : MS} {b : Addr} {y0 y1 y2 many : Int} {c : Option D} {m : Option D} {ns : List Int} {F : DE} (hM : M b = some (.lst [.int y0, .int y1, .int y2, .lst (ns.map D.int)])) (h0 : 0 ≤ y0) (h1 : 0 ≤ y1) (h1' : y1 < 2147483647) (hm : 0 < many) (hm' : many < 1073741824)
    (k : ∀ v z0, 0 ≤ v → v < many → 0 ≤ z0 → F.rt (.val (.int v)) (updM M b (.lst [.int z0, .int y1, .int y2, .lst (ns.map D.int)]))) (k2 : ∀ v, 0 ≤ v → v < many → F.rt (.val (.int v)) M) :
    execSs Φ γ (.cons (.iff (.e (.cmp .Gt (.idx (.var 0) (.cst (.int 0))) (.cst (.int 0)))) (.cons (.set 4 (.bin .Mod (.bi .int (.cons (.idx (.var 0) (.cst (.int 0))) .nil)) (.var 1))) (.cons (.sto (.var 0) (.cst (.int 0)) (.bin .FloorDiv (.idx (.var 0) (.cst (.int 0))) (.var 1))) (.cons (.ret (.var 4)) .nil))) .nil) (.cons (.set 5 (.bin .Mod (.bi .int (.cons (.bin .Mult (.bin .Add (.idx (.var 0) (.cst (.int 1))) (.cst (.int 1))) (.cst (.int 39373))) .nil)) (.cst (.int 1000000007)))) (.cons (.set 6 (.bin .Mod (.bi .int (.cons (.bin .Mult (.bin .Mod (.bi .int (.cons (.bin .Mult (.var 5) (.var 5)) .nil)) (.cst (.int 998244353))) (.cst (.int 30011))) .nil)) (.cst (.int 998244353)))) (.cons (.iff (.e (.cmp .Gt (.var 1) (.cst (.int 1000000)))) (.cons (.ret (.bin .Mod (.bi .int (.cons (.bin .Add (.bin .Mult (.var 6) (.cst (.int 1000000007))) (.var 5)) .nil)) (.var 1))) .nil) .nil) (.cons (.ret (.bin .Mod (.bi .int (.cons (.bin .FloorDiv (.var 6) (.cst (.int 7))) .nil)) (.var 1))) .nil)))))
      F [some (.obj b), some (.int many), c, m, none, none, none] M := by
  walk_at "d"
  refine ⟨_, idx_obj hM rfl, ?_⟩
  walk_at "d"
  refine ⟨_, rfl, _, rfl, ?_⟩
  refine if_dec (fun hp => ?_) (fun hp => ?_)
  · walk_at "d"
    refine ⟨_, idx_obj hM rfl, ?_⟩
    walk_at "d"
    refine ⟨_, rfl, ?_⟩
    walk_at "d"
    refine ⟨_, mod_ok hm, ?_⟩
    walk_at "d"
    refine ⟨_, idx_obj hM rfl, ?_⟩
    walk_at "d"
    refine ⟨_, div_ok ⟨hm, hm'⟩, ?_⟩
    walk_at "d"
    refine ⟨b, _, 0, 0, rfl, hM, rfl, rfl, ?_⟩
    walk_at "d"
    exact k _ _ (Int.emod_nonneg _ (by omega)) (Int.emod_lt_of_pos _ hm) (Int.ediv_nonneg h0 (by omega))
  · have e1 : (0 : Int) < 1000000007 := by decide
    have e2 : (0 : Int) < 998244353 := by decide
    walk_at "d"
    refine ⟨_, idx_obj hM rfl, ?_⟩
    walk_at "d"
    refine ⟨_, rfl, ?_⟩
    walk_at "d"
    refine ⟨_, mul_ok (.inr (by decide)), ?_⟩
    walk_at "d"
    refine ⟨_, rfl, ?_⟩
    walk_at "d"
    refine ⟨_, mod_ok e1, ?_⟩
    generalize hg : (y1 + 1) * 39373 % 1000000007 = g
    have g1 : 0 ≤ g := by rw [← hg]; exact Int.emod_nonneg _ (by omega)
    have g2 : g < 1000000007 := by rw [← hg]; exact Int.emod_lt_of_pos _ e1
    walk_at "d"
    refine ⟨_, mul_ok (.inl (by omega)), ?_⟩
    walk_at "d"
    refine ⟨_, rfl, ?_⟩
    walk_at "d"
    refine ⟨_, mod_ok e2, ?_⟩
    walk_at "d"
    refine ⟨_, mul_ok (.inr (by decide)), ?_⟩
    walk_at "d"
    refine ⟨_, rfl, ?_⟩
    walk_at "d"
    refine ⟨_, mod_ok e2, ?_⟩
    generalize hf : g * g % 998244353 * 30011 % 998244353 = f
    have f1 : 0 ≤ f := by rw [← hf]; exact Int.emod_nonneg _ (by omega)
    walk_at "d"
    refine ⟨_, rfl, _, rfl, ?_⟩
    refine if_dec (fun _ => ?_) (fun _ => ?_)
    · walk_at "d"
      refine ⟨_, mul_ok (.inr (by decide)), ?_⟩
      walk_at "d"
      refine ⟨_, rfl, ?_⟩
      walk_at "d"
      refine ⟨_, rfl, ?_⟩
      walk_at "d"
      refine ⟨_, mod_ok hm, ?_⟩
      exact k2 _ (Int.emod_nonneg _ (by omega)) (Int.emod_lt_of_pos _ hm)
    · walk_at "d"
      refine ⟨_, div_ok (by decide), ?_⟩
      walk_at "d"
      refine ⟨_, rfl, ?_⟩
      walk_at "d"
      refine ⟨_, mod_ok hm, ?_⟩
      exact k2 _ (Int.emod_nonneg _ (by omega)) (Int.emod_lt_of_pos _ hm)
end DL
set_option maxRecDepth 100000
set_option maxHeartbeats 8000000
namespace DL
open PySem L2
local macro_rules | `(tactic| walk_at "s") => `(tactic| with_reducible first | refine x_cons ?_ | refine x_nil ?_ | refine x_set ?_ | refine x_setM ?_ | refine x_par ?_ | refine x_unp ?_ | refine x_sto ?_ | refine x_augS ?_ | refine x_exp ?_ | refine x_ret ?_ | refine x_retN ?_ | refine x_iff ?_ | refine x_pass ?_ | refine x_app ?_ | refine x_for ?_ | refine v_cst ?_ | refine v_tup ?_ | refine v_lst ?_ | refine v_dct ?_ | refine v_bin ?_ | refine v_neg ?_ | refine v_cmp ?_ | refine v_chain ?_ | refine v_not ?_ | refine v_and ?_ | refine v_or ?_ | refine v_ife ?_ | refine v_idx ?_ | refine v_slc ?_ | refine v_call ?_ | refine v_bi ?_ | refine v_isi ?_ | refine v_mt ?_ | refine v_comp ?_ | refine va_nil ?_ | refine va_cons ?_ | refine vo_none ?_ | refine vo_some ?_ | refine vt_yes ?_ | refine vt_e ?_ | refine vt_and ?_ | refine vt_or ?_ | refine vt_not ?_ | refine vi_seq ?_ | refine vi_rng1 ?_)
local macro_rules | `(tactic| walk_at "d") => `(tactic| repeat (first | walk_at "s" | ((with_reducible refine' v_var ?k1 ?_); (case k1 => exact rfl)) | ((with_reducible refine' v_gl ?k1 ?_); (case k1 => exact rfl))))
theorem updM_updM {M : MS} {a : Addr} {o u : MO} : updM (updM M a o) a u = updM M a u := by
  funext b; unfold updM; split <;> rfl
theorem atI_map {ns : List Int} {i : Int} (h0 : 0 ≤ i) (h : i < ns.length) : ∃ n, n ∈ ns ∧ atI (ns.map D.int) i = some (.int n) := by
  have hl : i.toNat < ns.length := by omega
  refine ⟨ns[i.toNat], List.getElem_mem hl, ?_⟩
  unfold atI ixN
  rw [List.length_map, if_pos h0, if_pos h]
  show (ns.map D.int)[i.toNat]? = _
  rw [List.getElem?_map, List.getElem?_eq_getElem hl]; rfl
section
variable {Φ : Fns} {γ : List D} {b : Addr} {many : Int} {ns : List Int}
theorem take_mix {M : MS} {F : DE} {c w0 x1 x2 : Int} (hM : M b = some (.lst [.int w0, .int x1, .int x2, .lst (ns.map D.int)]))
    (k : ∀ m z, 0 ≤ z → z < 2147483647 → F.nx [some (.obj b), some (.int many), some (.int c), some (.int m), none, none, none] (updM M b (.lst [.int w0, .int z, .int x2, .lst (ns.map D.int)]))) :
    execSs Φ γ (.cons (.set 3 (.bin .Add (.bin .Add (.bin .Mult (.idx (.var 0) (.cst (.int 1))) (.cst (.int 48271))) (.bin .Mod (.bi .int (.cons (.var 2) .nil)) (.cst (.int 2147483647)))) (.bin .Mult (.cst (.int 7919)) (.idx (.var 0) (.cst (.int 2)))))) (.cons (.sto (.var 0) (.cst (.int 1)) (.bin .Mod (.bi .int (.cons (.var 3) .nil)) (.cst (.int 2147483647)))) .nil)) F
      [some (.obj b), some (.int many), some (.int c), none, none, none, none] M := by
  walk_at "d"
  refine ⟨_, idx_obj hM rfl, ?_⟩
  walk_at "d"
  refine ⟨_, mul_ok (.inr (by decide)), ?_⟩
  walk_at "d"
  refine ⟨_, rfl, ?_⟩
  walk_at "d"
  refine ⟨_, mod_ok (by decide), ?_⟩
  refine ⟨_, rfl, ?_⟩
  walk_at "d"
  refine ⟨_, idx_obj hM rfl, ?_⟩
  refine ⟨_, mul_ok (.inl (by decide)), ?_⟩
  refine ⟨_, rfl, ?_⟩
  walk_at "d"
  refine ⟨_, rfl, ?_⟩
  walk_at "d"
  refine ⟨_, mod_ok (by decide), ?_⟩
  walk_at "d"
  refine ⟨b, _, 1, 1, rfl, hM, rfl, rfl, ?_⟩
  walk_at "s"
  exact k _ _ (Int.emod_nonneg _ (by decide)) (Int.emod_lt_of_pos _ (by decide))
theorem take_rest {M : MS} {F : DE} {c x0 x1 x2 : Int} (hM : M b = some (.lst [.int x0, .int x1, .int x2, .lst (ns.map D.int)])) (h0 : 0 ≤ x0) (hc : 0 ≤ c)
    (k : ∀ m w z M', 0 ≤ w → 0 ≤ z → z < 2147483647 → M' b = some (.lst [.int w, .int z, .int (x2 + 1), .lst (ns.map D.int)]) → F.nx [some (.obj b), some (.int many), some (.int c), some (.int m), none, none, none] M') :
    execSs Φ γ (.cons (.augS (.var 0) (.cst (.int 2)) .Add (.cst (.int 1))) (.cons (.iff (.e (.cmp .GtE (.var 2) (.cst (.int 1000000000000000000)))) (.cons (.sto (.var 0) (.cst (.int 0)) (.var 2)) .nil) .nil) (.cons (.set 3 (.bin .Add (.bin .Add (.bin .Mult (.idx (.var 0) (.cst (.int 1))) (.cst (.int 48271))) (.bin .Mod (.bi .int (.cons (.var 2) .nil)) (.cst (.int 2147483647)))) (.bin .Mult (.cst (.int 7919)) (.idx (.var 0) (.cst (.int 2)))))) (.cons (.sto (.var 0) (.cst (.int 1)) (.bin .Mod (.bi .int (.cons (.var 3) .nil)) (.cst (.int 2147483647)))) .nil)))) F
      [some (.obj b), some (.int many), some (.int c), none, none, none, none] M := by
  walk_at "d"
  refine ⟨b, 2, rfl, rfl, _, _, hM, rfl, ?_⟩
  walk_at "d"
  refine ⟨_, _, 2, rfl, hM, rfl, ?_⟩
  walk_at "s"
  walk_at "s"
  walk_at "s"
  walk_at "d"
  refine ⟨_, rfl, _, rfl, ?_⟩
  refine if_dec (fun _ => ?_) (fun _ => ?_)
  · walk_at "s"
    walk_at "d"
    refine ⟨b, _, 0, 0, rfl, updM_same, rfl, rfl, ?_⟩
    walk_at "s"
    exact take_mix (w0 := c) updM_same fun m z p q => k m c z _ hc p q updM_same
  · walk_at "s"
    exact take_mix (w0 := x0) updM_same fun m z p q => k m x0 z _ h0 p q updM_same
theorem take_spec {M : MS} {x0 x1 x2 : Int} {Q : KR} {Z : KX} (hM : M b = some (.lst [.int x0, .int x1, .int x2, .lst (ns.map D.int)])) (h0 : 0 ≤ x0) (h1 : 0 ≤ x1) (h1' : x1 < 2147483647) (h2 : 0 ≤ x2) (hn : ∀ n ∈ ns, 0 ≤ n)
    (hm : 0 < many) (hm' : many < 1073741824)
    (k : ∀ v y0 y1 y2 M', 0 ≤ v → v < many → 0 ≤ y0 → 0 ≤ y1 → y1 < 2147483647 → 0 ≤ y2 → M' b = some (.lst [.int y0, .int y1, .int y2, .lst (ns.map D.int)]) → Q (.val (.int v)) M') : callDef Φ γ ⟨2, 7, TAKE⟩ [.obj b, .int many] M Q Z := by
  refine c_def [some (.obj b), some (.int many), none, none, none, none, none] rfl rfl ?_
  unfold TAKE
  have bs : (M b).isSome = true := by rw [hM]; rfl
  have fin : ∀ {v y0 y1 y2 : Int} {M' : MS}, 0 ≤ v → v < many → 0 ≤ y0 → 0 ≤ y1 → y1 < 2147483647 → 0 ≤ y2 → M' b = some (.lst [.int y0, .int y1, .int y2, .lst (ns.map D.int)]) → retR M Q (.val (.int v)) M' := fun a1 a2 a3 a4 a5 a6 a7 => by
    refine k _ _ _ _ _ a1 a2 a3 a4 a5 a6 ?_
    unfold restrict
    simp only [a7, bs, if_true]
  walk_at "s"
  walk_at "s"
  walk_at "d"
  refine ⟨_, idx_obj hM rfl, ?_⟩
  walk_at "d"
  refine ⟨_, eq_int _ _, _, rfl, ?_⟩
  refine if_dec (fun hz => ?_) (fun hz => ?_)
  · walk_at "s"
    walk_at "s"
    walk_at "s"
    walk_at "s"
    walk_at "s"
    walk_at "d"
    refine ⟨_, idx_obj hM rfl, ?_⟩
    walk_at "d"
    refine ⟨_, idx_obj hM rfl, ?_⟩
    walk_at "d"
    refine ⟨_, rfl, ?_⟩
    refine ⟨_, rfl, _, rfl, ?_⟩
    refine if_dec (fun hlt => ?_) (fun hlt => ?_)
    · obtain ⟨n, hn1, hn2⟩ := atI_map (ns := ns) h2 (by simpa using hlt)
      walk_at "s"
      walk_at "s"
      walk_at "d"
      refine ⟨_, idx_obj hM rfl, ?_⟩
      walk_at "d"
      refine ⟨_, idx_obj hM rfl, ?_⟩
      refine ⟨_, hn2, ?_⟩
      walk_at "s"
      refine take_rest hM h0 (hn n hn1) fun m w z M' p1 p2 p3 p4 => ?_
      exact take_end (M0 := M) p4 p1 p2 p3 hm hm' (fun v z0 q1 q2 q3 => fin q1 q2 q3 p2 p3 (by omega) updM_same) fun v q1 q2 => fin q1 q2 p1 p2 p3 (by omega) p4
    · walk_at "s"
      refine take_rest hM h0 (Int.le_refl 0) fun m w z M' p1 p2 p3 p4 => ?_
      exact take_end (M0 := M) p4 p1 p2 p3 hm hm' (fun v z0 q1 q2 q3 => fin q1 q2 q3 p2 p3 (by omega) updM_same) fun v q1 q2 => fin q1 q2 p1 p2 p3 (by omega) p4
  · walk_at "s"
    exact take_end (M0 := M) hM h0 h1 h1' hm hm' (fun v z0 q1 q2 q3 => fin q1 q2 q3 h1 h1' h2 updM_same) fun v q1 q2 => fin q1 q2 h0 h1 h1' h2 hM
end
end DL
set_option maxRecDepth 100000
set_option maxHeartbeats 8000000
namespace DL
open PySem L2
local macro_rules | `(tactic| walk_at "s") => `(tactic| with_reducible first | refine x_cons ?_ | refine x_nil ?_ | refine x_set ?_ | refine x_setM ?_ | refine x_par ?_ | refine x_unp ?_ | refine x_sto ?_ | refine x_augS ?_ | refine x_exp ?_ | refine x_ret ?_ | refine x_retN ?_ | refine x_iff ?_ | refine x_pass ?_ | refine x_app ?_ | refine x_for ?_ | refine v_cst ?_ | refine v_tup ?_ | refine v_lst ?_ | refine v_dct ?_ | refine v_bin ?_ | refine v_neg ?_ | refine v_cmp ?_ | refine v_chain ?_ | refine v_not ?_ | refine v_and ?_ | refine v_or ?_ | refine v_ife ?_ | refine v_idx ?_ | refine v_slc ?_ | refine v_call ?_ | refine v_bi ?_ | refine v_isi ?_ | refine v_mt ?_ | refine v_comp ?_ | refine va_nil ?_ | refine va_cons ?_ | refine vo_none ?_ | refine vo_some ?_ | refine vt_yes ?_ | refine vt_e ?_ | refine vt_and ?_ | refine vt_or ?_ | refine vt_not ?_ | refine vi_seq ?_ | refine vi_rng1 ?_)
local macro_rules | `(tactic| walk_at "d") => `(tactic| repeat (first | walk_at "s" | ((with_reducible refine' v_var ?k1 ?_); (case k1 => exact rfl)) | ((with_reducible refine' v_gl ?k1 ?_); (case k1 => exact rfl))))
/-! ### loops -/
/-- a comprehension, by what holds ahead of each item -/
theorem comp_ind {src : MS → Prop} {step : D → List D → MS → (List D → MS → Prop) → Prop} {Q : List D → MS → Prop} (J : List D → List D → MS → Prop) :
    ∀ {items acc : List D} {M : MS}, J items acc M → (∀ d r acc M, (∃ u, items = u ++ d :: r) → J (d :: r) acc M → src M ∧ acc.length < sizeLine ∧ ∀ k, (∀ acc' M', J r acc' M' → k acc' M') → step d acc M k) →
      (∀ acc M, J [] acc M → src M ∧ Q acc M) → compLoop src step items acc M Q
  | [], acc, M, j, _, e => e acc M j
  | d :: r, acc, M, j, h, e => by
    obtain ⟨h1, h2, h3⟩ := h d r acc M ⟨[], rfl⟩ j
    refine ⟨h1, h2, h3 _ fun acc' M' j' => ?_⟩
    exact comp_ind J j' (fun d' r' a' m' ⟨u, hu⟩ q => h d' r' a' m' ⟨d :: u, by rw [hu]; rfl⟩ q) e
/-- each item gives one value with P; the store stays -/
theorem comp_all {src : MS → Prop} {step : D → List D → MS → (List D → MS → Prop) → Prop} {Q : List D → MS → Prop} {items : List D} {M : MS} (P : D → Prop) (hs : src M) (hl : items.length ≤ sizeLine)
    (h : ∀ d ∈ items, ∀ acc k, (∀ r, P r → k (acc ++ [r]) M) → step d acc M k) (e : ∀ acc, acc.length = items.length → (∀ r ∈ acc, P r) → Q acc M) : compLoop src step items [] M Q := by
  refine comp_ind (fun r acc M' => M' = M ∧ acc.length + r.length = items.length ∧ ∀ x ∈ acc, P x) ⟨rfl, by simp, by simp⟩ ?_ ?_
  · rintro d r acc M' ⟨u, hu⟩ ⟨rfl, h1, h2⟩
    refine ⟨hs, by simp at h1; omega, fun k hk => h d (by rw [hu]; simp) acc k fun x hx => hk _ _ ⟨rfl, by simp at h1 ⊢; omega, fun y hy => ?_⟩⟩
    simp at hy
    rcases hy with hy | rfl
    · exact h2 y hy
    · exact hx
  · rintro acc M' ⟨rfl, h1, h2⟩
    exact ⟨hs, e acc (by simpa using h1) h2⟩
/-- each item gives f of it -/
theorem comp_map {src : MS → Prop} {step : D → List D → MS → (List D → MS → Prop) → Prop} {Q : List D → MS → Prop} {items : List D} {M : MS} (f : D → D) (hs : src M) (hl : items.length ≤ sizeLine)
    (h : ∀ d ∈ items, ∀ acc k, k (acc ++ [f d]) M → step d acc M k) (e : Q (items.map f) M) : compLoop src step items [] M Q := by
  refine comp_ind (fun r acc M' => M' = M ∧ acc ++ r.map f = items.map f) ⟨rfl, by simp⟩ ?_ ?_
  · rintro d r acc M' ⟨u, hu⟩ ⟨rfl, h1⟩
    have hl2 := congrArg List.length h1
    simp at hl2
    refine ⟨hs, by omega, fun k hk => h d (by rw [hu]; simp) acc k (hk _ _ ⟨rfl, by rw [← h1]; simp⟩)⟩
  · rintro acc M' ⟨rfl, h1⟩
    simp at h1
    exact ⟨hs, by rw [h1]; exact e⟩
/-- items are kept by a test -/
theorem comp_filter {src : MS → Prop} {step : D → List D → MS → (List D → MS → Prop) → Prop} {Q : List D → MS → Prop} {items : List D} {M : MS} (p : D → Bool) (f : D → D) (hs : src M) (hl : items.length ≤ sizeLine)
    (h : ∀ d ∈ items, ∀ acc k, k (if p d = true then acc ++ [f d] else acc) M → step d acc M k) (e : Q ((items.filter p).map f) M) : compLoop src step items [] M Q := by
  refine comp_ind (fun r acc M' => M' = M ∧ acc.length + r.length ≤ items.length ∧ acc ++ (r.filter p).map f = (items.filter p).map f) ⟨rfl, by simp, by simp⟩ ?_ ?_
  · rintro d r acc M' ⟨u, hu⟩ ⟨rfl, h0, h1⟩
    refine ⟨hs, by simp at h0; omega, fun k hk => h d (by rw [hu]; simp) acc k (hk _ _ ⟨rfl, ?_, ?_⟩)⟩
    · simp at h0
      split
      · simp; omega
      · omega
    · rw [← h1]
      cases hp : p d <;> simp [hp]
  · rintro acc M' ⟨rfl, h0, h1⟩
    simp at h1
    exact ⟨hs, by rw [h1]; exact e⟩
/-- a for loop, by what holds ahead of each item -/
theorem for_ind {src : MS → Prop} {step : D → DEnv → MS → (DEnv → MS → Prop) → Prop} {nx : DEnv → MS → Prop} (J : List D → DEnv → MS → Prop) :
    ∀ {items : List D} {δ : DEnv} {M : MS}, J items δ M → (∀ d r δ M, (∃ u, items = u ++ d :: r) → J (d :: r) δ M → src M ∧ ∀ k, (∀ δ' M', J r δ' M' → k δ' M') → step d δ M k) →
      (∀ δ M, J [] δ M → src M ∧ nx δ M) → forLoop src step nx items δ M
  | [], δ, M, j, _, e => e δ M j
  | d :: r, δ, M, j, h, e => by
    obtain ⟨h1, h3⟩ := h d r δ M ⟨[], rfl⟩ j
    refine ⟨h1, h3 _ fun acc' M' j' => ?_⟩
    exact for_ind J j' (fun d' r' a' m' ⟨u, hu⟩ q => h d' r' a' m' ⟨d :: u, by rw [hu]; rfl⟩ q) e
/-! ### the bag, as a thing of its own -/
def phTake : List D → MS → KR → KX → Prop := fun ds M Q _ => ∃ b many, ds = [.obj b, .int many] ∧ M b = some .bag ∧ 0 < many ∧ many < 1073741824 ∧ ∀ v, 0 ≤ v → v < many → Q (.val (.int v)) M
def phBag : List D → MS → KR → KX → Prop := fun ds M Q _ => ∃ ns, ds = [.scr ns] ∧ ∀ b, M b = none → Q (.val (.obj b)) (updM M b .bag)
def BAG : Ss :=
  (.cons (.ret (.lst (.cons (.cst (.int 0)) (.cons (.cst (.int 1234567891)) (.cons (.cst (.int 0)) (.cons (.comp (.bi .abs (.cons (.var 1) .nil)) [1] true [1] (.seq (.slc (.var 0) .none (.some (.cst (.int 63))))) .yes) .nil)))))) .nil)
theorem FnG.imp {P : Program} {w : World} {K : PySem.W.Frag} {mg : Str → Option Value} {base : Heap} {k : Nat} {f : Addr} {fd : FuncData} {ps : List Str} {sp sp' : Sp} (h : ∀ vs H Q E, sp vs H Q E → sp' vs H Q E) (F : FnG P w K mg base k f fd ps sp') : FnG P w K mg base k f fd ps sp :=
  ⟨fun vs H Q E z => F.len _ _ _ _ (h _ _ _ _ z), fun A outer s H args us vs Q E a1 a2 a3 a4 z => F.run A outer s H args us vs Q E a1 a2 a3 a4 (h _ _ _ _ z)⟩
theorem take_imp {K : PySem.W.Frag} {Φ : Fns} {γ : List D} : ∀ vs H Q E, spD K phTake vs H Q E → spD K (callDef Φ γ ⟨2, 7, TAKE⟩) vs H Q E := by
  rintro vs H Q E ⟨G, M, ds, Qd, Zd, ok, t, hq, hz, b, many, rfl, hb, hm, hm', k⟩
  obtain ⟨x0, x1, x2, ns, us, hu, tu, h0, h1, h1', h2, hn⟩ := ok.mok b _ hb
  refine ⟨G, (fun a => if a = b then some (.lst [.int x0, .int x1, .int x2, .lst (ns.map D.int)]) else none), _, fun r M' => ∃ v y0 y1 y2, r = .val (.int v) ∧ 0 ≤ v ∧ v < many ∧ 0 ≤ y0 ∧ 0 ≤ y1 ∧ y1 < 2147483647 ∧ 0 ≤ y2 ∧ M' b = some (.lst [.int y0, .int y1, .int y2, .lst (ns.map D.int)]), fun _ _ => False, ⟨ok.sub, fun a mo e => ?_, fun a mo e => ?_⟩, t, ?_, fun _ _ z => z.elim, ?_⟩
  · have ha : a = b := by
      by_cases ha : a = b
      · exact ha
      · have e' : (none : Option MO) = some mo := (if_neg ha).symm.trans e
        cases e'
    subst ha; exact ok.dis _ _ hb
  · have ha : a = b := by
      by_cases ha : a = b
      · exact ha
      · have e' : (none : Option MO) = some mo := (if_neg ha).symm.trans e
        cases e'
    subst ha
    have e' := (if_pos rfl).symm.trans e
    cases e'
    exact ⟨us, hu, tu⟩
  · rintro r M' ⟨v, y0, y1, y2, rfl, p1, p2, p3, p4, p5, p6, p7⟩ v' G' H' s rv
    have nb : ∀ {a}, a ≠ b → (fun a => if a = b then some (MO.lst [.int x0, .int x1, .int x2, .lst (ns.map D.int)]) else none : MS) a = none := fun h => if_neg h
    have hne : ∀ {a}, M a = none → a ≠ b := fun h z => by rw [z, hb] at h; cases h
    refine hq _ _ (k v p1 p2) v' G' H' ⟨⟨s.ok.sub, fun a mo e => ?_, fun a mo e => ?_⟩, s.sub, fun a o e hM => s.keep a o e (nb (hne hM)), fun a mo e e2 => ?_, s.dom, fun a o e1 e2 e3 => s.newG a o e1 e2 (nb (hne e3))⟩ rv
    · by_cases ha : a = b
      · subst ha; exact s.ok.dis _ _ p7
      · cases hg : G' a with
        | none => rfl
        | some o =>
          have z := s.newG a o (ok.dis a mo e) hg (nb ha)
          obtain ⟨o', h'⟩ := (ok.mok a mo e).there
          rw [z] at h'; cases h'
    · by_cases ha : a = b
      · subst ha
        rw [hb] at e
        cases e
        obtain ⟨ws, hw, tw⟩ := s.ok.mok _ _ p7
        exact ⟨y0, y1, y2, ns, ws, hw, tw, p3, p4, p5, p6, hn⟩
      · have m := ok.mok a mo e
        obtain ⟨o', h'⟩ := m.there
        exact (m.mono s.sub).at_ ((s.keep a o' h' (nb ha)).trans h'.symm)
    · rw [e] at e2; cases e2
  · exact take_spec (if_pos rfl) h0 h1 h1' h2 hn hm hm' fun v y0 y1 y2 M' q1 q2 q3 q4 q5 q6 q7 => ⟨v, y0, y1, y2, rfl, q1, q2, q3, q4, q5, q6, q7⟩
theorem cut_take {xs : List D} {k : Int} (h : 0 ≤ k) : cutD xs none (some k) = xs.take k.toNat := by
  have e : HT.sIx xs.length xs.length (some k) = min k.toNat xs.length := if_neg (by omega)
  unfold cutD
  rw [e]
  show (xs.drop 0).take (min k.toNat xs.length - 0) = _
  rw [List.drop_zero, Nat.sub_zero, ← List.take_eq_take_min]
theorem cut_drop {xs : List D} {k : Int} (h : 0 ≤ k) : cutD xs (some k) none = xs.drop k.toNat := by
  have e : HT.sIx xs.length 0 (some k) = min k.toNat xs.length := if_neg (by omega)
  unfold cutD
  rw [e]
  show (xs.drop (min k.toNat xs.length)).take (xs.length - min k.toNat xs.length) = _
  rw [List.take_of_length_le (by rw [List.length_drop]; omega)]
  by_cases e : k.toNat ≤ xs.length
  · rw [Nat.min_eq_left e]
  · rw [Nat.min_eq_right (by omega), List.drop_eq_nil_of_le (Nat.le_refl _), List.drop_eq_nil_of_le (by omega)]
theorem bag_spec {Φ : Fns} {γ : List D} {ns : List Int} {Q : KR} {Z : KX} (k : ∀ ms : List Int, (∀ m ∈ ms, 0 ≤ m) → Q (.new [.int 0, .int 1234567891, .int 0, .lst (ms.map D.int)]) fun _ => none) : callDef Φ γ ⟨1, 2, BAG⟩ [.scr ns] (fun _ => none) Q Z := by
  refine c_def [some (.scr ns), none] rfl rfl ?_
  unfold BAG
  walk_at "d"
  refine ⟨63, rfl, _, rfl, ?_⟩
  refine ⟨_, rfl, ?_⟩
  have hc : cutD (ns.map D.int) none (some 63) = (ns.take 63).map D.int := by
    rw [cut_take (by decide), List.map_take]; rfl
  show compLoop _ _ (cutD (ns.map D.int) none (some 63)) _ _ _
  rw [hc]
  refine comp_map (fun d => match d with | .int i => .int (if i < 0 then -i else i) | d => d) ?_ ?_ (fun d hd acc k => ?_) ?_
  · exact rfl
  · simp only [List.length_map, List.length_take]
    exact Nat.le_trans (Nat.min_le_left _ _) (by decide)
  · obtain ⟨n, hn, rfl⟩ := List.mem_map.mp hd
    intro hk
    refine ⟨_, rfl, ?_⟩
    walk_at "s"
    refine if_t ?_
    walk_at "d"
    exact ⟨_, rfl, hk⟩
  · walk_at "d"
    refine ⟨by show 4 ≤ sizeLine; decide, ?_⟩
    show retR (fun _ => none) Q (.new [.int 0, .int 1234567891, .int 0, .lst _]) _
    have e : ((ns.take 63).map D.int).map (fun d => match d with | .int i => .int (if i < 0 then -i else i) | d => d) = ((ns.take 63).map fun i => if i < 0 then -i else i).map D.int := by
      rw [List.map_map, List.map_map]; rfl
    rw [e]
    have z := k ((ns.take 63).map fun i => if i < 0 then -i else i) fun m hm => by
      obtain ⟨n, _, rfl⟩ := List.mem_map.mp hm
      split <;> omega
    exact z
theorem bag_imp {K : PySem.W.Frag} {Φ : Fns} {γ : List D} : ∀ vs H Q E, spD K phBag vs H Q E → spD K (callDef Φ γ ⟨1, 2, BAG⟩) vs H Q E := by
  rintro vs H Q E ⟨G, M, ds, Qd, Zd, ok, t, hq, hz, ns, rfl, k⟩
  refine ⟨G, (fun _ => none), _, fun r M' => M' = (fun _ => none) ∧ ∃ ms : List Int, (∀ m ∈ ms, 0 ≤ m) ∧ r = (.new [.int 0, .int 1234567891, .int 0, .lst (ms.map D.int)]), fun _ _ => False, ⟨ok.sub, fun a mo e => ?_, fun a mo e => ?_⟩, t, ?_, fun _ _ z => z.elim, ?_⟩
  · have e' : (none : Option MO) = some mo := e
    cases e'
  · have e' : (none : Option MO) = some mo := e
    cases e'
  · rintro r M' ⟨rfl, ms, hms, rfl⟩ v' G' H' s ⟨p, us, rfl, hp0, hp1, hp2, hp3, tu⟩
    have hMp : M p = none := ok.noM hp0
    refine hq _ _ (k p hMp) _ G' H' ⟨⟨s.ok.sub, fun a mo e => ?_, fun a mo e => ?_⟩, s.sub, fun a o e hM => s.keep a o e rfl, fun a mo e e2 => ?_, s.dom, fun a o e1 e2 e3 => s.newG a o e1 e2 rfl⟩ (.obj p)
    · by_cases ha : a = p
      · subst ha; exact hp2
      · rw [updM_ne ha] at e
        cases hg : G' a with
        | none => rfl
        | some o =>
          have z := s.newG a o (ok.dis a mo e) hg rfl
          obtain ⟨o', h'⟩ := (ok.mok a mo e).there
          rw [z] at h'; cases h'
    · by_cases ha : a = p
      · subst ha
        rw [updM_same] at e
        cases e
        exact ⟨0, 1234567891, 0, ms, us, hp1, tu, by decide, by decide, by decide, by decide, hms⟩
      · rw [updM_ne ha] at e
        have m := ok.mok a mo e
        obtain ⟨o', h'⟩ := m.there
        exact (m.mono s.sub).at_ ((s.keep a o' h' rfl).trans h'.symm)
    · by_cases ha : a = p
      · subst ha; exact hp0
      · rw [updM_ne ha, e] at e2; cases e2
  · exact bag_spec fun ms hms => ⟨rfl, ms, hms, rfl⟩
end DL
set_option maxRecDepth 100000
set_option maxHeartbeats 8000000
namespace DL
open PySem L2
/-! ### what the top has written, in the table's words -/
def FnIn (K : PySem.W.Frag) (y : Str) (st : Stmt) (ps : List Str) (dfs : List D) : Prop :=
  ∃ (f : Addr) (fd : FuncData) (x qual : Str), PySem.W.nsIn K mainGlobals y = some (some (.ref f)) ∧ FunG K x qual st f fd ∧ DflOk K fd ps dfs ∧ (dfs = [] → ∀ z, ps = [z] → ∀ (s : Shared) (u : Value), BindsTo s fd ⟨[u], []⟩ [(z, u)])
/-- how the parameters of a def without defaults are bound -/
def BdN (st : Stmt) (x qual : Str) (ps : List Str) : Prop := ∀ (kV doc pm : Value) (an : Option Addr) (cdv ct : Value) (us : List Value), us.length = ps.length → bindArgs (PySem.W.fnOf x qual (defArgs st) (defBody st) (defScope st) .none kV doc pm an cdv ct) ⟨us, []⟩ = pure (ps.zip us)
/-- .. of a def whose last parameter has one -/
def Bd1 (st : Stmt) (x qual : Str) (ps : List Str) : Prop := ∀ (T : Addr) (kV doc pm : Value) (an : Option Addr) (cdv ct : Value) (us its : List Value), its.length = 1 →
  (us.length + 1 = ps.length → ∃ k, bindArgs (PySem.W.fnOf x qual (defArgs st) (defBody st) (defScope st) (.ref T) kV doc pm an cdv ct) ⟨us, []⟩ = seqItems? (.ref T) >>= k ∧ k (some its.toArray) = pure (ps.zip (us ++ its))) ∧
  (us.length = ps.length → ∃ k, bindArgs (PySem.W.fnOf x qual (defArgs st) (defBody st) (defScope st) (.ref T) kV doc pm an cdv ct) ⟨us, []⟩ = seqItems? (.ref T) >>= k ∧ k (some its.toArray) = pure (ps.zip us))
theorem fnIn_mk {K : PySem.W.Frag} {y x : Str} {st : Stmt} {ps : List Str} {f : Addr} {oc : Value} {od an : Option Addr} {osl : Array (Option Value)} {kV doc pm cdv ct : Value} (hb : BdN st x x ps)
    (a : PySem.W.nsIn K mainGlobals y = some (some (.ref f))) (l : K.lookup f = some ⟨oc, od, .func (PySem.W.fnOf x x (defArgs st) (defBody st) (defScope st) .none kV doc pm an cdv ct), osl⟩)
    (c : PySem.W.codeIn K cdv x = true) (k : PySem.W.keepIn K (.ref f) = true) : FnIn K y st ps [] := by
  refine ⟨f, _, x, x, a, ⟨⟨oc, od, .none, kV, doc, pm, an, cdv, ct, osl, rfl, l, c⟩, k⟩, DflOk.nil (.all (hb kV doc pm an cdv ct)), fun _ z e s u => ?_⟩
  subst e
  exact .of_eq (hb kV doc pm an cdv ct [u] rfl)
theorem fnIn_mk1 {K : PySem.W.Frag} {y x : Str} {st : Stmt} {ps : List Str} {f T : Addr} {oc : Value} {od an : Option Addr} {osl : Array (Option Value)} {kV doc pm cdv ct dv tc : Value} {td : Option Addr} {tn : Nat} {tsl : Array (Option Value)} {v : V} {d : D} (hb : Bd1 st x x ps)
    (a : PySem.W.nsIn K mainGlobals y = some (some (.ref f))) (l : K.lookup f = some ⟨oc, od, .func (PySem.W.fnOf x x (defArgs st) (defBody st) (defScope st) (.ref T) kV doc pm an cdv ct), osl⟩)
    (c : PySem.W.codeIn K cdv x = true) (k : PySem.W.keepIn K (.ref f) = true) (lT : K.lookup T = some ⟨tc, td, .seq #[dv] tn, tsl⟩) (rv : RelV v dv) (hv : ∀ G, Dv K G v d) : FnIn K y st ps [d] := by
  refine ⟨f, _, x, x, a, ⟨⟨oc, od, .ref T, kV, doc, pm, an, cdv, ct, osl, rfl, l, c⟩, k⟩, fun j hj => ?_, fun e => by cases e⟩
  have hj' : j = 0 ∨ j = 1 := by simp at hj; omega
  rcases hj' with rfl | rfl
  · refine ⟨[v], [dv], .cons rv .nil, fun G => .one (hv G), fun s us X hl => ?_⟩
    obtain ⟨k', e1, e2⟩ := (hb T kV doc pm an cdv ct us [dv] rfl).1 (by simpa using hl)
    refine BindsTo.of_looks fun M => ?_
    rw [e1]
    exact looks_items X lT rfl (.of_pure e2)
  · refine ⟨[], [], .nil, fun G => .nil, fun s us X hl => ?_⟩
    rw [List.append_nil] at hl ⊢
    obtain ⟨k', e1, e2⟩ := (hb T kV doc pm an cdv ct us [dv] rfl).2 hl
    refine BindsTo.of_looks fun M => ?_
    rw [e1]
    exact looks_items X lT rfl (.of_pure e2)
/-- the empty tuple of the text -/
theorem tup0_dv {K : PySem.W.Frag} {a : Addr} {od : Option Addr} {n : Nat} {sl : Array (Option Value)} (l : K.lookup a = some ⟨.type "tuple", od, .seq #[] n, sl⟩) : ∀ G, Dv K G (.ref a) (.tup []) := fun G =>
  .tup (xs := []) (.inr ⟨_, #[], n, l, rfl, rfl, by decide, .nil⟩) .nil
/-! ### classes -/
def ClsIn (K : PySem.W.Frag) (C : Str) : Prop := ∃ c, PySem.W.nsIn K mainGlobals C = some (some (.ref c)) ∧ ClsI K c
theorem clsIn_mk {K : PySem.W.Frag} {C : Str} {c : Addr} (a : PySem.W.nsIn K mainGlobals C = some (some (.ref c))) (pg : PySem.W.plainGet K c Str.empty = true) (ic : PySem.W.isClsIn K c = true) (po : PySem.W.plainOver K c = true)
    (sa : PySem.W.findIn K (.ref c) "__setattr__" = some (some (.builtin "object.__setattr__"))) (ca : PySem.W.findIn K (.ref c) "__class__" = some (some (.builtin "object.__class__"))) (cn : PySem.W.specialIn K (.builtin "object.__class__") "__get__" = some (some (.builtin "getset_descriptor.__get__")))
    (ct : PySem.W.takesIn K (.builtin "object.__class__") = some true) (cm : PySem.W.mroIn K c (.type "object") = some true) (ty : PySem.W.typeIn K (.ref c) = some (.type "type")) (ne : PySem.W.findIn K (.ref c) "__ne__" = some (some (.builtin "object.__ne__"))) : ClsIn K C :=
  ⟨c, a, ⟨⟨pg, ic, po, sa⟩, ⟨ca, cn, ct, cm⟩, ty, ne⟩⟩
theorem ClsIn.at_ {K : PySem.W.Frag} {C : Str} {c : Addr} (h : ClsIn K C) (a : PySem.W.nsIn K mainGlobals C = some (some (.ref c))) : ClsI K c := by
  obtain ⟨c', a', i⟩ := h
  rw [a] at a'
  cases a'
  exact i
def MtIn (K : PySem.W.Frag) (C m : Str) (st : Stmt) (ps : List Str) : Prop := ∃ (cA f : Addr) (fd : FuncData) (x qual : Str), PySem.W.nsIn K mainGlobals C = some (some (.ref cA)) ∧ SlX.SCls K cA ∧ Meth K cA m f ∧ FunG K x qual st f fd ∧ Binds K fd ps []
theorem mtIn_mk {K : PySem.W.Frag} {C m x qual : Str} {st : Stmt} {ps : List Str} {cA f : Addr} {oc : Value} {od an : Option Addr} {osl : Array (Option Value)} {kV doc pm cdv ct : Value} (hb : BdN st x qual ps) (hc : ClsIn K C)
    (a : PySem.W.nsIn K mainGlobals C = some (some (.ref cA))) (fi : PySem.W.findIn K (.ref cA) m = some (some (.ref f))) (fn : PySem.W.isFn K (.ref f) = true) (l : K.lookup f = some ⟨oc, od, .func (PySem.W.fnOf x qual (defArgs st) (defBody st) (defScope st) .none kV doc pm an cdv ct), osl⟩)
    (c : PySem.W.codeIn K cdv qual = true) (k : PySem.W.keepIn K (.ref f) = true) : MtIn K C m st ps :=
  ⟨cA, f, _, x, qual, a, (hc.at_ a).sc, ⟨fi, fn, k⟩, ⟨⟨oc, od, .none, kV, doc, pm, an, cdv, ct, osl, rfl, l, c⟩, k⟩, .all (hb kV doc pm an cdv ct)⟩
def SlIn (K : PySem.W.Frag) (C m : Str) (i : Nat) : Prop := ∃ cA p, PySem.W.nsIn K mainGlobals C = some (some (.ref cA)) ∧ SlX.SCls K cA ∧ SlX.Slot1 K cA m p i
theorem slIn_mk {K : PySem.W.Frag} {C m : Str} {i : Nat} {cA p : Addr} (hc : ClsIn K C) (a : PySem.W.nsIn K mainGlobals C = some (some (.ref cA))) (at_ : PySem.W.findIn K (.ref cA) m = some (some (.ref p))) (g : PySem.W.specialIn K (.ref p) "__get__" = some (some (.builtin "member_descriptor.__get__")))
    (tk : PySem.W.takesIn K (.ref p) = some true) (ty : PySem.W.typeIn K (.ref p) = some (.type "member_descriptor")) (ix : PySem.W.slotIn K p cA = some i) (lt : i < 1000) : SlIn K C m i := ⟨cA, p, a, (hc.at_ a).sc, ⟨at_, g, tk, ty, ix, lt⟩⟩
def MkIn (K : PySem.W.Frag) (C : Str) (st : Stmt) (ps : List Str) (dfs : List D) : Prop := ∃ (cA f : Addr) (fd : FuncData) (x qual : Str), PySem.W.nsIn K mainGlobals C = some (some (.ref cA)) ∧ Mk K cA f ∧ FunG K x qual st f fd ∧ DflOk K fd ps dfs
theorem mkIn_mk {K : PySem.W.Frag} {C x qual : Str} {st : Stmt} {ps : List Str} {cA f : Addr} {oc : Value} {od an : Option Addr} {osl : Array (Option Value)} {kV doc pm cdv ct : Value} (hb : BdN st x qual ps)
    (a : PySem.W.nsIn K mainGlobals C = some (some (.ref cA))) (mm : PySem.W.makesIn K cA = true) (fi : PySem.W.findIn K (.ref cA) "__init__" = some (some (.ref f))) (fn : PySem.W.isFn K (.ref f) = true) (kc : PySem.W.keepIn K (.ref cA) = true)
    (l : K.lookup f = some ⟨oc, od, .func (PySem.W.fnOf x qual (defArgs st) (defBody st) (defScope st) .none kV doc pm an cdv ct), osl⟩) (c : PySem.W.codeIn K cdv qual = true) (k : PySem.W.keepIn K (.ref f) = true) : MkIn K C st ps [] :=
  ⟨cA, f, _, x, qual, a, ⟨mm, fi, fn, kc⟩, ⟨⟨oc, od, .none, kV, doc, pm, an, cdv, ct, osl, rfl, l, c⟩, k⟩, DflOk.nil (.all (hb kV doc pm an cdv ct))⟩
def SuIn (K : PySem.W.Frag) (C C' : Str) (b : Bool) : Prop := ∃ c c', PySem.W.nsIn K mainGlobals C = some (some (.ref c)) ∧ PySem.W.nsIn K mainGlobals C' = some (some (.ref c')) ∧ PySem.W.subIn K (.ref c) (.ref c') = some b
theorem suIn_mk {K : PySem.W.Frag} {C C' : Str} {b : Bool} {c c' : Addr} (a : PySem.W.nsIn K mainGlobals C = some (some (.ref c))) (a' : PySem.W.nsIn K mainGlobals C' = some (some (.ref c'))) (s : PySem.W.subIn K (.ref c) (.ref c') = some b) : SuIn K C C' b := ⟨c, c', a, a', s⟩
def GlIn (K : PySem.W.Frag) (y : Str) (d : D) : Prop := ∃ (v : V) (u : Value), PySem.W.nsIn K mainGlobals y = some (some u) ∧ RelV v u ∧ ∀ G, Dv K G v d
theorem glIn_str {K : PySem.W.Frag} {y x : Str} {t : Tok} (h : PySem.W.nsIn K mainGlobals y = some (some (.str x t))) : GlIn K y (.str x) := ⟨.str x, _, h, ⟨t, rfl⟩, fun _ => .str x⟩
theorem glIn_int {K : PySem.W.Frag} {y : Str} {i : Int} {t : Tok} (h : PySem.W.nsIn K mainGlobals y = some (some (.int i t))) : GlIn K y (.int i) := ⟨.int i, _, h, ⟨t, rfl⟩, fun _ => .int i⟩
def strsV : List Value → Option (List Str)
  | [] => some []
  | .str x _ :: r => (strsV r).map (x :: ·)
  | _ :: _ => none
theorem strsV_ok : ∀ {its : List Value} {xs : List Str}, strsV its = some xs → Vals (xs.map V.str) its
  | [], _, h => by cases h; exact .nil
  | v :: r, xs, h => by
    cases v with
    | str x t =>
      simp only [strsV] at h
      cases e : strsV r with
      | none => rw [e] at h; cases h
      | some ys => rw [e] at h; cases h; exact .cons ⟨t, rfl⟩ (strsV_ok e)
    | _ => simp [strsV] at h
theorem dva_strs {K : PySem.W.Frag} {G : Hp} : ∀ xs : List Str, DvAll K G (xs.map V.str) (xs.map D.str)
  | [] => .nil
  | x :: xs => .cons (.str x) (dva_strs xs)
/-- a tuple of texts -/
theorem glIn_strs {K : PySem.W.Frag} {y : Str} {a : Addr} {xs : List Str} {its : Array Value} {od : Option Addr} {n : Nat} {sl : Array (Option Value)} (h : PySem.W.nsIn K mainGlobals y = some (some (.ref a)))
    (l : K.lookup a = some ⟨.type "tuple", od, .seq its n, sl⟩) (hl : its.size ≤ sizeLine) (r : strsV its.toList = some xs) : GlIn K y (.tup (xs.map D.str)) :=
  ⟨.ref a, _, h, rfl, fun G => .tup (xs := xs.map V.str) (.inr ⟨_, its, n, l, rfl, rfl, hl, strsV_ok r⟩) (dva_strs xs)⟩
/-! ### errors -/
def initB (st : Stmt) (ps : List Str) (f : Str) : Bool := match ps, defBody st with
  | [s, y], [.Assign [.Attribute (.Name s' _) f' _] (.Name y' _) _] => decide (s = s') && (decide (y = y') && (decide (f = f') && (plainName s && (plainName y && (vis (defScope st) s && (vis (defScope st) y && scopeB [s, y] [s, y] (defScope st)))))))
  | _, _ => false
theorem fn_init {P : Program} {w : World} {K : PySem.W.Frag} {mg : Str → Option Value} {base : Heap} {x qual f : Str} {st : Stmt} {fI : Addr} {fd : FuncData} {ps : List Str} (F : FunG K x qual st fI fd) (h : initB st ps f = true) : FnG P w K mg base 1 fI fd ps (spInit K f) := by
  unfold initB at h
  split at h
  · rename_i s y s' p1 f' p2 y' p3 p4 hb
    simp only [Bool.and_eq_true, decide_eq_true_eq] at h
    obtain ⟨rfl, rfl, rfl, h1, h2, h3, h4, h5⟩ := h
    refine fn_g (N := [s, y]) F (scopeB_ok h5) (fun vs H Q E h => ?_) (fun cdv A outer sh H vs Q E hr h => ?_)
    · obtain ⟨a, C, y, rfl, _⟩ := h
      rfl
    · obtain ⟨a, C, v, rfl, T, hf, ha, q⟩ := h
      rw [hb]
      refine ⟨_, pss_cons (ps_ost (pe_var (i := 0) rfl (vis_ok h3) (plainName_ok h1).1 (plainName_ok h1).2) (pe_var (i := 1) rfl (vis_ok h4) (plainName_ok h2).1 (plainName_ok h2).2) (swaps_ok rfl _ _ _)) pss_nil, ?_⟩
      exact ⟨v, rfl, .ref a, rfl, a, C, rfl, T, hf, .inl ⟨ha, fun dx hd ne => q dx hd ne⟩⟩
  · cases h
def InIn (K : PySem.W.Frag) (C f : Str) (st : Stmt) (ps : List Str) : Prop := ∃ (cA fI : Addr) (fd : FuncData) (x qual : Str), PySem.W.nsIn K mainGlobals C = some (some (.ref cA)) ∧ OexC K cA ∧ PySem.W.findIn K (.ref cA) f = some none ∧ PySem.W.findIn K (.ref cA) "__init__" = some (some (.ref fI)) ∧
  PySem.W.typeIn K (.ref fI) = some (.type "function") ∧ FunG K x qual st fI fd ∧ Binds K fd ps [] ∧ initB st ps f = true
theorem inIn_mk {K : PySem.W.Frag} {C f x qual : Str} {st : Stmt} {ps : List Str} {cA fI : Addr} {oc : Value} {od an : Option Addr} {osl : Array (Option Value)} {kV doc pm cdv ct : Value} {nm q N bs bm sn sub ab col dd k0 k1 k2 k3 k5} (hb : BdN st x qual ps) (hi : initB st ps f = true)
    (a : PySem.W.nsIn K mainGlobals C = some (some (.ref cA))) (o : K.lookup cA = some (excClassObj nm q cA N bs bm true sn sub ab col dd k0 k1 k2 k3 k5 "ValueError.__new__")) (rv : PySem.HandSPX.refsVE bm = true) (sa : PySem.W.findIn K (.ref cA) "__setattr__" = some (some (.builtin "object.__setattr__")))
    (ex : PySem.W.subIn K (.ref cA) (.type "BaseException") = some true) (ty : PySem.W.typeIn K (.ref cA) = some (.type "type")) (kc : PySem.W.keepIn K (.ref cA) = true) (ff : PySem.W.findIn K (.ref cA) f = some none)
    (fi : PySem.W.findIn K (.ref cA) "__init__" = some (some (.ref fI))) (ti : PySem.W.typeIn K (.ref fI) = some (.type "function"))
    (l : K.lookup fI = some ⟨oc, od, .func (PySem.W.fnOf x qual (defArgs st) (defBody st) (defScope st) .none kV doc pm an cdv ct), osl⟩) (c : PySem.W.codeIn K cdv qual = true) (k : PySem.W.keepIn K (.ref fI) = true) : InIn K C f st ps :=
  ⟨cA, fI, _, x, qual, a, ⟨⟨nm, q, N, bs, bm, sn, sub, ab, col, dd, k0, k1, k2, k3, k5, o, rv⟩, sa, ex, ty, kc⟩, ff, fi, ti, ⟨⟨oc, od, .none, kV, doc, pm, an, cdv, ct, osl, rfl, l, c⟩, k⟩, .all (hb kV doc pm an cdv ct), hi⟩
theorem InIn.xc {P : Program} {w : World} {K : PySem.W.Frag} {mg : Str → Option Value} {base : Heap} {C f : Str} {st : Stmt} {ps : List Str} {k : Nat} (h : InIn K C f st ps) (hk : 1 ≤ k) : XcK P w K mg base k C f := by
  obtain ⟨cA, fI, fd, x, qual, h1, h2, h3, h4, h5, h6, h7, h8⟩ := h
  exact ⟨cA, fI, fd, ps, h1, h2, h3, h4, h5, (fn_init h6 h8).mono hk, h7⟩
def excB (K : PySem.W.Frag) (C : Addr) : Bool := xfB K C && (decide (PySem.W.findIn K (.ref C) "__class__" = some (some (.builtin "object.__class__"))) && (decide (PySem.W.specialIn K (.builtin "object.__class__") "__get__" = some (some (.builtin "getset_descriptor.__get__"))) &&
  (decide (PySem.W.takesIn K (.builtin "object.__class__") = some true) && decide (PySem.W.mroIn K C (.type "object") = some true))))
theorem excB_ok {K : PySem.W.Frag} {C : Addr} (h : excB K C = true) : XfC K C ∧ ExcC K C := by
  unfold excB at h
  simp only [Bool.and_eq_true, decide_eq_true_eq] at h
  obtain ⟨h1, h2, h3, h4, h5⟩ := h
  have x := xfB_ok h1
  exact ⟨x, ⟨x.ga, x.gg, x.exC, x.hdC, h2, h3, h4, h5⟩⟩
def xsP (K : PySem.W.Frag) (cA : Addr) (p q : Str × List Str) : Bool := match PySem.W.nsIn K mainGlobals q.1 with
  | some (some (.ref dA)) => decide (PySem.W.kitOne K (.ref cA) (.ref dA) = some (decide (q.1 ∈ p.2))) && decide (PySem.W.exmOne K (.ref cA) (.ref dA) = some (decide (q.1 ∈ p.2)))
  | _ => false
def xsB (K : PySem.W.Frag) (su : List (Str × List Str)) (fl c0 : List Str) : Bool := su.all fun p => match PySem.W.nsIn K mainGlobals p.1 with
  | some (some (.ref cA)) => excB K cA && ((fl.all fun f => decide (PySem.W.findIn K (.ref cA) f = some none)) && ((su.all fun q => xsP K cA p q) && ((bexc.all fun q => decide (PySem.W.kitOne K (.ref cA) (.type q.2) = some (decide (q.1 ∈ p.2)))) && (!decide (p.1 ∈ c0) || ex0B K cA))))
  | _ => false
theorem xsB_ok {K : PySem.W.Frag} {su : List (Str × List Str)} {fl c0 : List Str} (h : xsB K su fl c0 = true) : XsK K su fl c0 := fun C as e => by
  have m := assoc_mem e
  have h1 := List.all_eq_true.mp h _ m
  simp only at h1
  split at h1
  · rename_i cA hn
    simp only [Bool.and_eq_true] at h1
    obtain ⟨a1, a2, a3, a4, a5⟩ := h1
    obtain ⟨x1, x2⟩ := excB_ok a1
    refine ⟨cA, hn, x1, x2, fun f hf => of_decide_eq_true (List.all_eq_true.mp a2 f hf), fun D0 as' e' => ?_, fun q hq => of_decide_eq_true (List.all_eq_true.mp a4 q hq), fun hc => ex0B_ok ?_⟩
    · have z := List.all_eq_true.mp a3 _ (assoc_mem e')
      unfold xsP at z
      split at z
      · rename_i dA hd
        simp only [Bool.and_eq_true, decide_eq_true_eq] at z
        exact ⟨dA, hd, z.1, z.2⟩
      · cases z
    · rw [decide_eq_true hc] at a5
      simpa using a5
  · cases h1
def EntC (tb : TB) (e : Ent) (st : Stmt) (ps : List Str) : Prop :=
  ∃ (c : CE) (n : Nat) (b : Ss), c.tb = tb ∧ scopeB c.N ps (defScope st) = true ∧ compSs c n (defScope st) (defBody st) = some b ∧
    match e with
    | .comp d => d = ⟨ps.length, c.N.length, b⟩
    | .prim φ => ∀ (K : PySem.W.Frag) (Φ : Fns) (γ : List D) vs H Q E, spD K φ vs H Q E → spD K (callDef Φ γ ⟨ps.length, c.N.length, b⟩) vs H Q E
    | .hot _ => False
def EntCH (tb : TB) (d : Def) (st : Stmt) (ps : List Str) : Prop :=
  ∃ (c : CE) (n : Nat) (b : Ss), c.tb = tb ∧ scopeB c.N ps (defScope st) = true ∧ compHSs c n (defScope st) (defBody st) = some b ∧ d = ⟨ps.length, c.N.length, b⟩
theorem DflOk.binds {K : PySem.W.Frag} {fd : FuncData} {ps : List Str} (h : DflOk K fd ps []) : Binds K fd ps [] := by
  obtain ⟨dvs, dus, v, d, b⟩ := h 0 (Nat.zero_le _)
  have d0 := d fun _ => none
  rw [List.drop_nil] at d0
  cases d0
  cases v
  exact b
/-- each part of a table is right -/
def AllL {α : Type} (p : α → Prop) : List α → Prop
  | [] => True
  | a :: r => p a ∧ AllL p r
theorem al_nil {α : Type} {p : α → Prop} : AllL p [] := trivial
theorem al_cons {α : Type} {p : α → Prop} {a : α} {r : List α} (h : p a) (t : AllL p r) : AllL p (a :: r) := ⟨h, t⟩
theorem AllL.mem {α : Type} {p : α → Prop} : ∀ {l : List α} {a : α}, AllL p l → a ∈ l → p a
  | _ :: _, _, h, m => by
    rcases List.mem_cons.mp m with rfl | m
    · exact h.1
    · exact AllL.mem h.2 m
theorem AllL.map {α : Type} {p q : α → Prop} (f : ∀ a, p a → q a) : ∀ {l : List α}, AllL p l → AllL q l
  | [], _ => trivial
  | _ :: _, h => ⟨f _ h.1, AllL.map f h.2⟩
def FnP (K : PySem.W.Frag) (tb : TB) (tab : List (Nat × Ent)) (q : Str × FnT) : Prop := ∃ e st ps, tabGet tab q.2.i = some e ∧ FnIn K q.1 st ps q.2.dfs ∧ EntC tb e st ps
def MtP (K : PySem.W.Frag) (tb : TB) (tab : List (Nat × Ent)) (m : Str) (q : Str × FnT) : Prop := ∃ e st ps, tabGet tab q.2.i = some e ∧ MtIn K q.1 m st ps ∧ EntC tb e st ps
def MkP' (K : PySem.W.Frag) (tb : TB) (tab : List (Nat × Ent)) (q : Str × (FnT × Nat)) : Prop := ∃ e st ps, tabGet tab q.2.1.i = some e ∧ MkIn K q.1 st ps q.2.1.dfs ∧ EntC tb e st ps
def HfP (K : PySem.W.Frag) (tb : TB) (tab : List (Nat × Ent)) (q : Str × FnT) : Prop := ∃ d st ps, tabGet tab q.2.i = some (.hot d) ∧ FnIn K q.1 st ps [] ∧ EntCH tb d st ps
structure TbIn (K : PySem.W.Frag) (tb : TB) (tab : List (Nat × Ent)) : Prop where
  fn : AllL (FnP K tb tab) tb.fns
  gl : AllL (fun q => GlIn K q.1 q.2) tb.gls
  bl : AllL (fun y => PySem.W.nsIn K mainGlobals y = some none) tb.bls
  mt : AllL (fun q => AllL (MtP K tb tab q.1) q.2) tb.mts
  sl : AllL (fun q => AllL (fun r => SlIn K r.1 q.1 r.2) q.2) tb.sls
  mk' : AllL (MkP' K tb tab) tb.mks
  cl : AllL (fun q => ClsIn K q.1) tb.sub
  su : AllL (fun q => AllL (fun r => SuIn K q.1 r.1 (decide (r.1 ∈ q.2))) tb.sub) tb.sub
  xc : AllL (fun q => ∃ st ps, InIn K q.1 q.2 st ps) tb.xcs
  xs : xsB K tb.xsu tb.xfl tb.xc0 = true
  hf : AllL (HfP K tb tab) tb.hfs
theorem sub_of {K : PySem.W.Frag} {tb : TB} {tab : List (Nat × Ent)} (T : TbIn K tb tab) : SubT K tb.sub := fun C cs C' cs' e1 e2 => by
  have m1 := assoc_mem e1
  have m2 := assoc_mem e2
  obtain ⟨c, c', a, a', s⟩ := (T.su.mem m1).mem m2
  exact ⟨c, c', a, a', (T.cl.mem m1).at_ a, (T.cl.mem m2).at_ a', s⟩
theorem end_mk {P : Program} {w : World} {K : PySem.W.Frag} {h : Heap} {mg : Str → Option Value} {fa : Addr} {tb : TB} {tab : List (Nat × Ent)} {γ : List D} {i : Nat} {x : Str} {e0 : Ent} (n : Nat) (X : K.In h) (G : h.Ns mainGlobals mg) (hfa : mg "law" = some (.ref fa))
    (ht : tabGet tab i = some e0) {st : Stmt} (hl : FnIn K "law" st [x] []) (hc : EntC tb e0 st [x]) (T : TbIn K tb tab) :
    ∃ fd : FuncData, (∀ (s : Shared) (u : Value), BindsTo s fd ⟨[u], []⟩ [(x, u)]) ∧
      ∀ base : Heap, K.In base → base.Ns mainGlobals mg → (∃ o, base.get? sysModules = some o) → FnG P w K mg base (3 + 2 * n) fa fd [x] (spD K (callN tab γ n i)) := by
  have mgn : ∀ (y : Str) (v : Value), PySem.W.nsIn K mainGlobals y = some (some v) → mg y = some v := fun y v e => PySem.W.mg_of X G e
  have hbl : ∀ y ∈ tb.bls, mg y = none := fun y hy => PySem.W.mg_none_of X G (T.bl.mem hy)
  have hgl : ∀ (y : Str) (d : D), assoc tb.gls y = some d → ∃ v u, mg y = some u ∧ RelV v u ∧ ∀ G, Dv K G v d := fun y d hy => by
    obtain ⟨v, u, h2, h3, h4⟩ := T.gl.mem (assoc_mem hy)
    exact ⟨v, u, mgn _ _ h2, h3, h4⟩
  have hsl : ∀ (m : Str) (cs : List (Str × Nat)) (C : Str) (i : Nat), assoc tb.sls m = some cs → assoc cs C = some i → ∃ cA p, PySem.W.nsIn K mainGlobals C = some (some (.ref cA)) ∧ SlX.SCls K cA ∧ SlX.Slot1 K cA m p i :=
    fun m cs C i e1 e2 => (T.sl.mem (assoc_mem e1)).mem (assoc_mem e2)
  have hxc : ∀ (base : Heap) (k : Nat), 1 ≤ k → ∀ (C f : Str), assoc tb.xcs C = some f → XcK P w K mg base k C f := fun base k hk C f e => by
    obtain ⟨st, ps, h⟩ := T.xc.mem (assoc_mem e)
    exact h.xc hk
  have hxs := xsB_ok T.xs
  have ent : ∀ (base : Heap), (∃ o, base.get? sysModules = some o) → ∀ {e : Ent} {st : Stmt} {ps : List Str} {f : Addr} {fd : FuncData} {x qual : Str}, FunG K x qual st f fd → EntC tb e st ps → EntOk P w K mg base tb 3 e f fd ps := by
    rintro base hsm e st ps f fd x qual F ⟨c, m, bd, c1, c4, c5, c6⟩
    cases e with
    | comp d =>
      have c6 : d = ⟨ps.length, c.N.length, bd⟩ := c6
      subst c6
      exact ⟨c, m, x, qual, st, c1, F, c4, c5, rfl, rfl⟩
    | hot _ => exact c6.elim
    | prim φ =>
      subst c1
      refine FnG.imp (c6 K (fun _ _ _ _ _ => False) γ) (fn_comp (k := 1) F c4 c5 ⟨mgn, fun t y e => ?_, hgl, hbl, fun m cs C t e1 e2 e3 => ?_, hsl, fun C t n e => ?_, sub_of T, hsm, hxc base 1 (by omega), hxs, fun t y e => ?_⟩)
      · obtain ⟨_, stj, psj, _, ⟨fj, fdj, xj, qj, aj, Fj, dj, _⟩, _⟩ := T.fn.mem (assoc_mem e)
        exact ⟨fj, fdj, psj, mgn _ _ aj, Fj.kp, FnG.never fun vs H Q E h => spD_never vs H Q E h, dj⟩
      · obtain ⟨_, stj, psj, _, ⟨cA, fj, fdj, xj, qj, aj, sj, mj, Fj, bj⟩, _⟩ := (T.mt.mem (assoc_mem e1)).mem (assoc_mem e2)
        exact ⟨cA, fj, fdj, psj, aj, sj, mj, FnG.never fun vs H Q E h => spD_never vs H Q E h, bj⟩
      · obtain ⟨_, stj, psj, _, ⟨cA, fj, fdj, xj, qj, aj, mj, Fj, dj⟩, _⟩ := T.mk'.mem (assoc_mem e)
        exact ⟨cA, fj, fdj, psj, aj, mj, FnG.never fun vs H Q E h => spD_never vs H Q E h, dj⟩
      · obtain ⟨_, stj, psj, _, ⟨fj, fdj, xj, qj, aj, Fj, dj, _⟩, _⟩ := T.hf.mem (assoc_mem e)
        exact ⟨fj, fdj, psj, mgn _ _ aj, Fj.kp, FnHG.never fun p vs H Q E h => spDp_never p vs H Q E h, dj.binds⟩
  obtain ⟨f, fd, x0, q0, a, F, b, bt⟩ := hl
  have e := hfa.symm.trans (mgn _ _ a)
  cases e
  refine ⟨fd, bt rfl x rfl, fun base kb gb hsm => ?_⟩
  refine table_ok ⟨mgn, fun t y e => ?_, hgl, hbl, fun m cs C t e1 e2 e3 => ?_, hsl, fun C t n e => ?_, sub_of T, hsm, hxc base 3 (by omega), hxs, fun t y e => ?_⟩ n i e0 fa fd [x] ht (ent base hsm F hc)
  · obtain ⟨ej, stj, psj, h2, ⟨fj, fdj, xj, qj, aj, Fj, dj, _⟩, cj⟩ := T.fn.mem (assoc_mem e)
    exact ⟨ej, fj, fdj, psj, h2, mgn _ _ aj, Fj.kp, ent base hsm Fj cj, dj⟩
  · obtain ⟨ej, stj, psj, h2, ⟨cA, fj, fdj, xj, qj, aj, sj, mj, Fj, bj⟩, cj⟩ := (T.mt.mem (assoc_mem e1)).mem (assoc_mem e2)
    exact ⟨ej, cA, fj, fdj, psj, h2, aj, sj, mj, ent base hsm Fj cj, bj⟩
  · obtain ⟨ej, stj, psj, h2, ⟨cA, fj, fdj, xj, qj, aj, mj, Fj, dj⟩, cj⟩ := T.mk'.mem (assoc_mem e)
    exact ⟨ej, cA, fj, fdj, psj, h2, aj, mj, ent base hsm Fj cj, dj⟩
  · obtain ⟨dj0, stj, psj, h2, ⟨fj, fdj, xj, qj, aj, Fj, dj, _⟩, c, m, bd, c1, c4, c5, c6⟩ := T.hf.mem (assoc_mem e)
    subst c6
    exact ⟨_, fj, fdj, psj, h2, mgn _ _ aj, Fj.kp, ⟨c, m, xj, qj, stj, c1, Fj, c4, c5, rfl, rfl⟩, dj.binds⟩
/-- the law: what its small form tells is True -/
theorem law_true {K : PySem.W.Frag} {φ : List D → MS → KR → KX → Prop} (h : ∀ ns : List Int, φ [.scr ns] (fun _ => none) (fun r _ => r = .val (.bl true)) fun _ _ => False) :
    ∀ (H : Hp) (a : Addr) (ns : List Int), ns.length ≤ 63 → Only H → SqL K H a (ns.map V.int) → spD K φ [.ref a] H (fun v _ => v = .bl true) fun _ _ _ => False := by
  intro H a ns hl _ hs
  refine ⟨H, (fun _ => none), [.scr ns], fun r _ => r = .val (.bl true), fun _ _ => False, ⟨Sub.refl H, fun a mo e => ?_, fun a mo e => ?_⟩, .one (.scr hs hl), ?_, fun _ _ z => z.elim, h ns⟩
  · have e' : (none : Option MO) = some mo := e
    cases e'
  · have e' : (none : Option MO) = some mo := e
    cases e'
  · rintro r M' rfl v G' H' s rv
    have rv' : Dv K G' v (.bl true) := rv
    cases rv'
    rfl
end DL
set_option maxRecDepth 100000
namespace DL
open PySem L2
def b_is_name : Ss :=
  (.cons (.iff (.or (.not (.e (.isi (.var 0) ["str"]))) (.not (.e (.chain .LtE .LtE (.cst (.int 1)) (.bi .len (.cons (.var 0) .nil)) (.cst (.int 8)))))) (.cons (.ret (.cst (.bl false))) .nil) .nil) (.cons (.ret (.bi .all (.cons (.comp (.cmp .In (.var 1) (.cst (.str "abcdefghijklmnopqrstuvwxyz"))) [1] true [1] (.seq (.var 0)) .yes) .nil))) .nil))
def d_is_name : Def := ⟨1, 2, b_is_name⟩
abbrev i_is_name : Nat := 1
def b_is_error : Ss :=
  (.cons (.ret (.and (.call 1 (.cons (.var 0) .nil)) (.cmp .NotIn (.var 0) (.cst (.tup ([("hush" : Str), ("no" : Str), ("out" : Str), ("round" : Str), ("well" : Str), ("yes" : Str)].map D.str)))))) .nil)
def d_is_error : Def := ⟨1, 1, b_is_error⟩
abbrev i_is_error : Nat := 2
def b_are_names : Ss :=
  (.cons (.ret (.and (.isi (.var 0) ["list", "tuple"]) (.and (.cmp .LtE (.bi .len (.cons (.var 0) .nil)) (.var 1)) (.bi .all (.cons (.comp (.call 1 (.cons (.var 2) .nil)) [2] true [2] (.seq (.var 0)) .yes) .nil))))) .nil)
def d_are_names : Def := ⟨2, 3, b_are_names⟩
abbrev i_are_names : Nat := 3
def b_are_errors : Ss :=
  (.cons (.iff (.or (.not (.e (.isi (.var 0) ["list", "tuple"]))) (.not (.e (.bi .all (.cons (.comp (.call 2 (.cons (.var 1) .nil)) [1] true [1] (.seq (.var 0)) .yes) .nil))))) (.cons (.ret (.cst (.bl false))) .nil) .nil) (.cons (.ret (.cmp .Eq (.lens (.var 0)) (.bi .len (.cons (.var 0) .nil)))) .nil))
def d_are_errors : Def := ⟨1, 2, b_are_errors⟩
abbrev i_are_errors : Nat := 4
def b_is_called : Ss :=
  (.cons (.ret (.and (.isi (.var 0) ["tuple"]) (.and (.cmp .Eq (.bi .len (.cons (.var 0) .nil)) (.var 2)) (.and (.isi (.idx (.var 0) (.cst (.int 0))) ["str"]) (.cmp .Eq (.idx (.var 0) (.cst (.int 0))) (.var 1)))))) .nil)
def d_is_called : Def := ⟨3, 3, b_is_called⟩
abbrev i_is_called : Nat := 5
def b_is_catch : Ss :=
  (.cons (.ret (.and (.isi (.var 0) ["tuple"]) (.and (.cmp .Eq (.bi .len (.cons (.var 0) .nil)) (.cst (.int 2))) (.and (.call 4 (.cons (.idx (.var 0) (.cst (.int 0))) .nil)) (.call 11 (.cons (.idx (.var 0) (.cst (.int 1))) .nil)))))) .nil)
def d_is_catch : Def := ⟨1, 1, b_is_catch⟩
abbrev i_is_catch : Nat := 6
def b_is_try : Ss :=
  (.cons (.iff (.or (.not (.e (.call 5 (.cons (.var 0) (.cons (.cst (.str "try")) (.cons (.cst (.int 5)) .nil)))))) (.not (.e (.isi (.idx (.var 0) (.cst (.int 2))) ["list", "tuple"])))) (.cons (.ret (.cst (.bl false))) .nil) .nil) (.cons (.ret (.and (.bi .all (.cons (.comp (.call 6 (.cons (.var 1) .nil)) [1] true [1] (.seq (.idx (.var 0) (.cst (.int 2)))) .yes) .nil)) (.and (.call 11 (.cons (.idx (.var 0) (.cst (.int 1))) .nil)) (.and (.call 11 (.cons (.idx (.var 0) (.cst (.int 3))) .nil)) (.call 11 (.cons (.idx (.var 0) (.cst (.int 4))) .nil)))))) .nil))
def d_is_try : Def := ⟨1, 2, b_is_try⟩
abbrev i_is_try : Nat := 7
def b_is_leaving : Ss :=
  (.cons (.iff (.e (.call 5 (.cons (.var 0) (.cons (.cst (.str "answer")) (.cons (.cst (.int 2)) .nil))))) (.cons (.ret (.or (.call 1 (.cons (.idx (.var 0) (.cst (.int 1))) .nil)) (.and (.isi (.idx (.var 0) (.cst (.int 1))) ["str"]) (.cmp .Eq (.idx (.var 0) (.cst (.int 1))) (.cst (.str "")))))) .nil) .nil) (.cons (.iff (.e (.call 5 (.cons (.var 0) (.cons (.cst (.str "raise")) (.cons (.cst (.int 2)) .nil))))) (.cons (.ret (.call 2 (.cons (.idx (.var 0) (.cst (.int 1))) .nil))) .nil) .nil) (.cons (.iff (.e (.call 5 (.cons (.var 0) (.cons (.cst (.str "set")) (.cons (.cst (.int 3)) .nil))))) (.cons (.ret (.and (.call 1 (.cons (.idx (.var 0) (.cst (.int 1))) .nil)) (.call 1 (.cons (.idx (.var 0) (.cst (.int 2))) .nil)))) .nil) .nil) (.cons (.ret (.bi .any (.cons (.comp (.call 5 (.cons (.var 0) (.cons (.var 1) (.cons (.cst (.int 1)) .nil)))) [1] true [1] (.seq (.cst (.tup ([("break" : Str), ("next" : Str), ("again" : Str)].map D.str)))) .yes) .nil))) .nil))))
def d_is_leaving : Def := ⟨1, 2, b_is_leaving⟩
abbrev i_is_leaving : Nat := 8
def b_is_do : Ss :=
  (.cons (.iff (.or (.not (.e (.call 5 (.cons (.var 0) (.cons (.cst (.str "do")) (.cons (.cst (.int 5)) .nil)))))) (.or (.not (.e (.isi (.idx (.var 0) (.cst (.int 1))) ["str"]))) (.and (.e (.cmp .NotEq (.idx (.var 0) (.cst (.int 1))) (.cst (.str "")))) (.not (.e (.call 1 (.cons (.idx (.var 0) (.cst (.int 1))) .nil))))))) (.cons (.ret (.cst (.bl false))) .nil) .nil) (.cons (.ret (.and (.call 1 (.cons (.idx (.var 0) (.cst (.int 2))) .nil)) (.and (.call 3 (.cons (.idx (.var 0) (.cst (.int 3))) (.cons (.cst (.int 3)) .nil))) (.call 4 (.cons (.idx (.var 0) (.cst (.int 4))) .nil))))) .nil))
def d_is_do : Def := ⟨1, 1, b_is_do⟩
abbrev i_is_do : Nat := 9
def b_is_row : Ss :=
  (.cons (.iff (.or (.e (.call 5 (.cons (.var 0) (.cons (.cst (.str "if")) (.cons (.cst (.int 4)) .nil))))) (.e (.call 5 (.cons (.var 0) (.cons (.cst (.str "loop")) (.cons (.cst (.int 4)) .nil)))))) (.cons (.ret (.and (.call 1 (.cons (.idx (.var 0) (.cst (.int 1))) .nil)) (.and (.call 11 (.cons (.idx (.var 0) (.cst (.int 2))) .nil)) (.call 11 (.cons (.idx (.var 0) (.cst (.int 3))) .nil))))) .nil) .nil) (.cons (.iff (.e (.call 5 (.cons (.var 0) (.cons (.cst (.str "close")) (.cons (.cst (.int 4)) .nil))))) (.cons (.ret (.and (.call 1 (.cons (.idx (.var 0) (.cst (.int 1))) .nil)) (.and (.call 4 (.cons (.idx (.var 0) (.cst (.int 2))) .nil)) (.call 11 (.cons (.idx (.var 0) (.cst (.int 3))) .nil))))) .nil) .nil) (.cons (.ret (.or (.call 9 (.cons (.var 0) .nil)) (.or (.call 8 (.cons (.var 0) .nil)) (.call 7 (.cons (.var 0) .nil))))) .nil)))
def d_is_row : Def := ⟨1, 1, b_is_row⟩
abbrev i_is_row : Nat := 10
def b_are_rows : Ss :=
  (.cons (.ret (.and (.isi (.var 0) ["list", "tuple"]) (.bi .all (.cons (.comp (.call 10 (.cons (.var 1) .nil)) [1] true [1] (.seq (.var 0)) .yes) .nil)))) .nil)
def d_are_rows : Def := ⟨1, 2, b_are_rows⟩
abbrev i_are_rows : Nat := 11
def b_law_bag : Ss :=
  (.cons (.ret (.lst (.cons (.cst (.int 0)) (.cons (.cst (.int 1234567891)) (.cons (.cst (.int 0)) (.cons (.comp (.bi .abs (.cons (.var 1) .nil)) [1] true [1] (.seq (.slc (.var 0) .none (.some (.cst (.int 63))))) .yes) .nil)))))) .nil)
def d_law_bag : Def := ⟨1, 2, b_law_bag⟩
abbrev i_law_bag : Nat := 12
def b_law_take : Ss :=
  (.cons (.iff (.e (.cmp .Eq (.idx (.var 0) (.cst (.int 0))) (.cst (.int 0)))) (.cons (.set 2 (.cst (.int 0))) (.cons (.iff (.e (.cmp .Lt (.idx (.var 0) (.cst (.int 2))) (.bi .len (.cons (.idx (.var 0) (.cst (.int 3))) .nil)))) (.cons (.set 2 (.idx (.idx (.var 0) (.cst (.int 3))) (.idx (.var 0) (.cst (.int 2))))) .nil) .nil) (.cons (.augS (.var 0) (.cst (.int 2)) .Add (.cst (.int 1))) (.cons (.iff (.e (.cmp .GtE (.var 2) (.cst (.int 1000000000000000000)))) (.cons (.sto (.var 0) (.cst (.int 0)) (.var 2)) .nil) .nil) (.cons (.set 3 (.bin .Add (.bin .Add (.bin .Mult (.idx (.var 0) (.cst (.int 1))) (.cst (.int 48271))) (.bin .Mod (.bi .int (.cons (.var 2) .nil)) (.cst (.int 2147483647)))) (.bin .Mult (.cst (.int 7919)) (.idx (.var 0) (.cst (.int 2)))))) (.cons (.sto (.var 0) (.cst (.int 1)) (.bin .Mod (.bi .int (.cons (.var 3) .nil)) (.cst (.int 2147483647)))) .nil)))))) .nil) (.cons (.iff (.e (.cmp .Gt (.idx (.var 0) (.cst (.int 0))) (.cst (.int 0)))) (.cons (.set 4 (.bin .Mod (.bi .int (.cons (.idx (.var 0) (.cst (.int 0))) .nil)) (.var 1))) (.cons (.sto (.var 0) (.cst (.int 0)) (.bin .FloorDiv (.idx (.var 0) (.cst (.int 0))) (.var 1))) (.cons (.ret (.var 4)) .nil))) .nil) (.cons (.set 5 (.bin .Mod (.bi .int (.cons (.bin .Mult (.bin .Add (.idx (.var 0) (.cst (.int 1))) (.cst (.int 1))) (.cst (.int 39373))) .nil)) (.cst (.int 1000000007)))) (.cons (.set 6 (.bin .Mod (.bi .int (.cons (.bin .Mult (.bin .Mod (.bi .int (.cons (.bin .Mult (.var 5) (.var 5)) .nil)) (.cst (.int 998244353))) (.cst (.int 30011))) .nil)) (.cst (.int 998244353)))) (.cons (.iff (.e (.cmp .Gt (.var 1) (.cst (.int 1000000)))) (.cons (.ret (.bin .Mod (.bi .int (.cons (.bin .Add (.bin .Mult (.var 6) (.cst (.int 1000000007))) (.var 5)) .nil)) (.var 1))) .nil) .nil) (.cons (.ret (.bin .Mod (.bi .int (.cons (.bin .FloorDiv (.var 6) (.cst (.int 7))) .nil)) (.var 1))) .nil))))))
def d_law_take : Def := ⟨2, 7, b_law_take⟩
abbrev i_law_take : Nat := 13
def b_law_alike : Ss :=
  (.cons (.ret (.and (.cmp .Eq (.var 0) (.var 1)) (.cmp .Eq (.bi .repr (.cons (.var 0) .nil)) (.bi .repr (.cons (.var 1) .nil))))) .nil)
def d_law_alike : Def := ⟨2, 2, b_law_alike⟩
abbrev i_law_alike : Nat := 14
def b_law_mixed : Ss :=
  (.cons (.setM 2 (.lst .nil)) (.cons (.for_ [3] true (.seq (.var 1)) (.cons (.ins (.var 2) (.call 13 (.cons (.var 0) (.cons (.bin .Add (.bi .len (.cons (.var 2) .nil)) (.cst (.int 1))) .nil))) (.var 3)) .nil)) (.cons (.ret (.var 2)) .nil)))
def d_law_mixed : Def := ⟨2, 4, b_law_mixed⟩
abbrev i_law_mixed : Nat := 15
def b_law_pick : Ss :=
  (.cons (.ret (.idx (.var 1) (.call 13 (.cons (.var 0) (.cons (.bi .len (.cons (.var 1) .nil)) .nil))))) .nil)
def d_law_pick : Def := ⟨2, 2, b_law_pick⟩
abbrev i_law_pick : Nat := 16
def b_law_names : Ss :=
  (.cons (.set 2 (.cst (.str "abcdefghijklmnopqrstuvwxyz"))) (.cons (.set 3 (.cst (.str "do set answer break next raise again if loop close try rest always end catch in got a b z ab ba"))) (.cons (.par [3, 4, 5] (.cons (.mt .split (.var 3) (.cons (.cst (.str " ")) .nil)) (.cons (.call 13 (.cons (.var 0) (.cons (.cst (.int 4)) .nil))) (.cons (.call 13 (.cons (.var 0) (.cons (.cst (.int 20)) .nil))) .nil)))) (.cons (.set 6 (.mt .join (.cst (.str "")) (.cons (.comp (.idx (.var 2) (.call 13 (.cons (.var 0) (.cons (.cst (.int 26)) .nil)))) [7] true [7] (.rng1 (.bin .Add (.cst (.int 1)) (.call 13 (.cons (.var 0) (.cons (.cst (.int 7)) .nil))))) .yes) .nil))) (.cons (.set 8 (.call 13 (.cons (.var 0) (.cons (.bin .Add (.bi .len (.cons (.var 6) .nil)) (.cst (.int 1))) .nil)))) (.cons (.iff (.e (.cmp .Eq (.var 4) (.cst (.int 0)))) (.cons (.ret (.slc (.bin .Add (.slc (.var 3) (.some (.var 5)) .none) (.slc (.var 3) .none (.some (.var 5)))) .none (.some (.var 1)))) .nil) .nil) (.cons (.iff (.e (.cmp .Eq (.var 4) (.cst (.int 1)))) (.cons (.ret (.comp (.idx (.var 2) (.bin .Mod (.bi .int (.cons (.bin .Add (.var 5) (.bin .Mult (.cst (.int 3)) (.var 7))) .nil)) (.cst (.int 26)))) [7] true [7] (.rng1 (.var 1)) .yes)) .nil) .nil) (.cons (.ret (.comp (.bin .Add (.bin .Add (.slc (.var 6) .none (.some (.var 8))) (.idx (.var 2) (.bin .Mod (.bi .int (.cons (.bin .Add (.var 5) (.bin .Mult (.cst (.int 3)) (.var 7))) .nil)) (.cst (.int 26))))) (.slc (.var 6) (.some (.var 8)) .none)) [7] true [7] (.rng1 (.var 1)) .yes)) .nil))))))))
def d_law_names : Def := ⟨2, 9, b_law_names⟩
abbrev i_law_names : Nat := 17
def b_law_world : Ss :=
  (.cons (.set 1 (.tup (.cons (.cst (.str "hush")) (.cons (.cst (.str "no")) (.cons (.cst (.str "out")) (.cons (.cst (.str "round")) (.cons (.cst (.str "well")) (.cons (.cst (.str "yes")) .nil)))))))) (.cons (.set 2 (.comp (.bin .Add (.var 3) (.bin .Mult (.cst (.str "q")) (.bi .int (.cons (.cmp .In (.var 3) (.var 1)) .nil)))) [3] true [3] (.seq (.call 17 (.cons (.var 0) (.cons (.cst (.int 3)) .nil)))) .yes)) (.cons (.set 4 (.call 15 (.cons (.var 0) (.cons (.bin .Add (.var 2) (.lst (.cons (.cst (.str "e")) (.cons (.cst (.str "f")) .nil)))) .nil)))) (.cons (.set 4 (.comp (.var 3) [5, 3] false [5, 3] (.enum (.var 4)) (.e (.cmp .NotIn (.var 3) (.slc (.var 4) .none (.some (.var 5))))))) (.cons (.set 6 (.slc (.call 15 (.cons (.var 0) (.cons (.bin .Add (.var 2) (.lst (.cons (.cst (.str "w")) .nil))) .nil))) .none (.some (.bin .Add (.cst (.int 2)) (.call 13 (.cons (.var 0) (.cons (.cst (.int 2)) .nil))))))) (.cons (.ret (.dct (.cons (.cst (.str "cells")) (.cons (.slc (.var 2) .none (.some (.bin .Add (.cst (.int 1)) (.call 13 (.cons (.var 0) (.cons (.cst (.int 3)) .nil)))))) (.cons (.cst (.str "words")) (.cons (.var 6) (.cons (.cst (.str "errors")) (.cons (.slc (.var 4) .none (.some (.bin .Add (.cst (.int 1)) (.call 13 (.cons (.var 0) (.cons (.cst (.int 2)) .nil)))))) .nil)))))))) .nil))))))
def d_law_world : Def := ⟨1, 7, b_law_world⟩
abbrev i_law_world : Nat := 18
def b_law_errors : Ss :=
  (.cons (.ret (.slc (.call 15 (.cons (.var 0) (.cons (.idx (.var 1) (.cst (.str "errors"))) .nil))) .none (.some (.call 13 (.cons (.var 0) (.cons (.cst (.int 3)) .nil)))))) .nil)
def d_law_errors : Def := ⟨2, 2, b_law_errors⟩
abbrev i_law_errors : Nat := 19
def b_law_deed_row : Ss :=
  (.cons (.set 2 (.idx (.bin .Add (.idx (.var 1) (.cst (.str "cells"))) (.lst (.cons (.cst (.str "")) .nil))) (.call 13 (.cons (.var 0) (.cons (.bin .Add (.bi .len (.cons (.idx (.var 1) (.cst (.str "cells"))) .nil)) (.cst (.int 1))) .nil))))) (.cons (.set 3 (.comp (.call 16 (.cons (.var 0) (.cons (.idx (.var 1) (.cst (.str "cells"))) .nil))) [4] true [4] (.rng1 (.idx (.lst (.cons (.cst (.int 0)) (.cons (.cst (.int 1)) (.cons (.cst (.int 1)) (.cons (.cst (.int 2)) (.cons (.cst (.int 3)) .nil)))))) (.call 13 (.cons (.var 0) (.cons (.cst (.int 5)) .nil))))) .yes)) (.cons (.ret (.tup (.cons (.cst (.str "do")) (.cons (.var 2) (.cons (.call 16 (.cons (.var 0) (.cons (.idx (.var 1) (.cst (.str "words"))) .nil))) (.cons (.var 3) (.cons (.call 19 (.cons (.var 0) (.cons (.var 1) .nil))) .nil))))))) .nil)))
def d_law_deed_row : Def := ⟨2, 5, b_law_deed_row⟩
abbrev i_law_deed_row : Nat := 20
def b_law_body : Ss :=
  (.cons (.setM 5 (.lst .nil)) (.cons (.for_ [6] true (.rng1 (.idx (.lst (.cons (.cst (.int 1)) (.cons (.cst (.int 2)) (.cons (.cst (.int 3)) (.cons (.cst (.int 1)) (.cons (.cst (.int 0)) (.cons (.cst (.int 2)) .nil))))))) (.call 13 (.cons (.var 0) (.cons (.cst (.int 6)) .nil))))) (.cons (.iff (.e (.cmp .Gt (.idx (.var 2) (.cst (.int 0))) (.cst (.int 0)))) (.cons (.augS (.var 2) (.cst (.int 0)) .Sub (.cst (.int 1))) (.cons (.app (.var 5) (.call 22 (.cons (.var 0) (.cons (.var 1) (.cons (.var 2) (.cons (.var 3) (.cons (.var 4) .nil))))))) .nil)) .nil) .nil)) (.cons (.ret (.var 5)) .nil)))
def d_law_body : Def := ⟨5, 7, b_law_body⟩
abbrev i_law_body : Nat := 21
def b_law_row : Ss :=
  (.cons (.set 5 (.call 13 (.cons (.var 0) (.cons (.ife (.e (.cmp .Gt (.var 3) (.cst (.int 0)))) (.cst (.int 15)) (.cst (.int 8))) .nil)))) (.cons (.iff (.e (.cmp .Eq (.var 5) (.cst (.int 2)))) (.cons (.ret (.tup (.cons (.cst (.str "set")) (.cons (.call 16 (.cons (.var 0) (.cons (.idx (.var 1) (.cst (.str "cells"))) .nil))) (.cons (.call 16 (.cons (.var 0) (.cons (.idx (.var 1) (.cst (.str "cells"))) .nil))) .nil))))) .nil) .nil) (.cons (.iff (.or (.e (.cmp .Eq (.var 5) (.cst (.int 3)))) (.and (.e (.cmp .Eq (.var 5) (.cst (.int 4)))) (.not (.e (.idx (.var 4) (.cst (.int 0))))))) (.cons (.ret (.tup (.cons (.cst (.str "answer")) (.cons (.idx (.bin .Add (.idx (.var 1) (.cst (.str "cells"))) (.lst (.cons (.cst (.str "")) .nil))) (.call 13 (.cons (.var 0) (.cons (.bin .Add (.bi .len (.cons (.idx (.var 1) (.cst (.str "cells"))) .nil)) (.cst (.int 1))) .nil)))) .nil)))) .nil) .nil) (.cons (.iff (.e (.cmp .Eq (.var 5) (.cst (.int 4)))) (.cons (.ret (.tup (.cons (.idx (.lst (.cons (.cst (.str "break")) (.cons (.cst (.str "next")) .nil))) (.call 13 (.cons (.var 0) (.cons (.cst (.int 2)) .nil)))) .nil))) .nil) .nil) (.cons (.iff (.or (.e (.cmp .Eq (.var 5) (.cst (.int 5)))) (.and (.e (.cmp .Eq (.var 5) (.cst (.int 6)))) (.not (.e (.idx (.var 4) (.cst (.int 1))))))) (.cons (.ret (.tup (.cons (.cst (.str "raise")) (.cons (.call 16 (.cons (.var 0) (.cons (.idx (.var 1) (.cst (.str "errors"))) .nil))) .nil)))) .nil) .nil) (.cons (.iff (.e (.cmp .Eq (.var 5) (.cst (.int 6)))) (.cons (.ret (.tup (.cons (.cst (.str "again")) .nil))) .nil) .nil) (.cons (.iff (.e (.cmp .Lt (.var 5) (.cst (.int 8)))) (.cons (.ret (.call 20 (.cons (.var 0) (.cons (.var 1) .nil)))) .nil) .nil) (.cons (.par [6, 7] (.cons (.call 16 (.cons (.var 0) (.cons (.idx (.var 1) (.cst (.str "words"))) .nil))) (.cons (.lst (.cons (.or (.idx (.var 4) (.cst (.int 0))) (.cmp .Eq (.var 5) (.cst (.int 9)))) (.cons (.idx (.var 4) (.cst (.int 1))) .nil))) .nil))) (.cons (.set 8 (.call 21 (.cons (.var 0) (.cons (.var 1) (.cons (.var 2) (.cons (.bin .Sub (.var 3) (.cst (.int 1))) (.cons (.var 7) .nil))))))) (.cons (.iff (.e (.cmp .Eq (.var 5) (.cst (.int 10)))) (.cons (.ret (.tup (.cons (.cst (.str "close")) (.cons (.var 6) (.cons (.call 19 (.cons (.var 0) (.cons (.var 1) .nil))) (.cons (.var 8) .nil)))))) .nil) .nil) (.cons (.set 9 (.call 21 (.cons (.var 0) (.cons (.var 1) (.cons (.var 2) (.cons (.bin .Sub (.var 3) (.cst (.int 1))) (.cons (.var 4) .nil))))))) (.cons (.iff (.e (.cmp .Lt (.var 5) (.cst (.int 10)))) (.cons (.ret (.tup (.cons (.idx (.lst (.cons (.cst (.str "if")) (.cons (.cst (.str "loop")) .nil))) (.bin .Sub (.var 5) (.cst (.int 8)))) (.cons (.var 6) (.cons (.var 8) (.cons (.var 9) .nil)))))) .nil) .nil) (.cons (.setM 10 (.lst .nil)) (.cons (.for_ [11] true (.rng1 (.idx (.lst (.cons (.cst (.int 0)) (.cons (.cst (.int 1)) (.cons (.cst (.int 1)) (.cons (.cst (.int 2)) .nil))))) (.call 13 (.cons (.var 0) (.cons (.cst (.int 4)) .nil))))) (.cons (.app (.var 10) (.tup (.cons (.call 19 (.cons (.var 0) (.cons (.var 1) .nil))) (.cons (.call 21 (.cons (.var 0) (.cons (.var 1) (.cons (.var 2) (.cons (.bin .Sub (.var 3) (.cst (.int 1))) (.cons (.lst (.cons (.idx (.var 4) (.cst (.int 0))) (.cons (.cst (.bl true)) .nil))) .nil)))))) .nil)))) .nil)) (.cons (.set 12 (.ife (.e (.cmp .Eq (.call 13 (.cons (.var 0) (.cons (.cst (.int 4)) .nil))) (.cst (.int 0)))) (.call 21 (.cons (.var 0) (.cons (.var 1) (.cons (.var 2) (.cons (.bin .Sub (.var 3) (.cst (.int 1))) (.cons (.var 4) .nil)))))) (.lst .nil))) (.cons (.ret (.tup (.cons (.cst (.str "try")) (.cons (.var 8) (.cons (.frz (.var 10)) (.cons (.var 12) (.cons (.var 9) .nil))))))) .nil))))))))))))))))
def d_law_row : Def := ⟨5, 13, b_law_row⟩
abbrev i_law_row : Nat := 22
def b_law_odd : Ss :=
  (.cons (.set 2 (.bi .int (.cons (.bin .Add (.cst (.str "1")) (.bin .Mult (.cst (.str "0")) (.call 13 (.cons (.var 0) (.cons (.cst (.int 40)) .nil))))) .nil))) (.cons (.setM 3 (.lst (.cons (.cst (.int 0)) (.cons (.cst (.int 1)) (.cons (.neg (.cst (.int 1))) (.cons (.var 2) (.cons (.neg (.var 2)) (.cons (.cst (.bl true)) (.cons (.cst (.bl false)) (.cons (.cst .non) (.cons (.cst (.str "")) (.cons (.cst (.str "a")) (.cons (.var 1) (.cons (.bin .Add (.var 1) (.cst (.str "z"))) (.cons (.cst (.str "abcdefgh")) (.cons (.cst (.str "abcdefghi")) (.cons (.cst (.str "A")) .nil))))))))))))))))) (.cons (.aug 3 .Add (.lst (.cons (.cst (.str "a1")) (.cons (.cst (.str "a b")) (.cons (.cst (.str "well")) (.cons (.cst (.str "hush")) (.cons (.cst (.str "no")) (.cons (.cst (.str "out")) (.cons (.cst (.str "round")) (.cons (.cst (.str "yes")) (.cons (.cst (.str "do")) (.cons (.lst .nil) (.cons (.tup .nil) (.cons (.dct .nil) (.cons (.lst (.cons (.cst (.int 1)) .nil)) (.cons (.tup (.cons (.cst (.int 0)) .nil)) (.cons (.tup (.cons (.cst (.int 0)) (.cons (.cst (.int 0)) .nil))) (.cons (.tup (.cons (.var 1) .nil)) .nil)))))))))))))))))) (.cons (.aug 3 .Add (.lst (.cons (.dct (.cons (.var 1) (.cons (.cst (.int 1)) .nil))) (.cons (.lst (.cons (.var 1) .nil)) (.cons (.tup (.cons (.cst (.str "")) (.cons (.cst (.str "")) (.cons (.cst (.int 0)) .nil)))) (.cons (.tup (.cons (.cst (.str "break")) .nil)) (.cons (.lst (.cons (.tup (.cons (.cst (.str "break")) .nil)) .nil)) (.cons (.tup (.cons (.cst (.str "answer")) (.cons (.cst (.str "")) .nil))) (.cons (.tup (.cons (.cst (.str "ended")) .nil)) (.cons (.tup (.cons (.cst (.int 1)) (.cons (.cst (.int 0)) (.cons (.cst (.int 2)) .nil)))) .nil)))))))))) (.cons (.aug 3 .Add (.lst (.cons (.tup (.cons (.lst .nil) .nil)) (.cons (.tup (.cons (.cst (.str "error")) (.cons (.dct .nil) (.cons (.cst (.str "")) .nil)))) .nil)))) (.cons (.ret (.idx (.var 3) (.call 13 (.cons (.var 0) (.cons (.bi .len (.cons (.var 3) .nil)) .nil))))) .nil))))))
def d_law_odd : Def := ⟨2, 4, b_law_odd⟩
abbrev i_law_odd : Nat := 23
def b_law_is_name : Ss :=
  (.cons (.iff (.or (.not (.e (.isi (.var 0) ["str"]))) (.or (.e (.cmp .Lt (.bi .len (.cons (.var 0) .nil)) (.cst (.int 1)))) (.e (.cmp .Gt (.bi .len (.cons (.var 0) .nil)) (.cst (.int 8)))))) (.cons (.ret (.cst (.bl false))) .nil) .nil) (.cons (.ret (.cmp .Eq (.comp (.var 1) [1] true [1] (.seq (.var 0)) (.e (.cmp .NotIn (.var 1) (.cst (.str "abcdefghijklmnopqrstuvwxyz"))))) (.lst .nil))) .nil))
def d_law_is_name : Def := ⟨1, 2, b_law_is_name⟩
abbrev i_law_is_name : Nat := 24
def b_law_is_error : Ss :=
  (.cons (.ret (.and (.call 24 (.cons (.var 0) .nil)) (.cmp .NotIn (.var 0) (.tup (.cons (.cst (.str "hush")) (.cons (.cst (.str "no")) (.cons (.cst (.str "out")) (.cons (.cst (.str "round")) (.cons (.cst (.str "well")) (.cons (.cst (.str "yes")) .nil)))))))))) .nil)
def d_law_is_error : Def := ⟨1, 1, b_law_is_error⟩
abbrev i_law_is_error : Nat := 25
def b_law_are_errors : Ss :=
  (.cons (.iff (.or (.not (.e (.isi (.var 0) ["list", "tuple"]))) (.e (.cmp .NotEq (.comp (.var 1) [1] true [1] (.seq (.var 0)) (.not (.e (.call 25 (.cons (.var 1) .nil))))) (.lst .nil)))) (.cons (.ret (.cst (.bl false))) .nil) .nil) (.cons (.ret (.cmp .Eq (.lens (.var 0)) (.bi .len (.cons (.var 0) .nil)))) .nil))
def d_law_are_errors : Def := ⟨1, 2, b_law_are_errors⟩
abbrev i_law_are_errors : Nat := 26
def b_law_are_rows : Ss :=
  (.cons (.ret (.and (.isi (.var 0) ["list", "tuple"]) (.cmp .Eq (.comp (.var 1) [1] true [1] (.seq (.var 0)) (.not (.e (.call 30 (.cons (.var 1) .nil))))) (.lst .nil)))) .nil)
def d_law_are_rows : Def := ⟨1, 2, b_law_are_rows⟩
abbrev i_law_are_rows : Nat := 27
def b_law_is_catch : Ss :=
  (.cons (.ret (.and (.isi (.var 0) ["tuple"]) (.and (.cmp .Eq (.bi .len (.cons (.var 0) .nil)) (.cst (.int 2))) (.and (.call 26 (.cons (.idx (.var 0) (.cst (.int 0))) .nil)) (.call 27 (.cons (.idx (.var 0) (.cst (.int 1))) .nil)))))) .nil)
def d_law_is_catch : Def := ⟨1, 1, b_law_is_catch⟩
abbrev i_law_is_catch : Nat := 28
def b_law_is_cell : Ss :=
  (.cons (.ret (.or (.call 24 (.cons (.var 0) .nil)) (.and (.isi (.var 0) ["str"]) (.cmp .Eq (.var 0) (.cst (.str "")))))) .nil)
def d_law_is_cell : Def := ⟨1, 1, b_law_is_cell⟩
abbrev i_law_is_cell : Nat := 29
def b_law_is_row : Ss :=
  (.cons (.iff (.or (.not (.e (.isi (.var 0) ["tuple"]))) (.or (.e (.cmp .Eq (.var 0) (.tup .nil))) (.not (.e (.isi (.idx (.var 0) (.cst (.int 0))) ["str"]))))) (.cons (.ret (.cst (.bl false))) .nil) .nil) (.cons (.par [1, 2] (.cons (.idx (.var 0) (.cst (.int 0))) (.cons (.bi .len (.cons (.var 0) .nil)) .nil))) (.cons (.iff (.e (.cmp .In (.var 1) (.tup (.cons (.cst (.str "break")) (.cons (.cst (.str "next")) (.cons (.cst (.str "again")) .nil)))))) (.cons (.ret (.cmp .Eq (.var 2) (.cst (.int 1)))) .nil) .nil) (.cons (.iff (.or (.e (.cmp .Eq (.var 1) (.cst (.str "answer")))) (.e (.cmp .Eq (.var 1) (.cst (.str "raise"))))) (.cons (.ret (.and (.cmp .Eq (.var 2) (.cst (.int 2))) (.ife (.e (.cmp .Eq (.var 1) (.cst (.str "answer")))) (.call 29 (.cons (.idx (.var 0) (.cst (.int 1))) .nil)) (.call 25 (.cons (.idx (.var 0) (.cst (.int 1))) .nil))))) .nil) .nil) (.cons (.iff (.e (.cmp .Eq (.var 1) (.cst (.str "set")))) (.cons (.ret (.and (.cmp .Eq (.var 2) (.cst (.int 3))) (.and (.call 24 (.cons (.idx (.var 0) (.cst (.int 1))) .nil)) (.call 24 (.cons (.idx (.var 0) (.cst (.int 2))) .nil))))) .nil) .nil) (.cons (.iff (.or (.e (.cmp .Eq (.var 1) (.cst (.str "if")))) (.e (.cmp .Eq (.var 1) (.cst (.str "loop"))))) (.cons (.ret (.and (.cmp .Eq (.var 2) (.cst (.int 4))) (.and (.call 24 (.cons (.idx (.var 0) (.cst (.int 1))) .nil)) (.and (.call 27 (.cons (.idx (.var 0) (.cst (.int 2))) .nil)) (.call 27 (.cons (.idx (.var 0) (.cst (.int 3))) .nil)))))) .nil) .nil) (.cons (.iff (.e (.cmp .Eq (.var 1) (.cst (.str "close")))) (.cons (.ret (.and (.cmp .Eq (.var 2) (.cst (.int 4))) (.and (.call 24 (.cons (.idx (.var 0) (.cst (.int 1))) .nil)) (.and (.call 26 (.cons (.idx (.var 0) (.cst (.int 2))) .nil)) (.call 27 (.cons (.idx (.var 0) (.cst (.int 3))) .nil)))))) .nil) .nil) (.cons (.iff (.or (.e (.cmp .NotEq (.var 2) (.cst (.int 5)))) (.e (.cmp .NotIn (.var 1) (.tup (.cons (.cst (.str "do")) (.cons (.cst (.str "try")) .nil)))))) (.cons (.ret (.cst (.bl false))) .nil) .nil) (.cons (.iff (.e (.cmp .Eq (.var 1) (.cst (.str "do")))) (.cons (.set 3 (.idx (.var 0) (.cst (.int 3)))) (.cons (.iff (.or (.not (.e (.isi (.var 3) ["list", "tuple"]))) (.e (.cmp .Gt (.bi .len (.cons (.var 3) .nil)) (.cst (.int 3))))) (.cons (.ret (.cst (.bl false))) .nil) .nil) (.cons (.set 4 (.and (.cmp .Eq (.comp (.var 5) [5] true [5] (.seq (.var 3)) (.not (.e (.call 24 (.cons (.var 5) .nil))))) (.lst .nil)) (.call 29 (.cons (.idx (.var 0) (.cst (.int 1))) .nil)))) (.cons (.ret (.and (.var 4) (.and (.call 24 (.cons (.idx (.var 0) (.cst (.int 2))) .nil)) (.call 26 (.cons (.idx (.var 0) (.cst (.int 4))) .nil))))) .nil)))) .nil) (.cons (.iff (.or (.not (.e (.isi (.idx (.var 0) (.cst (.int 2))) ["list", "tuple"]))) (.e (.cmp .NotEq (.comp (.var 5) [5] true [5] (.seq (.idx (.var 0) (.cst (.int 2)))) (.not (.e (.call 28 (.cons (.var 5) .nil))))) (.lst .nil)))) (.cons (.ret (.cst (.bl false))) .nil) .nil) (.cons (.ret (.and (.call 27 (.cons (.idx (.var 0) (.cst (.int 1))) .nil)) (.and (.call 27 (.cons (.idx (.var 0) (.cst (.int 3))) .nil)) (.call 27 (.cons (.idx (.var 0) (.cst (.int 4))) .nil))))) .nil)))))))))))
def d_law_is_row : Def := ⟨1, 6, b_law_is_row⟩
abbrev i_law_is_row : Nat := 30
def b_law_spoilt : Ss :=
  (.cons (.set 3 (.call 13 (.cons (.var 0) (.cons (.cst (.int 6)) .nil)))) (.cons (.iff (.or (.e (.cmp .Eq (.var 3) (.cst (.int 0)))) (.or (.not (.e (.isi (.var 1) ["list", "tuple"]))) (.e (.cmp .Eq (.bi .len (.cons (.var 1) .nil)) (.cst (.int 0)))))) (.cons (.ret (.var 2)) .nil) .nil) (.cons (.par [4, 5] (.cons (.own (.bi .list (.cons (.var 1) .nil))) (.cons (.call 13 (.cons (.var 0) (.cons (.bi .len (.cons (.var 1) .nil)) .nil))) .nil))) (.cons (.iff (.e (.cmp .Lt (.var 3) (.cst (.int 4)))) (.cons (.sto (.var 4) (.var 5) (.call 31 (.cons (.var 0) (.cons (.idx (.var 1) (.var 5)) (.cons (.var 2) .nil))))) (.cons (.ret (.ife (.e (.isi (.var 1) ["tuple"])) (.bi .tuple (.cons (.var 4) .nil)) (.var 4))) .nil)) .nil) (.cons (.iff (.e (.cmp .Eq (.var 3) (.cst (.int 4)))) (.cons (.ret (.idx (.lst (.cons (.var 4) (.cons (.bi .tuple (.cons (.var 4) .nil)) .nil))) (.bi .int (.cons (.isi (.var 1) ["list"]) .nil)))) .nil) .nil) (.cons (.set 6 (.idx (.lst (.cons (.bin .Add (.var 4) (.lst (.cons (.var 2) .nil))) (.cons (.bin .Add (.slc (.var 4) .none (.some (.var 5))) (.slc (.var 4) (.some (.bin .Add (.var 5) (.cst (.int 1)))) .none)) (.cons (.bin .Add (.var 4) (.lst (.cons (.idx (.var 4) (.var 5)) .nil))) .nil)))) (.call 13 (.cons (.var 0) (.cons (.cst (.int 3)) .nil))))) (.cons (.ret (.ife (.e (.isi (.var 1) ["tuple"])) (.bi .tuple (.cons (.var 6) .nil)) (.var 6))) .nil)))))))
def d_law_spoilt : Def := ⟨3, 7, b_law_spoilt⟩
abbrev i_law_spoilt : Nat := 31
def b_law_listed : Ss :=
  (.cons (.ret (.idx (.lst (.cons (.bi .list (.cons (.var 1) .nil)) (.cons (.bi .tuple (.cons (.var 1) .nil)) .nil))) (.call 13 (.cons (.var 0) (.cons (.cst (.int 2)) .nil))))) .nil)
def d_law_listed : Def := ⟨2, 2, b_law_listed⟩
abbrev i_law_listed : Nat := 32
def b_law_loose_all : Ss :=
  (.cons (.ret (.call 32 (.cons (.var 0) (.cons (.comp (.call 34 (.cons (.var 0) (.cons (.var 2) .nil))) [2] true [2] (.seq (.var 1)) .yes) .nil)))) .nil)
def d_law_loose_all : Def := ⟨2, 3, b_law_loose_all⟩
abbrev i_law_loose_all : Nat := 33
def b_law_loose : Ss :=
  (.cons (.iff (.e (.cmp .Eq (.idx (.var 1) (.cst (.int 0))) (.cst (.str "do")))) (.cons (.ret (.bin .Add (.slc (.var 1) .none (.some (.cst (.int 3)))) (.bi .tuple (.cons (.comp (.call 32 (.cons (.var 0) (.cons (.var 2) .nil))) [2] true [2] (.seq (.slc (.var 1) (.some (.cst (.int 3))) .none)) .yes) .nil)))) .nil) .nil) (.cons (.iff (.e (.cmp .In (.idx (.var 1) (.cst (.int 0))) (.tup (.cons (.cst (.str "if")) (.cons (.cst (.str "loop")) .nil))))) (.cons (.ret (.bin .Add (.slc (.var 1) .none (.some (.cst (.int 2)))) (.bi .tuple (.cons (.comp (.call 33 (.cons (.var 0) (.cons (.var 2) .nil))) [2] true [2] (.seq (.slc (.var 1) (.some (.cst (.int 2))) .none)) .yes) .nil)))) .nil) .nil) (.cons (.iff (.e (.cmp .Eq (.idx (.var 1) (.cst (.int 0))) (.cst (.str "close")))) (.cons (.ret (.bin .Add (.slc (.var 1) .none (.some (.cst (.int 2)))) (.tup (.cons (.call 32 (.cons (.var 0) (.cons (.idx (.var 1) (.cst (.int 2))) .nil))) (.cons (.call 33 (.cons (.var 0) (.cons (.idx (.var 1) (.cst (.int 3))) .nil))) .nil))))) .nil) .nil) (.cons (.iff (.e (.cmp .NotEq (.idx (.var 1) (.cst (.int 0))) (.cst (.str "try")))) (.cons (.ret (.var 1)) .nil) .nil) (.cons (.set 3 (.comp (.tup (.cons (.call 32 (.cons (.var 0) (.cons (.var 4) .nil))) (.cons (.call 33 (.cons (.var 0) (.cons (.var 2) .nil))) .nil))) [4, 2] false [4, 2] (.seq (.idx (.var 1) (.cst (.int 2)))) .yes)) (.cons (.unp [5, 6, 7] (.comp (.call 33 (.cons (.var 0) (.cons (.var 2) .nil))) [2] true [2] (.seq (.tup (.cons (.idx (.var 1) (.cst (.int 1))) (.cons (.idx (.var 1) (.cst (.int 3))) (.cons (.idx (.var 1) (.cst (.int 4))) .nil))))) .yes)) (.cons (.ret (.tup (.cons (.cst (.str "try")) (.cons (.var 5) (.cons (.call 32 (.cons (.var 0) (.cons (.var 3) .nil))) (.cons (.var 6) (.cons (.var 7) .nil))))))) .nil)))))))
def d_law_loose : Def := ⟨2, 8, b_law_loose⟩
abbrev i_law_loose : Nat := 34
end DL
set_option maxRecDepth 100000
set_option maxHeartbeats 8000000
namespace K11
open PySem L2 DL
def top (i : Nat) : Stmt := PySem.Challenge.pw_exitswin_k11_errors_kept.main.body.getD i (.Pass ⟨0, 0, 0, 0⟩)
def TBL : TB where
  fns := [(("_law_bag" : Str), ⟨12, 1, []⟩), (("_law_take" : Str), ⟨13, 2, []⟩), (("_law_alike" : Str), ⟨14, 2, []⟩), (("_law_odd" : Str), ⟨23, 2, []⟩), (("_law_raise_one" : Str), ⟨75, 2, []⟩), (("_law_raise_none" : Str), ⟨76, 1, []⟩), (("_law_taken" : Str), ⟨77, 2, []⟩), (("law" : Str), ⟨35, 1, []⟩)]
  gls := []
  bls := ["LookupError", "ValueError", "abs", "int", "isinstance", "len", "range", "repr"]
  mts := []
  sls := []
  mks := []
  sub := []
  xcs := [(("Wrong" : Str), "place"), (("Full" : Str), "limit"), (("Deep" : Str), "limit"), (("Wide" : Str), "limit"), (("Many" : Str), "limit"), (("NoLoop" : Str), "address"), (("NoCatch" : Str), "address"), (("NoRow" : Str), "address"), (("NoGap" : Str), "gap"), (("NoOutcome" : Str), "outcome"), (("BadOutcomes" : Str), "index"), (("NoStand" : Str), "stand"), (("NoEnd" : Str), "end"), (("TooMany" : Str), "most"), (("Parted" : Str), "shown"), (("NoEntry" : Str), "many"), (("Refused" : Str), "deed")]
  xsu := [(("ExitError" : Str), ["ExitError", "ValueError"]), (("Wrong" : Str), ["Wrong", "ExitError", "ValueError"]), (("Full" : Str), ["Full", "ExitError", "ValueError"]), (("Deep" : Str), ["Deep", "ExitError", "ValueError"]), (("Wide" : Str), ["Wide", "ExitError", "ValueError"]), (("Many" : Str), ["Many", "ExitError", "ValueError"]), (("NoLoop" : Str), ["NoLoop", "ExitError", "ValueError"]), (("NoCatch" : Str), ["NoCatch", "ExitError", "ValueError"]), (("NoRow" : Str), ["NoRow", "ExitError", "ValueError"]), (("NoGap" : Str), ["NoGap", "ExitError", "ValueError"]), (("NoOutcome" : Str), ["NoOutcome", "ExitError", "ValueError"]), (("BadOutcomes" : Str), ["BadOutcomes", "ExitError", "ValueError"]), (("NoStand" : Str), ["NoStand", "ExitError", "ValueError"]), (("NoEnd" : Str), ["NoEnd", "ExitError", "ValueError"]), (("TooMany" : Str), ["TooMany", "ExitError", "ValueError"]), (("Parted" : Str), ["Parted", "ExitError", "ValueError"]), (("NoHole" : Str), ["NoHole", "ExitError", "ValueError"]), (("Nothing" : Str), ["Nothing", "ExitError", "ValueError"]), (("NoEntry" : Str), ["NoEntry", "ExitError", "ValueError"]), (("NoDeed" : Str), ["NoDeed", "ExitError", "ValueError"]), (("Refused" : Str), ["Refused", "ExitError", "ValueError"]), (("NoText" : Str), ["NoText", "ExitError", "ValueError"]), (("NoCommand" : Str), ["NoCommand", "ExitError", "ValueError"])]
  xfl := ["address", "deed", "end", "gap", "index", "limit", "many", "most", "outcome", "place", "shown", "stand"]
  hfs := [(("_law_classes" : Str), ⟨73, 1, []⟩), (("_law_fields" : Str), ⟨74, 2, []⟩)]
  xc0 := ["NoHole", "Nothing", "NoDeed", "NoText", "NoCommand"]
/-! _law_bag -/
abbrev st_law_bag : Stmt := top 25
def ce_law_bag : CE := { N := ["_law_script", "_law_cell"], tb := TBL, mu := [], ow := [], fz := [], ns := [], un := [], iq := [], dp := false }
abbrev b_law_bag : Ss := DL.b_law_bag
abbrev d_law_bag : Def := DL.d_law_bag
theorem cb_law_bag : compSs ce_law_bag 60 (defScope st_law_bag) (defBody st_law_bag) = some b_law_bag := by kernel_rfl
theorem sb_law_bag : scopeB ce_law_bag.N ["_law_script"] (defScope st_law_bag) = true := by decide +kernel
theorem bd_law_bag : BdN st_law_bag "_law_bag" "_law_bag" ["_law_script"] := fun kV doc pm an cdv ct us h => match us, h with | [_], _ => rfl
theorem ec_law_bag : EntC TBL (.prim phBag) st_law_bag ["_law_script"] := ⟨ce_law_bag, 60, b_law_bag, rfl, sb_law_bag, cb_law_bag, fun K Φ γ => bag_imp⟩
/-! _law_take -/
abbrev st_law_take : Stmt := top 26
def ce_law_take : CE := { N := ["_law_bag_here", "_law_many", "_law_cell", "_law_mixed", "_law_value", "_law_begin", "_law_second"], tb := TBL, mu := [], ow := [], fz := [], ns := [], un := [], iq := [], dp := false }
abbrev b_law_take : Ss := DL.b_law_take
abbrev d_law_take : Def := DL.d_law_take
theorem cb_law_take : compSs ce_law_take 60 (defScope st_law_take) (defBody st_law_take) = some b_law_take := by kernel_rfl
theorem sb_law_take : scopeB ce_law_take.N ["_law_bag_here", "_law_many"] (defScope st_law_take) = true := by decide +kernel
theorem bd_law_take : BdN st_law_take "_law_take" "_law_take" ["_law_bag_here", "_law_many"] := fun kV doc pm an cdv ct us h => match us, h with | [_, _], _ => rfl
theorem ec_law_take : EntC TBL (.prim phTake) st_law_take ["_law_bag_here", "_law_many"] := ⟨ce_law_take, 60, b_law_take, rfl, sb_law_take, cb_law_take, fun K Φ γ => take_imp⟩
/-! _law_alike -/
abbrev st_law_alike : Stmt := top 27
def ce_law_alike : CE := { N := ["_law_found", "_law_due"], tb := TBL, mu := [], ow := [], fz := [], ns := [], un := [], iq := [], dp := true }
def b_law_alike : Ss :=
  (.cons (.ret (.and (.eqd false (.var 0) (.var 1)) (.cmp .Eq (.reprd (.var 0)) (.reprd (.var 1))))) .nil)
def d_law_alike : Def := ⟨2, 2, b_law_alike⟩
theorem cb_law_alike : compSs ce_law_alike 60 (defScope st_law_alike) (defBody st_law_alike) = some b_law_alike := by kernel_rfl
theorem sb_law_alike : scopeB ce_law_alike.N ["_law_found", "_law_due"] (defScope st_law_alike) = true := by decide +kernel
theorem bd_law_alike : BdN st_law_alike "_law_alike" "_law_alike" ["_law_found", "_law_due"] := fun kV doc pm an cdv ct us h => match us, h with | [_, _], _ => rfl
theorem ec_law_alike : EntC TBL (.comp d_law_alike) st_law_alike ["_law_found", "_law_due"] := ⟨ce_law_alike, 60, b_law_alike, rfl, sb_law_alike, cb_law_alike, rfl⟩
/-! _law_odd -/
abbrev st_law_odd : Stmt := top 28
def ce_law_odd : CE := { N := ["_law_bag_here", "_law_name", "_law_wide", "_law_plain"], tb := TBL, mu := [3], ow := [], fz := [], ns := [], un := [], iq := [], dp := false }
abbrev b_law_odd : Ss := DL.b_law_odd
abbrev d_law_odd : Def := DL.d_law_odd
theorem cb_law_odd : compSs ce_law_odd 60 (defScope st_law_odd) (defBody st_law_odd) = some b_law_odd := by kernel_rfl
theorem sb_law_odd : scopeB ce_law_odd.N ["_law_bag_here", "_law_name"] (defScope st_law_odd) = true := by decide +kernel
theorem bd_law_odd : BdN st_law_odd "_law_odd" "_law_odd" ["_law_bag_here", "_law_name"] := fun kV doc pm an cdv ct us h => match us, h with | [_, _], _ => rfl
theorem ec_law_odd : EntC TBL (.comp d_law_odd) st_law_odd ["_law_bag_here", "_law_name"] := ⟨ce_law_odd, 60, b_law_odd, rfl, sb_law_odd, cb_law_odd, rfl⟩
/-! _law_raise_one -/
abbrev st_law_raise_one : Stmt := top 29
def ce_law_raise_one : CE := { N := ["_law_k", "_law_one"], tb := TBL, mu := [], ow := [], fz := [], ns := [], un := [], iq := [], dp := false }
def b_law_raise_one : Ss :=
  (.cons (.iff (.e (.cmp .Eq (.var 0) (.cst (.int 0)))) (.cons (.rse "Wrong" "place" (.var 1)) .nil) .nil) (.cons (.iff (.e (.cmp .Eq (.var 0) (.cst (.int 1)))) (.cons (.rse "Full" "limit" (.var 1)) .nil) .nil) (.cons (.iff (.e (.cmp .Eq (.var 0) (.cst (.int 2)))) (.cons (.rse "Deep" "limit" (.var 1)) .nil) .nil) (.cons (.iff (.e (.cmp .Eq (.var 0) (.cst (.int 3)))) (.cons (.rse "Wide" "limit" (.var 1)) .nil) .nil) (.cons (.iff (.e (.cmp .Eq (.var 0) (.cst (.int 4)))) (.cons (.rse "Many" "limit" (.var 1)) .nil) .nil) (.cons (.iff (.e (.cmp .Eq (.var 0) (.cst (.int 5)))) (.cons (.rse "NoLoop" "address" (.var 1)) .nil) .nil) (.cons (.iff (.e (.cmp .Eq (.var 0) (.cst (.int 6)))) (.cons (.rse "NoCatch" "address" (.var 1)) .nil) .nil) (.cons (.iff (.e (.cmp .Eq (.var 0) (.cst (.int 7)))) (.cons (.rse "NoRow" "address" (.var 1)) .nil) .nil) (.cons (.iff (.e (.cmp .Eq (.var 0) (.cst (.int 8)))) (.cons (.rse "NoGap" "gap" (.var 1)) .nil) .nil) (.cons (.iff (.e (.cmp .Eq (.var 0) (.cst (.int 9)))) (.cons (.rse "NoOutcome" "outcome" (.var 1)) .nil) .nil) (.cons (.iff (.e (.cmp .Eq (.var 0) (.cst (.int 10)))) (.cons (.rse "BadOutcomes" "index" (.var 1)) .nil) .nil) (.cons (.iff (.e (.cmp .Eq (.var 0) (.cst (.int 11)))) (.cons (.rse "NoStand" "stand" (.var 1)) .nil) .nil) (.cons (.iff (.e (.cmp .Eq (.var 0) (.cst (.int 12)))) (.cons (.rse "NoEnd" "end" (.var 1)) .nil) .nil) (.cons (.iff (.e (.cmp .Eq (.var 0) (.cst (.int 13)))) (.cons (.rse "TooMany" "most" (.var 1)) .nil) .nil) (.cons (.iff (.e (.cmp .Eq (.var 0) (.cst (.int 14)))) (.cons (.rse "Parted" "shown" (.var 1)) .nil) .nil) (.cons (.iff (.e (.cmp .Eq (.var 0) (.cst (.int 15)))) (.cons (.rse "NoEntry" "many" (.var 1)) .nil) .nil) (.cons (.iff (.e (.cmp .Eq (.var 0) (.cst (.int 16)))) (.cons (.rse "Refused" "deed" (.var 1)) .nil) .nil) .nil)))))))))))))))))
def d_law_raise_one : Def := ⟨2, 2, b_law_raise_one⟩
theorem cb_law_raise_one : compSs ce_law_raise_one 60 (defScope st_law_raise_one) (defBody st_law_raise_one) = some b_law_raise_one := by kernel_rfl
theorem sb_law_raise_one : scopeB ce_law_raise_one.N ["_law_k", "_law_one"] (defScope st_law_raise_one) = true := by decide +kernel
theorem bd_law_raise_one : BdN st_law_raise_one "_law_raise_one" "_law_raise_one" ["_law_k", "_law_one"] := fun kV doc pm an cdv ct us h => match us, h with | [_, _], _ => rfl
theorem ec_law_raise_one : EntC TBL (.comp d_law_raise_one) st_law_raise_one ["_law_k", "_law_one"] := ⟨ce_law_raise_one, 60, b_law_raise_one, rfl, sb_law_raise_one, cb_law_raise_one, rfl⟩
/-! _law_raise_none -/
abbrev st_law_raise_none : Stmt := top 30
def ce_law_raise_none : CE := { N := ["_law_k"], tb := TBL, mu := [], ow := [], fz := [], ns := [], un := [], iq := [], dp := false }
def b_law_raise_none : Ss :=
  (.cons (.iff (.e (.cmp .Eq (.var 0) (.cst (.int 17)))) (.cons (.rse0 "NoHole") .nil) .nil) (.cons (.iff (.e (.cmp .Eq (.var 0) (.cst (.int 18)))) (.cons (.rse0 "Nothing") .nil) .nil) (.cons (.iff (.e (.cmp .Eq (.var 0) (.cst (.int 19)))) (.cons (.rse0 "NoDeed") .nil) .nil) (.cons (.iff (.e (.cmp .Eq (.var 0) (.cst (.int 20)))) (.cons (.rse0 "NoText") .nil) .nil) (.cons (.iff (.e (.cmp .Eq (.var 0) (.cst (.int 21)))) (.cons (.rse0 "NoCommand") .nil) .nil) .nil)))))
def d_law_raise_none : Def := ⟨1, 1, b_law_raise_none⟩
theorem cb_law_raise_none : compSs ce_law_raise_none 60 (defScope st_law_raise_none) (defBody st_law_raise_none) = some b_law_raise_none := by kernel_rfl
theorem sb_law_raise_none : scopeB ce_law_raise_none.N ["_law_k"] (defScope st_law_raise_none) = true := by decide +kernel
theorem bd_law_raise_none : BdN st_law_raise_none "_law_raise_none" "_law_raise_none" ["_law_k"] := fun kV doc pm an cdv ct us h => match us, h with | [_], _ => rfl
theorem ec_law_raise_none : EntC TBL (.comp d_law_raise_none) st_law_raise_none ["_law_k"] := ⟨ce_law_raise_none, 60, b_law_raise_none, rfl, sb_law_raise_none, cb_law_raise_none, rfl⟩
/-! _law_classes -/
abbrev st_law_classes : Stmt := top 31
def ce_law_classes : CE := { N := ["_law_e", "_law_found"], tb := TBL, mu := [1], ow := [], fz := [], ns := [], un := [], iq := [], dp := false }
def b_law_classes : Ss :=
  (.cons (.setM 1 (.lst .nil)) (.cons (.aug 1 .Add (.lst (.cons (.isE (.var 0) (isaT TBL.xsu "Wrong")) (.cons (.isE (.var 0) (isaT TBL.xsu "Full")) (.cons (.isE (.var 0) (isaT TBL.xsu "Deep")) .nil))))) (.cons (.aug 1 .Add (.lst (.cons (.isE (.var 0) (isaT TBL.xsu "Wide")) (.cons (.isE (.var 0) (isaT TBL.xsu "Many")) (.cons (.isE (.var 0) (isaT TBL.xsu "NoLoop")) .nil))))) (.cons (.aug 1 .Add (.lst (.cons (.isE (.var 0) (isaT TBL.xsu "NoCatch")) (.cons (.isE (.var 0) (isaT TBL.xsu "NoRow")) (.cons (.isE (.var 0) (isaT TBL.xsu "NoGap")) .nil))))) (.cons (.aug 1 .Add (.lst (.cons (.isE (.var 0) (isaT TBL.xsu "NoOutcome")) (.cons (.isE (.var 0) (isaT TBL.xsu "BadOutcomes")) (.cons (.isE (.var 0) (isaT TBL.xsu "NoStand")) .nil))))) (.cons (.aug 1 .Add (.lst (.cons (.isE (.var 0) (isaT TBL.xsu "NoEnd")) (.cons (.isE (.var 0) (isaT TBL.xsu "TooMany")) (.cons (.isE (.var 0) (isaT TBL.xsu "Parted")) .nil))))) (.cons (.aug 1 .Add (.lst (.cons (.isE (.var 0) (isaT TBL.xsu "NoEntry")) (.cons (.isE (.var 0) (isaT TBL.xsu "Refused")) (.cons (.isE (.var 0) (isaT TBL.xsu "NoHole")) .nil))))) (.cons (.aug 1 .Add (.lst (.cons (.isE (.var 0) (isaT TBL.xsu "Nothing")) (.cons (.isE (.var 0) (isaT TBL.xsu "NoDeed")) (.cons (.isE (.var 0) (isaT TBL.xsu "NoText")) .nil))))) (.cons (.aug 1 .Add (.lst (.cons (.isE (.var 0) (isaT TBL.xsu "NoCommand")) .nil))) (.cons (.ret (.bin .Add (.var 1) (.lst (.cons (.isE (.var 0) (isaT TBL.xsu "ExitError")) (.cons (.isE (.var 0) (isaT TBL.xsu "ValueError")) (.cons (.isE (.var 0) (isaT TBL.xsu "LookupError")) .nil)))))) .nil))))))))))
def d_law_classes : Def := ⟨1, 2, b_law_classes⟩
theorem cb_law_classes : compHSs ce_law_classes 60 (defScope st_law_classes) (defBody st_law_classes) = some b_law_classes := by kernel_rfl
theorem sb_law_classes : scopeB ce_law_classes.N ["_law_e"] (defScope st_law_classes) = true := by decide +kernel
theorem bd_law_classes : BdN st_law_classes "_law_classes" "_law_classes" ["_law_e"] := fun kV doc pm an cdv ct us h => match us, h with | [_], _ => rfl
theorem eh_law_classes : EntCH TBL d_law_classes st_law_classes ["_law_e"] := ⟨ce_law_classes, 60, b_law_classes, rfl, sb_law_classes, cb_law_classes, rfl⟩
/-! _law_fields -/
abbrev st_law_fields : Stmt := top 32
def ce_law_fields : CE := { N := ["_law_k", "_law_e"], tb := TBL, mu := [], ow := [], fz := [], ns := [], un := [], iq := [], dp := false }
def b_law_fields : Ss :=
  (.cons (.iff (.e (.cmp .In (.var 0) (.tup (.cons (.cst (.int 0)) .nil)))) (.cons (.ret (.lst (.cons (.xf (.var 1) "place") .nil))) .nil) .nil) (.cons (.iff (.e (.cmp .In (.var 0) (.tup (.cons (.cst (.int 1)) (.cons (.cst (.int 2)) (.cons (.cst (.int 3)) (.cons (.cst (.int 4)) .nil))))))) (.cons (.ret (.lst (.cons (.xf (.var 1) "limit") .nil))) .nil) .nil) (.cons (.iff (.e (.cmp .In (.var 0) (.tup (.cons (.cst (.int 5)) (.cons (.cst (.int 6)) (.cons (.cst (.int 7)) .nil)))))) (.cons (.ret (.lst (.cons (.xf (.var 1) "address") .nil))) .nil) .nil) (.cons (.iff (.e (.cmp .In (.var 0) (.tup (.cons (.cst (.int 8)) .nil)))) (.cons (.ret (.lst (.cons (.xf (.var 1) "gap") .nil))) .nil) .nil) (.cons (.iff (.e (.cmp .In (.var 0) (.tup (.cons (.cst (.int 9)) .nil)))) (.cons (.ret (.lst (.cons (.xf (.var 1) "outcome") .nil))) .nil) .nil) (.cons (.iff (.e (.cmp .In (.var 0) (.tup (.cons (.cst (.int 10)) .nil)))) (.cons (.ret (.lst (.cons (.xf (.var 1) "index") .nil))) .nil) .nil) (.cons (.iff (.e (.cmp .In (.var 0) (.tup (.cons (.cst (.int 11)) .nil)))) (.cons (.ret (.lst (.cons (.xf (.var 1) "stand") .nil))) .nil) .nil) (.cons (.iff (.e (.cmp .In (.var 0) (.tup (.cons (.cst (.int 12)) .nil)))) (.cons (.ret (.lst (.cons (.xf (.var 1) "end") .nil))) .nil) .nil) (.cons (.iff (.e (.cmp .In (.var 0) (.tup (.cons (.cst (.int 13)) .nil)))) (.cons (.ret (.lst (.cons (.xf (.var 1) "most") .nil))) .nil) .nil) (.cons (.iff (.e (.cmp .In (.var 0) (.tup (.cons (.cst (.int 14)) .nil)))) (.cons (.ret (.lst (.cons (.xf (.var 1) "shown") .nil))) .nil) .nil) (.cons (.iff (.e (.cmp .In (.var 0) (.tup (.cons (.cst (.int 15)) .nil)))) (.cons (.ret (.lst (.cons (.xf (.var 1) "many") .nil))) .nil) .nil) (.cons (.iff (.e (.cmp .In (.var 0) (.tup (.cons (.cst (.int 16)) .nil)))) (.cons (.ret (.lst (.cons (.xf (.var 1) "deed") .nil))) .nil) .nil) (.cons (.ret (.lst .nil)) .nil)))))))))))))
def d_law_fields : Def := ⟨2, 2, b_law_fields⟩
theorem cb_law_fields : compHSs ce_law_fields 60 (defScope st_law_fields) (defBody st_law_fields) = some b_law_fields := by kernel_rfl
theorem sb_law_fields : scopeB ce_law_fields.N ["_law_k", "_law_e"] (defScope st_law_fields) = true := by decide +kernel
theorem bd_law_fields : BdN st_law_fields "_law_fields" "_law_fields" ["_law_k", "_law_e"] := fun kV doc pm an cdv ct us h => match us, h with | [_, _], _ => rfl
theorem eh_law_fields : EntCH TBL d_law_fields st_law_fields ["_law_k", "_law_e"] := ⟨ce_law_fields, 60, b_law_fields, rfl, sb_law_fields, cb_law_fields, rfl⟩
/-! _law_taken -/
abbrev st_law_taken : Stmt := top 33
def ce_law_taken : CE := { N := ["_law_k", "_law_one", "_law_e"], tb := TBL, mu := [], ow := [], fz := [], ns := [], un := [], iq := [], dp := false }
def b_law_taken : Ss :=
  (.cons (.try_ (.cons (.iff (.e (.cmp .Lt (.var 0) (.cst (.int 17)))) (.cons (.exp (.call 75 (.cons (.var 0) (.cons (.var 1) .nil)))) .nil) .nil) (.cons (.exp (.call 76 (.cons (.var 0) .nil))) .nil)) 2 (isaT TBL.xsu "ExitError") (.cons (.ret (.lst (.cons (.hcall 73 (.cons (.var 2) .nil)) (.cons (.hcall 74 (.cons (.var 0) (.cons (.var 2) .nil))) .nil)))) .nil)) (.cons (.ret (.lst .nil)) .nil))
def d_law_taken : Def := ⟨2, 3, b_law_taken⟩
theorem cb_law_taken : compSs ce_law_taken 60 (defScope st_law_taken) (defBody st_law_taken) = some b_law_taken := by kernel_rfl
theorem sb_law_taken : scopeB ce_law_taken.N ["_law_k", "_law_one"] (defScope st_law_taken) = true := by decide +kernel
theorem bd_law_taken : BdN st_law_taken "_law_taken" "_law_taken" ["_law_k", "_law_one"] := fun kV doc pm an cdv ct us h => match us, h with | [_, _], _ => rfl
theorem ec_law_taken : EntC TBL (.comp d_law_taken) st_law_taken ["_law_k", "_law_one"] := ⟨ce_law_taken, 60, b_law_taken, rfl, sb_law_taken, cb_law_taken, rfl⟩
/-! law -/
abbrev st_law : Stmt := top 34
def ce_law : CE := { N := ["_law_script", "_law_bag_here", "_law_k", "_law_value", "_law_bare", "_law_due", "_law_at", "_law_told"], tb := TBL, mu := [3], ow := [], fz := [], ns := [], un := [], iq := [], dp := false }
def b_law : Ss :=
  (.cons (.set 1 (.call 12 (.cons (.var 0) .nil))) (.cons (.for_ [2] true (.rng1 (.cst (.int 22))) (.cons (.setM 3 (.lst (.cons (.call 23 (.cons (.var 1) (.cons (.cst (.str "ab")) .nil))) (.cons (.call 23 (.cons (.var 1) (.cons (.cst (.str "ba")) .nil))) .nil)))) (.cons (.set 4 (.call 23 (.cons (.var 1) (.cons (.cst (.str "ab")) .nil)))) (.cons (.iff (.and (.e (.cmp .Lt (.var 2) (.cst (.int 17)))) (.not (.e (.call 14 (.cons (.slc (.call 77 (.cons (.var 2) (.cons (.var 4) .nil))) (.some (.cst (.int 1))) .none) (.cons (.lst (.cons (.lst (.cons (.var 4) .nil)) .nil)) .nil)))))) (.cons (.ret (.cst (.bl false))) .nil) .nil) (.cons (.set 5 (.bin .Add (.comp (.cmp .Eq (.bi .int (.cons (.var 2) .nil)) (.var 6)) [6] true [6] (.rng1 (.cst (.int 22))) .yes) (.lst (.cons (.cst (.bl true)) (.cons (.cst (.bl true)) (.cons (.cst (.bl false)) .nil)))))) (.cons (.set 7 (.call 77 (.cons (.var 2) (.cons (.var 3) .nil)))) (.cons (.iff (.or (.e (.cmp .Eq (.var 7) (.lst .nil))) (.not (.e (.call 14 (.cons (.idx (.var 7) (.cst (.int 0))) (.cons (.var 5) .nil)))))) (.cons (.ret (.cst (.bl false))) .nil) .nil) (.cons (.iff (.e (.cmp .Lt (.var 2) (.cst (.int 17)))) (.cons (.app (.var 3) (.cst (.str "zz"))) (.cons (.iff (.not (.e (.call 14 (.cons (.idx (.var 7) (.cst (.int 1))) (.cons (.lst (.cons (.var 3) .nil)) .nil))))) (.cons (.ret (.cst (.bl false))) .nil) .nil) .nil)) .nil) .nil)))))))) (.cons (.ret (.cst (.bl true))) .nil)))
def d_law : Def := ⟨1, 8, b_law⟩
theorem cb_law : compSs ce_law 60 (defScope st_law) (defBody st_law) = some b_law := by kernel_rfl
theorem sb_law : scopeB ce_law.N ["_law_script"] (defScope st_law) = true := by decide +kernel
theorem bd_law : BdN st_law "law" "law" ["_law_script"] := fun kV doc pm an cdv ct us h => match us, h with | [_], _ => rfl
theorem ec_law : EntC TBL (.comp d_law) st_law ["_law_script"] := ⟨ce_law, 60, b_law, rfl, sb_law, cb_law, rfl⟩
def TAB : List (Nat × Ent) := [(12, .prim phBag), (13, .prim phTake), (14, .comp d_law_alike), (23, .comp d_law_odd), (75, .comp d_law_raise_one), (76, .comp d_law_raise_none), (73, .hot d_law_classes), (74, .hot d_law_fields), (77, .comp d_law_taken), (35, .comp d_law)]
abbrev st_Wrong___init__ : Stmt := inClass (top 2) 0
theorem bd_Wrong___init__ : BdN st_Wrong___init__ "__init__" "Wrong.__init__" ["self", "place"] := fun kV doc pm an cdv ct us h => match us, h with | [_, _], _ => rfl
theorem in_Wrong___init__ : initB st_Wrong___init__ ["self", "place"] "place" = true := by decide +kernel
abbrev st_Full___init__ : Stmt := inClass (top 3) 0
theorem bd_Full___init__ : BdN st_Full___init__ "__init__" "Full.__init__" ["self", "limit"] := fun kV doc pm an cdv ct us h => match us, h with | [_, _], _ => rfl
theorem in_Full___init__ : initB st_Full___init__ ["self", "limit"] "limit" = true := by decide +kernel
abbrev st_Deep___init__ : Stmt := inClass (top 4) 0
theorem bd_Deep___init__ : BdN st_Deep___init__ "__init__" "Deep.__init__" ["self", "limit"] := fun kV doc pm an cdv ct us h => match us, h with | [_, _], _ => rfl
theorem in_Deep___init__ : initB st_Deep___init__ ["self", "limit"] "limit" = true := by decide +kernel
abbrev st_Wide___init__ : Stmt := inClass (top 5) 0
theorem bd_Wide___init__ : BdN st_Wide___init__ "__init__" "Wide.__init__" ["self", "limit"] := fun kV doc pm an cdv ct us h => match us, h with | [_, _], _ => rfl
theorem in_Wide___init__ : initB st_Wide___init__ ["self", "limit"] "limit" = true := by decide +kernel
abbrev st_Many___init__ : Stmt := inClass (top 6) 0
theorem bd_Many___init__ : BdN st_Many___init__ "__init__" "Many.__init__" ["self", "limit"] := fun kV doc pm an cdv ct us h => match us, h with | [_, _], _ => rfl
theorem in_Many___init__ : initB st_Many___init__ ["self", "limit"] "limit" = true := by decide +kernel
abbrev st_NoLoop___init__ : Stmt := inClass (top 7) 0
theorem bd_NoLoop___init__ : BdN st_NoLoop___init__ "__init__" "NoLoop.__init__" ["self", "address"] := fun kV doc pm an cdv ct us h => match us, h with | [_, _], _ => rfl
theorem in_NoLoop___init__ : initB st_NoLoop___init__ ["self", "address"] "address" = true := by decide +kernel
abbrev st_NoCatch___init__ : Stmt := inClass (top 8) 0
theorem bd_NoCatch___init__ : BdN st_NoCatch___init__ "__init__" "NoCatch.__init__" ["self", "address"] := fun kV doc pm an cdv ct us h => match us, h with | [_, _], _ => rfl
theorem in_NoCatch___init__ : initB st_NoCatch___init__ ["self", "address"] "address" = true := by decide +kernel
abbrev st_NoRow___init__ : Stmt := inClass (top 9) 0
theorem bd_NoRow___init__ : BdN st_NoRow___init__ "__init__" "NoRow.__init__" ["self", "address"] := fun kV doc pm an cdv ct us h => match us, h with | [_, _], _ => rfl
theorem in_NoRow___init__ : initB st_NoRow___init__ ["self", "address"] "address" = true := by decide +kernel
abbrev st_NoGap___init__ : Stmt := inClass (top 10) 0
theorem bd_NoGap___init__ : BdN st_NoGap___init__ "__init__" "NoGap.__init__" ["self", "gap"] := fun kV doc pm an cdv ct us h => match us, h with | [_, _], _ => rfl
theorem in_NoGap___init__ : initB st_NoGap___init__ ["self", "gap"] "gap" = true := by decide +kernel
abbrev st_NoOutcome___init__ : Stmt := inClass (top 11) 0
theorem bd_NoOutcome___init__ : BdN st_NoOutcome___init__ "__init__" "NoOutcome.__init__" ["self", "outcome"] := fun kV doc pm an cdv ct us h => match us, h with | [_, _], _ => rfl
theorem in_NoOutcome___init__ : initB st_NoOutcome___init__ ["self", "outcome"] "outcome" = true := by decide +kernel
abbrev st_BadOutcomes___init__ : Stmt := inClass (top 12) 0
theorem bd_BadOutcomes___init__ : BdN st_BadOutcomes___init__ "__init__" "BadOutcomes.__init__" ["self", "index"] := fun kV doc pm an cdv ct us h => match us, h with | [_, _], _ => rfl
theorem in_BadOutcomes___init__ : initB st_BadOutcomes___init__ ["self", "index"] "index" = true := by decide +kernel
abbrev st_NoStand___init__ : Stmt := inClass (top 13) 0
theorem bd_NoStand___init__ : BdN st_NoStand___init__ "__init__" "NoStand.__init__" ["self", "stand"] := fun kV doc pm an cdv ct us h => match us, h with | [_, _], _ => rfl
theorem in_NoStand___init__ : initB st_NoStand___init__ ["self", "stand"] "stand" = true := by decide +kernel
abbrev st_NoEnd___init__ : Stmt := inClass (top 14) 0
theorem bd_NoEnd___init__ : BdN st_NoEnd___init__ "__init__" "NoEnd.__init__" ["self", "end"] := fun kV doc pm an cdv ct us h => match us, h with | [_, _], _ => rfl
theorem in_NoEnd___init__ : initB st_NoEnd___init__ ["self", "end"] "end" = true := by decide +kernel
abbrev st_TooMany___init__ : Stmt := inClass (top 15) 0
theorem bd_TooMany___init__ : BdN st_TooMany___init__ "__init__" "TooMany.__init__" ["self", "most"] := fun kV doc pm an cdv ct us h => match us, h with | [_, _], _ => rfl
theorem in_TooMany___init__ : initB st_TooMany___init__ ["self", "most"] "most" = true := by decide +kernel
abbrev st_Parted___init__ : Stmt := inClass (top 16) 0
theorem bd_Parted___init__ : BdN st_Parted___init__ "__init__" "Parted.__init__" ["self", "shown"] := fun kV doc pm an cdv ct us h => match us, h with | [_, _], _ => rfl
theorem in_Parted___init__ : initB st_Parted___init__ ["self", "shown"] "shown" = true := by decide +kernel
abbrev st_NoEntry___init__ : Stmt := inClass (top 19) 0
theorem bd_NoEntry___init__ : BdN st_NoEntry___init__ "__init__" "NoEntry.__init__" ["self", "many"] := fun kV doc pm an cdv ct us h => match us, h with | [_, _], _ => rfl
theorem in_NoEntry___init__ : initB st_NoEntry___init__ ["self", "many"] "many" = true := by decide +kernel
abbrev st_Refused___init__ : Stmt := inClass (top 21) 0
theorem bd_Refused___init__ : BdN st_Refused___init__ "__init__" "Refused.__init__" ["self", "deed"] := fun kV doc pm an cdv ct us h => match us, h with | [_, _], _ => rfl
theorem in_Refused___init__ : initB st_Refused___init__ ["self", "deed"] "deed" = true := by decide +kernel
theorem all_mk {P : Program} {w : World} {K : PySem.W.Frag} {h : Heap} {mg : Str → Option Value} {fa : Addr} (n : Nat) (X : K.In h) (G : h.Ns mainGlobals mg) (hfa : mg "law" = some (.ref fa))
    (h0 : FnIn K "_law_bag" st_law_bag ["_law_script"] [])
    (h1 : FnIn K "_law_take" st_law_take ["_law_bag_here", "_law_many"] [])
    (h2 : FnIn K "_law_alike" st_law_alike ["_law_found", "_law_due"] [])
    (h3 : FnIn K "_law_odd" st_law_odd ["_law_bag_here", "_law_name"] [])
    (h4 : FnIn K "_law_raise_one" st_law_raise_one ["_law_k", "_law_one"] [])
    (h5 : FnIn K "_law_raise_none" st_law_raise_none ["_law_k"] [])
    (h6 : FnIn K "_law_taken" st_law_taken ["_law_k", "_law_one"] [])
    (h7 : FnIn K "law" st_law ["_law_script"] [])
    (z0 : PySem.W.nsIn K mainGlobals "LookupError" = some none)
    (z1 : PySem.W.nsIn K mainGlobals "ValueError" = some none)
    (z2 : PySem.W.nsIn K mainGlobals "abs" = some none)
    (z3 : PySem.W.nsIn K mainGlobals "int" = some none)
    (z4 : PySem.W.nsIn K mainGlobals "isinstance" = some none)
    (z5 : PySem.W.nsIn K mainGlobals "len" = some none)
    (z6 : PySem.W.nsIn K mainGlobals "range" = some none)
    (z7 : PySem.W.nsIn K mainGlobals "repr" = some none)
    (x0 : InIn K "Wrong" "place" st_Wrong___init__ ["self", "place"])
    (x1 : InIn K "Full" "limit" st_Full___init__ ["self", "limit"])
    (x2 : InIn K "Deep" "limit" st_Deep___init__ ["self", "limit"])
    (x3 : InIn K "Wide" "limit" st_Wide___init__ ["self", "limit"])
    (x4 : InIn K "Many" "limit" st_Many___init__ ["self", "limit"])
    (x5 : InIn K "NoLoop" "address" st_NoLoop___init__ ["self", "address"])
    (x6 : InIn K "NoCatch" "address" st_NoCatch___init__ ["self", "address"])
    (x7 : InIn K "NoRow" "address" st_NoRow___init__ ["self", "address"])
    (x8 : InIn K "NoGap" "gap" st_NoGap___init__ ["self", "gap"])
    (x9 : InIn K "NoOutcome" "outcome" st_NoOutcome___init__ ["self", "outcome"])
    (x10 : InIn K "BadOutcomes" "index" st_BadOutcomes___init__ ["self", "index"])
    (x11 : InIn K "NoStand" "stand" st_NoStand___init__ ["self", "stand"])
    (x12 : InIn K "NoEnd" "end" st_NoEnd___init__ ["self", "end"])
    (x13 : InIn K "TooMany" "most" st_TooMany___init__ ["self", "most"])
    (x14 : InIn K "Parted" "shown" st_Parted___init__ ["self", "shown"])
    (x15 : InIn K "NoEntry" "many" st_NoEntry___init__ ["self", "many"])
    (x16 : InIn K "Refused" "deed" st_Refused___init__ ["self", "deed"])
    (xs : xsB K TBL.xsu TBL.xfl TBL.xc0 = true)
    (y0 : FnIn K "_law_classes" st_law_classes ["_law_e"] [])
    (y1 : FnIn K "_law_fields" st_law_fields ["_law_k", "_law_e"] []) :
    ∃ fd : FuncData, (∀ (s : Shared) (u : Value), BindsTo s fd ⟨[u], []⟩ [("_law_script", u)]) ∧
      ∀ base : Heap, K.In base → base.Ns mainGlobals mg → (∃ o, base.get? sysModules = some o) → FnG P w K mg base (3 + 2 * n) fa fd ["_law_script"] (spD K (callN TAB [] n 35)) :=
  end_mk n X G hfa rfl h7 ec_law ⟨al_cons ⟨_, _, _, rfl, h0, ec_law_bag⟩ (al_cons ⟨_, _, _, rfl, h1, ec_law_take⟩ (al_cons ⟨_, _, _, rfl, h2, ec_law_alike⟩ (al_cons ⟨_, _, _, rfl, h3, ec_law_odd⟩ (al_cons ⟨_, _, _, rfl, h4, ec_law_raise_one⟩ (al_cons ⟨_, _, _, rfl, h5, ec_law_raise_none⟩ (al_cons ⟨_, _, _, rfl, h6, ec_law_taken⟩ (al_cons ⟨_, _, _, rfl, h7, ec_law⟩ (al_nil)))))))), al_nil, al_cons z0 (al_cons z1 (al_cons z2 (al_cons z3 (al_cons z4 (al_cons z5 (al_cons z6 (al_cons z7 (al_nil)))))))), al_nil, al_nil, al_nil, al_nil, al_nil, al_cons ⟨_, _, x0⟩ (al_cons ⟨_, _, x1⟩ (al_cons ⟨_, _, x2⟩ (al_cons ⟨_, _, x3⟩ (al_cons ⟨_, _, x4⟩ (al_cons ⟨_, _, x5⟩ (al_cons ⟨_, _, x6⟩ (al_cons ⟨_, _, x7⟩ (al_cons ⟨_, _, x8⟩ (al_cons ⟨_, _, x9⟩ (al_cons ⟨_, _, x10⟩ (al_cons ⟨_, _, x11⟩ (al_cons ⟨_, _, x12⟩ (al_cons ⟨_, _, x13⟩ (al_cons ⟨_, _, x14⟩ (al_cons ⟨_, _, x15⟩ (al_cons ⟨_, _, x16⟩ (al_nil))))))))))))))))), xs, al_cons ⟨_, _, _, rfl, y0, eh_law_classes⟩ (al_cons ⟨_, _, _, rfl, y1, eh_law_fields⟩ (al_nil))⟩
end K11
set_option maxRecDepth 100000
set_option maxHeartbeats 8000000
namespace DL
open PySem L2 PyProof.Rows
/-! ### how long a value's text is -/
def strB (x : Str) : Bool := decide (x.length ≤ 190) && x.cps.all (· < 0x110000)
def intB (i : Int) : Bool := decide (i.natAbs.log2 < 1920)
mutual
def leafB : D → Bool
  | .int i => intB i
  | .str x => strB x
  | .lst xs | .tup xs => leafBs xs
  | .dct kvs => leafBk kvs
  | _ => true
def leafBs : List D → Bool
  | [] => true
  | x :: xs => leafB x && leafBs xs
def leafBk : List (Key × D) → Bool
  | [] => true
  | (k, x) :: xs => (match k with | .inl i => intB i | .inr s => strB s) && leafB x && leafBk xs
end
mutual
def cntD : D → Nat
  | .lst xs | .tup xs => cntDs xs + 1
  | .dct kvs => cntDk kvs + 1
  | _ => 1
def cntDs : List D → Nat
  | [] => 0
  | x :: xs => cntD x + cntDs xs
def cntDk : List (Key × D) → Nat
  | [] => 0
  | (_, x) :: xs => cntD x + 1 + cntDk xs
end
theorem textFrom_le : ∀ (ts : List Str) (k : Nat) (acc : Str), (textFrom k acc ts).length ≤ acc.length + piled ts
  | [], k, acc => by show acc.length ≤ _; omega
  | t :: r, k, acc => by
    have h := textFrom_le r (k + 1) (acc ++ (if k > 0 then ", " else "" : String) ++ t)
    have e : (acc ++ (if k > 0 then ", " else "" : String) ++ t).length = acc.length + (if k > 0 then 2 else 0) + t.length := by
      rw [strLen_append, strLen_append]
      split <;> rfl
    rw [e] at h
    rw [piled_cons]
    show (textFrom (k + 1) _ r).length ≤ _
    have : (if k > 0 then 2 else 0 : Nat) ≤ 2 := by split <;> omega
    omega
theorem listText_le (ts : List Str) : (listText ts).length ≤ 2 + piled ts := by
  unfold listText
  rw [strLen_append]
  have h := textFrom_le ts 0 "["
  have e1 : ((("[" : String) : Str)).length = 1 := rfl
  have e2 : ((("]" : String) : Str)).length = 1 := rfl
  omega
theorem join_le (ts : List Str) : (Str.join ", " ts).length ≤ piled ts := by
  by_cases h : ts = []
  · subst h; exact Nat.le_refl _
  · have := join_length_add ts h
    omega
theorem tupleText_le (ts : List Str) : (tupleText ts).length ≤ 3 + piled ts := by
  unfold tupleText
  rw [strLen_append, strLen_append]
  have e1 : ((("(" : String) : Str)).length = 1 := rfl
  have e3 : (((if ts.length == 1 then ",)" else ")" : String) : Str)).length ≤ 2 := by split <;> decide
  have := join_le ts
  omega
theorem dictText_le (ts : List Str) : (dictText ts).length ≤ 2 + piled ts := by
  unfold dictText
  rw [strLen_append, strLen_append]
  have e1 : ((("{" : String) : Str)).length = 1 := rfl
  have e2 : ((("}" : String) : Str)).length = 1 := rfl
  have := join_le ts
  omega
theorem strB_repr {x : Str} (h : strB x = true) : (reprText x).length ≤ 2000 := by
  unfold strB at h
  simp only [Bool.and_eq_true, decide_eq_true_eq] at h
  have := PySem.StrLaws.reprText_len x fun c hc => by
    have h2 := h.2
    rw [Array.all_eq_true_iff_forall_mem] at h2
    have := h2 c (by simpa using hc)
    simp at this
    exact Nat.lt_trans this (by decide)
  omega
theorem intB_len {i : Int} (h : intB i = true) : (Str.ofString (toString i)).length ≤ 2000 := by
  have := PyProof.Rows.int_text_len_1921 (of_decide_eq_true h)
  omega
mutual
theorem shown_le : ∀ d : D, leafB d = true → isP d = true → (toP d).showable = true ∧ (toP d).shown.length + 2 ≤ 2010 * cntD d ∧ (toP d).depth ≤ cntD d
  | .non, _, _ => ⟨rfl, by decide, by decide⟩
  | .bl b, _, _ => ⟨rfl, by cases b <;> decide, by cases b <;> decide⟩
  | .int i, h, _ => by
    have h : intB i = true := by simpa [leafB] using h
    refine ⟨by simpa [toP, PyData.showable, intB] using h, ?_, by simp [toP, PyData.depth]⟩
    have := intB_len h
    show ((PyData.int i).shown).length + 2 ≤ 2010 * cntD (.int i)
    simp only [PyData.shown, cntD]
    show (Str.ofString (toString i)).length + 2 ≤ 2010 * 1
    omega
  | .str x, h, _ => by
    have h : strB x = true := by simpa [leafB] using h
    refine ⟨by simp [toP, PyData.showable], ?_, by simp [toP, PyData.depth]⟩
    have := strB_repr h
    show ((PyData.str x).shown).length + 2 ≤ 2010 * cntD (.str x)
    simp only [PyData.shown, cntD]
    omega
  | .lst xs, h, p => by
    obtain ⟨h1, h2, h3⟩ := shown_les xs (by simpa [leafB] using h) (by simpa [isP] using p)
    refine ⟨by simpa [toP, PyData.showable] using h1, ?_, by simp only [toP, PyData.depth, cntD]; omega⟩
    have := listText_le (PyData.shownAll (toPs xs))
    simp only [toP, PyData.shown, cntD]
    omega
  | .tup xs, h, p => by
    obtain ⟨h1, h2, h3⟩ := shown_les xs (by simpa [leafB] using h) (by simpa [isP] using p)
    refine ⟨by simpa [toP, PyData.showable] using h1, ?_, by simp only [toP, PyData.depth, cntD]; omega⟩
    have := tupleText_le (PyData.shownAll (toPs xs))
    simp only [toP, PyData.shown, cntD]
    omega
  | .dct xs, h, p => by
    obtain ⟨h1, h2, h3⟩ := shown_lek xs (by simpa [leafB] using h) (by simpa [isP] using p)
    refine ⟨by simpa [toP, PyData.showable] using h1, ?_, by simp only [toP, PyData.depth, cntD]; omega⟩
    have := dictText_le (PyData.shownKv (toPk xs))
    simp only [toP, PyData.shown, cntD]
    omega
  | .obj _, _, p => by simp [isP] at p
  | .ty _, _, p => by simp [isP] at p
  | .scr _, _, p => by simp [isP] at p
  | .ins _ _, _, p => by simp [isP] at p
  | .dcT _, _, p => by simp [isP] at p
  | .exc _ _ _ _, _, p => by simp [isP] at p
theorem shown_les : ∀ ds : List D, leafBs ds = true → isPs ds = true → PyData.showableAll (toPs ds) = true ∧ piled (PyData.shownAll (toPs ds)) ≤ 2010 * cntDs ds ∧ PyData.depthAll (toPs ds) ≤ cntDs ds
  | [], _, _ => ⟨rfl, by decide, by decide⟩
  | x :: xs, h, p => by
    simp only [leafBs, Bool.and_eq_true] at h
    simp only [isPs, Bool.and_eq_true] at p
    obtain ⟨a1, a2, a3⟩ := shown_le x h.1 p.1
    obtain ⟨b1, b2, b3⟩ := shown_les xs h.2 p.2
    refine ⟨by simp only [toPs, PyData.showableAll, a1, b1, Bool.and_self], ?_, ?_⟩
    · simp only [toPs, PyData.shownAll, piled_cons, cntDs]
      omega
    · simp only [toPs, PyData.depthAll, cntDs]
      omega
theorem shown_lek : ∀ ds : List (Key × D), leafBk ds = true → isPk ds = true → PyData.showableKv (toPk ds) = true ∧ piled (PyData.shownKv (toPk ds)) ≤ 2010 * cntDk ds ∧ PyData.depthKv (toPk ds) ≤ cntDk ds
  | [], _, _ => ⟨rfl, by decide, by decide⟩
  | (k, x) :: xs, h, p => by
    simp only [leafBk, Bool.and_eq_true] at h
    simp only [isPk, Bool.and_eq_true] at p
    obtain ⟨a1, a2, a3⟩ := shown_le x h.1.2 p.1
    obtain ⟨b1, b2, b3⟩ := shown_lek xs h.2 p.2
    have e2 : (((": " : String) : Str)).length = 2 := rfl
    cases k with
    | inl i =>
      have hk : intB i = true := h.1.1
      refine ⟨by simp only [toPk, PyData.showableKv, a1, b1, PyData.showable, Bool.and_self, Bool.and_true]; exact hk, ?_, ?_⟩
      · have := intB_len hk
        simp only [toPk, PyData.shownKv, piled_cons, cntDk, strLen_append, PyData.shown, e2]
        show (Str.ofString (toString i)).length + 2 + _ + 2 + _ ≤ _
        omega
      · simp only [toPk, PyData.depthKv, cntDk, PyData.depth]
        omega
    | inr t =>
      have hk : strB t = true := h.1.1
      refine ⟨by simp only [toPk, PyData.showableKv, a1, b1, PyData.showable, Bool.and_self, Bool.and_true], ?_, ?_⟩
      · have := strB_repr hk
        simp only [toPk, PyData.shownKv, piled_cons, cntDk, strLen_append, PyData.shown, e2]
        omega
      · simp only [toPk, PyData.depthKv, cntDk, PyData.depth]
        omega
end
/-- a value that may be looked at: its text is short -/
structure Th (n : Nat) (d : D) : Prop where
  p : isP d = true
  l : leafB d = true
  c : cntD d ≤ n
theorem reprD_ok {n : Nat} {d : D} (h : Th n d) (hn : n ≤ 60) : biD .repr [d] = some (.val (.str (toP d).shown)) := by
  obtain ⟨h1, h2, h3⟩ := shown_le d h.l h.p
  have := h.c
  exact if_pos ⟨h.p, h1, Nat.le_trans (by omega : _ ≤ 200000) (by decide), by omega⟩
theorem eq_str (a b : Str) : cmp2 .Eq (.str a) (.str b) = some (decide (a = b)) := rfl
theorem ne_str (a b : Str) : cmp2 .NotEq (.str a) (.str b) = some (!decide (a = b)) := rfl
theorem Th.view {n : Nat} {d : D} (h : Th n d) (M : MS) : view M d = d := by
  cases d with
  | obj a => have := h.p; simp [isP] at this
  | _ => rfl
end DL
set_option maxRecDepth 100000
set_option maxHeartbeats 8000000
namespace DL
open PySem L2
local macro_rules | `(tactic| walk_at "s") => `(tactic| with_reducible first | refine x_cons ?_ | refine x_nil ?_ | refine x_set ?_ | refine x_setM ?_ | refine x_par ?_ | refine x_unp ?_ | refine x_sto ?_ | refine x_augS ?_ | refine x_exp ?_ | refine x_ret ?_ | refine x_retN ?_ | refine x_iff ?_ | refine x_pass ?_ | refine x_app ?_ | refine x_for ?_ | refine v_cst ?_ | refine v_tup ?_ | refine v_lst ?_ | refine v_dct ?_ | refine v_bin ?_ | refine v_neg ?_ | refine v_cmp ?_ | refine v_chain ?_ | refine v_not ?_ | refine v_and ?_ | refine v_or ?_ | refine v_ife ?_ | refine v_idx ?_ | refine v_slc ?_ | refine v_call ?_ | refine v_bi ?_ | refine v_isi ?_ | refine v_mt ?_ | refine v_comp ?_ | refine va_nil ?_ | refine va_cons ?_ | refine vo_none ?_ | refine vo_some ?_ | refine vt_yes ?_ | refine vt_e ?_ | refine vt_and ?_ | refine vt_or ?_ | refine vt_not ?_ | refine vi_seq ?_ | refine vi_rng1 ?_)
local macro_rules | `(tactic| walk_at "d") => `(tactic| repeat (first | walk_at "s" | ((with_reducible refine' v_var ?k1 ?_); (case k1 => exact rfl)) | ((with_reducible refine' v_gl ?k1 ?_); (case k1 => exact rfl))))
/-! ### texts -/
theorem restrict_self (M : MS) : restrict M M = M := by
  funext a
  unfold restrict
  cases h : M a with
  | none => rfl
  | some mo => cases mo <;> simp [h]
theorem mem_app {x y : Str} {c : Nat} : c ∈ (x ++ y).cps.toList ↔ c ∈ x.cps.toList ∨ c ∈ y.cps.toList := by
  show c ∈ (x.cps ++ y.cps).toList ↔ _
  simp
theorem len_cps (x : Str) : x.cps.toList.length = x.length := by simp [Str.length]
theorem mem_cut {z : Str} {lo hi : Option Int} {c : Nat} (h : c ∈ (cutS z lo hi).cps.toList) : c ∈ z.cps.toList := by
  unfold cutS at h
  exact List.mem_of_mem_drop (List.mem_of_mem_take (by simpa using h))
theorem len_cut {z : Str} {lo hi : Option Int} : (cutS z lo hi).length ≤ z.length := by
  rw [← len_cps, ← len_cps]
  unfold cutS
  simp
  omega
theorem len_cut2 {z : Str} {k : Int} (h0 : 0 ≤ k) : (cutS z none (some k)).length + (cutS z (some k) none).length = z.length := by
  have e1 : HT.sIx z.length z.length (some k) = min k.toNat z.length := if_neg (by omega)
  have e2 : HT.sIx z.length 0 (some k) = min k.toNat z.length := if_neg (by omega)
  have e3 : ∀ d, HT.sIx z.length d none = d := fun _ => rfl
  rw [← len_cps, ← len_cps]
  unfold cutS
  simp only [e1, e2, e3, List.length_take, List.length_drop, len_cps]
  omega
theorem idx_str {z : Str} {i : Int} (hz : z.length ≤ sizeLine) (h0 : 0 ≤ i) (h : i < z.length) : ∃ c, c ∈ z.cps.toList ∧ idxD (.str z) (.int i) = some (.str ⟨#[c]⟩) := by
  have hl : i.toNat < z.cps.toList.length := by rw [len_cps]; omega
  refine ⟨z.cps.toList[i.toNat], List.getElem_mem hl, ?_⟩
  show (if z.length ≤ sizeLine then (atI z.cps.toList i).map fun c => D.str ⟨#[c]⟩ else none) = _
  rw [if_pos hz]
  unfold atI ixN
  rw [if_pos h0, if_pos (by rw [len_cps]; exact h)]
  show (z.cps.toList[i.toNat]?).map _ = _
  rw [List.getElem?_eq_getElem hl]; rfl
theorem idx_at {xs : List D} {i : Int} (h0 : 0 ≤ i) (h : i < xs.length) : ∃ d, d ∈ xs ∧ atI xs i = some d := by
  have hl : i.toNat < xs.length := by omega
  refine ⟨xs[i.toNat], List.getElem_mem hl, ?_⟩
  unfold atI ixN
  rw [if_pos h0, if_pos h]
  exact List.getElem?_eq_getElem hl
theorem strsD_map : ∀ xs : List Str, strsD (xs.map D.str) = some xs
  | [] => rfl
  | x :: xs => by
    show (strsD (xs.map D.str)).map (x :: ·) = _
    rw [strsD_map xs]; rfl
theorem sum_one : ∀ {xs : List Str}, (∀ x ∈ xs, x.length = 1) → (xs.map fun x => x.length).sum = xs.length
  | [], _ => rfl
  | x :: xs, h => by
    have := sum_one (xs := xs) fun y hy => h y (List.mem_cons_of_mem _ hy)
    have := h x (by simp)
    simp only [List.map_cons, List.sum_cons, List.length_cons]
    omega
theorem join0 : ∀ xs : List Str, (∀ x ∈ xs, x.length = 1) → (PySem.Txt.join "" xs).length = xs.length ∧ ∀ c ∈ (PySem.Txt.join "" xs).cps.toList, ∃ x ∈ xs, c ∈ x.cps.toList
  | xs, h => by
    have e0 : (("" : String) : Str).length = 0 := rfl
    constructor
    · show (PySem.Builtin.Str.glued _ xs).length = _
      rw [PySem.size_glued, e0, Nat.mul_zero, Nat.add_zero]
      exact sum_one h
    · intro c hc
      rw [show PySem.Txt.join "" xs = Str.join "" xs from PySem.StrLaws.glued_eq_join _ _] at hc
      clear h
      induction xs with
      | nil => simp [Str.join, Str.empty] at hc
      | cons x r ih =>
        cases r with
        | nil => exact ⟨x, by simp, hc⟩
        | cons y r =>
          have hc : c ∈ (x ++ "" ++ Str.join "" (y :: r)).cps.toList := hc
          rcases mem_app.mp hc with hc | hc
          · rcases mem_app.mp hc with hc | hc
            · exact ⟨x, by simp, hc⟩
            · have : c ∈ ([] : List Nat) := hc
              simp at this
          · obtain ⟨z, hz, h2⟩ := ih hc
            exact ⟨z, List.mem_cons_of_mem _ hz, h2⟩
/-- a name: one to eight small letters -/
structure Nm (x : Str) : Prop where
  ge : 1 ≤ x.length
  le : x.length ≤ 8
  ch : ∀ c ∈ x.cps.toList, 97 ≤ c ∧ c ≤ 122
def nmB (x : Str) : Bool := decide (1 ≤ x.length) && decide (x.length ≤ 8) && x.cps.toList.all fun c => decide (97 ≤ c) && decide (c ≤ 122)
theorem nmB_ok {x : Str} (h : nmB x = true) : Nm x := by
  unfold nmB at h
  simp only [Bool.and_eq_true, decide_eq_true_eq, List.all_eq_true] at h
  exact ⟨h.1.1, h.1.2, h.2⟩
theorem Nm.leaf {x : Str} (h : Nm x) : strB x = true := by
  unfold strB
  have := h.le
  simp only [Bool.and_eq_true, decide_eq_true_eq]
  refine ⟨by omega, ?_⟩
  rw [Array.all_eq_true_iff_forall_mem]
  intro c hc
  have := h.ch c (by simpa using hc)
  simp only [decide_eq_true_eq]
  omega
def LET : Str := "abcdefghijklmnopqrstuvwxyz"
theorem let_ch : ∀ c ∈ LET.cps.toList, 97 ≤ c ∧ c ≤ 122 := by decide +kernel
theorem let_len : LET.length = 26 := by decide +kernel
def MENU : Str := "do set answer break next raise again if loop close try rest always end catch in got a b z ab ba"
theorem menu_all : ((PySem.Txt.split MENU " ").all nmB && decide ((PySem.Txt.split MENU " ").length = 22)) = true := by decide +kernel
theorem k_take {Φ : Fns} {t : Nat} {b : Addr} {many : Int} {M : MS} {Q : KR} {Z : KX} (hT : Φ t = phTake) (hb : M b = some .bag) (h0 : 0 < many) (h1 : many < 1073741824) (k : ∀ v, 0 ≤ v → v < many → Q (.val (.int v)) M) : Φ t [.obj b, .int many] M Q Z := by
  rw [hT]; exact ⟨b, many, rfl, hb, h0, h1, k⟩
def NAMES (t : Nat) : Ss :=
  (.cons (.set 2 (.cst (.str LET))) (.cons (.set 3 (.cst (.str MENU))) (.cons (.par [3, 4, 5] (.cons (.mt .split (.var 3) (.cons (.cst (.str " ")) .nil)) (.cons (.call t (.cons (.var 0) (.cons (.cst (.int 4)) .nil))) (.cons (.call t (.cons (.var 0) (.cons (.cst (.int 20)) .nil))) .nil)))) (.cons (.set 6 (.mt .join (.cst (.str "")) (.cons (.comp (.idx (.var 2) (.call t (.cons (.var 0) (.cons (.cst (.int 26)) .nil)))) [7] true [7] (.rng1 (.bin .Add (.cst (.int 1)) (.call t (.cons (.var 0) (.cons (.cst (.int 7)) .nil))))) .yes) .nil))) (.cons (.set 8 (.call t (.cons (.var 0) (.cons (.bin .Add (.bi .len (.cons (.var 6) .nil)) (.cst (.int 1))) .nil)))) (.cons (.iff (.e (.cmp .Eq (.var 4) (.cst (.int 0)))) (.cons (.ret (.slc (.bin .Add (.slc (.var 3) (.some (.var 5)) .none) (.slc (.var 3) .none (.some (.var 5)))) .none (.some (.var 1)))) .nil) .nil) (.cons (.iff (.e (.cmp .Eq (.var 4) (.cst (.int 1)))) (.cons (.ret (.comp (.idx (.var 2) (.bin .Mod (.bi .int (.cons (.bin .Add (.var 5) (.bin .Mult (.cst (.int 3)) (.var 7))) .nil)) (.cst (.int 26)))) [7] true [7] (.rng1 (.var 1)) .yes)) .nil) .nil) (.cons (.ret (.comp (.bin .Add (.bin .Add (.slc (.var 6) .none (.some (.var 8))) (.idx (.var 2) (.bin .Mod (.bi .int (.cons (.bin .Add (.var 5) (.bin .Mult (.cst (.int 3)) (.var 7))) .nil)) (.cst (.int 26))))) (.slc (.var 6) (.some (.var 8)) .none)) [7] true [7] (.rng1 (.var 1)) .yes)) .nil))))))))
theorem strs_ex {P : Str → Prop} : ∀ {ds : List D}, (∀ d ∈ ds, ∃ x, d = .str x ∧ P x) → ∃ xs : List Str, ds = xs.map D.str ∧ ∀ x ∈ xs, P x
  | [], _ => ⟨[], rfl, by simp⟩
  | d :: ds, h => by
    obtain ⟨xs, rfl, h3⟩ := strs_ex (P := P) (ds := ds) fun d hd => h d (List.mem_cons_of_mem _ hd)
    obtain ⟨x, rfl, hx⟩ := h d (by simp)
    exact ⟨x :: xs, rfl, fun y hy => (List.mem_cons.mp hy).elim (fun e => e ▸ hx) (h3 y)⟩
theorem join_ok {a : Str} {xs : List Str} (h : (xs.map (·.length)).sum + xs.length * a.length ≤ 16777216) : mtD .join (.str a) [.lst (xs.map D.str)] = some (.val (.str (PySem.Txt.join a xs))) := by
  unfold mtD
  simp only [strsD_map]
  exact if_pos h
theorem add_str {a b : Str} (h : a.length + b.length ≤ sizeLine) : op2 .Add (.str a) (.str b) = some (.val (.str (a ++ b))) := if_pos h
theorem slc_str {z : Str} {lo hi : Option Int} (h : z.length ≤ sizeLine) : slcD (.str z) lo hi = some (.val (.str (cutS z lo hi))) := if_pos h
theorem len_str {z : Str} (h : z.length ≤ sizeLine) : biD .len [.str z] = some (.val (.int z.length)) := by
  unfold biD lenD
  simp only [if_pos h]
  rfl
theorem split_ok {a b : Str} (h1 : b.length ≠ 0) (h2 : a.length + 2 ≤ sizeLine) : mtD .split (.str a) [.str b] = some (.new ((PySem.Txt.split a b).map D.str)) := if_pos ⟨h1, h2⟩
theorem small_le {n : Nat} (h : n ≤ 16777216) : n ≤ sizeLine := Nat.le_trans h (by decide)
theorem names_spec {Φ : Fns} {γ : List D} {t : Nat} {b : Addr} {many : Int} {M : MS} {Q : KR} {Z : KX} (hT : Φ t = phTake) (hb : M b = some .bag) (hm0 : 0 ≤ many) (hm1 : many ≤ 20)
    (k : ∀ xs : List Str, xs.length = many.toNat → (∀ x ∈ xs, Nm x) → Q (.new (xs.map D.str)) M) : callDef Φ γ ⟨2, 9, NAMES t⟩ [.obj b, .int many] M Q Z := by
  refine c_def [some (.obj b), some (.int many), none, none, none, none, none, none, none] rfl rfl ?_
  have fin : ∀ ds : List D, ds.length = many.toNat → (∀ d ∈ ds, ∃ x, d = .str x ∧ Nm x) → retR M Q (.new ds) M := fun ds h1 h2 => by
    obtain ⟨xs, rfl, h3⟩ := strs_ex h2
    show Q (.new _) (restrict M M)
    rw [restrict_self]
    exact k xs (by simpa using h1) h3
  have ml := menu_all
  simp only [Bool.and_eq_true, decide_eq_true_eq, List.all_eq_true] at ml
  obtain ⟨ml1, ml2⟩ := ml
  have lz : LET.length ≤ sizeLine := by rw [let_len]; decide
  unfold NAMES
  walk_at "d"
  refine ⟨_, rfl, ?_⟩
  walk_at "d"
  refine ⟨_, split_ok (by decide) (by decide), ?_⟩
  walk_at "d"
  refine k_take hT hb (by decide) (by decide) fun v4 _ _ => ?_
  walk_at "d"
  refine k_take hT hb (by decide) (by decide) fun v5 h50 h51 => ?_
  walk_at "d"
  refine ⟨by show 3 ≤ sizeLine; decide, rfl, ?_⟩
  walk_at "d"
  refine ⟨_, rfl, ?_⟩
  walk_at "d"
  refine k_take hT hb (by decide) (by decide) fun v7 h70 h71 => ?_
  refine ⟨_, rfl, ?_⟩
  refine ⟨_, rfl, by omega, by omega, ?_⟩
  refine comp_all (fun d => ∃ x : Str, d = .str x ∧ x.length = 1 ∧ ∀ c ∈ x.cps.toList, 97 ≤ c ∧ c ≤ 122) trivial ?_ (fun d hd acc kk hk => ?_) fun acc hl hacc => ?_
  · simp only [List.length_map, List.length_range]
    exact small_le (by omega)
  · refine ⟨_, rfl, ?_⟩
    walk_at "d"
    refine if_t ?_
    walk_at "d"
    refine k_take hT hb (by decide) (by decide) fun v h0 h1 => ?_
    obtain ⟨c, hc, he⟩ := idx_str lz h0 (by rw [let_len]; exact h1)
    refine ⟨_, he, ?_⟩
    refine hk _ ⟨⟨#[c]⟩, rfl, rfl, fun c' hc' => ?_⟩
    have e : c' = c := by simpa using hc'
    subst e
    exact let_ch _ hc
  obtain ⟨xs, rfl, hxs⟩ := strs_ex hacc
  have hx1 := fun x hx => (hxs x hx).1
  obtain ⟨j1, j2⟩ := join0 xs hx1
  have hxl : xs.length = (1 + v7).toNat := by simpa using hl
  walk_at "d"
  refine ⟨_, join_ok ?_, ?_⟩
  · rw [sum_one hx1]
    show xs.length + xs.length * 0 ≤ _
    omega
  walk_at "d"
  generalize PySem.Txt.join "" xs = stem at j1 j2
  have js : stem.length ≤ sizeLine := small_le (by omega)
  refine ⟨_, len_str js, ?_⟩
  walk_at "d"
  refine ⟨_, rfl, ?_⟩
  walk_at "d"
  refine k_take hT hb (by show (0 : Int) < (stem.length : Int) + 1; omega) (by show (stem.length : Int) + 1 < 1073741824; omega) fun v8 h80 h81 => ?_
  walk_at "d"
  refine ⟨_, eq_int _ _, _, rfl, ?_⟩
  refine if_dec (fun _ => ?_) (fun _ => ?_)
  · walk_at "d"
    refine ⟨_, rfl, ?_⟩
    walk_at "d"
    refine ⟨_, rfl, ?_⟩
    walk_at "d"
    refine ⟨_, rfl, ?_⟩
    refine ⟨_, rfl, ?_⟩
    have e1 : cutD ((PySem.Txt.split MENU " ").map D.str) (some v5) none = ((PySem.Txt.split MENU " ").drop v5.toNat).map D.str := by rw [cut_drop h50, List.map_drop]
    have e2 : cutD ((PySem.Txt.split MENU " ").map D.str) none (some v5) = ((PySem.Txt.split MENU " ").take v5.toNat).map D.str := by rw [cut_take h50, List.map_take]
    refine ⟨.new (cutD ((PySem.Txt.split MENU " ").map D.str) (some v5) none ++ cutD ((PySem.Txt.split MENU " ").map D.str) none (some v5)), if_pos ?_, ?_⟩
    · rw [e1, e2]
      simp only [List.length_map, List.length_drop, List.length_take, ml2]
      exact small_le (by omega)
    walk_at "d"
    refine ⟨_, rfl, ?_⟩
    refine ⟨_, rfl, ?_⟩
    show retR M Q (.new (cutD (cutD ((PySem.Txt.split MENU " ").map D.str) (some v5) none ++ cutD ((PySem.Txt.split MENU " ").map D.str) none (some v5)) none (some many))) M
    rw [cut_take hm0, e1, e2, ← List.map_append, ← List.map_take]
    refine fin _ ?_ fun d hd => ?_
    · simp only [List.length_map, List.length_take, List.length_append, List.length_drop, ml2]
      omega
    · obtain ⟨x, hx, rfl⟩ := List.mem_map.mp hd
      refine ⟨x, rfl, nmB_ok (ml1 x ?_)⟩
      rcases List.mem_append.mp (List.mem_of_mem_take hx) with h | h
      · exact List.mem_of_mem_drop h
      · exact List.mem_of_mem_take h
  have sgn : ∀ i : Int, ∃ c, (97 ≤ c ∧ c ≤ 122) ∧ idxD (.str LET) (.int (i % 26)) = some (.str ⟨#[c]⟩) := fun i => by
    obtain ⟨c, hc, he⟩ := idx_str (i := i % 26) lz (Int.emod_nonneg _ (by decide)) (by rw [let_len]; exact Int.emod_lt_of_pos _ (by decide))
    exact ⟨c, let_ch _ hc, he⟩
  walk_at "d"
  refine ⟨_, eq_int _ _, _, rfl, ?_⟩
  refine if_dec (fun _ => ?_) (fun _ => ?_)
  · walk_at "d"
    refine ⟨_, rfl, by omega, by omega, ?_⟩
    refine comp_all (fun d => ∃ x : Str, d = .str x ∧ Nm x) trivial ?_ (fun d hd acc kk hk => ?_) fun acc hl hacc => ?_
    · simp only [List.length_map, List.length_range]
      exact small_le (by omega)
    · obtain ⟨j, hj, rfl⟩ := List.mem_map.mp hd
      refine ⟨_, rfl, ?_⟩
      walk_at "d"
      refine if_t ?_
      walk_at "d"
      refine ⟨_, mul_ok (.inl (by decide)), ?_⟩
      refine ⟨_, rfl, ?_⟩
      walk_at "d"
      refine ⟨_, rfl, ?_⟩
      walk_at "d"
      refine ⟨_, mod_ok (by decide), ?_⟩
      obtain ⟨c, hc, he⟩ := sgn (v5 + 3 * (j : Int))
      refine ⟨_, he, ?_⟩
      refine hk _ ⟨⟨#[c]⟩, rfl, Nat.le_refl 1, (by show 1 ≤ 8; decide), fun c' hc' => ?_⟩
      have e : c' = c := by simpa using hc'
      rw [e]; exact hc
    · exact fin acc (by simpa using hl) hacc
  walk_at "d"
  refine ⟨_, rfl, by omega, by omega, ?_⟩
  refine comp_all (fun d => ∃ x : Str, d = .str x ∧ Nm x) trivial ?_ (fun d hd acc kk hk => ?_) fun acc hl hacc => ?_
  · simp only [List.length_map, List.length_range]
    exact small_le (by omega)
  · obtain ⟨j, hj, rfl⟩ := List.mem_map.mp hd
    refine ⟨_, rfl, ?_⟩
    walk_at "d"
    refine if_t ?_
    walk_at "d"
    refine ⟨_, rfl, ?_⟩
    refine ⟨_, slc_str js, ?_⟩
    walk_at "d"
    refine ⟨_, mul_ok (.inl (by decide)), ?_⟩
    refine ⟨_, rfl, ?_⟩
    walk_at "d"
    refine ⟨_, rfl, ?_⟩
    walk_at "d"
    refine ⟨_, mod_ok (by decide), ?_⟩
    obtain ⟨c, hc, he⟩ := sgn (v5 + 3 * (j : Int))
    refine ⟨_, he, ?_⟩
    have l1 : (cutS stem none (some v8)).length ≤ stem.length := len_cut
    have l2 : (cutS stem (some v8) none).length ≤ stem.length := len_cut
    have l3 : (cutS stem none (some v8) ++ (⟨#[c]⟩ : Str)).length = (cutS stem none (some v8)).length + 1 := strLen_append _ _
    have l4 : (cutS stem none (some v8)).length + (cutS stem (some v8) none).length = stem.length := len_cut2 h80
    refine ⟨_, add_str (small_le ?_), ?_⟩
    · show (cutS stem none (some v8)).length + 1 ≤ _
      omega
    walk_at "d"
    refine ⟨_, rfl, ?_⟩
    walk_at "d"
    refine ⟨_, slc_str js, ?_⟩
    refine ⟨_, add_str (small_le (by omega)), ?_⟩
    refine hk _ ⟨_, rfl, ?_, ?_, fun c' hc' => ?_⟩
    · rw [strLen_append]; omega
    · rw [strLen_append]; omega
    · rcases mem_app.mp hc' with h | h
      · rcases mem_app.mp h with h | h
        · obtain ⟨x, hx, hx2⟩ := j2 _ (mem_cut h)
          exact (hxs x hx).2 _ hx2
        · have e : c' = c := by simpa using h
          rw [e]; exact hc
      · obtain ⟨x, hx, hx2⟩ := j2 _ (mem_cut h)
        exact (hxs x hx).2 _ hx2
  · exact fin acc (by simpa using hl) hacc
end DL
set_option maxRecDepth 100000
set_option maxHeartbeats 8000000
namespace DL
open PySem L2
local macro_rules | `(tactic| walk_at "s") => `(tactic| with_reducible first | refine x_cons ?_ | refine x_nil ?_ | refine x_set ?_ | refine x_setM ?_ | refine x_par ?_ | refine x_unp ?_ | refine x_sto ?_ | refine x_augS ?_ | refine x_exp ?_ | refine x_ret ?_ | refine x_retN ?_ | refine x_iff ?_ | refine x_pass ?_ | refine x_app ?_ | refine x_for ?_ | refine v_cst ?_ | refine v_tup ?_ | refine v_lst ?_ | refine v_dct ?_ | refine v_bin ?_ | refine v_neg ?_ | refine v_cmp ?_ | refine v_chain ?_ | refine v_not ?_ | refine v_and ?_ | refine v_or ?_ | refine v_ife ?_ | refine v_idx ?_ | refine v_slc ?_ | refine v_call ?_ | refine v_bi ?_ | refine v_isi ?_ | refine v_mt ?_ | refine v_comp ?_ | refine va_nil ?_ | refine va_cons ?_ | refine vo_none ?_ | refine vo_some ?_ | refine vt_yes ?_ | refine vt_e ?_ | refine vt_and ?_ | refine vt_or ?_ | refine vt_not ?_ | refine vi_seq ?_ | refine vi_rng1 ?_)
local macro_rules | `(tactic| walk_at "d") => `(tactic| repeat (first | walk_at "s" | ((with_reducible refine' v_var ?k1 ?_); (case k1 => exact rfl)) | ((with_reducible refine' v_gl ?k1 ?_); (case k1 => exact rfl))))
/-! ### kinds of values -/
def intQ : D → Bool
  | .int _ => true
  | _ => false
def blQ : D → Bool
  | .bl _ => true
  | _ => false
def strQ : D → Bool
  | .str _ => true
  | _ => false
def tupQ : D → Bool
  | .tup _ => true
  | _ => false
def lstQ : D → Bool
  | .lst _ => true
  | _ => false
theorem isi_int {d : D} (h : isP d = true) : isiD d ["int"] = some (intQ d || blQ d) := by cases d <;> first | rfl | (simp [isP] at h)
theorem isi_bool {d : D} (h : isP d = true) : isiD d ["bool"] = some (blQ d) := by cases d <;> first | rfl | (simp [isP] at h)
theorem isi_str {d : D} (h : isP d = true) : isiD d ["str"] = some (strQ d) := by cases d <;> first | rfl | (simp [isP] at h)
theorem isi_tup {d : D} (h : isP d = true) : isiD d ["tuple"] = some (tupQ d) := by cases d <;> first | rfl | (simp [isP] at h)
theorem isi_lst {d : D} (h : isP d = true) : isiD d ["list"] = some (lstQ d) := by cases d <;> first | rfl | (simp [isP] at h)
theorem view_p {d : D} (h : isP d = true) (M : MS) : view M d = d := by
  cases d with
  | obj a => simp [isP] at h
  | _ => rfl
theorem boolsD_map : ∀ bs : List Bool, boolsD (bs.map D.bl) = some bs
  | [] => rfl
  | b :: bs => by
    show (boolsD (bs.map D.bl)).map (b :: ·) = _
    rw [boolsD_map bs]; rfl
theorem all_bls (bs : List Bool) : biD .all [.lst (bs.map D.bl)] = some (.val (.bl (bs.all id))) := by
  unfold biD
  simp only [boolsD_map]
  rfl
theorem any_bls (bs : List Bool) : biD .any [.lst (bs.map D.bl)] = some (.val (.bl (bs.any id))) := by
  unfold biD
  simp only [boolsD_map]
  rfl
theorem comp_mapA {α : Type} {src : MS → Prop} {step : D → List D → MS → (List D → MS → Prop) → Prop} {Q : List D → MS → Prop} {xs : List α} {M : MS} (g f : α → D) (hs : src M) (hl : xs.length ≤ sizeLine)
    (h : ∀ a ∈ xs, ∀ acc k, k (acc ++ [f a]) M → step (g a) acc M k) (e : Q (xs.map f) M) : compLoop src step (xs.map g) [] M Q := by
  refine comp_ind (fun r acc M' => M' = M ∧ ∃ u v, xs = u ++ v ∧ r = v.map g ∧ acc = u.map f) ⟨rfl, [], xs, rfl, rfl, rfl⟩ ?_ ?_
  · rintro d r acc M' _ ⟨rfl, u, v, rfl, h1, rfl⟩
    cases v with
    | nil => simp at h1
    | cons a v =>
      simp at h1
      obtain ⟨rfl, rfl⟩ := h1
      simp at hl
      refine ⟨hs, by simp; omega, fun k hk => h a (by simp) _ k (hk _ _ ⟨rfl, u ++ [a], v, by simp, rfl, by simp⟩)⟩
  · rintro acc M' ⟨rfl, u, v, rfl, h1, rfl⟩
    cases v with
    | nil => simp at e; exact ⟨hs, e⟩
    | cons a v => simp at h1
theorem comp_filtA {α : Type} {src : MS → Prop} {step : D → List D → MS → (List D → MS → Prop) → Prop} {Q : List D → MS → Prop} {xs : List α} {M : MS} (g f : α → D) (p : α → Bool) (hs : src M) (hl : xs.length ≤ sizeLine)
    (h : ∀ a ∈ xs, ∀ acc k, k (if p a = true then acc ++ [f a] else acc) M → step (g a) acc M k) (e : Q ((xs.filter p).map f) M) : compLoop src step (xs.map g) [] M Q := by
  refine comp_ind (fun r acc M' => M' = M ∧ ∃ u v, xs = u ++ v ∧ r = v.map g ∧ acc = (u.filter p).map f) ⟨rfl, [], xs, rfl, rfl, rfl⟩ ?_ ?_
  · rintro d r acc M' _ ⟨rfl, u, v, rfl, h1, rfl⟩
    cases v with
    | nil => simp at h1
    | cons a v =>
      simp at h1
      obtain ⟨rfl, rfl⟩ := h1
      simp at hl
      have : (u.filter p).length ≤ u.length := List.length_filter_le _ _
      refine ⟨hs, by simp; omega, fun k hk => h a (by simp) _ k (hk _ _ ⟨rfl, u ++ [a], v, by simp, rfl, ?_⟩)⟩
      cases hp : p a <;> simp [hp]
  · rintro acc M' ⟨rfl, u, v, rfl, h1, rfl⟩
    cases v with
    | nil => simp at e; exact ⟨hs, by simpa using e⟩
    | cons a v => simp at h1
/-! ### alike -/
def ALIKE : Ss := (.cons (.ret (.and (.cmp .Eq (.var 0) (.var 1)) (.cmp .Eq (.bi .repr (.cons (.var 0) .nil)) (.bi .repr (.cons (.var 1) .nil))))) .nil)
mutual
theorem eqv_refl : ∀ d : PyData, d.canLay0 = true → PyData.eqv d d = true
  | .none, _ => rfl
  | .bool b, _ => by simp [PyData.eqv]
  | .int i, _ => by simp [PyData.eqv]
  | .str x, _ => by simp [PyData.eqv]
  | .list xs, h => by
    simp only [PyData.eqv]
    exact eqvs_refl xs (by simpa [PyData.canLay0] using h)
  | .tuple xs, h => by
    simp only [PyData.eqv]
    exact eqvs_refl xs (by simpa [PyData.canLay0] using h)
  | .dict _, h => by simp [PyData.canLay0] at h
theorem eqvs_refl : ∀ ds : List PyData, PyData.canLayAll0 ds = true → PyData.eqvAll ds ds = true
  | [], _ => rfl
  | d :: ds, h => by
    simp only [PyData.canLayAll0, Bool.and_eq_true] at h
    simp only [PyData.eqvAll, eqv_refl d h.1, eqvs_refl ds h.2, Bool.and_self]
end
/-- a value is alike to itself -/
theorem alike_same {Φ : Fns} {γ : List D} {d : D} {n : Nat} {M : MS} {Q : KR} {Z : KX} (h : Th n d) (hn : n ≤ 60) (he : cmp2 .Eq d d = some true) (k : Q (.val (.bl true)) M) : callDef Φ γ ⟨2, 2, ALIKE⟩ [d, d] M Q Z := by
  refine c_def [some d, some d] rfl rfl ?_
  have vw : ∀ M, view M d = d := h.view
  unfold ALIKE
  walk_at "d"
  refine ⟨true, ?_, true, rfl, ?_⟩
  · show cmp2 .Eq (view M d) (view M d) = _
    rw [vw]; exact he
  refine if_t ?_
  walk_at "d"
  refine ⟨.val (.str (toP d).shown), ?_, ?_⟩
  · show biD .repr [view M d] = _
    rw [vw]; exact reprD_ok h hn
  walk_at "d"
  refine ⟨.val (.str (toP d).shown), ?_, ?_⟩
  · show biD .repr [view M d] = _
    rw [vw]; exact reprD_ok h hn
  refine ⟨true, ?_, ?_⟩
  · show cmp2 .Eq (.str (toP d).shown) (.str (toP d).shown) = _
    rw [eq_str]; simp
  show Q (.val (.bl true)) (restrict M M)
  rw [restrict_self]; exact k
/-! ### a whole number of many figures -/
theorem wide_all : ((List.range 40).all fun v => match PySem.intText? (("1" : Str) ++ PySem.Txt.mul "0" (v : Int)) with
    | some n => decide (0 < n) && intB n && intB (-n) && decide ((("1" : Str) ++ PySem.Txt.mul "0" (v : Int)).length ≤ 640)
    | none => false) = true := by decide +kernel
theorem wide_ok {v : Int} (h0 : 0 ≤ v) (h1 : v < 40) : ∃ n, 0 < n ∧ intB n = true ∧ intB (-n) = true ∧ (("1" : Str) ++ PySem.Txt.mul "0" v).length ≤ 640 ∧ biD .int [.str (("1" : Str) ++ PySem.Txt.mul "0" v)] = some (.val (.int n)) := by
  have h := List.all_eq_true.mp wide_all v.toNat (List.mem_range.mpr (by omega))
  rw [Int.toNat_of_nonneg h0] at h
  split at h
  · rename_i n e
    simp only [Bool.and_eq_true, decide_eq_true_eq] at h
    obtain ⟨⟨⟨a, b⟩, c⟩, d⟩ := h
    refine ⟨n, a, b, c, d, ?_⟩
    show (if _ then _ else _) = _
    rw [if_pos d, e]; rfl
  · cases h
theorem mul0_ok {v : Int} (h0 : 0 ≤ v) (h1 : v < 40) : op2 .Mult (.str "0") (.int v) = some (.val (.str (PySem.Txt.mul "0" v))) := if_pos ⟨by omega, by omega, by decide⟩
/-! ### things -/
theorem th_closed {d : D} (h : (isP d && leafB d && decide (cntD d ≤ 60)) = true) : Th 60 d := by
  simp only [Bool.and_eq_true, decide_eq_true_eq] at h
  exact ⟨h.1.1, h.1.2, h.2⟩
theorem th_nil : ∀ d ∈ ([] : List D), Th 60 d := by simp
theorem th_cons {d : D} {ds : List D} (h : Th 60 d) (t : ∀ d ∈ ds, Th 60 d) : ∀ x ∈ d :: ds, Th 60 x := fun x hx => (List.mem_cons.mp hx).elim (fun e => e ▸ h) (t x)
theorem th_str {x : Str} (h : strB x = true) : Th 60 (.str x) := ⟨rfl, by simpa [leafB] using h, by simp [cntD]⟩
theorem th_int {x : Int} (h : intB x = true) : Th 60 (.int x) := ⟨rfl, by simpa [leafB] using h, by simp [cntD]⟩
end DL
set_option maxRecDepth 100000
set_option maxHeartbeats 800000
namespace DL
open PySem L2
/-! ### the small language by rewriting -/
theorem ex_some {α : Type} {a : α} {P : α → Prop} : (∃ r, some a = some r ∧ P r) ↔ P a := ⟨fun ⟨_, e, h⟩ => by cases e; exact h, fun h => ⟨a, rfl, h⟩⟩
theorem ex_ite {α : Type} {c : Prop} [Decidable c] {a : α} {P : α → Prop} : (∃ r, (if c then some a else none) = some r ∧ P r) ↔ c ∧ P a := by
  by_cases h : c
  · simp [h, ex_some]
  · simp [h]
theorem ex_int {a : Int} {P : Int → Prop} : (∃ i, D.int a = D.int i ∧ P i) ↔ P a := ⟨fun ⟨_, e, h⟩ => by cases e; exact h, fun h => ⟨a, rfl, h⟩⟩
theorem ex_str {a : Str} {P : Str → Prop} : (∃ i, D.str a = D.str i ∧ P i) ↔ P a := ⟨fun ⟨_, e, h⟩ => by cases e; exact h, fun h => ⟨a, rfl, h⟩⟩
theorem ex_lst {a : List D} {P : List D → Prop} : (∃ i, D.lst a = D.lst i ∧ P i) ↔ P a := ⟨fun ⟨_, e, h⟩ => by cases e; exact h, fun h => ⟨a, rfl, h⟩⟩
theorem ex_obj {a : Addr} {P : Addr → Prop} : (∃ i, D.obj a = D.obj i ∧ P i) ↔ P a := ⟨fun ⟨_, e, h⟩ => by cases e; exact h, fun h => ⟨a, rfl, h⟩⟩
theorem ex_new {a : List D} {P : List D → Prop} : (∃ i, R.new a = R.new i ∧ P i) ↔ P a := ⟨fun ⟨_, e, h⟩ => by cases e; exact h, fun h => ⟨a, rfl, h⟩⟩
theorem ite_dec {p : Prop} [Decidable p] {A B : Prop} : (if decide p = true then A else B) ↔ (p → A) ∧ (¬ p → B) := by
  by_cases h : p <;> simp [h]
theorem ite_ndec {p : Prop} [Decidable p] {A B : Prop} : (if (!decide p) = true then A else B) ↔ (p → B) ∧ (¬ p → A) := by
  by_cases h : p <;> simp [h]
theorem ite_bl {b : Bool} {A B : Prop} : (if b = true then A else B) ↔ (b = true → A) ∧ (b = false → B) := by
  cases b <;> simp
theorem ite_nbl {b : Bool} {A B : Prop} : (if (!b) = true then A else B) ↔ (b = true → B) ∧ (b = false → A) := by
  cases b <;> simp
theorem ite_iff {p : Prop} [Decidable p] {A B : Prop} : (if p then A else B) ↔ (p → A) ∧ (¬ p → B) := by
  by_cases h : p <;> simp [h]
theorem xs_nil {Φ : Fns} {γ : List D} {F : DE} {δ : DEnv} {M : MS} : execSs Φ γ .nil F δ M = F.nx δ M := by unfold execSs; rfl
theorem toD_val {d : D} : R.toD (.val d) = d := rfl
theorem toD_new {ds : List D} : R.toD (.new ds) = .lst ds := rfl
section
variable {M : MS}
theorem vw_non : view M .non = .non := rfl
theorem vw_bl {b : Bool} : view M (.bl b) = .bl b := rfl
theorem vw_int {b : Int} : view M (.int b) = .int b := rfl
theorem vw_str {b : Str} : view M (.str b) = .str b := rfl
theorem vw_lst {b : List D} : view M (.lst b) = .lst b := rfl
theorem vw_tup {b : List D} : view M (.tup b) = .tup b := rfl
theorem vw_dct {b : List (Key × D)} : view M (.dct b) = .dct b := rfl
theorem rt_val {Q : KR} {d : D} (h : isP d = true) : retR M Q (.val d) M ↔ Q (.val d) M := by
  have e : retR M Q (.val d) M = Q (.val d) (restrict M M) := by
    unfold retR
    cases d with
    | obj a => simp [isP] at h
    | _ => rfl
  rw [e, restrict_self]
theorem rt_bl {Q : KR} {b : Bool} : retR M Q (.val (.bl b)) M ↔ Q (.val (.bl b)) M := rt_val rfl
theorem rt_int {Q : KR} {b : Int} : retR M Q (.val (.int b)) M ↔ Q (.val (.int b)) M := rt_val rfl
theorem rt_str {Q : KR} {b : Str} : retR M Q (.val (.str b)) M ↔ Q (.val (.str b)) M := rt_val rfl
theorem rt_new {Q : KR} {ds : List D} : retR M Q (.new ds) M ↔ Q (.new ds) M := by
  have e : retR M Q (.new ds) M = Q (.new ds) (restrict M M) := rfl
  rw [e, restrict_self]
theorem rt_tup {Q : KR} {ds : List D} : retR M Q (.val (.tup ds)) M ↔ Q (.val (.tup ds)) M := by
  have e : retR M Q (.val (.tup ds)) M = Q (.val (.tup ds)) (restrict M M) := rfl
  rw [e, restrict_self]
theorem rt_lst {Q : KR} {ds : List D} : retR M Q (.val (.lst ds)) M ↔ Q (.val (.lst ds)) M := by
  have e : retR M Q (.val (.lst ds)) M = Q (.val (.lst ds)) (restrict M M) := rfl
  rw [e, restrict_self]
theorem rt_dct {Q : KR} {ds : List (Key × D)} : retR M Q (.val (.dct ds)) M ↔ Q (.val (.dct ds)) M := by
  have e : retR M Q (.val (.dct ds)) M = Q (.val (.dct ds)) (restrict M M) := rfl
  rw [e, restrict_self]
end
/-! operations -/
section
variable {i j : Int} {a b : Str} {xs ys : List D} {d e : D} {ds : List D} {kk : Bool}
theorem o_addI : op2 .Add (.int i) (.int j) = some (.val (.int (i + j))) := rfl
theorem o_subI : op2 .Sub (.int i) (.int j) = some (.val (.int (i - j))) := rfl
theorem o_addS : op2 .Add (.str a) (.str b) = if a.length + b.length ≤ sizeLine then some (.val (.str (a ++ b))) else none := rfl
theorem o_addL : op2 .Add (.lst xs) (.lst ys) = if xs.length + ys.length ≤ sizeLine then some (.new (xs ++ ys)) else none := rfl
theorem o_addT : op2 .Add (.tup xs) (.tup ys) = if xs.length + ys.length ≤ sizeLine then some (.val (.tup (xs ++ ys))) else none := rfl
theorem o_mulI : op2 .Mult (.int i) (.int j) = if (-(2 ^ 64) < i ∧ i < 2 ^ 64) ∨ (-(2 ^ 64) < j ∧ j < 2 ^ 64) then some (.val (.int (i * j))) else none := rfl
theorem o_mulS : op2 .Mult (.str a) (.int j) = if j ≤ 1000 ∧ -1000 ≤ j ∧ a.length ≤ 1000 then some (.val (.str (PySem.Txt.mul a j))) else none := rfl
theorem o_mod : op2 .Mod (.int i) (.int j) = if 0 < j then some (.val (.int (i % j))) else none := rfl
theorem c_eqI : cmp2 .Eq (.int i) (.int j) = some (decide (i = j)) := eq_int i j
theorem c_neI : cmp2 .NotEq (.int i) (.int j) = some (!decide (i = j)) := ne_int i j
theorem c_lt : cmp2 .Lt (.int i) (.int j) = some (decide (i < j)) := rfl
theorem c_le : cmp2 .LtE (.int i) (.int j) = some (decide (i ≤ j)) := rfl
theorem c_gt : cmp2 .Gt (.int i) (.int j) = some (decide (j < i)) := rfl
theorem c_ge : cmp2 .GtE (.int i) (.int j) = some (decide (j ≤ i)) := rfl
theorem c_eqS : cmp2 .Eq (.str a) (.str b) = some (decide (a = b)) := rfl
theorem c_neS : cmp2 .NotEq (.str a) (.str b) = some (!decide (a = b)) := rfl
theorem c_eqT0 : cmp2 .Eq (.tup xs) (.tup []) = some xs.isEmpty := rfl
theorem eqD_nil : eqD (.lst xs) (.lst []) = some xs.isEmpty := by
  cases xs with
  | nil => rfl
  | cons x xs => rfl
theorem c_eqL0 : cmp2 .Eq (.lst xs) (.lst []) = some xs.isEmpty := eqD_nil
theorem c_neL0 : cmp2 .NotEq (.lst xs) (.lst []) = some (!xs.isEmpty) := by
  cases xs with
  | nil => rfl
  | cons x xs => rfl
theorem t_bl : truthD (.bl kk) = some kk := rfl
theorem t_int : truthD (.int i) = some (i != 0) := rfl
theorem l_lst : biD .len [.lst xs] = some (.val (.int xs.length)) := rfl
theorem l_tup : biD .len [.tup xs] = some (.val (.int xs.length)) := rfl
theorem b_int : biD .int [.int i] = some (.val (.int i)) := rfl
theorem b_intb : biD .int [.bl kk] = some (.val (.int (if kk then 1 else 0))) := rfl
theorem b_tupL : biD .tuple [.lst xs] = some (.val (.tup xs)) := rfl
theorem b_tupT : biD .tuple [.tup xs] = some (.val (.tup xs)) := rfl
theorem b_lstL : biD .list [.lst xs] = some (.new xs) := rfl
theorem b_lstT : biD .list [.tup xs] = some (.new xs) := rfl
theorem ix_l : idxD (.lst xs) (.int i) = atI xs i := rfl
theorem ix_t : idxD (.tup xs) (.int i) = atI xs i := rfl
theorem ix_d {kvs : List (Key × D)} {k : Str} : idxD (.dct kvs) (.str k) = valD kvs (.inr k) := rfl
theorem sl_l {lo hi : Option Int} : slcD (.lst xs) lo hi = some (.new (cutD xs lo hi)) := rfl
theorem sl_t {lo hi : Option Int} : slcD (.tup xs) lo hi = some (.val (.tup (cutD xs lo hi))) := rfl
theorem it_l : itemsD (.lst xs) = some xs := rfl
theorem it_t : itemsD (.tup xs) = some xs := rfl
theorem at0 : atI (d :: ds) 0 = some d := by unfold atI ixN; simp
theorem at1 {d0 : D} : atI (d0 :: d :: ds) 1 = some d := by
  unfold atI ixN; rw [if_pos (by decide), if_pos (by simp; omega)]; rfl
theorem at2 {d0 d1 : D} : atI (d0 :: d1 :: d :: ds) 2 = some d := by
  unfold atI ixN; rw [if_pos (by decide), if_pos (by simp; omega)]; rfl
theorem at3 {d0 d1 d2 : D} : atI (d0 :: d1 :: d2 :: d :: ds) 3 = some d := by
  unfold atI ixN; rw [if_pos (by decide), if_pos (by simp; omega)]; rfl
theorem at4 {d0 d1 d2 d3 : D} : atI (d0 :: d1 :: d2 :: d3 :: d :: ds) 4 = some d := by
  unfold atI ixN; rw [if_pos (by decide), if_pos (by simp; omega)]; rfl
end
section
variable {kk : Bool} {i : Int} {a : Str} {xs : List D} {kv : List (Key × D)}
theorem ii_non0 : isiD .non ["str"] = some false := rfl
theorem ii_bl0 : isiD (.bl kk) ["str"] = some false := rfl
theorem ii_int0 : isiD (.int i) ["str"] = some false := rfl
theorem ii_str0 : isiD (.str a) ["str"] = some true := rfl
theorem ii_lst0 : isiD (.lst xs) ["str"] = some false := rfl
theorem ii_tup0 : isiD (.tup xs) ["str"] = some false := rfl
theorem ii_dct0 : isiD (.dct kv) ["str"] = some false := rfl
theorem ii_non1 : isiD .non ["tuple"] = some false := rfl
theorem ii_bl1 : isiD (.bl kk) ["tuple"] = some false := rfl
theorem ii_int1 : isiD (.int i) ["tuple"] = some false := rfl
theorem ii_str1 : isiD (.str a) ["tuple"] = some false := rfl
theorem ii_lst1 : isiD (.lst xs) ["tuple"] = some false := rfl
theorem ii_tup1 : isiD (.tup xs) ["tuple"] = some true := rfl
theorem ii_dct1 : isiD (.dct kv) ["tuple"] = some false := rfl
theorem ii_non2 : isiD .non ["list"] = some false := rfl
theorem ii_bl2 : isiD (.bl kk) ["list"] = some false := rfl
theorem ii_int2 : isiD (.int i) ["list"] = some false := rfl
theorem ii_str2 : isiD (.str a) ["list"] = some false := rfl
theorem ii_lst2 : isiD (.lst xs) ["list"] = some true := rfl
theorem ii_tup2 : isiD (.tup xs) ["list"] = some false := rfl
theorem ii_dct2 : isiD (.dct kv) ["list"] = some false := rfl
theorem ii_non3 : isiD .non ["int"] = some false := rfl
theorem ii_bl3 : isiD (.bl kk) ["int"] = some true := rfl
theorem ii_int3 : isiD (.int i) ["int"] = some true := rfl
theorem ii_str3 : isiD (.str a) ["int"] = some false := rfl
theorem ii_lst3 : isiD (.lst xs) ["int"] = some false := rfl
theorem ii_tup3 : isiD (.tup xs) ["int"] = some false := rfl
theorem ii_dct3 : isiD (.dct kv) ["int"] = some false := rfl
theorem ii_non4 : isiD .non ["bool"] = some false := rfl
theorem ii_bl4 : isiD (.bl kk) ["bool"] = some true := rfl
theorem ii_int4 : isiD (.int i) ["bool"] = some false := rfl
theorem ii_str4 : isiD (.str a) ["bool"] = some false := rfl
theorem ii_lst4 : isiD (.lst xs) ["bool"] = some false := rfl
theorem ii_tup4 : isiD (.tup xs) ["bool"] = some false := rfl
theorem ii_dct4 : isiD (.dct kv) ["bool"] = some false := rfl
theorem ii_non5 : isiD .non ["list", "tuple"] = some false := rfl
theorem ii_bl5 : isiD (.bl kk) ["list", "tuple"] = some false := rfl
theorem ii_int5 : isiD (.int i) ["list", "tuple"] = some false := rfl
theorem ii_str5 : isiD (.str a) ["list", "tuple"] = some false := rfl
theorem ii_lst5 : isiD (.lst xs) ["list", "tuple"] = some true := rfl
theorem ii_tup5 : isiD (.tup xs) ["list", "tuple"] = some true := rfl
theorem ii_dct5 : isiD (.dct kv) ["list", "tuple"] = some false := rfl
theorem ii_non6 : isiD .non ["dict"] = some false := rfl
theorem ii_bl6 : isiD (.bl kk) ["dict"] = some false := rfl
theorem ii_int6 : isiD (.int i) ["dict"] = some false := rfl
theorem ii_str6 : isiD (.str a) ["dict"] = some false := rfl
theorem ii_lst6 : isiD (.lst xs) ["dict"] = some false := rfl
theorem ii_tup6 : isiD (.tup xs) ["dict"] = some false := rfl
theorem ii_dct6 : isiD (.dct kv) ["dict"] = some true := rfl
end
theorem take_iff {Φ : Fns} {t : Nat} {b : Addr} {many : Int} {M : MS} {Q : KR} {Z : KX} (hT : Φ t = phTake) (hb : M b = some .bag) : Φ t [.obj b, .int many] M Q Z ↔ (0 < many ∧ many < 1073741824 ∧ ∀ v, 0 ≤ v → v < many → Q (.val (.int v)) M) := by
  rw [hT]
  constructor
  · rintro ⟨b', m', e, _, h1, h2, h3⟩
    simp only [List.cons.injEq, D.obj.injEq, D.int.injEq, and_true] at e
    obtain ⟨rfl, rfl⟩ := e
    exact ⟨h1, h2, h3⟩
  · rintro ⟨h1, h2, h3⟩
    exact ⟨b, many, rfl, hb, h1, h2, h3⟩
section
variable {δ : DEnv} {i j l : Nat} {d e f : D}
theorem bt1 : bindT δ [i] true d = some (δ.set i (some d)) := rfl
theorem bt2 : bindT δ [i, j] false (.tup [d, e]) = some ((δ.set i (some d)).set j (some e)) := rfl
theorem bt3 : bindT δ [i, j, l] false (.tup [d, e, f]) = some (((δ.set i (some d)).set j (some e)).set l (some f)) := rfl
theorem bt3l : bindT δ [i, j, l] false (.lst [d, e, f]) = some (((δ.set i (some d)).set j (some e)).set l (some f)) := rfl
end
/-! kinds -/
def seqQ : D → Bool
  | .lst _ => true
  | .tup _ => true
  | _ => false
theorem isi_seq {d : D} (h : isP d = true) : isiD d ["list", "tuple"] = some (seqQ d) := by cases d <;> first | rfl | (simp [isP] at h)
theorem cl_def {Φ : Fns} {γ : List D} {ar sl : Nat} {b : Ss} {ds : List D} {M : MS} {Q : KR} {Z : KX} (hl : ds.length = ar) :
    callDef Φ γ ⟨ar, sl, b⟩ ds M Q Z ↔ execSs Φ γ b { nx := fun _ M' => Q (.val .non) (restrict M M'), rt := retR M Q, xc := fun x _ M' => Z x (restrict M M') } (ds.map some ++ List.replicate (sl - ar) none) M :=
  ⟨fun h => h.2, fun h => ⟨hl, h⟩⟩
/-! ### data within data -/
def dpD (d : D) : Nat := (toP d).depth
theorem dp_all : ∀ {xs : List D} {x : D}, x ∈ xs → dpD x ≤ PyData.depthAll (toPs xs)
  | y :: ys, x, h => by
    unfold dpD
    simp only [toPs, PyData.depthAll]
    rcases List.mem_cons.mp h with rfl | h
    · omega
    · have := dp_all h
      unfold dpD at this
      omega
theorem dp_lst {xs : List D} {x : D} (h : x ∈ xs) : dpD x + 1 ≤ dpD (.lst xs) := by
  have := dp_all h
  unfold dpD at *
  simp only [toP, PyData.depth]
  omega
theorem dp_tup {xs : List D} {x : D} (h : x ∈ xs) : dpD x + 1 ≤ dpD (.tup xs) := by
  have := dp_all h
  unfold dpD at *
  simp only [toP, PyData.depth]
  omega
theorem isPs_mem : ∀ {xs : List D}, isPs xs = true → ∀ x ∈ xs, isP x = true
  | [], _, x, hx => by simp at hx
  | y :: ys, h, x, hx => by
    simp only [isPs, Bool.and_eq_true] at h
    rcases List.mem_cons.mp hx with rfl | hx
    · exact h.1
    · exact isPs_mem h.2 x hx
theorem leafBs_mem : ∀ {xs : List D}, leafBs xs = true → ∀ x ∈ xs, leafB x = true
  | [], _, x, hx => by simp at hx
  | y :: ys, h, x, hx => by
    simp only [leafBs, Bool.and_eq_true] at h
    rcases List.mem_cons.mp hx with rfl | hx
    · exact h.1
    · exact leafBs_mem h.2 x hx
theorem cnt_pos (x : D) : 1 ≤ cntD x := by cases x <;> simp [cntD]
theorem cnt_len : ∀ xs : List D, xs.length ≤ cntDs xs
  | [] => Nat.le_refl _
  | x :: xs => by
    have := cnt_len xs
    have := cnt_pos x
    simp only [List.length_cons, cntDs]
    omega
theorem cnt_mem : ∀ {xs : List D} {x : D}, x ∈ xs → cntD x ≤ cntDs xs
  | y :: ys, x, h => by
    simp only [cntDs]
    rcases List.mem_cons.mp h with rfl | h
    · omega
    · have := cnt_mem h
      omega
theorem th_tup {n : Nat} {ps : List D} (h : Th n (.tup ps)) : ps.length ≤ n ∧ ∀ x ∈ ps, Th n x := by
  have h1 := h.c
  have h2 := h.p
  have h4 := h.l
  have h3 := cnt_len ps
  simp only [cntD] at h1
  simp only [isP] at h2
  simp only [leafB] at h4
  refine ⟨by omega, fun x hx => ⟨isPs_mem h2 x hx, leafBs_mem h4 x hx, ?_⟩⟩
  have := cnt_mem hx
  omega
theorem th_lst {n : Nat} {ps : List D} (h : Th n (.lst ps)) : ps.length ≤ n ∧ ∀ x ∈ ps, Th n x := by
  have h1 := h.c
  have h2 := h.p
  have h4 := h.l
  have h3 := cnt_len ps
  simp only [cntD] at h1
  simp only [isP] at h2
  simp only [leafB] at h4
  refine ⟨by omega, fun x hx => ⟨isPs_mem h2 x hx, leafBs_mem h4 x hx, ?_⟩⟩
  have := cnt_mem hx
  omega
theorem th_strlen {n : Nat} {s : Str} (h : Th n (.str s)) : s.length ≤ 190 := by
  have := h.l
  simp only [leafB, strB, Bool.and_eq_true, decide_eq_true_eq] at this
  exact this.1
theorem cn {tab : List (Nat × Ent)} {γ : List D} {n i : Nat} {d : Def} (h : tabGet tab i = some (.comp d)) : callN tab γ (n + 1) i = callDef (callN tab γ n) γ d := by
  unfold callN
  rw [h]
theorem ct {tab : List (Nat × Ent)} {γ : List D} {n i : Nat} {φ : List D → MS → KR → KX → Prop} (h : tabGet tab i = some (.prim φ)) : callN tab γ (n + 1) i = φ := by
  unfold callN
  rw [h]
theorem ch {tab : List (Nat × Ent)} {γ : List D} {n i : Nat} {d : Def} (h : tabGet tab i = some (.hot d)) : callN tab γ (n + 1) i = fun ds => callDef (callN tab γ n) (excOf ds) d ds := by
  unfold callN
  rw [h]
theorem comp_mapM {src : MS → Prop} {step : D → List D → MS → (List D → MS → Prop) → Prop} {Q : List D → MS → Prop} {xs : List D} {M : MS} (f : D → D) (hs : src M) (hl : xs.length ≤ sizeLine)
    (h : ∀ a ∈ xs, ∀ acc k, k (acc ++ [f a]) M → step a acc M k) (e : Q (xs.map f) M) : compLoop src step xs [] M Q := by
  have z := comp_mapA (xs := xs) (M := M) (src := src) (step := step) (Q := Q) id f hs hl (fun a ha => h a ha) e
  rwa [List.map_id] at z
theorem comp_filtM {src : MS → Prop} {step : D → List D → MS → (List D → MS → Prop) → Prop} {Q : List D → MS → Prop} {xs : List D} {M : MS} (f : D → D) (p : D → Bool) (hs : src M) (hl : xs.length ≤ sizeLine)
    (h : ∀ a ∈ xs, ∀ acc k, k (if p a = true then acc ++ [f a] else acc) M → step a acc M k) (e : Q ((xs.filter p).map f) M) : compLoop src step xs [] M Q := by
  have z := comp_filtA (xs := xs) (M := M) (src := src) (step := step) (Q := Q) id f p hs hl (fun a ha => h a ha) e
  rwa [List.map_id] at z
theorem all_fn {α : Type} (f : α → Bool) (xs : List α) : biD .all [.lst (xs.map fun x => D.bl (f x))] = some (.val (.bl (xs.all f))) := by
  have e : xs.map (fun x => D.bl (f x)) = (xs.map f).map D.bl := by rw [List.map_map]; rfl
  rw [e, all_bls, List.all_map]; rfl
theorem any_fn {α : Type} (f : α → Bool) (xs : List α) : biD .any [.lst (xs.map fun x => D.bl (f x))] = some (.val (.bl (xs.any f))) := by
  have e : xs.map (fun x => D.bl (f x)) = (xs.map f).map D.bl := by rw [List.map_map]; rfl
  rw [e, any_bls, List.any_map]; rfl
theorem none_bad {α : Type} (p : α → Bool) (g : α → D) (xs : List α) : ((xs.filter fun x => !p x).map g).isEmpty = xs.all p := by
  rw [List.isEmpty_map]
  induction xs with
  | nil => rfl
  | cons x xs ih =>
    cases h : p x
    · simp [List.filter_cons, h]
    · simp [List.filter_cons, h]
      simpa using ih
/-- the rewriting set, in one -/
def SXB := And.intro @ex_some (And.intro @ex_ite (And.intro @ex_int (And.intro @ex_str (And.intro @ex_lst (And.intro @ex_obj (And.intro @ex_new (And.intro @ite_iff (And.intro @toD_val (And.intro @toD_new (And.intro @vw_non (And.intro @vw_bl (And.intro @vw_int (And.intro @vw_str (And.intro @vw_lst (And.intro @vw_tup (And.intro @vw_dct (And.intro @rt_bl (And.intro @rt_int (And.intro @rt_str (And.intro @rt_new (And.intro @rt_tup (And.intro @rt_lst (And.intro @rt_dct (And.intro @o_addI (And.intro @o_subI (And.intro @o_addS (And.intro @o_addL (And.intro @o_addT (And.intro @o_mulI (And.intro @o_mulS (And.intro @o_mod (And.intro @c_eqI (And.intro @c_neI (And.intro @c_lt (And.intro @c_le (And.intro @c_gt (And.intro @c_ge (And.intro @c_eqS (And.intro @c_neS (And.intro @c_eqT0 (And.intro @c_eqL0 (And.intro @c_neL0 (And.intro @t_bl (And.intro @t_int (And.intro @l_lst (And.intro @l_tup (And.intro @b_int (And.intro @b_intb (And.intro @b_tupL (And.intro @b_tupT (And.intro @b_lstL (And.intro @b_lstT (And.intro @ix_l (And.intro @ix_t (And.intro @ix_d (And.intro @sl_l (And.intro @sl_t (And.intro @it_l (And.intro @it_t (And.intro @at0 (And.intro @at1 (And.intro @at2 (And.intro @at3 (And.intro @at4 (And.intro @bt1 (And.intro @bt2 (And.intro @bt3 (And.intro @bt3l (And.intro @ii_non0 (And.intro @ii_bl0 (And.intro @ii_int0 (And.intro @ii_str0 (And.intro @ii_lst0 (And.intro @ii_tup0 (And.intro @ii_dct0 (And.intro @ii_non1 (And.intro @ii_bl1 (And.intro @ii_int1 (And.intro @ii_str1 (And.intro @ii_lst1 (And.intro @ii_tup1 (And.intro @ii_dct1 (And.intro @ii_non2 (And.intro @ii_bl2 (And.intro @ii_int2 (And.intro @ii_str2 (And.intro @ii_lst2 (And.intro @ii_tup2 (And.intro @ii_dct2 (And.intro @ii_non3 (And.intro @ii_bl3 (And.intro @ii_int3 (And.intro @ii_str3 (And.intro @ii_lst3 (And.intro @ii_tup3 (And.intro @ii_dct3 (And.intro @ii_non4 (And.intro @ii_bl4 (And.intro @ii_int4 (And.intro @ii_str4 (And.intro @ii_lst4 (And.intro @ii_tup4 (And.intro @ii_dct4 (And.intro @ii_non5 (And.intro @ii_bl5 (And.intro @ii_int5 (And.intro @ii_str5 (And.intro @ii_lst5 (And.intro @ii_tup5 (And.intro @ii_dct5 (And.intro @ii_non6 (And.intro @ii_bl6 (And.intro @ii_int6 (And.intro @ii_str6 (And.intro @ii_lst6 (And.intro @ii_tup6 (@ii_dct6)))))))))))))))))))))))))))))))))))))))))))))))))))))))))))))))))))))))))))))))))))))))))))))))))))))))))))))))))))))
end DL
set_option maxRecDepth 100000
set_option maxHeartbeats 1600000
open PySem L2 DL
local macro_rules | `(tactic| simp? only [$xs,*]) => `(tactic| simp only [↓reduceIte, execSs, execS, evalE, evalEs, evalO, evalT, evalI, Int.reduceLT, Int.reduceLE, Int.reduceSub, Int.reduceAdd, Int.reducePow, Int.reduceNeg, Int.reduceEq, Nat.reduceSub, Nat.reduceLeDiff, Nat.reduceAdd, List.replicate, wipeD, reduceCtorEq, SXB, List.getElem?_cons_zero, List.getElem?_cons_succ, List.set_cons_zero, List.set_cons_succ, Option.some.injEq, exists_eq_left', Bool.not_eq_true, Bool.not_eq_false, List.map_cons, List.map_nil, true_and, and_true, true_implies, false_implies, not_true_eq_false, not_false_eq_true, forall_const, Bool.true_eq_false, Bool.false_eq_true, List.cons_append, List.nil_append, List.zip_cons_cons, List.zip_nil_right, List.foldl_cons, List.foldl_nil, sizeLine_eq, List.length_cons, List.length_nil, Option.map_some, Bool.not_true, Bool.not_false, Option.map_none, if_true, if_false, decide_true, decide_false, decide_eq_true_eq, decide_eq_false_iff_not, Bool.not_eq_true', Bool.not_eq_false', Decidable.not_not, $xs,*])
local macro_rules | `(tactic| simp_all? only [$xs,*]) => `(tactic| simp only [↓reduceIte, xs_nil, execS, evalE, evalEs, evalO, evalT, evalI, Int.reduceLT, Int.reduceLE, Int.reduceSub, Int.reduceAdd, Int.reducePow, Int.reduceNeg, Int.reduceEq, Nat.reduceSub, Nat.reduceLeDiff, Nat.reduceAdd, List.replicate, wipeD, reduceCtorEq, SXB, List.getElem?_cons_zero, List.getElem?_cons_succ, List.set_cons_zero, List.set_cons_succ, Option.some.injEq, exists_eq_left', Bool.not_eq_true, Bool.not_eq_false, List.map_cons, List.map_nil, true_and, and_true, true_implies, false_implies, not_true_eq_false, not_false_eq_true, forall_const, Bool.true_eq_false, Bool.false_eq_true, List.cons_append, List.nil_append, List.zip_cons_cons, List.zip_nil_right, List.foldl_cons, List.foldl_nil, sizeLine_eq, List.length_cons, List.length_nil, Option.map_some, Bool.not_true, Bool.not_false, Option.map_none, if_true, if_false, decide_true, decide_false, decide_eq_true_eq, decide_eq_false_iff_not, Bool.not_eq_true', Bool.not_eq_false', Decidable.not_not, $xs,*])
namespace DL
open PySem L2
/-! ### names, errors, rows: what the readers tell -/
def okN (c : Nat) : Bool := decide (c ∈ ("abcdefghijklmnopqrstuvwxyz" : Str).cps.toList)
def nameQ : D → Bool
  | .str s => decide (1 ≤ (s.length : Int)) && decide ((s.length : Int) ≤ 8) && s.cps.toList.all okN
  | _ => false
def OUTS : List Str := ["hush", "no", "out", "round", "well", "yes"]
def outQ (d : D) : Bool := (OUTS.map D.str).any fun z => PyData.eqv (toP z) (toP d)
def errQ (d : D) : Bool := nameQ d && !outQ d
def itemsQ : D → List D
  | .lst xs => xs
  | .tup xs => xs
  | _ => []
def strsOf : List D → List Str
  | [] => []
  | .str x :: r => x :: strsOf r
  | _ :: r => strsOf r
def diffQ (xs : List D) : Bool := decide ((cntN (strsOf xs) (strsOf xs).length : Int) = (xs.length : Int))
def namesQ (most : Int) (d : D) : Bool := seqQ d && decide (((itemsQ d).length : Int) ≤ most) && (itemsQ d).all nameQ
def errorsQ (d : D) : Bool := seqQ d && (itemsQ d).all errQ && diffQ (itemsQ d)
def calledQ (d : D) (w : Str) (m : Int) : Bool := match d with
  | .tup (.str x :: r) => decide ((r.length : Int) + 1 = m) && decide (x = w)
  | _ => false
theorem it_seq {d : D} (h : seqQ d = true) : itemsD d = some (itemsQ d) := by cases d <;> first | rfl | cases h
theorem l_seq {d : D} (h : seqQ d = true) : biD .len [d] = some (.val (.int (itemsQ d).length)) := by cases d <;> first | rfl | cases h
theorem tx_seq {d : D} (h : seqQ d = true) : textsD d = strsD (itemsQ d) := by cases d <;> first | rfl | cases h
theorem th_items {n : Nat} {d : D} (h : Th n d) : (itemsQ d).length ≤ n ∧ ∀ x ∈ itemsQ d, Th n x := by
  cases d with
  | lst xs => exact th_lst h
  | tup xs => exact th_tup h
  | _ => exact ⟨Nat.zero_le _, by simp [itemsQ]⟩
theorem dp_items {d x : D} (h : x ∈ itemsQ d) : dpD x + 1 ≤ dpD d := by
  cases d with
  | lst xs => exact dp_lst h
  | tup xs => exact dp_tup h
  | _ => simp [itemsQ] at h
theorem strs_all_name : ∀ {xs : List D}, xs.all errQ = true → strsD xs = some (strsOf xs) ∧ (strsOf xs).length = xs.length
  | [], _ => ⟨rfl, rfl⟩
  | x :: xs, h => by
    simp only [List.all_cons, Bool.and_eq_true] at h
    obtain ⟨h1, h2⟩ := strs_all_name h.2
    cases x with
    | str s =>
      refine ⟨?_, by simp [strsOf, h2]⟩
      show (strsD xs).map (s :: ·) = _
      rw [h1]; rfl
    | _ => exact absurd h.1 (by simp [errQ, nameQ])
section
variable {tab : List (Nat × Ent)} {γ : List D} {n : Nat} {d : D} {M : MS} {Q : KR} {Z : KX}
theorem kbl {X Y : Bool} (k : Q (.val (.bl Y)) M) (e : Y = X) : Q (.val (.bl X)) M := e ▸ k
theorem name_spec (hi : tabGet tab i_is_name = some (.comp d_is_name)) (h : Th 4000 d) (k : Q (.val (.bl (nameQ d))) M) : callN tab γ (n + 1) i_is_name [d] M Q Z := by
  rw [cn hi]
  refine ⟨rfl, ?_⟩
  unfold d_is_name b_is_name
  cases d with
  | str s =>
    have hs := th_strlen h
    simp? only [len_str (small_le (Nat.le_trans hs (by decide))), itemsD]
    refine ⟨fun h1 => ⟨fun h2 => ?_, fun h2 => ?_⟩, fun h1 => ?_⟩
    · have e2 : nameQ (.str s) = false := by simp only [nameQ, decide_eq_false h2, Bool.and_false, Bool.false_and]
      rw [e2] at k; exact k
    · refine comp_mapA (fun c => D.str ⟨#[c]⟩) (fun c => D.bl (okN c)) trivial (by rw [len_cps]; exact small_le (by omega)) (fun c hc acc kk hk => ⟨_, rfl, hk⟩) ?_
      rw [all_fn, ex_some, rt_bl]
      have e2 : nameQ (.str s) = s.cps.toList.all okN := by simp only [nameQ, decide_eq_true h1, decide_eq_true h2, Bool.true_and]
      rw [← e2]; exact k
    · have e2 : nameQ (.str s) = false := by simp only [nameQ, decide_eq_false h1, Bool.false_and]
      rw [e2] at k; exact k
  | obj a => exact absurd h.p (by simp [isP])
  | ty a => exact absurd h.p (by simp [isP])
  | scr a => exact absurd h.p (by simp [isP])
  | ins C ds => exact absurd h.p (by simp [isP])
  | dcT kvs => exact absurd h.p (by simp [isP])
  | exc a b C fs => exact absurd h.p (by simp [isP])
  | _ =>
    simp? only []
    exact k
theorem notin_outs {s : Str} : cmp2 .NotIn (.str s) (.tup (OUTS.map D.str)) = some (!outQ (.str s)) := rfl
theorem error_spec (hi : tabGet tab i_is_error = some (.comp d_is_error)) (hn : tabGet tab i_is_name = some (.comp d_is_name)) (h : Th 4000 d) (k : Q (.val (.bl (errQ d))) M) : callN tab γ (n + 2) i_is_error [d] M Q Z := by
  rw [cn hi]
  refine ⟨rfl, ?_⟩
  unfold d_is_error b_is_error
  simp? only []
  refine name_spec hn h ?_
  simp? only []
  refine ⟨fun h1 => ?_, fun h1 => ?_⟩
  · cases d with
    | str s =>
      have e : errQ (.str s) = !outQ (.str s) := by unfold errQ; rw [h1]; rfl
      rw [e] at k
      exact ⟨_, notin_outs, k⟩
    | _ => cases h1
  · have e : errQ d = false := by unfold errQ; rw [h1]; rfl
    rw [e] at k; rw [h1]; exact k
theorem names_ok (hi : tabGet tab i_are_names = some (.comp d_are_names)) (hn : tabGet tab i_is_name = some (.comp d_is_name)) (h : Th 4000 d) {m : Int} (k : Q (.val (.bl (namesQ m d))) M) : callN tab γ (n + 2) i_are_names [d, .int m] M Q Z := by
  rw [cn hi]
  refine ⟨rfl, ?_⟩
  unfold d_are_names b_are_names
  obtain ⟨hl, hx⟩ := th_items h
  simp? only [view_p h.p, isi_seq h.p]
  refine ⟨fun h1 => ?_, fun h1 => ?_⟩
  · simp? only [l_seq h1, it_seq h1]
    refine ⟨fun h2 => ?_, fun h2 => ?_⟩
    · refine comp_mapM (fun x => D.bl (nameQ x)) trivial (by rw [sizeLine_eq]; omega) (fun x hx' acc kk hk => name_spec hn (hx x hx') hk) ?_
      rw [all_fn, ex_some, rt_bl]
      have e : namesQ m d = (itemsQ d).all nameQ := by simp only [namesQ, h1, decide_eq_true h2, Bool.true_and]
      rw [← e]; exact k
    · exact kbl k (by simp [namesQ, h2])
  · exact kbl k (by simp [namesQ, h1])
theorem errors_ok (hi : tabGet tab i_are_errors = some (.comp d_are_errors)) (he : tabGet tab i_is_error = some (.comp d_is_error)) (hn : tabGet tab i_is_name = some (.comp d_is_name)) (h : Th 4000 d) (k : Q (.val (.bl (errorsQ d))) M) : callN tab γ (n + 3) i_are_errors [d] M Q Z := by
  rw [cn hi]
  refine ⟨rfl, ?_⟩
  unfold d_are_errors b_are_errors
  obtain ⟨hl, hx⟩ := th_items h
  simp? only [view_p h.p, isi_seq h.p]
  refine ⟨fun h1 => kbl k (by simp [errorsQ, h1]), fun h1 => ?_⟩
  simp? only [it_seq h1]
  refine comp_mapM (fun x => D.bl (errQ x)) trivial (by rw [sizeLine_eq]; omega) (fun x hx' acc kk hk => error_spec he hn (hx x hx') hk) ?_
  rw [all_fn]
  simp? only []
  refine ⟨fun h2 => kbl k (by simp [errorsQ, h1, h2]), fun h2 => ?_⟩
  obtain ⟨e1, e2⟩ := strs_all_name h2
  simp? only [tx_seq h1, e1, l_seq h1]
  exact ⟨by omega, kbl k (by simp [errorsQ, h1, h2, diffQ])⟩
theorem called_spec (hi : tabGet tab i_is_called = some (.comp d_is_called)) (h : Th 4000 d) {w : Str} {m : Int} (hm : 1 ≤ m) (k : Q (.val (.bl (calledQ d w m))) M) : callN tab γ (n + 1) i_is_called [d, .str w, .int m] M Q Z := by
  rw [cn hi]
  refine ⟨rfl, ?_⟩
  unfold d_is_called b_is_called
  cases d with
  | tup xs =>
    obtain ⟨hl, hx⟩ := th_tup h
    cases xs with
    | nil =>
      simp? only []
      refine ⟨fun h1 => ?_, fun h1 => kbl k ?_⟩
      · simp at h1; omega
      · simp only [calledQ]; symm; simpa using h1
    | cons x r =>
      have hxp := (hx x (by simp)).p
      simp? only [view_p hxp, isi_str hxp]
      refine ⟨fun h1 => ⟨fun h2 => ?_, fun h2 => ?_⟩, fun h1 => ?_⟩
      · cases x with
        | str a =>
          simp? only []
          exact kbl k (by simp only [calledQ]; rw [decide_eq_true (by simpa using h1), Bool.true_and])
        | _ => cases h2
      · exact kbl k (by cases x <;> first | rfl | cases h2)
      · refine kbl k ?_
        symm
        rw [decide_eq_false h1]
        cases x <;> simp only [calledQ]
        rw [decide_eq_false (by simpa using h1), Bool.false_and]
  | obj a => exact absurd h.p (by simp [isP])
  | ty a => exact absurd h.p (by simp [isP])
  | scr a => exact absurd h.p (by simp [isP])
  | ins C ds => exact absurd h.p (by simp [isP])
  | dcT kvs => exact absurd h.p (by simp [isP])
  | exc a b C fs => exact absurd h.p (by simp [isP])
  | _ =>
    simp? only []
    exact k
theorem called_tup {w : Str} {m : Int} (h : calledQ d w m = true) : ∃ r, d = .tup (.str w :: r) ∧ (r.length : Int) + 1 = m := by
  unfold calledQ at h
  split at h
  · rename_i x r
    simp only [Bool.and_eq_true, decide_eq_true_eq] at h
    obtain ⟨h1, rfl⟩ := h
    exact ⟨r, rfl, h1⟩
  · cases h
def cellQ (d : D) : Bool := nameQ d || (match d with | .str s => decide (s = "") | _ => false)
def leavingQ (d : D) : Bool :=
  if calledQ d "answer" 2 = true then (match d with | .tup [_, a] => cellQ a | _ => false)
  else if calledQ d "raise" 2 = true then (match d with | .tup [_, a] => errQ a | _ => false)
  else if calledQ d "set" 3 = true then (match d with | .tup [_, a, b] => nameQ a && nameQ b | _ => false)
  else calledQ d "break" 1 || calledQ d "next" 1 || calledQ d "again" 1
theorem len1 {r : List D} (h : (r.length : Int) + 1 = 2) : ∃ a, r = [a] := by
  match r, h with
  | [a], _ => exact ⟨a, rfl⟩
  | [], h => simp at h
  | _ :: _ :: _, h => simp at h; omega
theorem len2 {r : List D} (h : (r.length : Int) + 1 = 3) : ∃ a b, r = [a, b] := by
  match r, h with
  | [a, b], _ => exact ⟨a, b, rfl⟩
  | [], h => simp at h
  | [_], h => simp at h
  | _ :: _ :: _ :: _, h => simp at h; omega
theorem len3 {r : List D} (h : (r.length : Int) + 1 = 4) : ∃ a b c, r = [a, b, c] := by
  match r, h with
  | [a, b, c], _ => exact ⟨a, b, c, rfl⟩
  | [], h => simp at h
  | [_], h => simp at h
  | [_, _], h => simp at h
  | _ :: _ :: _ :: _ :: _, h => simp at h; omega
theorem len4 {r : List D} (h : (r.length : Int) + 1 = 5) : ∃ a b c e, r = [a, b, c, e] := by
  match r, h with
  | [a, b, c, e], _ => exact ⟨a, b, c, e, rfl⟩
  | [], h => simp at h
  | [_], h => simp at h
  | [_, _], h => simp at h
  | [_, _, _], h => simp at h
  | _ :: _ :: _ :: _ :: _ :: _, h => simp at h; omega
end
end DL
set_option maxRecDepth 100000
set_option maxHeartbeats 1600000
open PySem L2 DL
namespace DL
open PySem L2
structure Rd1 (tab : List (Nat × Ent)) : Prop where
  nm : tabGet tab i_is_name = some (.comp d_is_name)
  er : tabGet tab i_is_error = some (.comp d_is_error)
  ns : tabGet tab i_are_names = some (.comp d_are_names)
  es : tabGet tab i_are_errors = some (.comp d_are_errors)
  ca : tabGet tab i_is_called = some (.comp d_is_called)
  ct : tabGet tab i_is_catch = some (.comp d_is_catch)
  tr : tabGet tab i_is_try = some (.comp d_is_try)
  lv : tabGet tab i_is_leaving = some (.comp d_is_leaving)
  dd : tabGet tab i_is_do = some (.comp d_is_do)
  rw : tabGet tab i_is_row = some (.comp d_is_row)
  rs : tabGet tab i_are_rows = some (.comp d_are_rows)
section
variable {tab : List (Nat × Ent)} {γ : List D} {n : Nat} {d : D} {M : MS} {Q : KR} {Z : KX}
theorem leaving_spec (L : Rd1 tab) (h : Th 4000 d) (k : Q (.val (.bl (leavingQ d))) M) : callN tab γ (n + 3) i_is_leaving [d] M Q Z := by
  rw [cn L.lv]
  refine ⟨rfl, ?_⟩
  unfold d_is_leaving b_is_leaving
  simp? only []
  refine called_spec L.ca h (by decide) ?_
  simp? only []
  unfold leavingQ at k
  refine ⟨fun h1 => ?_, fun h1 => ?_⟩
  · rw [if_pos h1] at k
    obtain ⟨r, rfl, hr⟩ := called_tup h1
    obtain ⟨a, rfl⟩ := len1 hr
    have ha := (th_tup h).2 a (by simp)
    simp? only []
    refine name_spec L.nm ha ?_
    simp? only [view_p ha.p, isi_str ha.p]
    refine ⟨fun h2 => kbl k (by simp [cellQ, h2]), fun h2 => ⟨fun h3 => ?_, fun h3 => ?_⟩⟩
    · cases a with
      | str s => simp? only []; exact kbl k (by simp [cellQ, h2])
      | _ => cases h3
    · exact kbl k (by show cellQ a = strQ a; unfold cellQ; rw [h2, h3]; cases a <;> first | rfl | cases h3)
  rw [if_neg (by rw [h1]; decide)] at k
  refine called_spec L.ca h (by decide) ?_
  simp? only []
  refine ⟨fun h2 => ?_, fun h2 => ?_⟩
  · rw [if_pos h2] at k
    obtain ⟨r, rfl, hr⟩ := called_tup h2
    obtain ⟨a, rfl⟩ := len1 hr
    have ha := (th_tup h).2 a (by simp)
    simp? only []
    refine error_spec L.er L.nm ha ?_
    simp? only []
    exact k
  rw [if_neg (by rw [h2]; decide)] at k
  refine called_spec L.ca h (by decide) ?_
  simp? only []
  refine ⟨fun h3 => ?_, fun h3 => ?_⟩
  · rw [if_pos h3] at k
    obtain ⟨r, rfl, hr⟩ := called_tup h3
    obtain ⟨a, b, rfl⟩ := len2 hr
    have ha := (th_tup h).2 a (by simp)
    have hb := (th_tup h).2 b (by simp)
    simp? only []
    refine name_spec L.nm ha ?_
    simp? only []
    refine ⟨fun h4 => name_spec L.nm hb ?_, fun h4 => kbl k (by simp [h4])⟩
    simp? only []
    exact kbl k (by simp [h4])
  rw [if_neg (by rw [h3]; decide)] at k
  refine comp_mapA (xs := [("break" : Str), "next", "again"]) D.str (fun w => D.bl (calledQ d w 1)) trivial (by decide) (fun w hw acc kk hk => called_spec L.ca h (by decide) hk) ?_
  rw [any_fn (fun w => calledQ d w 1)]
  simp? only []
  exact kbl k (by simp [Bool.or_assoc])
def doQ (d : D) : Bool := calledQ d "do" 5 && (match d with | .tup [_, a, b, c, e] => cellQ a && nameQ b && namesQ 3 c && errorsQ e | _ => false)
theorem do_spec (L : Rd1 tab) (h : Th 4000 d) (k : Q (.val (.bl (doQ d))) M) : callN tab γ (n + 4) i_is_do [d] M Q Z := by
  rw [cn L.dd]
  refine ⟨rfl, ?_⟩
  unfold d_is_do b_is_do
  simp? only []
  refine called_spec L.ca h (by decide) ?_
  simp? only []
  refine ⟨fun h1 => kbl k (by simp [doQ, h1]), fun h1 => ?_⟩
  obtain ⟨r, rfl, hr⟩ := called_tup h1
  obtain ⟨a, b, c, e, rfl⟩ := len4 hr
  have ha := (th_tup h).2 a (by simp)
  have hb := (th_tup h).2 b (by simp)
  have hc := (th_tup h).2 c (by simp)
  have he := (th_tup h).2 e (by simp)
  have rest : cellQ a = true → callN tab γ (n + 3) 1 [b] M (fun x M1 => ∃ k, truthD (view M1 x.toD) = some k ∧ (k = true → callN tab γ (n + 3) 3 [c, .int 3] M1 (fun x M1 => ∃ k, truthD (view M1 x.toD) = some k ∧ (k = true → callN tab γ (n + 3) 4 [e] M1 (retR M Q) fun x M1 => Z x (restrict M M1)) ∧ (k = false → retR M Q (.val x.toD) M1)) fun x M1 => Z x (restrict M M1)) ∧ (k = false → retR M Q (.val x.toD) M1)) fun x M1 => Z x (restrict M M1) := fun hq => by
    refine name_spec L.nm hb ?_
    simp? only []
    refine ⟨fun h4 => names_ok L.ns L.nm hc ?_, fun h4 => kbl k (by simp [doQ, h4])⟩
    simp? only []
    refine ⟨fun h5 => errors_ok L.es L.er L.nm he ?_, fun h5 => kbl k (by simp [doQ, h5])⟩
    simp? only []
    exact kbl k (by simp [doQ, h1, hq, h4, h5])
  simp? only [view_p ha.p, isi_str ha.p]
  refine ⟨fun h2 => kbl k ?_, fun h2 => ?_⟩
  · have : cellQ a = false := by cases a <;> first | rfl | cases h2
    simp [doQ, this]
  · cases a with
    | str s =>
      simp? only []
      refine ⟨fun h3 => name_spec L.nm ha ?_, fun h3 => rest (by simp [cellQ, h3])⟩
      simp? only []
      exact ⟨fun h4 => kbl k (by simp [doQ, cellQ, h4, h3]), fun h4 => rest (by simp [cellQ, h4])⟩
    | _ => cases h2
def rowsQ (p : D → Bool) (d : D) : Bool := seqQ d && (itemsQ d).all p
def catchQ (p : D → Bool) (d : D) : Bool := match d with
  | .tup [a, b] => errorsQ a && rowsQ p b
  | _ => false
def tryQ (p : D → Bool) (d : D) : Bool := calledQ d "try" 5 && (match d with
  | .tup [_, a, b, c, e] => seqQ b && (itemsQ b).all (catchQ p) && rowsQ p a && rowsQ p c && rowsQ p e
  | _ => false)
def ifQ (p : D → Bool) (d : D) : Bool := match d with
  | .tup [_, a, b, c] => nameQ a && rowsQ p b && rowsQ p c
  | _ => false
def closeQ (p : D → Bool) (d : D) : Bool := match d with
  | .tup [_, a, b, c] => nameQ a && errorsQ b && rowsQ p c
  | _ => false
def rowQ : Nat → D → Bool
  | 0, _ => false
  | f + 1, d =>
    if (calledQ d "if" 4 || calledQ d "loop" 4) = true then ifQ (rowQ f) d
    else if calledQ d "close" 4 = true then closeQ (rowQ f) d
    else doQ d || leavingQ d || tryQ (rowQ f) d
theorem dp_part {r : List D} {x y : D} (hx : x ∈ r) (hy : y ∈ itemsQ x) : dpD y + 2 ≤ dpD (.tup r) := by
  have h1 := dp_items hy
  have h2 := dp_tup hx
  omega
/-- rows, by what is_row tells of each -/
theorem rows_by (L : Rd1 tab) (h : Th 4000 d) {p : D → Bool} (hp : ∀ x ∈ itemsQ d, ∀ {M : MS} {Q : KR} {Z : KX}, Q (.val (.bl (p x))) M → callN tab γ n i_is_row [x] M Q Z) (k : Q (.val (.bl (rowsQ p d))) M) : callN tab γ (n + 1) i_are_rows [d] M Q Z := by
  rw [cn L.rs]
  refine ⟨rfl, ?_⟩
  unfold d_are_rows b_are_rows
  obtain ⟨hl, hx⟩ := th_items h
  simp? only [view_p h.p, isi_seq h.p]
  refine ⟨fun h1 => ?_, fun h1 => kbl k (by simp [rowsQ, h1])⟩
  simp? only [it_seq h1]
  refine comp_mapM (fun x => D.bl (p x)) trivial (by rw [sizeLine_eq]; omega) (fun x hx' acc kk hk => hp x hx' hk) ?_
  rw [all_fn]
  simp? only []
  exact kbl k (by simp [rowsQ, h1])
theorem catch_by (L : Rd1 tab) (h : Th 4000 d) {p : D → Bool} (hp : ∀ a b, d = .tup [a, b] → ∀ {M : MS} {Q : KR} {Z : KX}, Q (.val (.bl (rowsQ p b))) M → callN tab γ (n + 3) i_are_rows [b] M Q Z) (k : Q (.val (.bl (catchQ p d))) M) : callN tab γ (n + 4) i_is_catch [d] M Q Z := by
  rw [cn L.ct]
  refine ⟨rfl, ?_⟩
  unfold d_is_catch b_is_catch
  cases d with
  | tup xs =>
    simp? only []
    refine ⟨fun h1 => ?_, fun h1 => kbl k ?_⟩
    · match xs, h1 with
      | [a, b], _ =>
        have ha := (th_tup h).2 a (by simp)
        simp? only []
        refine errors_ok L.es L.er L.nm ha ?_
        simp? only []
        refine ⟨fun h2 => hp a b rfl ?_, fun h2 => kbl k (by simp [catchQ, h2])⟩
        simp? only []
        exact kbl k (by simp [catchQ, h2])
      | [], h1 => simp at h1
      | [_], h1 => simp at h1
      | _ :: _ :: _ :: _, h1 => simp at h1; omega
    · rw [decide_eq_false h1]
      unfold catchQ
      split
      · rename_i a b e
        cases e
        simp at h1
      · rfl
  | obj a => exact absurd h.p (by simp [isP])
  | ty a => exact absurd h.p (by simp [isP])
  | scr a => exact absurd h.p (by simp [isP])
  | ins C ds => exact absurd h.p (by simp [isP])
  | dcT kvs => exact absurd h.p (by simp [isP])
  | exc a b C fs => exact absurd h.p (by simp [isP])
  | _ =>
    simp? only []
    exact k
theorem try_by (L : Rd1 tab) (h : Th 4000 d) {p : D → Bool} (hp : ∀ r x, d = .tup r → x ∈ r → ∀ {M : MS} {Q : KR} {Z : KX}, Q (.val (.bl (rowsQ p x))) M → callN tab γ (n + 4) i_are_rows [x] M Q Z)
    (hc : ∀ r b x, d = .tup r → b ∈ r → x ∈ itemsQ b → ∀ {M : MS} {Q : KR} {Z : KX}, Q (.val (.bl (catchQ p x))) M → callN tab γ (n + 4) i_is_catch [x] M Q Z) (k : Q (.val (.bl (tryQ p d))) M) : callN tab γ (n + 5) i_is_try [d] M Q Z := by
  rw [cn L.tr]
  refine ⟨rfl, ?_⟩
  unfold d_is_try b_is_try
  simp? only []
  refine called_spec L.ca h (by decide) ?_
  simp? only []
  refine ⟨fun h1 => kbl k (by simp [tryQ, h1]), fun h1 => ?_⟩
  obtain ⟨r, rfl, hr⟩ := called_tup h1
  obtain ⟨a, b, c, e, rfl⟩ := len4 hr
  have hb := (th_tup h).2 b (by simp)
  simp? only [view_p hb.p, isi_seq hb.p]
  refine ⟨fun h2 => kbl k (by simp [tryQ, h2]), fun h2 => ?_⟩
  simp? only [it_seq h2]
  refine comp_mapM (fun x => D.bl (catchQ p x)) trivial (by have := (th_items hb).1; rw [sizeLine_eq]; omega) (fun x hx' acc kk hk => hc _ b x rfl (by simp) hx' hk) ?_
  rw [all_fn]
  simp? only []
  refine ⟨fun h3 => hp _ a rfl (by simp) ?_, fun h3 => kbl k (by simp [tryQ, h3])⟩
  simp? only []
  refine ⟨fun h4 => hp _ c rfl (by simp) ?_, fun h4 => kbl k (by simp [tryQ, h4])⟩
  simp? only []
  refine ⟨fun h5 => hp _ e rfl (by simp) ?_, fun h5 => kbl k (by simp [tryQ, h5])⟩
  simp? only []
  exact kbl k (by simp [tryQ, h1, h2, h3, h4, h5])
theorem row_spec (L : Rd1 tab) : ∀ (n : Nat) {d : D} {F : Nat} {M : MS} {Q : KR} {Z : KX}, Th 4000 d → dpD d ≤ F → 2 * dpD d + 6 ≤ n → Q (.val (.bl (rowQ F d))) M → callN tab γ n i_is_row [d] M Q Z := by
  intro n
  induction n using Nat.strongRecOn with
  | ind n ih =>
    intro d F M Q Z h hF hn k
    obtain ⟨m, rfl⟩ : ∃ m, n = m + 6 := ⟨n - 6, by omega⟩
    -- rows of a part, with c calls between
    have rows : ∀ {r : List D} {x : D} (c : Nat), d = .tup r → x ∈ r → 1 ≤ c → c ≤ 2 → ∀ {f : Nat}, dpD d ≤ f + 1 → ∀ {M : MS} {Q : KR} {Z : KX}, Q (.val (.bl (rowsQ (rowQ f) x))) M → callN tab γ (m + 6 - c) i_are_rows [x] M Q Z := fun {r x} c e hx hc1 hc2 {f} hf {M Q Z} k2 => by
      subst e
      have hx' := (th_tup h).2 x hx
      obtain ⟨j, hj⟩ : ∃ j, m + 6 - c = j + 1 := ⟨m + 5 - c, by omega⟩
      rw [hj]
      refine rows_by L hx' (p := rowQ f) (fun y hy {M Q Z} k3 => ?_) k2
      have hd := dp_part hx hy
      exact ih j (by omega) ((th_items hx').2 y hy) (by omega) (by omega) k3
    cases F with
    | zero =>
      -- nothing is that flat but what is no row
      rw [cn L.rw]
      refine ⟨rfl, ?_⟩
      unfold d_is_row b_is_row
      have no : ∀ w m, calledQ d w m = false := fun w m => by
        cases e : calledQ d w m with
        | false => rfl
        | true =>
          obtain ⟨r, rfl, _⟩ := called_tup e
          have := dp_tup (xs := .str w :: r) (x := .str w) (by simp)
          omega
      have e1 : leavingQ d = false := by simp [leavingQ, no]
      have e2 : doQ d = false := by simp [doQ, no]
      have e3 : tryQ (fun _ => false) d = false := by simp [tryQ, no]
      simp? only []
      refine called_spec L.ca h (by decide) ?_
      simp? only [no]
      refine called_spec L.ca h (by decide) ?_
      simp? only [no]
      refine called_spec L.ca h (by decide) ?_
      simp? only [no]
      refine do_spec L h ?_
      simp? only [e2]
      refine leaving_spec L h ?_
      simp? only [e1]
      refine try_by L h (p := fun _ => false) (fun r x e hx {M Q Z} k => ?_) (fun r b x e hb hx {M Q Z} k => ?_) ?_
      · subst e
        have := dp_tup hx
        omega
      · subst e
        have := dp_tup hb
        omega
      · simp? only [e3]
        exact k
    | succ f =>
      rw [cn L.rw]
      refine ⟨rfl, ?_⟩
      unfold d_is_row b_is_row
      unfold rowQ at k
      have ifs : ∀ {w : Str}, calledQ d w 4 = true → Q (.val (.bl (ifQ (rowQ f) d))) M → ∃ dd, idxD (view M d) (D.int 1) = some dd ∧
          callN tab γ (m + 5) 1 [dd] M (fun x M1 => ∃ k, truthD (view M1 x.toD) = some k ∧ (k = true → ∃ d2, idxD (view M1 d) (D.int 2) = some d2 ∧ callN tab γ (m + 5) 11 [d2] M1 (fun x M1 => ∃ k, truthD (view M1 x.toD) = some k ∧ (k = true → ∃ d3, idxD (view M1 d) (D.int 3) = some d3 ∧ callN tab γ (m + 5) 11 [d3] M1 (retR M Q) fun x M1 => Z x (restrict M M1)) ∧ (k = false → retR M Q (.val x.toD) M1)) fun x M1 => Z x (restrict M M1)) ∧ (k = false → retR M Q (.val x.toD) M1)) fun x M1 => Z x (restrict M M1) := fun {w} hw k => by
        obtain ⟨r, rfl, hr⟩ := called_tup hw
        obtain ⟨a, b, c, rfl⟩ := len3 hr
        have ha := (th_tup h).2 a (by simp)
        simp? only []
        refine name_spec L.nm ha ?_
        simp? only []
        refine ⟨fun h2 => rows 1 rfl (x := b) (by simp) (by decide) (by decide) hF ?_, fun h2 => kbl k (by simp [ifQ, h2])⟩
        simp? only []
        refine ⟨fun h3 => rows 1 rfl (x := c) (by simp) (by decide) (by decide) hF ?_, fun h3 => kbl k (by simp [ifQ, h3])⟩
        simp? only []
        exact kbl k (by simp [ifQ, h2, h3])
      simp? only []
      refine called_spec L.ca h (by decide) ?_
      simp? only []
      refine ⟨fun h1 => ifs h1 ?_, fun h1 => ?_⟩
      · rw [if_pos (by simp [h1])] at k; exact k
      refine called_spec L.ca h (by decide) ?_
      simp? only []
      refine ⟨fun h2 => ifs h2 ?_, fun h2 => ?_⟩
      · rw [if_pos (by simp [h2])] at k; exact k
      rw [if_neg (by simp [h1, h2])] at k
      refine called_spec L.ca h (by decide) ?_
      simp? only []
      refine ⟨fun h3 => ?_, fun h3 => ?_⟩
      · rw [if_pos h3] at k
        obtain ⟨r, rfl, hr⟩ := called_tup h3
        obtain ⟨a, b, c, rfl⟩ := len3 hr
        have ha := (th_tup h).2 a (by simp)
        have hb := (th_tup h).2 b (by simp)
        simp? only []
        refine name_spec L.nm ha ?_
        simp? only []
        refine ⟨fun h4 => errors_ok L.es L.er L.nm hb ?_, fun h4 => kbl k (by simp [closeQ, h4])⟩
        simp? only []
        refine ⟨fun h5 => rows 1 rfl (x := c) (by simp) (by decide) (by decide) hF ?_, fun h5 => kbl k (by simp [closeQ, h5])⟩
        simp? only []
        exact kbl k (by simp [closeQ, h4, h5])
      rw [if_neg (by rw [h3]; decide)] at k
      refine do_spec L h ?_
      simp? only []
      refine ⟨fun h4 => kbl k (by simp [h4]), fun h4 => leaving_spec L h ?_⟩
      simp? only []
      refine ⟨fun h5 => kbl k (by simp [h5]), fun h5 => ?_⟩
      refine try_by L h (p := rowQ f) (fun r x e hx {M Q Z} k2 => rows 2 e hx (by decide) (by decide) hF k2) (fun r b x e hb hx {M Q Z} k2 => ?_) ?_
      · subst e
        have hx' := (th_items ((th_tup h).2 b hb)).2 x hx
        have hd := dp_part hb hx
        refine catch_by L hx' (p := rowQ f) (fun u v e {M Q Z} k3 => ?_) k2
        subst e
        have hv := (th_tup hx').2 v (by simp)
        refine rows_by L hv (p := rowQ f) (fun y hy {M Q Z} k4 => ?_) k3
        have hd2 := dp_part (r := [u, v]) (x := v) (by simp) hy
        exact ih _ (by omega) ((th_items hv).2 y hy) (by omega) (by omega) k4
      · simp? only []
        exact kbl k (by simp [h4, h5])
theorem rows_spec (L : Rd1 tab) {F : Nat} (h : Th 4000 d) (hF : dpD d ≤ F + 1) (hn : 2 * dpD d + 5 ≤ n) (k : Q (.val (.bl (rowsQ (rowQ F) d))) M) : callN tab γ (n + 1) i_are_rows [d] M Q Z := by
  refine rows_by L h (fun x hx {M Q Z} k => ?_) k
  have := dp_items hx
  exact row_spec L n ((th_items h).2 x hx) (by omega) (by omega) k
end
end DL
set_option maxRecDepth 100000
set_option maxHeartbeats 1600000
open PySem L2 DL
namespace DL
open PySem L2
theorem eqv_str (a b : Str) : PyData.eqv (toP (.str a)) (toP (.str b)) = decide (b = a) := by
  simp only [toP, PyData.eqv]
  rw [Bool.beq_eq_decide_eq]
  by_cases h : a = b
  · simp [h]
  · rw [decide_eq_false h, decide_eq_false fun e => h e.symm]
theorem c_in2 {w a b : Str} : cmp2 .In (.str w) (.tup [.str a, .str b]) = some (decide (w = a ∨ w = b)) := by
  show some ([D.str a, .str b].any fun z => PyData.eqv (toP z) (toP (.str w))) = _
  simp only [List.any_cons, List.any_nil, eqv_str, Bool.or_false, Bool.decide_or]
theorem c_in3 {w a b c : Str} : cmp2 .In (.str w) (.tup [.str a, .str b, .str c]) = some (decide (w = a ∨ w = b ∨ w = c)) := by
  show some ([D.str a, .str b, .str c].any fun z => PyData.eqv (toP z) (toP (.str w))) = _
  simp only [List.any_cons, List.any_nil, eqv_str, Bool.or_false, Bool.decide_or]
theorem c_nin2 {w a b : Str} : cmp2 .NotIn (.str w) (.tup [.str a, .str b]) = some (!decide (w = a ∨ w = b)) := by
  show some (!([D.str a, .str b].any fun z => PyData.eqv (toP z) (toP (.str w)))) = _
  simp only [List.any_cons, List.any_nil, eqv_str, Bool.or_false, Bool.decide_or]
structure Rd2 (tab : List (Nat × Ent)) : Prop where
  nm : tabGet tab i_law_is_name = some (.comp d_law_is_name)
  er : tabGet tab i_law_is_error = some (.comp d_law_is_error)
  es : tabGet tab i_law_are_errors = some (.comp d_law_are_errors)
  ct : tabGet tab i_law_is_catch = some (.comp d_law_is_catch)
  ce : tabGet tab i_law_is_cell = some (.comp d_law_is_cell)
  rw : tabGet tab i_law_is_row = some (.comp d_law_is_row)
  rs : tabGet tab i_law_are_rows = some (.comp d_law_are_rows)
section
variable {tab : List (Nat × Ent)} {γ : List D} {n : Nat} {d : D} {M : MS} {Q : KR} {Z : KX}
theorem lname_spec (L : Rd2 tab) (h : Th 4000 d) (k : Q (.val (.bl (nameQ d))) M) : callN tab γ (n + 1) i_law_is_name [d] M Q Z := by
  rw [cn L.nm]
  refine ⟨rfl, ?_⟩
  unfold d_law_is_name b_law_is_name
  cases d with
  | str s =>
    have hs := th_strlen h
    simp? only [len_str (small_le (Nat.le_trans hs (by decide))), itemsD]
    refine ⟨fun h1 => kbl k ?_, fun h1 => ⟨fun h2 => kbl k ?_, fun h2 => ?_⟩⟩
    · simp only [nameQ]; rw [decide_eq_false (by omega)]; rfl
    · simp only [nameQ]; rw [decide_eq_false (p := (s.length : Int) ≤ 8) (by omega), Bool.and_false]; rfl
    · refine comp_filtA (fun c => D.str ⟨#[c]⟩) (fun c => D.str ⟨#[c]⟩) (fun c => !okN c) trivial (by rw [len_cps]; exact small_le (by omega)) (fun c hc acc kk hk => ?_) ?_
      · refine ⟨!okN c, rfl, ?_⟩
        cases e : okN c
        · rw [e] at hk; exact ⟨fun _ => hk, fun z => by simp at z⟩
        · rw [e] at hk; exact ⟨fun z => by simp at z, fun _ => hk⟩
      · simp? only [none_bad]
        exact kbl k (by simp only [nameQ]; rw [decide_eq_true (by omega), decide_eq_true (by omega)]; rfl)
  | obj a => exact absurd h.p (by simp [isP])
  | ty a => exact absurd h.p (by simp [isP])
  | scr a => exact absurd h.p (by simp [isP])
  | ins C ds => exact absurd h.p (by simp [isP])
  | dcT kvs => exact absurd h.p (by simp [isP])
  | exc a b C fs => exact absurd h.p (by simp [isP])
  | _ =>
    simp? only []
    exact k
theorem lerror_spec (L : Rd2 tab) (h : Th 4000 d) (k : Q (.val (.bl (errQ d))) M) : callN tab γ (n + 2) i_law_is_error [d] M Q Z := by
  rw [cn L.er]
  refine ⟨rfl, ?_⟩
  unfold d_law_is_error b_law_is_error
  simp? only []
  refine lname_spec L h ?_
  simp? only []
  refine ⟨fun h1 => ?_, fun h1 => kbl k (by simp [errQ, h1])⟩
  cases d with
  | str s => exact ⟨_, notin_outs, kbl k (by simp [errQ, h1])⟩
  | _ => cases h1
theorem lerrors_ok (L : Rd2 tab) (h : Th 4000 d) (k : Q (.val (.bl (errorsQ d))) M) : callN tab γ (n + 3) i_law_are_errors [d] M Q Z := by
  rw [cn L.es]
  refine ⟨rfl, ?_⟩
  unfold d_law_are_errors b_law_are_errors
  obtain ⟨hl, hx⟩ := th_items h
  simp? only [view_p h.p, isi_seq h.p]
  refine ⟨fun h1 => kbl k (by simp [errorsQ, h1]), fun h1 => ?_⟩
  simp? only [it_seq h1]
  refine comp_filtM id (fun x => !errQ x) trivial (by rw [sizeLine_eq]; omega) (fun x hx' acc kk hk => lerror_spec L (hx x hx') ?_) ?_
  · simp? only []
    cases e : errQ x
    · rw [e] at hk; exact ⟨fun _ => hk, fun z => by simp at z⟩
    · rw [e] at hk; exact ⟨fun z => by simp at z, fun _ => hk⟩
  · simp? only [none_bad]
    refine ⟨fun h2 => kbl k (by simp [errorsQ, h1, h2]), fun h2 => ?_⟩
    obtain ⟨e1, e2⟩ := strs_all_name h2
    simp? only [tx_seq h1, e1, l_seq h1]
    exact ⟨by omega, kbl k (by simp [errorsQ, h1, h2, diffQ])⟩
theorem lrows_by (L : Rd2 tab) (h : Th 4000 d) {p : D → Bool} (hp : ∀ x ∈ itemsQ d, ∀ {M : MS} {Q : KR} {Z : KX}, Q (.val (.bl (p x))) M → callN tab γ n i_law_is_row [x] M Q Z) (k : Q (.val (.bl (rowsQ p d))) M) : callN tab γ (n + 1) i_law_are_rows [d] M Q Z := by
  rw [cn L.rs]
  refine ⟨rfl, ?_⟩
  unfold d_law_are_rows b_law_are_rows
  obtain ⟨hl, hx⟩ := th_items h
  simp? only [view_p h.p, isi_seq h.p]
  refine ⟨fun h1 => ?_, fun h1 => kbl k (by simp [rowsQ, h1])⟩
  simp? only [it_seq h1]
  refine comp_filtM id (fun x => !p x) trivial (by rw [sizeLine_eq]; omega) (fun x hx' acc kk hk => hp x hx' ?_) ?_
  · simp? only []
    cases e : p x
    · rw [e] at hk; exact ⟨fun _ => hk, fun z => by simp at z⟩
    · rw [e] at hk; exact ⟨fun z => by simp at z, fun _ => hk⟩
  · simp? only [none_bad]
    exact kbl k (by simp [rowsQ, h1])
theorem lcatch_by (L : Rd2 tab) (h : Th 4000 d) {p : D → Bool} (hp : ∀ a b, d = .tup [a, b] → ∀ {M : MS} {Q : KR} {Z : KX}, Q (.val (.bl (rowsQ p b))) M → callN tab γ (n + 3) i_law_are_rows [b] M Q Z) (k : Q (.val (.bl (catchQ p d))) M) : callN tab γ (n + 4) i_law_is_catch [d] M Q Z := by
  rw [cn L.ct]
  refine ⟨rfl, ?_⟩
  unfold d_law_is_catch b_law_is_catch
  cases d with
  | tup xs =>
    simp? only []
    refine ⟨fun h1 => ?_, fun h1 => kbl k ?_⟩
    · match xs, h1 with
      | [a, b], _ =>
        have ha := (th_tup h).2 a (by simp)
        simp? only []
        refine lerrors_ok L ha ?_
        simp? only []
        refine ⟨fun h2 => hp a b rfl ?_, fun h2 => kbl k (by simp [catchQ, h2])⟩
        simp? only []
        exact kbl k (by simp [catchQ, h2])
      | [], h1 => simp at h1
      | [_], h1 => simp at h1
      | _ :: _ :: _ :: _, h1 => simp at h1; omega
    · rw [decide_eq_false h1]
      unfold catchQ
      split
      · rename_i a b e
        cases e
        simp at h1
      · rfl
  | obj a => exact absurd h.p (by simp [isP])
  | ty a => exact absurd h.p (by simp [isP])
  | scr a => exact absurd h.p (by simp [isP])
  | ins C ds => exact absurd h.p (by simp [isP])
  | dcT kvs => exact absurd h.p (by simp [isP])
  | exc a b C fs => exact absurd h.p (by simp [isP])
  | _ =>
    simp? only []
    exact k
theorem lcell_spec (L : Rd2 tab) (h : Th 4000 d) (k : Q (.val (.bl (cellQ d))) M) : callN tab γ (n + 2) i_law_is_cell [d] M Q Z := by
  rw [cn L.ce]
  refine ⟨rfl, ?_⟩
  unfold d_law_is_cell b_law_is_cell
  simp? only []
  refine lname_spec L h ?_
  simp? only [view_p h.p, isi_str h.p]
  refine ⟨fun h2 => kbl k (by simp [cellQ, h2]), fun h2 => ⟨fun h3 => ?_, fun h3 => ?_⟩⟩
  · cases d with
    | str s => simp? only []; exact kbl k (by simp [cellQ, h2])
    | _ => cases h3
  · exact kbl k (by unfold cellQ; rw [h2, h3]; cases d <;> first | rfl | cases h3)
end
end DL
set_option maxRecDepth 100000
set_option maxHeartbeats 1600000
open PySem L2 DL
namespace DL
open PySem L2
theorem wn_if_loop : ((Str.ofString "if" : Str) = Str.ofString "loop") = False := eq_false (by decide +kernel)
theorem wn_if_close : ((Str.ofString "if" : Str) = Str.ofString "close") = False := eq_false (by decide +kernel)
theorem wn_if_do : ((Str.ofString "if" : Str) = Str.ofString "do") = False := eq_false (by decide +kernel)
theorem wn_if_answer : ((Str.ofString "if" : Str) = Str.ofString "answer") = False := eq_false (by decide +kernel)
theorem wn_if_raise : ((Str.ofString "if" : Str) = Str.ofString "raise") = False := eq_false (by decide +kernel)
theorem wn_if_set : ((Str.ofString "if" : Str) = Str.ofString "set") = False := eq_false (by decide +kernel)
theorem wn_if_break : ((Str.ofString "if" : Str) = Str.ofString "break") = False := eq_false (by decide +kernel)
theorem wn_if_next : ((Str.ofString "if" : Str) = Str.ofString "next") = False := eq_false (by decide +kernel)
theorem wn_if_again : ((Str.ofString "if" : Str) = Str.ofString "again") = False := eq_false (by decide +kernel)
theorem wn_if_try : ((Str.ofString "if" : Str) = Str.ofString "try") = False := eq_false (by decide +kernel)
theorem wn_loop_if : ((Str.ofString "loop" : Str) = Str.ofString "if") = False := eq_false (by decide +kernel)
theorem wn_loop_close : ((Str.ofString "loop" : Str) = Str.ofString "close") = False := eq_false (by decide +kernel)
theorem wn_loop_do : ((Str.ofString "loop" : Str) = Str.ofString "do") = False := eq_false (by decide +kernel)
theorem wn_loop_answer : ((Str.ofString "loop" : Str) = Str.ofString "answer") = False := eq_false (by decide +kernel)
theorem wn_loop_raise : ((Str.ofString "loop" : Str) = Str.ofString "raise") = False := eq_false (by decide +kernel)
theorem wn_loop_set : ((Str.ofString "loop" : Str) = Str.ofString "set") = False := eq_false (by decide +kernel)
theorem wn_loop_break : ((Str.ofString "loop" : Str) = Str.ofString "break") = False := eq_false (by decide +kernel)
theorem wn_loop_next : ((Str.ofString "loop" : Str) = Str.ofString "next") = False := eq_false (by decide +kernel)
theorem wn_loop_again : ((Str.ofString "loop" : Str) = Str.ofString "again") = False := eq_false (by decide +kernel)
theorem wn_loop_try : ((Str.ofString "loop" : Str) = Str.ofString "try") = False := eq_false (by decide +kernel)
theorem wn_close_if : ((Str.ofString "close" : Str) = Str.ofString "if") = False := eq_false (by decide +kernel)
theorem wn_close_loop : ((Str.ofString "close" : Str) = Str.ofString "loop") = False := eq_false (by decide +kernel)
theorem wn_close_do : ((Str.ofString "close" : Str) = Str.ofString "do") = False := eq_false (by decide +kernel)
theorem wn_close_answer : ((Str.ofString "close" : Str) = Str.ofString "answer") = False := eq_false (by decide +kernel)
theorem wn_close_raise : ((Str.ofString "close" : Str) = Str.ofString "raise") = False := eq_false (by decide +kernel)
theorem wn_close_set : ((Str.ofString "close" : Str) = Str.ofString "set") = False := eq_false (by decide +kernel)
theorem wn_close_break : ((Str.ofString "close" : Str) = Str.ofString "break") = False := eq_false (by decide +kernel)
theorem wn_close_next : ((Str.ofString "close" : Str) = Str.ofString "next") = False := eq_false (by decide +kernel)
theorem wn_close_again : ((Str.ofString "close" : Str) = Str.ofString "again") = False := eq_false (by decide +kernel)
theorem wn_close_try : ((Str.ofString "close" : Str) = Str.ofString "try") = False := eq_false (by decide +kernel)
theorem wn_do_if : ((Str.ofString "do" : Str) = Str.ofString "if") = False := eq_false (by decide +kernel)
theorem wn_do_loop : ((Str.ofString "do" : Str) = Str.ofString "loop") = False := eq_false (by decide +kernel)
theorem wn_do_close : ((Str.ofString "do" : Str) = Str.ofString "close") = False := eq_false (by decide +kernel)
theorem wn_do_answer : ((Str.ofString "do" : Str) = Str.ofString "answer") = False := eq_false (by decide +kernel)
theorem wn_do_raise : ((Str.ofString "do" : Str) = Str.ofString "raise") = False := eq_false (by decide +kernel)
theorem wn_do_set : ((Str.ofString "do" : Str) = Str.ofString "set") = False := eq_false (by decide +kernel)
theorem wn_do_break : ((Str.ofString "do" : Str) = Str.ofString "break") = False := eq_false (by decide +kernel)
theorem wn_do_next : ((Str.ofString "do" : Str) = Str.ofString "next") = False := eq_false (by decide +kernel)
theorem wn_do_again : ((Str.ofString "do" : Str) = Str.ofString "again") = False := eq_false (by decide +kernel)
theorem wn_do_try : ((Str.ofString "do" : Str) = Str.ofString "try") = False := eq_false (by decide +kernel)
theorem wn_answer_if : ((Str.ofString "answer" : Str) = Str.ofString "if") = False := eq_false (by decide +kernel)
theorem wn_answer_loop : ((Str.ofString "answer" : Str) = Str.ofString "loop") = False := eq_false (by decide +kernel)
theorem wn_answer_close : ((Str.ofString "answer" : Str) = Str.ofString "close") = False := eq_false (by decide +kernel)
theorem wn_answer_do : ((Str.ofString "answer" : Str) = Str.ofString "do") = False := eq_false (by decide +kernel)
theorem wn_answer_raise : ((Str.ofString "answer" : Str) = Str.ofString "raise") = False := eq_false (by decide +kernel)
theorem wn_answer_set : ((Str.ofString "answer" : Str) = Str.ofString "set") = False := eq_false (by decide +kernel)
theorem wn_answer_break : ((Str.ofString "answer" : Str) = Str.ofString "break") = False := eq_false (by decide +kernel)
theorem wn_answer_next : ((Str.ofString "answer" : Str) = Str.ofString "next") = False := eq_false (by decide +kernel)
theorem wn_answer_again : ((Str.ofString "answer" : Str) = Str.ofString "again") = False := eq_false (by decide +kernel)
theorem wn_answer_try : ((Str.ofString "answer" : Str) = Str.ofString "try") = False := eq_false (by decide +kernel)
theorem wn_raise_if : ((Str.ofString "raise" : Str) = Str.ofString "if") = False := eq_false (by decide +kernel)
theorem wn_raise_loop : ((Str.ofString "raise" : Str) = Str.ofString "loop") = False := eq_false (by decide +kernel)
theorem wn_raise_close : ((Str.ofString "raise" : Str) = Str.ofString "close") = False := eq_false (by decide +kernel)
theorem wn_raise_do : ((Str.ofString "raise" : Str) = Str.ofString "do") = False := eq_false (by decide +kernel)
theorem wn_raise_answer : ((Str.ofString "raise" : Str) = Str.ofString "answer") = False := eq_false (by decide +kernel)
theorem wn_raise_set : ((Str.ofString "raise" : Str) = Str.ofString "set") = False := eq_false (by decide +kernel)
theorem wn_raise_break : ((Str.ofString "raise" : Str) = Str.ofString "break") = False := eq_false (by decide +kernel)
theorem wn_raise_next : ((Str.ofString "raise" : Str) = Str.ofString "next") = False := eq_false (by decide +kernel)
theorem wn_raise_again : ((Str.ofString "raise" : Str) = Str.ofString "again") = False := eq_false (by decide +kernel)
theorem wn_raise_try : ((Str.ofString "raise" : Str) = Str.ofString "try") = False := eq_false (by decide +kernel)
theorem wn_set_if : ((Str.ofString "set" : Str) = Str.ofString "if") = False := eq_false (by decide +kernel)
theorem wn_set_loop : ((Str.ofString "set" : Str) = Str.ofString "loop") = False := eq_false (by decide +kernel)
theorem wn_set_close : ((Str.ofString "set" : Str) = Str.ofString "close") = False := eq_false (by decide +kernel)
theorem wn_set_do : ((Str.ofString "set" : Str) = Str.ofString "do") = False := eq_false (by decide +kernel)
theorem wn_set_answer : ((Str.ofString "set" : Str) = Str.ofString "answer") = False := eq_false (by decide +kernel)
theorem wn_set_raise : ((Str.ofString "set" : Str) = Str.ofString "raise") = False := eq_false (by decide +kernel)
theorem wn_set_break : ((Str.ofString "set" : Str) = Str.ofString "break") = False := eq_false (by decide +kernel)
theorem wn_set_next : ((Str.ofString "set" : Str) = Str.ofString "next") = False := eq_false (by decide +kernel)
theorem wn_set_again : ((Str.ofString "set" : Str) = Str.ofString "again") = False := eq_false (by decide +kernel)
theorem wn_set_try : ((Str.ofString "set" : Str) = Str.ofString "try") = False := eq_false (by decide +kernel)
theorem wn_break_if : ((Str.ofString "break" : Str) = Str.ofString "if") = False := eq_false (by decide +kernel)
theorem wn_break_loop : ((Str.ofString "break" : Str) = Str.ofString "loop") = False := eq_false (by decide +kernel)
theorem wn_break_close : ((Str.ofString "break" : Str) = Str.ofString "close") = False := eq_false (by decide +kernel)
theorem wn_break_do : ((Str.ofString "break" : Str) = Str.ofString "do") = False := eq_false (by decide +kernel)
theorem wn_break_answer : ((Str.ofString "break" : Str) = Str.ofString "answer") = False := eq_false (by decide +kernel)
theorem wn_break_raise : ((Str.ofString "break" : Str) = Str.ofString "raise") = False := eq_false (by decide +kernel)
theorem wn_break_set : ((Str.ofString "break" : Str) = Str.ofString "set") = False := eq_false (by decide +kernel)
theorem wn_break_next : ((Str.ofString "break" : Str) = Str.ofString "next") = False := eq_false (by decide +kernel)
theorem wn_break_again : ((Str.ofString "break" : Str) = Str.ofString "again") = False := eq_false (by decide +kernel)
theorem wn_break_try : ((Str.ofString "break" : Str) = Str.ofString "try") = False := eq_false (by decide +kernel)
theorem wn_next_if : ((Str.ofString "next" : Str) = Str.ofString "if") = False := eq_false (by decide +kernel)
theorem wn_next_loop : ((Str.ofString "next" : Str) = Str.ofString "loop") = False := eq_false (by decide +kernel)
theorem wn_next_close : ((Str.ofString "next" : Str) = Str.ofString "close") = False := eq_false (by decide +kernel)
theorem wn_next_do : ((Str.ofString "next" : Str) = Str.ofString "do") = False := eq_false (by decide +kernel)
theorem wn_next_answer : ((Str.ofString "next" : Str) = Str.ofString "answer") = False := eq_false (by decide +kernel)
theorem wn_next_raise : ((Str.ofString "next" : Str) = Str.ofString "raise") = False := eq_false (by decide +kernel)
theorem wn_next_set : ((Str.ofString "next" : Str) = Str.ofString "set") = False := eq_false (by decide +kernel)
theorem wn_next_break : ((Str.ofString "next" : Str) = Str.ofString "break") = False := eq_false (by decide +kernel)
theorem wn_next_again : ((Str.ofString "next" : Str) = Str.ofString "again") = False := eq_false (by decide +kernel)
theorem wn_next_try : ((Str.ofString "next" : Str) = Str.ofString "try") = False := eq_false (by decide +kernel)
theorem wn_again_if : ((Str.ofString "again" : Str) = Str.ofString "if") = False := eq_false (by decide +kernel)
theorem wn_again_loop : ((Str.ofString "again" : Str) = Str.ofString "loop") = False := eq_false (by decide +kernel)
theorem wn_again_close : ((Str.ofString "again" : Str) = Str.ofString "close") = False := eq_false (by decide +kernel)
theorem wn_again_do : ((Str.ofString "again" : Str) = Str.ofString "do") = False := eq_false (by decide +kernel)
theorem wn_again_answer : ((Str.ofString "again" : Str) = Str.ofString "answer") = False := eq_false (by decide +kernel)
theorem wn_again_raise : ((Str.ofString "again" : Str) = Str.ofString "raise") = False := eq_false (by decide +kernel)
theorem wn_again_set : ((Str.ofString "again" : Str) = Str.ofString "set") = False := eq_false (by decide +kernel)
theorem wn_again_break : ((Str.ofString "again" : Str) = Str.ofString "break") = False := eq_false (by decide +kernel)
theorem wn_again_next : ((Str.ofString "again" : Str) = Str.ofString "next") = False := eq_false (by decide +kernel)
theorem wn_again_try : ((Str.ofString "again" : Str) = Str.ofString "try") = False := eq_false (by decide +kernel)
theorem wn_try_if : ((Str.ofString "try" : Str) = Str.ofString "if") = False := eq_false (by decide +kernel)
theorem wn_try_loop : ((Str.ofString "try" : Str) = Str.ofString "loop") = False := eq_false (by decide +kernel)
theorem wn_try_close : ((Str.ofString "try" : Str) = Str.ofString "close") = False := eq_false (by decide +kernel)
theorem wn_try_do : ((Str.ofString "try" : Str) = Str.ofString "do") = False := eq_false (by decide +kernel)
theorem wn_try_answer : ((Str.ofString "try" : Str) = Str.ofString "answer") = False := eq_false (by decide +kernel)
theorem wn_try_raise : ((Str.ofString "try" : Str) = Str.ofString "raise") = False := eq_false (by decide +kernel)
theorem wn_try_set : ((Str.ofString "try" : Str) = Str.ofString "set") = False := eq_false (by decide +kernel)
theorem wn_try_break : ((Str.ofString "try" : Str) = Str.ofString "break") = False := eq_false (by decide +kernel)
theorem wn_try_next : ((Str.ofString "try" : Str) = Str.ofString "next") = False := eq_false (by decide +kernel)
theorem wn_try_again : ((Str.ofString "try" : Str) = Str.ofString "again") = False := eq_false (by decide +kernel)
/-- words of rows differ -/
def WNB := And.intro @wn_if_loop (And.intro @wn_if_close (And.intro @wn_if_do (And.intro @wn_if_answer (And.intro @wn_if_raise (And.intro @wn_if_set (And.intro @wn_if_break (And.intro @wn_if_next (And.intro @wn_if_again (And.intro @wn_if_try (And.intro @wn_loop_if (And.intro @wn_loop_close (And.intro @wn_loop_do (And.intro @wn_loop_answer (And.intro @wn_loop_raise (And.intro @wn_loop_set (And.intro @wn_loop_break (And.intro @wn_loop_next (And.intro @wn_loop_again (And.intro @wn_loop_try (And.intro @wn_close_if (And.intro @wn_close_loop (And.intro @wn_close_do (And.intro @wn_close_answer (And.intro @wn_close_raise (And.intro @wn_close_set (And.intro @wn_close_break (And.intro @wn_close_next (And.intro @wn_close_again (And.intro @wn_close_try (And.intro @wn_do_if (And.intro @wn_do_loop (And.intro @wn_do_close (And.intro @wn_do_answer (And.intro @wn_do_raise (And.intro @wn_do_set (And.intro @wn_do_break (And.intro @wn_do_next (And.intro @wn_do_again (And.intro @wn_do_try (And.intro @wn_answer_if (And.intro @wn_answer_loop (And.intro @wn_answer_close (And.intro @wn_answer_do (And.intro @wn_answer_raise (And.intro @wn_answer_set (And.intro @wn_answer_break (And.intro @wn_answer_next (And.intro @wn_answer_again (And.intro @wn_answer_try (And.intro @wn_raise_if (And.intro @wn_raise_loop (And.intro @wn_raise_close (And.intro @wn_raise_do (And.intro @wn_raise_answer (And.intro @wn_raise_set (And.intro @wn_raise_break (And.intro @wn_raise_next (And.intro @wn_raise_again (And.intro @wn_raise_try (And.intro @wn_set_if (And.intro @wn_set_loop (And.intro @wn_set_close (And.intro @wn_set_do (And.intro @wn_set_answer (And.intro @wn_set_raise (And.intro @wn_set_break (And.intro @wn_set_next (And.intro @wn_set_again (And.intro @wn_set_try (And.intro @wn_break_if (And.intro @wn_break_loop (And.intro @wn_break_close (And.intro @wn_break_do (And.intro @wn_break_answer (And.intro @wn_break_raise (And.intro @wn_break_set (And.intro @wn_break_next (And.intro @wn_break_again (And.intro @wn_break_try (And.intro @wn_next_if (And.intro @wn_next_loop (And.intro @wn_next_close (And.intro @wn_next_do (And.intro @wn_next_answer (And.intro @wn_next_raise (And.intro @wn_next_set (And.intro @wn_next_break (And.intro @wn_next_again (And.intro @wn_next_try (And.intro @wn_again_if (And.intro @wn_again_loop (And.intro @wn_again_close (And.intro @wn_again_do (And.intro @wn_again_answer (And.intro @wn_again_raise (And.intro @wn_again_set (And.intro @wn_again_break (And.intro @wn_again_next (And.intro @wn_again_try (And.intro @wn_try_if (And.intro @wn_try_loop (And.intro @wn_try_close (And.intro @wn_try_do (And.intro @wn_try_answer (And.intro @wn_try_raise (And.intro @wn_try_set (And.intro @wn_try_break (And.intro @wn_try_next (@wn_try_again)))))))))))))))))))))))))))))))))))))))))))))))))))))))))))))))))))))))))))))))))))))))))))))))))))))))))))))
section
variable {f : Nat} {r : List D}
theorem rq_one {w : Str} (h : w = "break" ∨ w = "next" ∨ w = "again") : rowQ (f + 1) (.tup (.str w :: r)) = decide (((r.length + 1 : Nat) : Int) = 1) := by
  have e : ∀ x : Bool, (if x = true then false else false) = false := fun x => by cases x <;> rfl
  rcases h with rfl | rfl | rfl <;> simp [rowQ, calledQ, doQ, leavingQ, tryQ, WNB]
theorem rq_bad {w : Str} (h : ∀ m : Int, m = 1 ∨ m = 2 ∨ m = 3 ∨ m = 4 ∨ m = 5 → ((r.length + 1 : Nat) : Int) = m → (m = 1 → w ≠ "break" ∧ w ≠ "next" ∧ w ≠ "again") ∧ (m = 2 → w ≠ "answer" ∧ w ≠ "raise") ∧ (m = 3 → w ≠ "set") ∧ (m = 4 → w ≠ "if" ∧ w ≠ "loop" ∧ w ≠ "close") ∧ (m = 5 → w ≠ "do" ∧ w ≠ "try")) : rowQ (f + 1) (.tup (.str w :: r)) = false := by
  have no : ∀ (w' : Str) (m : Int), (((r.length + 1 : Nat) : Int) = m → w ≠ w') → calledQ (.tup (.str w :: r)) w' m = false := fun w' m hh => by
    unfold calledQ
    simp only
    by_cases e : ((r.length : Int) + 1 = m)
    · rw [decide_eq_false (hh (by omega)), Bool.and_false]
    · rw [decide_eq_false e, Bool.false_and]
  have n1 := fun e => (h 1 (by simp) e).1 rfl
  have n2 := fun e => (h 2 (by simp) e).2.1 rfl
  have n3 := fun e => (h 3 (by simp) e).2.2.1 rfl
  have n4 := fun e => (h 4 (by simp) e).2.2.2.1 rfl
  have n5 := fun e => (h 5 (by simp) e).2.2.2.2 rfl
  have a1 := no "break" 1 fun e => (n1 e).1
  have a2 := no "next" 1 fun e => (n1 e).2.1
  have a3 := no "again" 1 fun e => (n1 e).2.2
  have a4 := no "answer" 2 fun e => (n2 e).1
  have a5 := no "raise" 2 fun e => (n2 e).2
  have a6 := no "set" 3 fun e => n3 e
  have a7 := no "if" 4 fun e => (n4 e).1
  have a8 := no "loop" 4 fun e => (n4 e).2.1
  have a9 := no "close" 4 fun e => (n4 e).2.2
  have a10 := no "do" 5 fun e => (n5 e).1
  have a11 := no "try" 5 fun e => (n5 e).2
  simp [rowQ, doQ, leavingQ, tryQ, a1, a2, a3, a4, a5, a6, a7, a8, a9, a10, a11]
theorem rq_answer {a : D} : rowQ (f + 1) (.tup [.str "answer", a]) = cellQ a := by simp [rowQ, calledQ, doQ, leavingQ, tryQ, WNB]
theorem rq_raise {a : D} : rowQ (f + 1) (.tup [.str "raise", a]) = errQ a := by simp [rowQ, calledQ, doQ, leavingQ, tryQ, WNB]
theorem rq_set {a b : D} : rowQ (f + 1) (.tup [.str "set", a, b]) = (nameQ a && nameQ b) := by simp [rowQ, calledQ, doQ, leavingQ, tryQ, WNB]
theorem rq_if {w : Str} {a b c : D} (h : w = "if" ∨ w = "loop") : rowQ (f + 1) (.tup [.str w, a, b, c]) = (nameQ a && rowsQ (rowQ f) b && rowsQ (rowQ f) c) := by
  rcases h with rfl | rfl <;> simp [rowQ, calledQ, ifQ, WNB]
theorem rq_close {a b c : D} : rowQ (f + 1) (.tup [.str "close", a, b, c]) = (nameQ a && errorsQ b && rowsQ (rowQ f) c) := by simp [rowQ, calledQ, closeQ, WNB]
theorem rq_do {a b c e : D} : rowQ (f + 1) (.tup [.str "do", a, b, c, e]) = (cellQ a && nameQ b && namesQ 3 c && errorsQ e) := by simp [rowQ, calledQ, doQ, leavingQ, tryQ, WNB]
theorem rq_try {a b c e : D} : rowQ (f + 1) (.tup [.str "try", a, b, c, e]) = (seqQ b && (itemsQ b).all (catchQ (rowQ f)) && rowsQ (rowQ f) a && rowsQ (rowQ f) c && rowsQ (rowQ f) e) := by simp [rowQ, calledQ, doQ, leavingQ, tryQ, WNB]
end
section
variable {tab : List (Nat × Ent)} {γ : List D} {n : Nat} {d : D} {M : MS} {Q : KR} {Z : KX}
theorem lrow_by (L : Rd2 tab) (h : Th 4000 d) {p : D → Bool} {f : Nat} (hp : ∀ r x, d = .tup r → x ∈ r → ∀ {M : MS} {Q : KR} {Z : KX}, Q (.val (.bl (rowsQ (rowQ f) x))) M → callN tab γ (n + 4) i_law_are_rows [x] M Q Z)
    (hc : ∀ r b x, d = .tup r → b ∈ r → x ∈ itemsQ b → ∀ {M : MS} {Q : KR} {Z : KX}, Q (.val (.bl (catchQ (rowQ f) x))) M → callN tab γ (n + 4) i_law_is_catch [x] M Q Z) (k : Q (.val (.bl (rowQ (f + 1) d))) M) : callN tab γ (n + 5) i_law_is_row [d] M Q Z := by
  rw [cn L.rw]
  refine ⟨rfl, ?_⟩
  unfold d_law_is_row b_law_is_row
  cases d with
  | tup xs =>
    cases xs with
    | nil =>
      (refine x_cons ?_; simp_all? only [List.isEmpty_nil])
      simp? only []
      exact kbl k (by rfl)
    | cons x r =>
      have hx := ((th_tup h).2 x (by simp)).p
      cases x with
      | obj a => exact absurd hx (by simp [isP])
      | ty a => exact absurd hx (by simp [isP])
      | scr a => exact absurd hx (by simp [isP])
      | ins C ds => exact absurd hx (by simp [isP])
      | dcT kvs => exact absurd hx (by simp [isP])
      | exc a b C fs => exact absurd hx (by simp [isP])
      | str w =>
        clear hx
        (refine x_cons ?_; simp_all? only [List.isEmpty_cons])
        have lens : ∀ m : Int, ((r.length + 1 : Nat) : Int) = m → (r.length : Int) + 1 = m := fun m e => by omega
        (refine x_cons ?_; simp_all? only [])
        (refine x_cons ?_; simp_all? only [c_in3])
        refine ⟨fun h1 => ?_, fun h1 => ?_⟩
        · simp? only []
          exact kbl k (rq_one h1)
        (refine x_cons ?_; simp_all? only [])
        have ans : (w = "answer" ∨ w = "raise") → (((r.length + 1 : Nat) : Int) = 2 → (w = "answer" → ∃ d, atI (.str w :: r) 1 = some d ∧ callN tab γ (n + 4) 29 [d] M (retR M Q) fun x M1 => Z x (restrict M M1)) ∧ (¬ w = "answer" → ∃ d, atI (.str w :: r) 1 = some d ∧ callN tab γ (n + 4) 25 [d] M (retR M Q) fun x M1 => Z x (restrict M M1))) ∧
            (¬ ((r.length + 1 : Nat) : Int) = 2 → Q (.val (.bl (decide (((r.length + 1 : Nat) : Int) = 2)))) M) := fun hw => by
          refine ⟨fun h2 => ?_, fun h2 => kbl k ?_⟩
          · obtain ⟨a, rfl⟩ := len1 (lens _ h2)
            have ha := (th_tup h).2 a (by simp)
            refine ⟨fun e => ?_, fun e => ?_⟩
            · subst e
              simp? only []
              refine lcell_spec L ha ?_
              simp? only []
              exact kbl k rq_answer
            · obtain rfl : w = "raise" := hw.resolve_left e
              simp? only []
              refine lerror_spec L ha ?_
              simp? only []
              exact kbl k rq_raise
          · rw [decide_eq_false h2]
            refine rq_bad fun m hm e => ⟨fun z => ?_, fun z => absurd (z ▸ e) h2, fun z => ?_, fun z => ?_, fun z => ?_⟩ <;> rcases hw with rfl | rfl <;> simp [WNB]
        refine ⟨fun h2 => ?_, fun h2 => ⟨fun h3 => ?_, fun h3 => ?_⟩⟩
        · simp? only []
          exact ans (.inl h2)
        · simp? only []
          exact ans (.inr h3)
        (refine x_cons ?_; simp_all? only [])
        refine ⟨fun h4 => ?_, fun h4 => ?_⟩
        · subst h4
          simp? only []
          refine ⟨fun h5 => ?_, fun h5 => kbl k ?_⟩
          · obtain ⟨a, b, rfl⟩ := len2 (lens _ h5)
            have ha := (th_tup h).2 a (by simp)
            have hb := (th_tup h).2 b (by simp)
            simp? only []
            refine lname_spec L ha ?_
            simp? only []
            refine ⟨fun h6 => lname_spec L hb ?_, fun h6 => kbl k (by rw [rq_set, h6]; rfl)⟩
            simp? only []
            exact kbl k (by rw [rq_set, h6]; rfl)
          · rw [decide_eq_false h5]
            exact rq_bad fun m hm e => ⟨fun z => (by simp [WNB]), fun z => (by simp [WNB]), fun z => absurd (z ▸ e) h5, fun z => (by simp [WNB]), fun z => (by simp [WNB])⟩
        (refine x_cons ?_; simp_all? only [])
        have ifs : (w = "if" ∨ w = "loop") → (((r.length + 1 : Nat) : Int) = 4 → ∃ d, atI (.str w :: r) 1 = some d ∧ callN tab γ (n + 4) 24 [d] M (fun x M1 => ∃ k, truthD (view M1 x.toD) = some k ∧ (k = true → ∃ d, atI (.str w :: r) 2 = some d ∧ callN tab γ (n + 4) 27 [d] M1 (fun x M1 => ∃ k, truthD (view M1 x.toD) = some k ∧ (k = true → ∃ d, atI (.str w :: r) 3 = some d ∧ callN tab γ (n + 4) 27 [d] M1 (retR M Q) fun x M1 => Z x (restrict M M1)) ∧ (k = false → retR M Q (.val x.toD) M1)) fun x M1 => Z x (restrict M M1)) ∧ (k = false → retR M Q (.val x.toD) M1)) fun x M1 => Z x (restrict M M1)) ∧
            (¬ ((r.length + 1 : Nat) : Int) = 4 → Q (.val (.bl (decide (((r.length + 1 : Nat) : Int) = 4)))) M) := fun hw => by
          refine ⟨fun h5 => ?_, fun h5 => kbl k ?_⟩
          · obtain ⟨a, b, c, rfl⟩ := len3 (lens _ h5)
            have ha := (th_tup h).2 a (by simp)
            simp? only []
            refine lname_spec L ha ?_
            simp? only []
            refine ⟨fun h6 => hp _ b rfl (by simp) ?_, fun h6 => kbl k (by rw [rq_if hw, h6]; rfl)⟩
            simp? only []
            refine ⟨fun h7 => hp _ c rfl (by simp) ?_, fun h7 => kbl k (by rw [rq_if hw, h6, h7]; rfl)⟩
            simp? only []
            exact kbl k (by rw [rq_if hw, h6, h7]; rfl)
          · rw [decide_eq_false h5]
            refine rq_bad fun m hm e => ⟨fun z => ?_, fun z => ?_, fun z => ?_, fun z => absurd (z ▸ e) h5, fun z => ?_⟩ <;> rcases hw with rfl | rfl <;> simp [WNB]
        refine ⟨fun h5 => ?_, fun h5 => ⟨fun h6 => ?_, fun h6 => ?_⟩⟩
        · simp? only []
          exact ifs (.inl h5)
        · simp? only []
          exact ifs (.inr h6)
        (refine x_cons ?_; simp_all? only [])
        refine ⟨fun h7 => ?_, fun h7 => ?_⟩
        · subst h7
          simp? only []
          refine ⟨fun h8 => ?_, fun h8 => kbl k ?_⟩
          · obtain ⟨a, b, c, rfl⟩ := len3 (lens _ h8)
            have ha := (th_tup h).2 a (by simp)
            have hb := (th_tup h).2 b (by simp)
            simp? only []
            refine lname_spec L ha ?_
            simp? only []
            refine ⟨fun h9 => lerrors_ok L hb ?_, fun h9 => kbl k (by rw [rq_close, h9]; rfl)⟩
            simp? only []
            refine ⟨fun h10 => hp _ c rfl (by simp) ?_, fun h10 => kbl k (by rw [rq_close, h9, h10]; rfl)⟩
            simp? only []
            exact kbl k (by rw [rq_close, h9, h10]; rfl)
          · rw [decide_eq_false h8]
            exact rq_bad fun m hm e => ⟨fun z => (by simp [WNB]), fun z => (by simp [WNB]), fun z => (by simp [WNB]), fun z => absurd (z ▸ e) h8, fun z => (by simp [WNB])⟩
        (refine x_cons ?_; simp_all? only [c_nin2])
        have h1' := not_or.mp h1
        have bad : (¬ ((r.length + 1 : Nat) : Int) = 5 ∨ ¬ (w = "do" ∨ w = "try")) → rowQ (f + 1) (.tup (.str w :: r)) = false := fun hb => by
          refine rq_bad fun m hm e => ⟨fun z => ⟨h1'.1, not_or.mp h1'.2⟩, fun z => ⟨h2, h3⟩, fun z => h4, fun z => ⟨h5, h6, h7⟩, fun z => ?_⟩
          rcases hb with hb | hb
          · exact absurd (z ▸ e) hb
          · exact not_or.mp hb
        refine ⟨fun h8 => ?_, fun h8 => ⟨fun h9 => ?_, fun h9 => ?_⟩⟩
        · simp? only []
          exact kbl k (bad (.inl h8))
        · simp? only []
          exact kbl k (bad (.inr h9))
        obtain ⟨a, b, c, e, rfl⟩ := len4 (lens _ h8)
        have ha := (th_tup h).2 a (by simp)
        have hb := (th_tup h).2 b (by simp)
        have hc' := (th_tup h).2 c (by simp)
        have he := (th_tup h).2 e (by simp)
        (refine x_cons ?_; simp_all? only [])
        refine ⟨fun h10 => ?_, fun h10 => ?_⟩
        · subst h10
          (refine x_cons ?_; simp_all? only [])
          (refine x_cons ?_; simp_all? only [view_p hc'.p, isi_seq hc'.p])
          refine ⟨fun h11 => ?_, fun h11 => ?_⟩
          · simp? only []
            exact kbl k (by rw [rq_do, namesQ, h11]; simp)
          simp_all? only [l_seq h11]
          refine ⟨fun h12 => ?_, fun h12 => ?_⟩
          · simp? only []
            exact kbl k (by rw [rq_do, namesQ, decide_eq_false (by omega)]; simp)
          have nq : namesQ 3 c = (itemsQ c).all nameQ := by simp only [namesQ, h11, decide_eq_true (show ((itemsQ c).length : Int) ≤ 3 by omega), Bool.true_and]
          (refine x_cons ?_; simp_all? only [view_p hc'.p, it_seq h11])
          refine comp_filtM id (fun x => !nameQ x) trivial (by rw [sizeLine_eq]; omega) (fun x hx' acc kk hk => lname_spec L ((th_items hc').2 x hx') ?_) ?_
          · simp? only []
            cases e : nameQ x
            · rw [e] at hk; exact ⟨fun _ => hk, fun z => by simp at z⟩
            · rw [e] at hk; exact ⟨fun z => by simp at z, fun _ => hk⟩
          simp? only [none_bad]
          refine ⟨fun h13 => lcell_spec L ha ?_, fun h13 => ?_⟩
          · simp? only []
            refine ⟨fun h14 => lname_spec L hb ?_, fun h14 => kbl k (by rw [rq_do, h14]; rfl)⟩
            simp? only []
            refine ⟨fun h15 => lerrors_ok L he ?_, fun h15 => kbl k (by rw [rq_do, h15]; simp)⟩
            simp? only []
            exact kbl k (by rw [rq_do, h14, h15, nq, h13]; simp)
          · simp? only [h13]
            exact kbl k (by rw [rq_do, nq, h13]; simp)
        obtain rfl : w = "try" := h9.resolve_left h10
        (refine x_cons ?_; simp_all? only [view_p hb.p, isi_seq hb.p])
        refine ⟨fun h11 => ?_, fun h11 => ?_⟩
        · simp? only []
          exact kbl k (by rw [rq_try, h11]; simp)
        simp_all? only [it_seq h11]
        refine comp_filtM id (fun x => !catchQ (rowQ f) x) trivial (by have := (th_items hb).1; rw [sizeLine_eq]; omega) (fun x hx' acc kk hk => hc _ b x rfl (by simp) hx' ?_) ?_
        · simp? only []
          cases e : catchQ (rowQ f) x
          · rw [e] at hk; exact ⟨fun _ => hk, fun z => by simp at z⟩
          · rw [e] at hk; exact ⟨fun z => by simp at z, fun _ => hk⟩
        simp_all? only [none_bad]
        refine ⟨fun h12 => ?_, fun h12 => ?_⟩
        · simp? only []
          exact kbl k (by rw [rq_try, h12]; simp)
        simp? only []
        refine hp _ a rfl (by simp) ?_
        simp? only []
        refine ⟨fun h13 => hp _ c rfl (by simp) ?_, fun h13 => kbl k (by rw [rq_try, h13]; simp)⟩
        simp? only []
        refine ⟨fun h14 => hp _ e rfl (by simp) ?_, fun h14 => kbl k (by rw [rq_try, h14]; simp)⟩
        simp? only []
        exact kbl k (by rw [rq_try, h11, h12, h13, h14]; simp)
      | _ =>
        (refine x_cons ?_; simp_all? only [List.isEmpty_cons])
        simp? only []
        exact k
  | obj a => exact absurd h.p (by simp [isP])
  | ty a => exact absurd h.p (by simp [isP])
  | scr a => exact absurd h.p (by simp [isP])
  | ins C ds => exact absurd h.p (by simp [isP])
  | dcT kvs => exact absurd h.p (by simp [isP])
  | exc a b C fs => exact absurd h.p (by simp [isP])
  | _ =>
    (refine x_cons ?_; simp_all? only [])
    simp? only []
    exact k
theorem lrow_spec (L : Rd2 tab) : ∀ (n : Nat) {d : D} {F : Nat} {M : MS} {Q : KR} {Z : KX}, Th 4000 d → dpD d ≤ F → 2 * dpD d + 6 ≤ n → Q (.val (.bl (rowQ (F + 1) d))) M → callN tab γ n i_law_is_row [d] M Q Z := by
  intro n
  induction n using Nat.strongRecOn with
  | ind n ih =>
    intro d F M Q Z h hF hn k
    obtain ⟨m, rfl⟩ : ∃ m, n = m + 5 := ⟨n - 5, by omega⟩
    have down : ∀ {x : D} {j : Nat}, Th 4000 x → j < m + 5 → dpD x + 2 ≤ dpD d → 2 * dpD x + 6 ≤ j → ∀ {M : MS} {Q : KR} {Z : KX}, Q (.val (.bl (rowQ F x))) M → callN tab γ j i_law_is_row [x] M Q Z := fun {x j} hx hj hd hn' {M Q Z} k2 => by
      obtain ⟨F', rfl⟩ : ∃ F', F = F' + 1 := ⟨F - 1, by omega⟩
      exact ih j hj hx (by omega) hn' k2
    refine lrow_by L h (p := fun _ => true) (fun r x e hx {M Q Z} k2 => ?_) (fun r b x e hb hx {M Q Z} k2 => ?_) k
    · subst e
      have hx' := (th_tup h).2 x hx
      refine lrows_by L hx' (p := rowQ F) (fun y hy {M Q Z} k3 => ?_) k2
      have hd := dp_part hx hy
      exact down ((th_items hx').2 y hy) (by omega) (by omega) (by omega) k3
    · subst e
      have hx' := (th_items ((th_tup h).2 b hb)).2 x hx
      have hd := dp_part hb hx
      refine lcatch_by L hx' (p := rowQ F) (fun u v e {M Q Z} k3 => ?_) k2
      subst e
      have hv := (th_tup hx').2 v (by simp)
      refine lrows_by L hv (p := rowQ F) (fun y hy {M Q Z} k4 => ?_) k3
      have hd2 := dp_part (r := [u, v]) (x := v) (by simp) hy
      exact down ((th_items hv).2 y hy) (by omega) (by omega) (by omega) k4
theorem lrows_spec (L : Rd2 tab) {F : Nat} (h : Th 4000 d) (hF : dpD d ≤ F + 1) (hn : 2 * dpD d + 5 ≤ n) (k : Q (.val (.bl (rowsQ (rowQ (F + 1)) d))) M) : callN tab γ (n + 1) i_law_are_rows [d] M Q Z := by
  refine lrows_by L h (fun x hx {M Q Z} k => ?_) k
  have := dp_items hx
  exact lrow_spec L n ((th_items h).2 x hx) (by omega) (by omega) k
end
end DL
set_option maxRecDepth 100000
set_option maxHeartbeats 1600000
open PySem L2 DL
namespace DL
open PySem L2
/-! ### what is drawn -/
structure Gn (tab : List (Nat × Ent)) : Prop where
  tk : tabGet tab i_law_take = some (.prim phTake)
  mx : tabGet tab i_law_mixed = some (.comp d_law_mixed)
  pk : tabGet tab i_law_pick = some (.comp d_law_pick)
  nm : tabGet tab i_law_names = some (.comp d_law_names)
  wd : tabGet tab i_law_world = some (.comp d_law_world)
  er : tabGet tab i_law_errors = some (.comp d_law_errors)
  dr : tabGet tab i_law_deed_row = some (.comp d_law_deed_row)
section
variable {tab : List (Nat × Ent)} {γ : List D} {n : Nat} {b p q : Addr} {d : D} {M M' : MS} {Q : KR} {Z : KX}
theorem bag_upd {o : MO} (hb : M b = some .bag) (hp : M p = none) : updM M p o b = some .bag := by
  rw [updM_ne fun e => by rw [e, hp] at hb; cases hb]; exact hb
theorem bag_updL {o : MO} {r : List D} (hb : M b = some .bag) (hp : M p = some (.lst r)) : updM M p o b = some .bag := by
  rw [updM_ne fun e => by rw [e, hp] at hb; cases hb]; exact hb
theorem restrict_new {ds : List D} (hp : M p = none) : restrict M (updM M p (.lst ds)) = M := by
  funext a
  unfold DL.restrict
  by_cases ha : a = p
  · subst ha; rw [updM_same, hp]; rfl
  · rw [updM_ne ha]
    cases h : M a with
    | none => rfl
    | some mo => cases mo <;> simp [h]
theorem rt_own {ds : List D} (hp : M p = none) : retR M Q (.val (.obj p)) (updM M p (.lst ds)) ↔ Q (.new ds) M := by
  have e : retR M Q (.val (.obj p)) (updM M p (.lst ds)) = Q (.new ds) (restrict M (updM M p (.lst ds))) := by
    unfold retR
    simp only [hp, updM_same]
  rw [e, restrict_new hp]
theorem vw_upd {ds : List D} : view (updM M p (.lst ds)) (.obj p) = .lst ds := view_obj updM_same
theorem pick_spec (G : Gn tab) (hb : M b = some .bag) {xs : List D} (h0 : 0 < xs.length) (h1 : xs.length < 1000000) (k : ∀ x ∈ xs, isP x = true ∧ Q (.val x) M) : callN tab γ (n + 2) i_law_pick [.obj b, .lst xs] M Q Z := by
  rw [cn G.pk]
  refine ⟨rfl, ?_⟩
  unfold d_law_pick b_law_pick
  simp? only [take_iff (ct G.tk) hb]
  refine ⟨by omega, by omega, fun v hv0 hv1 => ?_⟩
  obtain ⟨x, hx, e⟩ := idx_at hv0 hv1
  obtain ⟨h2, h3⟩ := k x hx
  exact ⟨x, e, (rt_val h2).mpr h3⟩
theorem mixed_spec (G : Gn tab) (hb : M b = some .bag) {xs : List D} (h1 : xs.length < 1000000) (k : ∀ ys : List D, ys.Perm xs → Q (.new ys) M) : callN tab γ (n + 2) i_law_mixed [.obj b, .lst xs] M Q Z := by
  rw [cn G.mx]
  refine ⟨rfl, ?_⟩
  unfold d_law_mixed b_law_mixed
  (refine x_cons ?_; simp_all? only [])
  intro p hp
  (refine x_cons ?_; simp_all? only [])
  refine for_ind (fun r δ M' => ∃ acc x, M' = updM M p (.lst acc) ∧ δ = [some (.obj b), some (.lst xs), some (.obj p), x] ∧ (acc ++ r).Perm xs) ⟨[], none, rfl, rfl, by simp⟩ ?_ ?_
  · rintro y r δ M' _ ⟨acc, x, rfl, rfl, hpm⟩
    have hl := hpm.length_eq
    simp only [List.length_append, List.length_cons] at hl
    refine ⟨trivial, fun kk hk => ?_⟩
    simp? only [take_iff (ct G.tk) (bag_upd hb hp), vw_upd]
    refine ⟨⟨acc, updM_same⟩, by omega, by omega, fun v hv0 hv1 => ⟨acc, v, updM_same, rfl, hv0, by omega, by omega, hk _ _ ⟨_, _, updM_updM, rfl, ?_⟩⟩⟩
    refine List.Perm.trans ?_ hpm
    have e : acc = acc.take v.toNat ++ acc.drop v.toNat := (List.take_append_drop _ _).symm
    conv => rhs; rw [e]
    simp only [List.append_assoc, List.cons_append, List.nil_append]
    exact List.Perm.append_left _ (List.perm_middle.symm.trans (by simp))
  · rintro δ M' ⟨acc, x, rfl, rfl, hpm⟩
    refine ⟨trivial, ?_⟩
    simp? only [rt_own hp]
    exact k acc (by simpa using hpm)
/-- a name that is no outcome's word -/
structure Nw (x : Str) : Prop where
  nm : Nm x
  no : x ∉ OUTS
theorem nw_lit {x : Str} (h : (nmB x && decide (x ∉ OUTS)) = true) : Nw x := by
  simp only [Bool.and_eq_true, decide_eq_true_eq] at h
  exact ⟨nmB_ok h.1, h.2⟩
theorem in_outs {x : Str} : cmp2 .In (.str x) (.tup [.str "hush", .str "no", .str "out", .str "round", .str "well", .str "yes"]) = some (decide (x ∈ OUTS)) := by
  show some ((OUTS.map D.str).any fun z => PyData.eqv (toP z) (toP (.str x))) = _
  rw [List.any_map]
  congr 1
  rw [Bool.eq_iff_iff, List.any_eq_true, decide_eq_true_eq]
  constructor
  · rintro ⟨y, hy, e⟩
    have e : PyData.eqv (toP (.str y)) (toP (.str x)) = true := e
    rw [eqv_str, decide_eq_true_eq] at e
    rw [e]; exact hy
  · intro h
    refine ⟨x, h, ?_⟩
    show PyData.eqv (toP (.str x)) (toP (.str x)) = true
    rw [eqv_str]; simp
theorem mul_q0 : PySem.Txt.mul "q" 0 = ⟨#[]⟩ := by decide +kernel
theorem mul_q1 : PySem.Txt.mul "q" 1 = "q" := by decide +kernel
theorem app_nil (x : Str) : x ++ (⟨#[]⟩ : Str) = x := by
  obtain ⟨c⟩ := x
  show (⟨c ++ #[]⟩ : Str) = ⟨c⟩
  simp
theorem outs_q : ∀ x ∈ OUTS, (nmB (x ++ "q") && decide ((x ++ "q" : Str) ∉ OUTS)) = true := by decide +kernel
structure WorldD (w : D) (cs ws es : List Str) : Prop where
  eq : w = .dct [(.inr "cells", .lst (cs.map D.str)), (.inr "words", .lst (ws.map D.str)), (.inr "errors", .lst (es.map D.str))]
  c0 : 0 < cs.length
  c1 : cs.length ≤ 3
  w0 : 0 < ws.length
  w1 : ws.length ≤ 3
  e0 : 0 < es.length
  e1 : es.length ≤ 2
  cN : ∀ x ∈ cs, Nw x
  wN : ∀ x ∈ ws, Nw x
  eN : ∀ x ∈ es, Nw x
  nd : es.Nodup
theorem strs_perm {P : Str → Prop} {xs : List Str} {ys : List D} (h : ys.Perm (xs.map D.str)) (hx : ∀ x ∈ xs, P x) : ∃ zs : List Str, ys = zs.map D.str ∧ zs.Perm xs ∧ ∀ x ∈ zs, P x := by
  obtain ⟨zs, rfl, _⟩ := strs_ex (P := fun _ => True) (ds := ys) fun d hd => by
    obtain ⟨x, hx, rfl⟩ := List.mem_map.mp (h.mem_iff.mp hd)
    exact ⟨x, rfl, trivial⟩
  have hz : zs.Perm xs := by
    have h2 := h.map (fun d => match d with | D.str x => x | _ => Str.empty)
    rw [List.map_map, List.map_map] at h2
    have e : ∀ l : List Str, l.map ((fun d => match d with | D.str x => x | _ => Str.empty) ∘ D.str) = l := fun l => by
      induction l with
      | nil => rfl
      | cons a l ih => rw [List.map_cons, ih]; rfl
    rwa [e, e] at h2
  exact ⟨zs, rfl, hz, fun x hx' => hx x (hz.mem_iff.mp hx')⟩
theorem cut_take' {xs : List Str} {k : Int} (h : 0 ≤ k) : cutD (xs.map D.str) none (some k) = (xs.take k.toNat).map D.str := by
  rw [cut_take h, List.map_take]
theorem names_sp (G : Gn tab) (hb : M b = some .bag) {many : Int} (hm0 : 0 ≤ many) (hm1 : many ≤ 20) (k : ∀ xs : List Str, xs.length = many.toNat → (∀ x ∈ xs, Nm x) → Q (.new (xs.map D.str)) M) : callN tab γ (n + 2) i_law_names [.obj b, .int many] M Q Z := by
  rw [cn G.nm]
  exact names_spec (t := 13) (ct G.tk) hb hm0 hm1 k
theorem WorldD.vw {w : D} {cs ws es : List Str} (W : WorldD w cs ws es) (M : MS) : view M w = w := by rw [W.eq]; rfl
theorem valD_hit {kvs : List (Key × D)} {k : Key} {d : D} : valD ((k, d) :: kvs) k = some d := if_pos rfl
theorem valD_miss {kvs : List (Key × D)} {j k : Key} {d : D} (h : ¬ j = k) : valD ((j, d) :: kvs) k = valD kvs k := if_neg h
theorem WorldD.ce {w : D} {cs ws es : List Str} (W : WorldD w cs ws es) : idxD w (.str "cells") = some (.lst (cs.map D.str)) := by
  rw [W.eq]; exact valD_hit
theorem WorldD.wo {w : D} {cs ws es : List Str} (W : WorldD w cs ws es) : idxD w (.str "words") = some (.lst (ws.map D.str)) := by
  rw [W.eq]; exact (valD_miss (by decide +kernel)).trans valD_hit
theorem WorldD.er {w : D} {cs ws es : List Str} (W : WorldD w cs ws es) : idxD w (.str "errors") = some (.lst (es.map D.str)) := by
  rw [W.eq]; exact (valD_miss (by decide +kernel)).trans ((valD_miss (by decide +kernel)).trans valD_hit)
theorem nodup_str {xs : List Str} : (xs.map D.str).Nodup ↔ xs.Nodup := by
  constructor
  · intro h
    exact List.Pairwise.of_map D.str (fun a b hab e => hab (by rw [e])) h
  · intro h
    exact List.Pairwise.map D.str (fun a b hab e => hab (by cases e; rfl)) h
theorem errs_spec (G : Gn tab) {w : D} {cs ws es : List Str} (W : WorldD w cs ws es) (hb : M b = some .bag) (k : ∀ xs : List Str, xs.length ≤ 2 → (∀ x ∈ xs, x ∈ es) → xs.Nodup → Q (.new (xs.map D.str)) M) : callN tab γ (n + 3) i_law_errors [.obj b, w] M Q Z := by
  rw [cn G.er]
  refine ⟨rfl, ?_⟩
  unfold d_law_errors b_law_errors
  simp? only [W.vw, W.er]
  have e1 := W.e1
  refine mixed_spec G hb (by rw [List.length_map]; omega) fun ys hys => ?_
  obtain ⟨zs, rfl, hz, hz2⟩ := strs_perm (P := (· ∈ es)) hys fun x hx => hx
  simp? only [take_iff (ct G.tk) hb]
  intro v h0 h1
  rw [cut_take' h0]
  have := hz.length_eq
  exact k _ (by rw [List.length_take]; omega) (fun x hx => hz2 x (List.mem_of_mem_take hx)) ((hz.nodup_iff.mpr W.nd).sublist (List.take_sublist _ _))
theorem pickS (G : Gn tab) (hb : M b = some .bag) {xs : List Str} (h0 : 0 < xs.length) (h1 : xs.length ≤ 100) (k : ∀ x ∈ xs, Q (.val (.str x)) M) : callN tab γ (n + 2) i_law_pick [.obj b, .lst (xs.map D.str)] M Q Z := by
  refine pick_spec G hb (by simpa using h0) (by rw [List.length_map]; omega) fun d hd => ?_
  obtain ⟨x, hx, rfl⟩ := List.mem_map.mp hd
  exact ⟨rfl, k x hx⟩
/-- a cell, or none -/
theorem cell_at {cs : List Str} {v : Int} (h0 : 0 ≤ v) (h1 : v < (cs.length : Int) + 1) : ∃ x : Str, (x ∈ cs ∨ x = "") ∧ atI (cs.map D.str ++ [.str ""]) v = some (.str x) := by
  obtain ⟨d, hd, e⟩ := idx_at (xs := cs.map D.str ++ [.str ""]) h0 (by simp; omega)
  rcases List.mem_append.mp hd with h | h
  · obtain ⟨x, hx, rfl⟩ := List.mem_map.mp h
    exact ⟨x, .inl hx, e⟩
  · have e2 : d = .str "" := by simpa using h
    subst e2
    exact ⟨"", .inr rfl, e⟩
/-- a deed that is drawn -/
structure DeedD (d : D) (cs ws es : List Str) : Prop where
  ex : ∃ (c w : Str) (as rs : List Str), d = .tup [.str "do", .str c, .str w, .lst (as.map D.str), .lst (rs.map D.str)] ∧ (c ∈ cs ∨ c = "") ∧ w ∈ ws ∧ as.length ≤ 3 ∧ (∀ x ∈ as, x ∈ cs) ∧ rs.length ≤ 2 ∧ (∀ x ∈ rs, x ∈ es) ∧ rs.Nodup
theorem five_at {v : Int} (h0 : 0 ≤ v) (h1 : v < 5) : ∃ i : Int, 0 ≤ i ∧ i ≤ 3 ∧ atI [D.int 0, .int 1, .int 1, .int 2, .int 3] v = some (.int i) := by
  obtain ⟨d, hd, e⟩ := idx_at (xs := [D.int 0, .int 1, .int 1, .int 2, .int 3]) h0 (by simpa using h1)
  simp only [List.mem_cons, List.not_mem_nil, or_false] at hd
  rcases hd with rfl | rfl | rfl | rfl | rfl <;> exact ⟨_, by decide, by decide, e⟩
theorem deed_spec (G : Gn tab) {w : D} {cs ws es : List Str} (W : WorldD w cs ws es) (hb : M b = some .bag) (k : ∀ d, DeedD d cs ws es → Q (.val d) M) : callN tab γ (n + 4) i_law_deed_row [.obj b, w] M Q Z := by
  rw [cn G.dr]
  refine ⟨rfl, ?_⟩
  unfold d_law_deed_row b_law_deed_row
  have c0 := W.c0
  have c1 := W.c1
  (refine x_cons ?_; simp_all? only [W.vw, W.ce, take_iff (ct G.tk) hb, List.length_map])
  refine ⟨by omega, by omega, by omega, fun v h0 h1 => ?_⟩
  obtain ⟨x, hx, e⟩ := cell_at h0 h1
  refine ⟨_, e, ?_⟩
  (refine x_cons ?_; simp_all? only [W.vw, W.ce, take_iff (ct G.tk) hb])
  intro v5 h50 h51
  obtain ⟨i, i0, i1, e5⟩ := five_at h50 h51
  simp_all? only [e5]
  refine ⟨by omega, by omega, ?_⟩
  refine comp_all (fun d => ∃ x, d = .str x ∧ x ∈ cs) trivial (by rw [List.length_map, List.length_range, sizeLine_eq]; omega) (fun d hd acc kk hk => ?_) fun acc hl hacc => ?_
  · exact pickS G hb c0 (by omega) fun x hx => hk _ ⟨x, rfl, hx⟩
  obtain ⟨as, rfl, has⟩ := strs_ex hacc
  simp? only [W.vw, W.wo]
  refine pickS G hb W.w0 (by have := W.w1; omega) fun y hy => ?_
  simp? only []
  refine errs_spec G W hb fun rs h1 h2 h3 => ?_
  simp? only []
  refine k _ ⟨x, y, as, rs, rfl, hx, hy, ?_, has, h1, h2, h3⟩
  simp at hl
  omega
end
end DL
set_option maxRecDepth 100000
set_option maxHeartbeats 1600000
open PySem L2 DL
namespace DL
open PySem L2
section
variable {tab : List (Nat × Ent)} {γ : List D} {n : Nat} {b p q : Addr} {d : D} {M M' : MS} {Q : KR} {Z : KX}
/-- those that are not met before, of some texts -/
def firsts (xs : List Str) : List Str := (List.range xs.length).filterMap fun i => if (xs.take i).any (· == xs.getD i Str.empty) then none else xs[i]?
theorem nin_strs {x : Str} {xs : List Str} : cmp2 .NotIn (.str x) (.lst (xs.map D.str)) = some (!decide (x ∈ xs)) := by
  have hf : (xs.map D.str).all flatD = true := by
    rw [List.all_map]; simp [flatD]
  show ((if flatD (.str x) = true ∧ (xs.map D.str).all flatD = true then some ((xs.map D.str).any fun z => PyData.eqv (toP z) (toP (.str x))) else inS (.str x) (xs.map D.str) (.lst (xs.map D.str)))).map (!·) = _
  rw [if_pos ⟨rfl, hf⟩, List.any_map]
  show some _ = some _
  congr 2
  rw [Bool.eq_iff_iff, List.any_eq_true, decide_eq_true_eq]
  constructor
  · rintro ⟨y, hy, e⟩
    have e : PyData.eqv (toP (.str y)) (toP (.str x)) = true := e
    rw [eqv_str, decide_eq_true_eq] at e
    rw [e]; exact hy
  · intro h
    refine ⟨x, h, ?_⟩
    show PyData.eqv (toP (.str x)) (toP (.str x)) = true
    rw [eqv_str]; simp
theorem in_strs {x : Str} {xs : List Str} : cmp2 .In (.str x) (.lst (xs.map D.str)) = some (decide (x ∈ xs)) := by
  have h := nin_strs (x := x) (xs := xs)
  have e : cmp2 .NotIn (.str x) (.lst (xs.map D.str)) = (cmp2 .In (.str x) (.lst (xs.map D.str))).map (!·) := rfl
  rw [e] at h
  cases h2 : cmp2 .In (.str x) (.lst (xs.map D.str)) with
  | none => rw [h2] at h; cases h
  | some c =>
    rw [h2] at h
    have := Option.some.inj h
    simp only at this
    rw [Bool.not_inj this]
theorem world_spec (G : Gn tab) (hb : M b = some .bag) (k : ∀ w cs ws es, WorldD w cs ws es → Q (.val w) M) : callN tab γ (n + 3) i_law_world [.obj b] M Q Z := by
  rw [cn G.wd]
  refine ⟨rfl, ?_⟩
  unfold d_law_world b_law_world
  (refine x_cons ?_; simp_all? only [])
  (refine x_cons ?_; simp_all? only [])
  refine names_sp G hb (by decide) (by decide) fun xs hl hx => ?_
  have hl : xs.length = 3 := hl
  simp_all? only []
  refine comp_mapA D.str (fun x => D.str (if x ∈ OUTS then x ++ "q" else x)) trivial (by rw [hl, sizeLine_eq]; omega) (fun x hx' acc kk hk => ?_) ?_
  · have hn := hx x hx'
    have h8 := hn.le
    refine ⟨_, in_outs, ?_⟩
    by_cases ho : x ∈ OUTS
    · rw [if_pos ho] at hk
      rw [decide_eq_true ho]
      simp_all? only [mul_q1]
      exact ⟨by decide +kernel, by have e : (Str.ofString "q").length = 1 := rfl; omega, hk⟩
    · rw [if_neg ho] at hk
      rw [decide_eq_false ho]
      simp_all? only [mul_q0, app_nil]
      exact ⟨by decide +kernel, by have e : (⟨#[]⟩ : Str).length = 0 := rfl; omega, hk⟩
  have e0 : xs.map (fun x => D.str (if x ∈ OUTS then x ++ "q" else x)) = (xs.map fun x => if x ∈ OUTS then x ++ "q" else x).map D.str := by rw [List.map_map]; rfl
  rw [e0]
  have hN : ∀ x ∈ xs.map (fun x => if x ∈ OUTS then x ++ "q" else x), Nw x := fun x hx' => by
    obtain ⟨y, hy, rfl⟩ := List.mem_map.mp hx'
    by_cases ho : y ∈ OUTS
    · rw [if_pos ho]; exact nw_lit (outs_q y ho)
    · rw [if_neg ho]; exact ⟨hx y hy, ho⟩
  have hl2 : (xs.map (fun x => if x ∈ OUTS then x ++ "q" else x)).length = 3 := by rw [List.length_map]; exact hl
  generalize xs.map (fun x => if x ∈ OUTS then x ++ "q" else x) = cs at hN hl2
  clear e0 hl hx
  have le : (nmB "e" && decide ((("e" : Str)) ∉ OUTS)) = true := by decide +kernel
  have lf : (nmB "f" && decide ((("f" : Str)) ∉ OUTS)) = true := by decide +kernel
  have lw : (nmB "w" && decide ((("w" : Str)) ∉ OUTS)) = true := by decide +kernel
  (refine x_cons ?_; simp_all? only [])
  refine ⟨by rw [List.length_map]; omega, ?_⟩
  have ea : cs.map D.str ++ [D.str (Str.ofString "e"), D.str (Str.ofString "f")] = (cs ++ [("e" : Str), "f"]).map D.str := by simp
  have eb : cs.map D.str ++ [D.str (Str.ofString "w")] = (cs ++ [("w" : Str)]).map D.str := by simp
  rw [ea]
  refine mixed_spec G hb (by rw [List.length_map, List.length_append]; show cs.length + 2 < _; omega) fun ys hys => ?_
  obtain ⟨zs, rfl, hz, hz2⟩ := strs_perm (P := Nw) hys fun x hx => by
    rcases List.mem_append.mp hx with h | h
    · exact hN x h
    · simp only [List.mem_cons, List.not_mem_nil, or_false] at h
      rcases h with rfl | rfl
      · exact nw_lit le
      · exact nw_lit lf
  have hzl : zs.length = 5 := by rw [hz.length_eq, List.length_append, hl2]; rfl
  (refine x_cons ?_; simp_all? only [])
  refine comp_ind (fun r acc M' => ∃ (j : Nat) (fs : List Str), M' = M ∧ r = ((zs.map D.str).mapIdx fun (k : Nat) d => D.tup [.int (k : Int), d]).drop j ∧ j ≤ zs.length ∧ acc = fs.map D.str ∧ fs.Nodup ∧ fs.length ≤ j ∧ ∀ x, x ∈ fs ↔ x ∈ zs.take j)
    ⟨0, [], rfl, rfl, Nat.zero_le _, rfl, List.nodup_nil, Nat.zero_le _, by simp⟩ ?_ ?_
  · rintro d r acc M' _ ⟨j, fs, rfl, hr, hj, rfl, nd, hfl, hfs⟩
    have hjl : j < zs.length := by
      rcases Nat.lt_or_ge j zs.length with h | h
      · exact h
      · rw [List.drop_eq_nil_of_le (by simpa using h)] at hr; cases hr
    rw [List.drop_eq_getElem_cons (by simpa using hjl)] at hr
    obtain ⟨rfl, rfl⟩ := List.cons.inj hr
    refine ⟨trivial, by rw [List.length_map, sizeLine_eq]; omega, fun kk hk => ?_⟩
    simp only [List.getElem_mapIdx, List.getElem_map]
    simp_all? only []
    rw [cut_take' (by omega)]
    have htn : ((j : Int)).toNat = j := by omega
    rw [htn]
    refine ⟨_, nin_strs, ?_⟩
    simp_all? only []
    have step : zs.take (j + 1) = zs.take j ++ [zs[j]] := by rw [List.take_add_one, List.getElem?_eq_getElem hjl]; rfl
    refine ⟨fun hn => hk _ _ ⟨j + 1, fs ++ [zs[j]], rfl, rfl, hjl, by simp, ?_, by simp; omega, fun x => ?_⟩, fun hn => hk _ _ ⟨j + 1, fs, rfl, rfl, hjl, rfl, nd, by omega, fun x => ?_⟩⟩
    · rw [List.nodup_append]
      refine ⟨nd, by simp, fun a ha c hc => ?_⟩
      have : c = zs[j] := by simpa using hc
      subst this
      intro e
      exact hn (e ▸ (hfs a).mp ha)
    · rw [step, List.mem_append, List.mem_append, hfs x]
    · rw [step, List.mem_append, hfs x]
      constructor
      · exact .inl
      · rintro (h | h)
        · exact h
        · have : x = zs[j] := by simpa using h
          rw [this]; exact hn
  · rintro acc M' ⟨j, fs, rfl, hr, hj, rfl, nd, hfl, hfs⟩
    have hjl : j = zs.length := by
      rcases Nat.lt_or_ge j zs.length with h | h
      · rw [List.drop_eq_getElem_cons (by simpa using h)] at hr; cases hr
      · omega
    subst hjl
    rw [List.take_length] at hfs
    have f0 : 0 < fs.length := by
      cases zs with
      | nil => simp at hzl
      | cons z zs =>
        have : z ∈ fs := (hfs z).mpr (by simp)
        exact List.length_pos_of_mem this
    refine ⟨trivial, ?_⟩
    (refine x_cons ?_; simp_all? only [])
    refine ⟨by rw [List.length_map]; omega, ?_⟩
    rw [eb]
    refine mixed_spec G hb (by rw [List.length_map, List.length_append]; show cs.length + 1 < _; omega) fun ys hys => ?_
    obtain ⟨us, rfl, hu, hu2⟩ := strs_perm (P := Nw) hys fun x hx => by
      rcases List.mem_append.mp hx with h | h
      · exact hN x h
      · simp only [List.mem_cons, List.not_mem_nil, or_false] at h
        rw [h]; exact nw_lit lw
    have hul : us.length = 4 := by rw [hu.length_eq, List.length_append, hl2]; rfl
    simp_all? only [take_iff (ct G.tk) hb]
    intro v h0 h1
    rw [cut_take' (by omega)]
    simp? only [take_iff (ct G.tk) hb]
    intro v3 h30 h31 v2 h20 h21
    rw [cut_take' (by omega), cut_take' (by omega)]
    refine ⟨_, rfl, by show 3 ≤ 15; decide, by show ([Sum.inr (Str.ofString "cells"), Sum.inr (Str.ofString "words"), Sum.inr (Str.ofString "errors")] : List Key).Nodup; decide +kernel, ?_⟩
    refine k _ (cs.take (1 + v3).toNat) (us.take (2 + v).toNat) (fs.take (1 + v2).toNat) ⟨rfl, ?_, ?_, ?_, ?_, ?_, ?_, fun x hx => hN x (List.mem_of_mem_take hx), fun x hx => hu2 x (List.mem_of_mem_take hx), fun x hx => hz2 x ((hfs x).mp (List.mem_of_mem_take hx)), nd.sublist (List.take_sublist _ _)⟩ <;> rw [List.length_take] <;> omega
end
end DL
set_option maxRecDepth 100000
set_option maxHeartbeats 1600000
open PySem L2 DL
namespace DL
open PySem L2
/-! ### rows that are drawn -/
/-- some different errors -/
structure ErrL (es rs : List Str) : Prop where
  le : rs.length ≤ 2
  mem : ∀ x ∈ rs, x ∈ es
  nd : rs.Nodup
def catchD (p : List Str × List D) : D := .tup [.lst (p.1.map D.str), .lst p.2]
/-- a row of at most k further lists within one another; a: a loop is around, c: a catch -/
inductive RowP (cs ws es : List Str) : Nat → Bool → Bool → D → Prop
  | deed {k a c d} : DeedD d cs ws es → RowP cs ws es k a c d
  | set {k a c x y} : x ∈ cs → y ∈ cs → RowP cs ws es k a c (.tup [.str "set", .str x, .str y])
  | ans {k a c x} : x ∈ cs ∨ x = "" → RowP cs ws es k a c (.tup [.str "answer", .str x])
  | lv {k c} {w : Str} : w = "break" ∨ w = "next" → RowP cs ws es k true c (.tup [.str w])
  | ag {k a} : RowP cs ws es k a true (.tup [.str "again"])
  | rs {k a c x} : x ∈ es → RowP cs ws es k a c (.tup [.str "raise", .str x])
  | ifl {k a a' c} {w u : Str} {xs ys : List D} : w = "if" ∧ a' = a ∨ w = "loop" ∧ a' = true → u ∈ ws → (∀ x ∈ xs, RowP cs ws es k a' c x) → (∀ x ∈ ys, RowP cs ws es k a c x) → RowP cs ws es (k + 1) a c (.tup [.str w, .str u, .lst xs, .lst ys])
  | cl {k a c u rs xs} : u ∈ ws → ErrL es rs → (∀ x ∈ xs, RowP cs ws es k a c x) → RowP cs ws es (k + 1) a c (.tup [.str "close", .str u, .lst (rs.map D.str), .lst xs])
  | tr {k a c} {xs : List D} {ct : List (List Str × List D)} {ys zs : List D} : (∀ x ∈ xs, RowP cs ws es k a c x) → (∀ p ∈ ct, ErrL es p.1) → (∀ p ∈ ct, ∀ x ∈ p.2, RowP cs ws es k a true x) → (∀ x ∈ ys, RowP cs ws es k a c x) → (∀ x ∈ zs, RowP cs ws es k a c x) →
      RowP cs ws es (k + 1) a c (.tup [.str "try", .lst xs, .lst (ct.map catchD), .lst ys, .lst zs])
section
variable {tab : List (Nat × Ent)} {γ : List D} {n : Nat} {b p q : Addr} {d : D} {M M' : MS} {Q : KR} {Z : KX}
theorem updM_comm {o u : MO} (h : p ≠ q) : updM (updM M p o) q u = updM (updM M q u) p o := by
  funext a
  unfold updM
  by_cases h1 : a = q
  · subst h1
    rw [if_pos rfl, if_neg (fun e => h e.symm), if_pos rfl]
  · rw [if_neg h1]
    by_cases h2 : a = p
    · rw [if_pos h2, if_pos h2]
    · rw [if_neg h2, if_neg h2, if_neg h1]
theorem updM_self {o : MO} (h : M q = some o) : updM M q o = M := by
  funext a
  unfold updM
  split
  · rename_i e; rw [e, h]
  · rfl
theorem restrict_old {r x : List D} (hq : M q = some (.lst r)) : restrict M (updM M q (.lst x)) = updM M q (.lst x) := by
  funext a
  unfold DL.restrict
  by_cases ha : a = q
  · subst ha; rw [updM_same, hq]; rfl
  · rw [updM_ne ha]
    cases h : M a with
    | none => rfl
    | some mo => cases mo <;> simp [h]
theorem rt_room {r x : List D} (hq : M q = some (.lst r)) (h : isP d = true) : retR M Q (.val d) (updM M q (.lst x)) ↔ Q (.val d) (updM M q (.lst x)) := by
  have e : retR M Q (.val d) (updM M q (.lst x)) = Q (.val d) (restrict M (updM M q (.lst x))) := by
    unfold retR
    cases d with
    | obj a => simp [isP] at h
    | _ => rfl
  rw [e, restrict_old hq]
/-- the room and a list of one's own -/
def nf (M : MS) (p q : Addr) (r : Int) (acc : List D) : MS := updM (updM M q (.lst [.int r])) p (.lst acc)
section
variable {r r' : Int} {acc acc' : List D}
theorem nf_ne (hp : M p = none) {x : List D} (hq : M q = some (.lst x)) : p ≠ q := fun e => by rw [e, hq] at hp; cases hp
theorem nf_p : nf M p q r acc p = some (.lst acc) := updM_same
theorem nf_q (h : p ≠ q) : nf M p q r acc q = some (.lst [.int r]) := by
  unfold nf; rw [updM_ne fun e => h e.symm]; exact updM_same
theorem nf_b (hb : M b = some .bag) (hp : M p = none) {x : List D} (hq : M q = some (.lst x)) : nf M p q r acc b = some .bag := by
  unfold nf
  rw [updM_ne fun e => by rw [e, hp] at hb; cases hb]; exact bag_updL hb hq
theorem nf_updp : updM (nf M p q r acc) p (.lst acc') = nf M p q r acc' := updM_updM
theorem nf_updq (h : p ≠ q) : updM (nf M p q r acc) q (.lst [.int r']) = nf M p q r' acc := by
  unfold nf
  rw [updM_comm h, updM_updM]
theorem nf_drop (hp : M p = none) (h : p ≠ q) : dropM (nf M p q r acc) p = updM M q (.lst [.int r]) := by
  funext a
  by_cases ha : a = p
  · subst ha; rw [dropM_same, updM_ne h]; exact hp.symm
  · rw [dropM_ne ha]; unfold nf; rw [updM_ne ha]
theorem nf_start (hq : M q = some (.lst [.int r])) : updM M p (.lst acc) = nf M p q r acc := by
  unfold nf; rw [updM_self hq]
theorem nf_ret (hp : M p = none) {x : List D} (hq : M q = some (.lst x)) : retR M Q (.val (.obj p)) (nf M p q r acc) ↔ Q (.new acc) (updM M q (.lst [.int r])) := by
  have h := nf_ne hp hq
  have e : retR M Q (.val (.obj p)) (nf M p q r acc) = Q (.new acc) (restrict M (nf M p q r acc)) := by
    unfold retR
    simp only [hp, nf_p]
  have e2 : restrict M (nf M p q r acc) = updM M q (.lst [.int r]) := by
    funext a
    unfold DL.restrict
    by_cases ha : a = p
    · subst ha; rw [nf_p, hp, updM_ne h]; exact hp.symm
    · have e3 : nf M p q r acc a = updM M q (.lst [.int r]) a := by unfold nf; rw [updM_ne ha]
      rw [e3]
      have := congrFun (restrict_old (x := [.int r]) hq) a
      unfold DL.restrict at this
      exact this
  rw [e, e2]
end
def ROW_TAIL : Ss :=
  (.cons (.set 8 (.call 21 (.cons (.var 0) (.cons (.var 1) (.cons (.var 2) (.cons (.bin .Sub (.var 3) (.cst (.int 1))) (.cons (.var 7) .nil))))))) (.cons (.iff (.e (.cmp .Eq (.var 5) (.cst (.int 10)))) (.cons (.ret (.tup (.cons (.cst (.str "close")) (.cons (.var 6) (.cons (.call 19 (.cons (.var 0) (.cons (.var 1) .nil))) (.cons (.var 8) .nil)))))) .nil) .nil) (.cons (.set 9 (.call 21 (.cons (.var 0) (.cons (.var 1) (.cons (.var 2) (.cons (.bin .Sub (.var 3) (.cst (.int 1))) (.cons (.var 4) .nil))))))) (.cons (.iff (.e (.cmp .Lt (.var 5) (.cst (.int 10)))) (.cons (.ret (.tup (.cons (.idx (.lst (.cons (.cst (.str "if")) (.cons (.cst (.str "loop")) .nil))) (.bin .Sub (.var 5) (.cst (.int 8)))) (.cons (.var 6) (.cons (.var 8) (.cons (.var 9) .nil)))))) .nil) .nil) (.cons (.setM 10 (.lst .nil)) (.cons (.for_ [11] true (.rng1 (.idx (.lst (.cons (.cst (.int 0)) (.cons (.cst (.int 1)) (.cons (.cst (.int 1)) (.cons (.cst (.int 2)) .nil))))) (.call 13 (.cons (.var 0) (.cons (.cst (.int 4)) .nil))))) (.cons (.app (.var 10) (.tup (.cons (.call 19 (.cons (.var 0) (.cons (.var 1) .nil))) (.cons (.call 21 (.cons (.var 0) (.cons (.var 1) (.cons (.var 2) (.cons (.bin .Sub (.var 3) (.cst (.int 1))) (.cons (.lst (.cons (.idx (.var 4) (.cst (.int 0))) (.cons (.cst (.bl true)) .nil))) .nil)))))) .nil)))) .nil)) (.cons (.set 12 (.ife (.e (.cmp .Eq (.call 13 (.cons (.var 0) (.cons (.cst (.int 4)) .nil))) (.cst (.int 0)))) (.call 21 (.cons (.var 0) (.cons (.var 1) (.cons (.var 2) (.cons (.bin .Sub (.var 3) (.cst (.int 1))) (.cons (.var 4) .nil)))))) (.lst .nil))) (.cons (.ret (.tup (.cons (.cst (.str "try")) (.cons (.var 8) (.cons (.frz (.var 10)) (.cons (.var 12) (.cons (.var 9) .nil))))))) .nil))))))))
def RowS (tab : List (Nat × Ent)) (γ : List D) (w : D) (cs ws es : List Str) (k : Nat) : Prop := ∀ (n : Nat) {M : MS} {b q : Addr} {r : Int} {a c : Bool} {Q : KR} {Z : KX}, M b = some .bag → M q = some (.lst [.int r]) → 0 ≤ r → r ≤ 1000 → 2 * k + 6 ≤ n →
  (∀ d r', RowP cs ws es k a c d → isP d = true → 0 ≤ r' → r' ≤ r → (cntD d : Int) ≤ 16 + 16 * (r - r') → Q (.val d) (updM M q (.lst [.int r']))) → callN tab γ n i_law_row [.obj b, w, .obj q, .int k, .lst [.bl a, .bl c]] M Q Z
def six_at {v : Int} (h0 : 0 ≤ v) (h1 : v < 6) : ∃ i : Int, 0 ≤ i ∧ i ≤ 3 ∧ atI [D.int 1, .int 2, .int 3, .int 1, .int 0, .int 2] v = some (.int i) := by
  obtain ⟨d, hd, e⟩ := idx_at (xs := [D.int 1, .int 2, .int 3, .int 1, .int 0, .int 2]) h0 (by simpa using h1)
  simp only [List.mem_cons, List.not_mem_nil, or_false] at hd
  rcases hd with rfl | rfl | rfl | rfl | rfl | rfl <;> exact ⟨_, by decide, by decide, e⟩
theorem cntDs_app : ∀ (xs ys : List D), cntDs (xs ++ ys) = cntDs xs + cntDs ys
  | [], ys => by simp [cntDs]
  | x :: xs, ys => by simp only [List.cons_append, cntDs, cntDs_app xs ys]; omega
theorem isPs_app : ∀ (xs ys : List D), isPs (xs ++ ys) = (isPs xs && isPs ys)
  | [], ys => by simp [isPs]
  | x :: xs, ys => by simp only [List.cons_append, isPs, isPs_app xs ys, Bool.and_assoc]
theorem body_spec (G : Gn tab) (hbd : tabGet tab i_law_body = some (.comp d_law_body)) {w : D} {cs ws es : List Str} {k : Nat} (W : WorldD w cs ws es) (R : RowS tab γ w cs ws es k) {r : Int} {a c : Bool} (hb : M b = some .bag) (hq : M q = some (.lst [.int r])) (h0 : 0 ≤ r) (h1 : r ≤ 1000) (hn : 2 * k + 6 ≤ n)
    (kk : ∀ xs r', (∀ x ∈ xs, RowP cs ws es k a c x) → isPs xs = true → xs.length ≤ 3 → 0 ≤ r' → r' ≤ r → (cntDs xs : Int) ≤ 16 * (r - r') → Q (.new xs) (updM M q (.lst [.int r']))) : callN tab γ (n + 1) i_law_body [.obj b, w, .obj q, .int k, .lst [.bl a, .bl c]] M Q Z := by
  rw [cn hbd]
  refine ⟨rfl, ?_⟩
  unfold d_law_body b_law_body
  obtain ⟨m, rfl⟩ : ∃ m, n = m + 1 := ⟨n - 1, by omega⟩
  (refine x_cons ?_; simp_all? only [])
  intro p hp
  have hne := nf_ne hp hq
  rw [nf_start hq]
  (refine x_cons ?_; simp_all? only [take_iff (ct G.tk) (nf_b hb hp hq)])
  intro v v0 v1
  obtain ⟨i, i0, i1, e⟩ := six_at v0 v1
  simp_all? only [e]
  refine ⟨by omega, by omega, ?_⟩
  refine for_ind (fun t δ M' => ∃ acc r' x, M' = nf M p q r' acc ∧ δ = [some (.obj b), some w, some (.obj q), some (.int k), some (.lst [.bl a, .bl c]), some (.obj p), x] ∧ (∀ x ∈ acc, RowP cs ws es k a c x) ∧ isPs acc = true ∧ acc.length + t.length ≤ 3 ∧ 0 ≤ r' ∧ r' ≤ r ∧ (cntDs acc : Int) ≤ 16 * (r - r'))
    ⟨[], r, none, rfl, rfl, by simp, rfl, by simp; omega, h0, Int.le_refl _, by simp [cntDs]⟩ ?_ ?_
  · rintro y t δ M' _ ⟨acc, r', x, rfl, rfl, a1, a2, a3, a4, a5, a6⟩
    simp only [List.length_cons] at a3
    refine ⟨trivial, fun k2 hk => ?_⟩
    simp? only [view_obj (nf_q hne)]
    refine ⟨fun hpos => ?_, fun hneg => hk _ _ ⟨acc, r', _, rfl, rfl, a1, a2, by omega, a4, a5, a6⟩⟩
    refine ⟨q, 0, rfl, rfl, _, _, nf_q hne, at0, _, _, 0, rfl, nf_q hne, rfl, ?_⟩
    show (∃ ds, updM (nf M p q r' acc) q (.lst [.int (r' - 1)]) p = some (.lst ds)) ∧ callN tab γ (m + 1) 22 _ (updM (nf M p q r' acc) q (.lst [.int (r' - 1)])) _ _
    rw [nf_updq hne]
    refine ⟨⟨_, nf_p⟩, ?_⟩
    refine R _ (nf_b hb hp hq) (nf_q hne) (by omega) (by omega) hn fun d r2 d1 d2 d3 d4 d5 => ?_
    rw [nf_updq hne]
    refine ⟨acc, nf_p, by omega, ?_⟩
    rw [nf_updp]
    refine hk _ _ ⟨acc ++ [d], r2, _, rfl, rfl, fun x hx => ?_, ?_, by simp; omega, d3, by omega, ?_⟩
    · rcases List.mem_append.mp hx with h | h
      · exact a1 x h
      · have : x = d := by simpa using h
        rw [this]; exact d1
    · rw [isPs_app, a2]; simp [isPs, d2]
    · rw [cntDs_app]
      simp only [cntDs, Nat.add_zero]
      push_cast
      omega
  · rintro δ M' ⟨acc, r', x, rfl, rfl, a1, a2, a3, a4, a5, a6⟩
    refine ⟨trivial, ?_⟩
    simp? only [nf_ret hp hq]
    exact kk acc r' a1 a2 (by simpa using a3) a4 a5 a6
def four_at {v : Int} (h0 : 0 ≤ v) (h1 : v < 4) : ∃ i : Int, 0 ≤ i ∧ i ≤ 2 ∧ atI [D.int 0, .int 1, .int 1, .int 2] v = some (.int i) := by
  obtain ⟨d, hd, e⟩ := idx_at (xs := [D.int 0, .int 1, .int 1, .int 2]) h0 (by simpa using h1)
  simp only [List.mem_cons, List.not_mem_nil, or_false] at hd
  rcases hd with rfl | rfl | rfl | rfl <;> exact ⟨_, by decide, by decide, e⟩
theorem two_at {v : Int} {x y : D} (h0 : 0 ≤ v) (h1 : v < 2) : ∃ d, (d = x ∨ d = y) ∧ atI [x, y] v = some d := by
  obtain ⟨d, hd, e⟩ := idx_at (xs := [x, y]) h0 (by simpa using h1)
  simp only [List.mem_cons, List.not_mem_nil, or_false] at hd
  exact ⟨d, hd, e⟩
theorem isPs_strs : ∀ xs : List Str, isPs (xs.map D.str) = true
  | [] => rfl
  | x :: xs => by simp [isPs, isP, isPs_strs xs]
theorem cntDs_strs : ∀ xs : List Str, cntDs (xs.map D.str) = xs.length
  | [] => rfl
  | x :: xs => by simp [cntDs, cntD, cntDs_strs xs]; omega
theorem DeedD.isp {cs ws es : List Str} (h : DeedD d cs ws es) : isP d = true ∧ cntD d ≤ 11 := by
  obtain ⟨c, w, as, rs, rfl, _, _, h1, _, h2, _⟩ := h.ex
  refine ⟨by simp [isP, isPs, isPs_strs], ?_⟩
  simp only [cntD, cntDs, cntDs_strs]
  omega
theorem rowd_step (G : Gn tab) (hrw : tabGet tab i_law_row = some (.comp d_law_row)) (hbd : tabGet tab i_law_body = some (.comp d_law_body)) {w : D} {cs ws es : List Str} {k : Nat} (W : WorldD w cs ws es) (ih : ∀ j, k = j + 1 → RowS tab γ w cs ws es j) : RowS tab γ w cs ws es k := by
  intro n M b q r a c Q Z hb hq h0 h1 hn kk
  obtain ⟨m, rfl⟩ : ∃ m, n = m + 6 := ⟨n - 6, by omega⟩
  have fin : ∀ {d : D} {r' : Int}, RowP cs ws es k a c d → isP d = true → 0 ≤ r' → r' ≤ r → (cntD d : Int) ≤ 16 + 16 * (r - r') → retR M Q (.val d) (updM M q (.lst [.int r'])) := fun {d r'} a1 a2 a3 a4 a5 => (rt_room hq a2).mpr (kk d r' a1 a2 a3 a4 a5)
  have fin0 : ∀ {d : D}, RowP cs ws es k a c d → isP d = true → cntD d ≤ 16 → retR M Q (.val d) M := fun {d} a1 a2 a5 => by
    have := fin (r' := r) a1 a2 h0 (Int.le_refl _) (by omega)
    rwa [updM_self hq] at this
  have c0 := W.c0
  have c1 := W.c1
  rw [cn hrw]
  refine ⟨rfl, ?_⟩
  unfold d_law_row b_law_row
  -- the kind
  have kind : ∀ {K : Int → Prop}, (∀ v, 0 ≤ v → v < 8 → K v) → (0 < k → ∀ v, 8 ≤ v → v < 15 → K v) → ((0 < (k : Int) → ∀ v, 0 ≤ v → v < 15 → K v) ∧ (¬ 0 < (k : Int) → ∀ v, 0 ≤ v → v < 8 → K v)) := fun {K} a1 a2 =>
    ⟨fun hk v v0 v1 => if h : v < 8 then a1 v v0 h else a2 (by omega) v (by omega) v1, fun _ v v0 v1 => a1 v v0 v1⟩
  (refine x_cons ?_; simp_all? only [take_iff (ct G.tk) hb])
  refine kind (fun v v0 v8 => ?_) (fun hk v v8 v15 => ?_)
  · have deed : ∀ {F : DE}, F.rt = retR M Q → execSs (callN tab γ (m + 5)) γ (.cons (.ret (.call 20 (.cons (.var 0) (.cons (.var 1) .nil)))) .nil) F [some (.obj b), some w, some (.obj q), some (.int k), some (.lst [.bl a, .bl c]), some (.int v), none, none, none, none, none, none, none] M := fun {F} hF => by
      simp? only [hF]
      refine deed_spec G W hb fun d hd => ?_
      have := hd.isp
      exact fin0 (.deed hd) this.1 (by omega)
    have ans : ∀ {F : DE}, F.rt = retR M Q → execSs (callN tab γ (m + 5)) γ (.cons (.ret (.tup (.cons (.cst (.str "answer")) (.cons (.idx (.bin .Add (.idx (.var 1) (.cst (.str "cells"))) (.lst (.cons (.cst (.str "")) .nil))) (.call 13 (.cons (.var 0) (.cons (.bin .Add (.bi .len (.cons (.idx (.var 1) (.cst (.str "cells"))) .nil)) (.cst (.int 1))) .nil)))) .nil)))) .nil) F [some (.obj b), some w, some (.obj q), some (.int k), some (.lst [.bl a, .bl c]), some (.int v), none, none, none, none, none, none, none] M := fun {F} hF => by
      simp? only [hF, W.vw, W.ce, take_iff (ct G.tk) hb, List.length_map]
      refine ⟨by omega, by omega, by omega, fun u u0 u1 => ?_⟩
      obtain ⟨x, hx, e⟩ := cell_at u0 u1
      refine ⟨_, e, ?_⟩
      exact rt_tup.mp (fin0 (.ans hx) rfl (by show 3 ≤ 16; decide))
    have rse : ∀ {F : DE}, F.rt = retR M Q → execSs (callN tab γ (m + 5)) γ (.cons (.ret (.tup (.cons (.cst (.str "raise")) (.cons (.call 16 (.cons (.var 0) (.cons (.idx (.var 1) (.cst (.str "errors"))) .nil))) .nil)))) .nil) F [some (.obj b), some w, some (.obj q), some (.int k), some (.lst [.bl a, .bl c]), some (.int v), none, none, none, none, none, none, none] M := fun {F} hF => by
      simp? only [hF, W.vw, W.er]
      refine pickS G hb W.e0 (by have := W.e1; omega) fun x hx => ?_
      simp? only []
      exact rt_tup.mp (fin0 (.rs hx) rfl (by show 3 ≤ 16; decide))
    obtain rfl | rfl | rfl | rfl | rfl | rfl | rfl | rfl : v = 0 ∨ v = 1 ∨ v = 2 ∨ v = 3 ∨ v = 4 ∨ v = 5 ∨ v = 6 ∨ v = 7 := by omega
    · (refine x_cons ?_; simp_all? only []); (refine x_cons ?_; simp_all? only []); (refine x_cons ?_; simp_all? only []); (refine x_cons ?_; simp_all? only []); (refine x_cons ?_; simp_all? only []); (refine x_cons ?_; simp_all? only [])
      exact deed rfl
    · (refine x_cons ?_; simp_all? only []); (refine x_cons ?_; simp_all? only []); (refine x_cons ?_; simp_all? only []); (refine x_cons ?_; simp_all? only []); (refine x_cons ?_; simp_all? only []); (refine x_cons ?_; simp_all? only [])
      exact deed rfl
    · simp? only [W.vw, W.ce]
      refine pickS G hb c0 (by omega) fun x hx => ?_
      simp? only [W.vw, W.ce]
      refine pickS G hb c0 (by omega) fun y hy => ?_
      simp? only []
      exact (rt_tup.mp (fin0 (.set hx hy) rfl (by show 4 ≤ 16; decide)))
    · (refine x_cons ?_; simp_all? only []); (refine x_cons ?_; simp_all? only [])
      exact ans rfl
    · (refine x_cons ?_; simp_all? only []); (refine x_cons ?_; simp_all? only [])
      cases a with
      | false => simp_all? only []; exact ans rfl
      | true =>
        simp_all? only []
        simp? only [take_iff (ct G.tk) hb]
        intro u u0 u1
        obtain ⟨d, hd, e⟩ := two_at (x := .str "break") (y := .str "next") u0 u1
        refine ⟨d, e, ?_⟩
        rcases hd with rfl | rfl
        · exact rt_tup.mp (fin0 (.lv (.inl rfl)) rfl (by show 2 ≤ 16; decide))
        · exact rt_tup.mp (fin0 (.lv (.inr rfl)) rfl (by show 2 ≤ 16; decide))
    · (refine x_cons ?_; simp_all? only []); (refine x_cons ?_; simp_all? only []); (refine x_cons ?_; simp_all? only []); (refine x_cons ?_; simp_all? only [])
      exact rse rfl
    · (refine x_cons ?_; simp_all? only []); (refine x_cons ?_; simp_all? only []); (refine x_cons ?_; simp_all? only []); (refine x_cons ?_; simp_all? only [])
      cases c with
      | false => simp_all? only []; exact rse rfl
      | true =>
        simp_all? only []
        simp? only []
        exact rt_tup.mp (fin0 .ag rfl (by show 2 ≤ 16; decide))
    · (refine x_cons ?_; simp_all? only []); (refine x_cons ?_; simp_all? only []); (refine x_cons ?_; simp_all? only []); (refine x_cons ?_; simp_all? only []); (refine x_cons ?_; simp_all? only []); (refine x_cons ?_; simp_all? only [])
      exact deed rfl
  · have n2 : ¬ v = 2 := by omega
    have n3 : ¬ v = 3 := by omega
    have n4 : ¬ v = 4 := by omega
    have n5 : ¬ v = 5 := by omega
    have n6 : ¬ v = 6 := by omega
    have n8 : ¬ v < 8 := by omega
    obtain ⟨j, rfl⟩ : ∃ j, k = j + 1 := ⟨k - 1, by omega⟩
    have R := ih j rfl
    have ej : ((j + 1 : Nat) : Int) - 1 = (j : Int) := by omega
    (refine x_cons ?_; simp_all? only [n2]); (refine x_cons ?_; simp_all? only [n3, n4]); (refine x_cons ?_; simp_all? only [n4]); (refine x_cons ?_; simp_all? only [n5, n6]); (refine x_cons ?_; simp_all? only [n6]); (refine x_cons ?_; simp_all? only [n8])
    (refine x_cons ?_; simp_all? only [W.vw, W.wo])
    refine pickS G hb W.w0 (by have := W.w1; omega) fun u hu => ?_
    have rest : ∀ {F : DE} {a' : Bool}, F.rt = retR M Q → F.xc = (fun x _ M' => Z x (restrict M M')) → (v = 9 ∧ a' = true ∨ ¬ v = 9 ∧ a' = a) → execSs (callN tab γ (m + 5)) γ ROW_TAIL F
        [some (.obj b), some w, some (.obj q), some (.int ((j + 1 : Nat) : Int)), some (.lst [.bl a, .bl c]), some (.int v), some (.str u), some (.lst [.bl a', .bl c]), none, none, none, none, none] M := fun {F a'} hF hX ha' => by
      unfold ROW_TAIL
      (refine x_cons ?_; simp_all? only [ej])
      refine body_spec G hbd W R hb hq h0 h1 (by omega) fun xs r1 x1 x2 x3 x4 x5 x6 => ?_
      have hb1 : updM M q (.lst [.int r1]) b = some .bag := bag_updL hb hq
      have hq1 : updM M q (.lst [.int r1]) q = some (.lst [.int r1]) := updM_same
      (refine x_cons ?_; simp_all? only [])
      refine ⟨fun e10 => ?_, fun n10 => ?_⟩
      · subst e10
        obtain rfl : a' = a := (ha'.resolve_left (by simp)).2
        simp? only [hF, hX]
        refine errs_spec G W hb1 fun rs e1 e2 e3 => ?_
        simp? only []
        refine fin (.cl hu ⟨e1, e2, e3⟩ x1) (by simp [isP, isPs, x2, isPs_strs]) x4 x5 ?_
        simp only [cntD, cntDs, cntDs_strs]
        push_cast
        omega
      (refine x_cons ?_; simp_all? only [ej])
      refine body_spec G hbd W R hb1 hq1 x4 (by omega) (by omega) fun ys r2 y1 y2 y3 y4 y5 y6 => ?_
      rw [updM_updM]
      have hb2 : updM M q (.lst [.int r2]) b = some .bag := bag_updL hb hq
      have hq2 : updM M q (.lst [.int r2]) q = some (.lst [.int r2]) := updM_same
      (refine x_cons ?_; simp_all? only [])
      refine ⟨fun l10 => ?_, fun l10 => ?_⟩
      · have fin2 : ∀ {w' : Str}, w' = "if" ∧ a' = a ∨ w' = "loop" ∧ a' = true → retR M Q (.val (.tup [.str w', .str u, .lst xs, .lst ys])) (updM M q (.lst [.int r2])) := fun {w'} hw => by
          refine fin (.ifl hw hu x1 y1) (by simp [isP, isPs, x2, y2]) y4 (by omega) ?_
          simp only [cntD, cntDs]
          push_cast
          omega
        obtain rfl | rfl : v = 8 ∨ v = 9 := by omega
        · simp? only [hF]
          exact fin2 (.inl ⟨rfl, (ha'.resolve_left (by simp)).2⟩)
        · simp? only [hF]
          exact fin2 (.inr ⟨rfl, (ha'.resolve_right (by simp)).2⟩)
      obtain rfl : a' = a := (ha'.resolve_left (by omega)).2
      -- a try
      (refine x_cons ?_; simp_all? only [])
      intro p hp2
      have hp : M p = none := by
        by_cases e : p = q
        · rw [e, updM_same] at hp2; cases hp2
        · rwa [updM_ne e] at hp2
      have hne := nf_ne hp hq
      rw [show updM (updM M q (.lst [.int r2])) p (.lst []) = nf M p q r2 [] from rfl]
      (refine x_cons ?_; simp_all? only [take_iff (ct G.tk) (nf_b hb hp hq)])
      intro z z0 z1
      obtain ⟨i, i0, i1, e⟩ := four_at z0 z1
      simp_all? only [e]
      refine ⟨by omega, by omega, ?_⟩
      refine for_ind (fun t δ M' => ∃ ct r' x, M' = nf M p q r' (ct.map catchD) ∧ δ = [some (.obj b), some w, some (.obj q), some (.int ((j + 1 : Nat) : Int)), some (.lst [.bl a', .bl c]), some (.int v), some (.str u), some (.lst [.bl a', .bl c]), some (.lst xs), some (.lst ys), some (.obj p), x, none] ∧
          (∀ p ∈ ct, ErrL es p.1) ∧ (∀ p ∈ ct, ∀ x ∈ p.2, RowP cs ws es j a' true x) ∧ isPs (ct.map catchD) = true ∧ ct.length + t.length ≤ 2 ∧ 0 ≤ r' ∧ r' ≤ r2 ∧ (cntDs (ct.map catchD) : Int) ≤ 5 * ct.length + 16 * (r2 - r'))
        ⟨[], r2, none, rfl, rfl, by simp, by simp, rfl, by simp; omega, y4, Int.le_refl _, by simp [cntDs]⟩ ?_ ?_
      · rintro y t δ M' _ ⟨ct', r', x, rfl, rfl, a1, a2, a3, a4, a5, a6, a7⟩
        simp only [List.length_cons] at a4
        refine ⟨trivial, fun k2 hk => ?_⟩
        simp? only [ej, hX]
        refine ⟨⟨_, nf_p⟩, ?_⟩
        refine errs_spec G W (nf_b hb hp hq) fun rs e1 e2 e3 => ?_
        simp? only [ej]
        refine body_spec G hbd W R (nf_b hb hp hq) (nf_q hne) a5 (by omega) (by omega) fun zs r3 s1 s2 s3 s4 s5 s6 => ?_
        rw [nf_updq hne]
        simp? only []
        refine ⟨_, nf_p, by rw [List.length_map]; omega, ?_⟩
        rw [nf_updp]
        have em : ct'.map catchD ++ [D.tup [.lst (rs.map D.str), .lst zs]] = (ct' ++ [(rs, zs)]).map catchD := by simp [catchD]
        rw [em]
        refine hk _ _ ⟨ct' ++ [(rs, zs)], r3, _, rfl, rfl, fun g hg => ?_, fun g hg => ?_, ?_, by simp; omega, s4, by omega, ?_⟩
        · rcases List.mem_append.mp hg with h | h
          · exact a1 g h
          · have : g = (rs, zs) := by simpa using h
            rw [this]; exact ⟨e1, e2, e3⟩
        · rcases List.mem_append.mp hg with h | h
          · exact a2 g h
          · have : g = (rs, zs) := by simpa using h
            rw [this]; exact s1
        · rw [List.map_append, isPs_app, a3]; simp [catchD, isPs, isP, isPs_strs, s2]
        · rw [List.map_append, cntDs_app]
          simp only [List.map_cons, List.map_nil, catchD, cntDs, cntD, cntDs_strs, List.length_append, List.length_cons, List.length_nil]
          push_cast
          omega
      · rintro δ M' ⟨ct', r3, x, rfl, rfl, a1, a2, a3, a4, a5, a6, a7⟩
        simp only [List.length_nil, Nat.add_zero] at a4
        refine ⟨trivial, ?_⟩
        have last : ∀ {zs : List D} {r4 : Int}, (∀ x ∈ zs, RowP cs ws es j a' c x) → isPs zs = true → 0 ≤ r4 → r4 ≤ r3 → (cntDs zs : Int) ≤ 16 * (r3 - r4) →
            retR M Q (.val (.tup [.str "try", .lst xs, .lst (ct'.map catchD), .lst zs, .lst ys])) (updM M q (.lst [.int r4])) := fun {zs r4} s1 s2 s4 s5 s6 => by
          refine fin (.tr x1 a1 a2 s1 y1) (by simp [isP, isPs, x2, y2, a3, s2]) s4 (by omega) ?_
          simp only [cntD, cntDs]
          push_cast
          omega
        (refine x_cons ?_; simp_all? only [take_iff (ct G.tk) (nf_b hb hp hq)])
        intro z4 z40 z41
        refine ⟨fun e0 => ?_, fun e0 => ?_⟩
        · simp_all? only [ej]
          refine body_spec G hbd W R (nf_b hb hp hq) (nf_q hne) a5 (by omega) (by omega) fun zs r4 s1 s2 s3 s4 s5 s6 => ?_
          rw [nf_updq hne]
          simp? only [hF]
          refine ⟨p, _, rfl, nf_p, ?_⟩
          rw [nf_drop hp hne]
          exact last s1 s2 s4 s5 s6
        · simp? only [hF]
          refine ⟨p, _, rfl, nf_p, ?_⟩
          rw [nf_drop hp hne]
          exact last (by simp) rfl a5 (Int.le_refl _) (by simp [cntDs])
    refine ⟨fun ha => rest rfl rfl ?_, fun ha => rest rfl rfl ?_⟩
    · subst ha
      by_cases h : v = 9
      · exact .inl ⟨h, rfl⟩
      · exact .inr ⟨h, rfl⟩
    · subst ha
      by_cases h : v = 9
      · exact .inl ⟨h, by rw [decide_eq_true h]⟩
      · exact .inr ⟨h, by rw [decide_eq_false h]⟩
theorem rowd_spec (G : Gn tab) (hrw : tabGet tab i_law_row = some (.comp d_law_row)) (hbd : tabGet tab i_law_body = some (.comp d_law_body)) {w : D} {cs ws es : List Str} (W : WorldD w cs ws es) : ∀ k, RowS tab γ w cs ws es k
  | 0 => rowd_step G hrw hbd W fun j e => by omega
  | k + 1 => rowd_step G hrw hbd W fun j e => by
    obtain rfl : k = j := by omega
    exact rowd_spec G hrw hbd W k
end
end DL
set_option maxRecDepth 100000
set_option maxHeartbeats 1600000
open PySem L2 DL
namespace DL
open PySem L2
/-! ### lists made tuples, at any depth -/
mutual
def tupled : D → D
  | .lst xs => .tup (tupleds xs)
  | .tup xs => .tup (tupleds xs)
  | .dct kvs => .dct kvs
  | .non => .non
  | .bl b => .bl b
  | .int i => .int i
  | .str s => .str s
  | .obj a => .obj a
  | .ty t => .ty t
  | .scr s => .scr s
  | .ins C ds => .ins C ds
  | .dcT k => .dcT k
  | .exc a b C fs => .exc a b C fs
def tupleds : List D → List D
  | [] => []
  | x :: xs => tupled x :: tupleds xs
end
theorem tupleds_map : ∀ xs : List D, tupleds xs = xs.map tupled
  | [] => rfl
  | x :: xs => by rw [tupleds, tupleds_map xs]; rfl
mutual
theorem tp_isP : ∀ d : D, isP (tupled d) = isP d
  | .lst xs => by simp only [tupled, isP]; exact tps_isP xs
  | .tup xs => by simp only [tupled, isP]; exact tps_isP xs
  | .dct _ => rfl | .non => rfl | .bl _ => rfl | .int _ => rfl | .str _ => rfl | .obj _ => rfl | .ty _ => rfl | .scr _ => rfl | .ins _ _ => rfl | .dcT _ => rfl | .exc _ _ _ _ => rfl
theorem tps_isP : ∀ xs : List D, isPs (tupleds xs) = isPs xs
  | [] => rfl
  | x :: xs => by simp only [tupleds, isPs, tp_isP x, tps_isP xs]
end
mutual
theorem tp_leaf : ∀ d : D, leafB (tupled d) = leafB d
  | .lst xs => by simp only [tupled, leafB]; exact tps_leaf xs
  | .tup xs => by simp only [tupled, leafB]; exact tps_leaf xs
  | .dct _ => rfl | .non => rfl | .bl _ => rfl | .int _ => rfl | .str _ => rfl | .obj _ => rfl | .ty _ => rfl | .scr _ => rfl | .ins _ _ => rfl | .dcT _ => rfl | .exc _ _ _ _ => rfl
theorem tps_leaf : ∀ xs : List D, leafBs (tupleds xs) = leafBs xs
  | [] => rfl
  | x :: xs => by simp only [tupleds, leafBs, tp_leaf x, tps_leaf xs]
end
mutual
theorem tp_cnt : ∀ d : D, cntD (tupled d) = cntD d
  | .lst xs => by simp only [tupled, cntD]; rw [tps_cnt xs]
  | .tup xs => by simp only [tupled, cntD]; rw [tps_cnt xs]
  | .dct _ => rfl | .non => rfl | .bl _ => rfl | .int _ => rfl | .str _ => rfl | .obj _ => rfl | .ty _ => rfl | .scr _ => rfl | .ins _ _ => rfl | .dcT _ => rfl | .exc _ _ _ _ => rfl
theorem tps_cnt : ∀ xs : List D, cntDs (tupleds xs) = cntDs xs
  | [] => rfl
  | x :: xs => by simp only [tupleds, cntDs, tp_cnt x, tps_cnt xs]
end
mutual
theorem tp_dp : ∀ d : D, dpD (tupled d) = dpD d
  | .lst xs => by unfold dpD; simp only [tupled, toP, PyData.depth]; rw [tps_dp xs]
  | .tup xs => by unfold dpD; simp only [tupled, toP, PyData.depth]; rw [tps_dp xs]
  | .dct _ => rfl | .non => rfl | .bl _ => rfl | .int _ => rfl | .str _ => rfl | .obj _ => rfl | .ty _ => rfl | .scr _ => rfl | .ins _ _ => rfl | .dcT _ => rfl | .exc _ _ _ _ => rfl
theorem tps_dp : ∀ xs : List D, PyData.depthAll (toPs (tupleds xs)) = PyData.depthAll (toPs xs)
  | [] => rfl
  | x :: xs => by
    have := tp_dp x
    unfold dpD at this
    simp only [tupleds, toPs, PyData.depthAll, this, tps_dp xs]
end
/-- the same but for lists and tuples -/
def Alk (d e : D) : Prop := tupled e = tupled d
theorem Alk.isP {d e : D} (h : Alk d e) : isP e = isP d := by rw [← tp_isP e, h, tp_isP]
theorem Alk.leaf {d e : D} (h : Alk d e) : leafB e = leafB d := by rw [← tp_leaf e, h, tp_leaf]
theorem Alk.cnt {d e : D} (h : Alk d e) : cntD e = cntD d := by rw [← tp_cnt e, h, tp_cnt]
theorem Alk.dp {d e : D} (h : Alk d e) : dpD e = dpD d := by rw [← tp_dp e, h, tp_dp]
theorem alk_tup {xs ys : List D} : Alk (.tup xs) (.tup ys) ↔ ys.map tupled = xs.map tupled := by
  unfold Alk
  simp only [tupled, tupleds_map, D.tup.injEq]
theorem alk_refl (d : D) : Alk d d := rfl
/-- a comprehension whose items are known up to f, g -/
theorem comp_rel {β : Type} {src : MS → Prop} {step : D → List D → MS → (List D → MS → Prop) → Prop} {Q : List D → MS → Prop} {items : List D} {M : MS} (f g : D → β) (P : D → Prop) (hs : src M) (hl : items.length ≤ sizeLine)
    (h : ∀ d ∈ items, ∀ acc k, (∀ r, f r = g d → P r → k (acc ++ [r]) M) → step d acc M k) (e : ∀ acc, acc.map f = items.map g → (∀ r ∈ acc, P r) → Q acc M) : compLoop src step items [] M Q := by
  refine comp_ind (fun r acc M' => M' = M ∧ acc.map f ++ r.map g = items.map g ∧ ∀ x ∈ acc, P x) ⟨rfl, by simp, by simp⟩ ?_ ?_
  · rintro d r acc M' ⟨u, hu⟩ ⟨rfl, h1, h2⟩
    have hl2 := congrArg List.length h1
    simp at hl2
    refine ⟨hs, by omega, fun k hk => h d (by rw [hu]; simp) acc k fun x hx hp => hk _ _ ⟨rfl, by simp [hx, ← h1], fun y hy => ?_⟩⟩
    rcases List.mem_append.mp hy with hy | hy
    · exact h2 y hy
    · have : y = x := by simpa using hy
      rw [this]; exact hp
  · rintro acc M' ⟨rfl, h1, h2⟩
    exact ⟨hs, e acc (by simpa using h1) h2⟩
theorem isPs_of : ∀ {xs : List D}, (∀ x ∈ xs, isP x = true) → isPs xs = true
  | [], _ => rfl
  | x :: xs, h => by simp only [isPs, Bool.and_eq_true]; exact ⟨h x (by simp), isPs_of fun y hy => h y (List.mem_cons_of_mem _ hy)⟩
structure Ls (tab : List (Nat × Ent)) : Prop where
  li : tabGet tab i_law_listed = some (.comp d_law_listed)
  la : tabGet tab i_law_loose_all = some (.comp d_law_loose_all)
  lo : tabGet tab i_law_loose = some (.comp d_law_loose)
section
variable {tab : List (Nat × Ent)} {γ : List D} {n : Nat} {b p q : Addr} {d : D} {M M' : MS} {Q : KR} {Z : KX}
theorem listed_spec (G : Gn tab) (L : Ls tab) (hb : M b = some .bag) {xs : List D} (k : ∀ e, e = .lst xs ∨ e = .tup xs → Q (.val e) M) : callN tab γ (n + 2) i_law_listed [.obj b, .lst xs] M Q Z := by
  rw [cn L.li]
  refine ⟨rfl, ?_⟩
  unfold d_law_listed b_law_listed
  simp? only [take_iff (ct G.tk) hb]
  intro v h0 h1
  obtain ⟨d, hd, e⟩ := two_at (x := .lst xs) (y := .tup xs) h0 h1
  refine ⟨d, e, ?_⟩
  rcases hd with rfl | rfl
  · exact rt_lst.mpr (k _ (.inl rfl))
  · exact rt_tup.mpr (k _ (.inr rfl))
def LooseS (tab : List (Nat × Ent)) (γ : List D) (n : Nat) (d : D) : Prop := ∀ {M : MS} {b : Addr} {Q : KR} {Z : KX}, M b = some .bag → (∀ e, Alk d e → (∃ xs, e = .tup xs) → isP e = true → Q (.val e) M) → callN tab γ n i_law_loose [.obj b, d] M Q Z
theorem looseall_spec (G : Gn tab) (L : Ls tab) (hb : M b = some .bag) {xs : List D} (hx : ∀ x ∈ xs, LooseS tab γ (n + 2) x) (hl : xs.length ≤ 100000) (k : ∀ e, Alk (.lst xs) e → isP e = true → (seqQ e = true) → Q (.val e) M) : callN tab γ (n + 3) i_law_loose_all [.obj b, .lst xs] M Q Z := by
  rw [cn L.la]
  refine ⟨rfl, ?_⟩
  unfold d_law_loose_all b_law_loose_all
  simp? only []
  refine comp_rel tupled tupled (fun x => isP x = true) trivial (by rw [sizeLine_eq]; omega) (fun x hx' acc kk hk => hx x hx' hb fun e h1 h2 h3 => hk e h1 h3) fun acc hacc hP => ?_
  refine listed_spec G L hb fun e he => ?_
  have ha : Alk (.lst xs) e := by
    unfold Alk
    rcases he with rfl | rfl <;> simp only [tupled, tupleds_map, hacc]
  have hp : isP e = true := by rcases he with rfl | rfl <;> exact isPs_of hP
  exact (rt_val hp).mpr (k e ha hp (by rcases he with rfl | rfl <;> rfl))
theorem ct3 {x y z : D} {r : List D} : cutD (x :: y :: z :: r) none (some 3) = [x, y, z] := by rw [cut_take (by decide)]; rfl
theorem ct2 {x y : D} {r : List D} : cutD (x :: y :: r) none (some 2) = [x, y] := by rw [cut_take (by decide)]; rfl
theorem ct1 {x : D} {r : List D} : cutD (x :: r) none (some 1) = [x] := by rw [cut_take (by decide)]; rfl
theorem cd3 {x y z : D} {r : List D} : cutD (x :: y :: z :: r) (some 3) none = r := by rw [cut_drop (by decide)]; rfl
theorem cd2 {x y : D} {r : List D} : cutD (x :: y :: r) (some 2) none = r := by rw [cut_drop (by decide)]; rfl
theorem cd1 {x : D} {r : List D} : cutD (x :: r) (some 1) none = r := by rw [cut_drop (by decide)]; rfl
theorem alk_list {xs : List D} {e : D} (h : e = .lst xs ∨ e = .tup xs) : Alk (.lst xs) e := by
  unfold Alk
  rcases h with rfl | rfl <;> simp only [tupled]
theorem isP_list {xs : List D} {e : D} (hx : isPs xs = true) (h : e = .lst xs ∨ e = .tup xs) : isP e = true := by
  rcases h with rfl | rfl <;> exact hx
theorem loose_spec (G : Gn tab) (L : Ls tab) {cs ws es : List Str} {k : Nat} {a c : Bool} (R : RowP cs ws es k a c d) : isP d = true → cntD d ≤ 4000 → ∀ n, 2 * k + 5 ≤ n → LooseS tab γ n d := by
  induction R with
  | deed h =>
    intro _ _ n hn M b Q Z hb kk
    obtain ⟨m, rfl⟩ : ∃ m, n = m + 3 := ⟨n - 3, by omega⟩
    obtain ⟨c, w, as, rs, rfl, _⟩ := h.ex
    rw [cn L.lo]
    refine ⟨rfl, ?_⟩
    unfold d_law_loose b_law_loose
    (refine x_cons ?_; simp_all? only [WNB])
    simp? only [ct3, cd3]
    refine comp_rel tupled tupled (fun x => isP x = true) trivial (by show 2 ≤ sizeLine; decide) (fun x hx acc k2 hk => ?_) fun acc h1 h2 => ?_
    · have : ∃ ys : List Str, x = .lst (ys.map D.str) := by
        simp only [List.mem_cons, List.not_mem_nil, or_false] at hx
        rcases hx with rfl | rfl <;> exact ⟨_, rfl⟩
      obtain ⟨ys, rfl⟩ := this
      exact listed_spec G L hb fun e he => hk e (alk_list he) (isP_list (isPs_strs _) he)
    · simp? only []
      have hl := congrArg List.length h1
      simp only [List.length_map, List.length_cons, List.length_nil] at hl
      refine ⟨by omega, kk _ (alk_tup.mpr ?_) ⟨_, rfl⟩ ?_⟩
      · simp only [List.map_cons, h1, List.map_nil]
      · simp [isP, isPs, isPs_of h2]
  | set h1 h2 =>
    intro hp _ n hn M b Q Z hb kk
    obtain ⟨m, rfl⟩ : ∃ m, n = m + 3 := ⟨n - 3, by omega⟩
    rw [cn L.lo]
    refine ⟨rfl, ?_⟩
    unfold d_law_loose b_law_loose
    (refine x_cons ?_; simp_all? only [WNB]); (refine x_cons ?_; simp_all? only [c_in2, WNB, or_self]); (refine x_cons ?_; simp_all? only [WNB]); (refine x_cons ?_; simp_all? only [WNB])
    simp? only []
    exact kk _ rfl ⟨_, rfl⟩ hp
  | ans h1 =>
    intro hp _ n hn M b Q Z hb kk
    obtain ⟨m, rfl⟩ : ∃ m, n = m + 3 := ⟨n - 3, by omega⟩
    rw [cn L.lo]
    refine ⟨rfl, ?_⟩
    unfold d_law_loose b_law_loose
    (refine x_cons ?_; simp_all? only [WNB]); (refine x_cons ?_; simp_all? only [c_in2, WNB, or_self]); (refine x_cons ?_; simp_all? only [WNB]); (refine x_cons ?_; simp_all? only [WNB])
    simp? only []
    exact kk _ rfl ⟨_, rfl⟩ hp
  | lv h1 =>
    intro hp _ n hn M b Q Z hb kk
    obtain ⟨m, rfl⟩ : ∃ m, n = m + 3 := ⟨n - 3, by omega⟩
    rw [cn L.lo]
    refine ⟨rfl, ?_⟩
    unfold d_law_loose b_law_loose
    rcases h1 with rfl | rfl
    · (refine x_cons ?_; simp_all? only [WNB]); (refine x_cons ?_; simp_all? only [c_in2, WNB, or_self]); (refine x_cons ?_; simp_all? only [WNB]); (refine x_cons ?_; simp_all? only [WNB])
      simp? only []
      exact kk _ rfl ⟨_, rfl⟩ hp
    · (refine x_cons ?_; simp_all? only [WNB]); (refine x_cons ?_; simp_all? only [c_in2, WNB, or_self]); (refine x_cons ?_; simp_all? only [WNB]); (refine x_cons ?_; simp_all? only [WNB])
      simp? only []
      exact kk _ rfl ⟨_, rfl⟩ hp
  | ag =>
    intro hp _ n hn M b Q Z hb kk
    obtain ⟨m, rfl⟩ : ∃ m, n = m + 3 := ⟨n - 3, by omega⟩
    rw [cn L.lo]
    refine ⟨rfl, ?_⟩
    unfold d_law_loose b_law_loose
    (refine x_cons ?_; simp_all? only [WNB]); (refine x_cons ?_; simp_all? only [c_in2, WNB, or_self]); (refine x_cons ?_; simp_all? only [WNB]); (refine x_cons ?_; simp_all? only [WNB])
    simp? only []
    exact kk _ rfl ⟨_, rfl⟩ hp
  | rs h1 =>
    intro hp _ n hn M b Q Z hb kk
    obtain ⟨m, rfl⟩ : ∃ m, n = m + 3 := ⟨n - 3, by omega⟩
    rw [cn L.lo]
    refine ⟨rfl, ?_⟩
    unfold d_law_loose b_law_loose
    (refine x_cons ?_; simp_all? only [WNB]); (refine x_cons ?_; simp_all? only [c_in2, WNB, or_self]); (refine x_cons ?_; simp_all? only [WNB]); (refine x_cons ?_; simp_all? only [WNB])
    simp? only []
    exact kk _ rfl ⟨_, rfl⟩ hp
  | @ifl k a a' c w u xs ys hw hu hxs hys ihx ihy =>
    intro hp hc n hn M b Q Z hb kk
    obtain ⟨m, rfl⟩ : ∃ m, n = m + 4 := ⟨n - 4, by omega⟩
    have hth : ∀ x, x ∈ xs ∨ x ∈ ys → isP x = true ∧ cntD x ≤ 4000 := fun x hx => by
      simp only [isP, isPs, Bool.and_eq_true] at hp
      simp only [cntD, cntDs] at hc
      rcases hx with h | h
      · exact ⟨isPs_mem hp.2.2.1 x h, by have := cnt_mem h; omega⟩
      · exact ⟨isPs_mem hp.2.2.2.1 x h, by have := cnt_mem h; omega⟩
    have hlen : xs.length ≤ 4000 ∧ ys.length ≤ 4000 := by
      simp only [cntD, cntDs] at hc
      have := cnt_len xs
      have := cnt_len ys
      omega
    rw [cn L.lo]
    refine ⟨rfl, ?_⟩
    unfold d_law_loose b_law_loose
    have go : ∀ {F : DE}, F.rt = retR M Q → execSs (callN tab γ (m + 3)) γ (.cons (.ret (.bin .Add (.slc (.var 1) .none (.some (.cst (.int 2)))) (.bi .tuple (.cons (.comp (.call 33 (.cons (.var 0) (.cons (.var 2) .nil))) [2] true [2] (.seq (.slc (.var 1) (.some (.cst (.int 2))) .none)) .yes) .nil)))) .nil)
        F [some (.obj b), some (.tup [.str w, .str u, .lst xs, .lst ys]), none, none, none, none, none, none] M := fun {F} hF => by
      simp? only [ct2, cd2, hF]
      refine comp_rel tupled tupled (fun x => isP x = true) trivial (by show 2 ≤ sizeLine; decide) (fun x hx acc k2 hk => ?_) fun acc h1 h2 => ?_
      · simp only [List.mem_cons, List.not_mem_nil, or_false] at hx
        rcases hx with rfl | rfl
        · exact looseall_spec G L hb (fun x hx => ihx x hx (hth x (.inl hx)).1 (hth x (.inl hx)).2 (m + 2) (by omega)) (by omega) fun e h1 h2 _ => hk e h1 h2
        · exact looseall_spec G L hb (fun x hx => ihy x hx (hth x (.inr hx)).1 (hth x (.inr hx)).2 (m + 2) (by omega)) (by omega) fun e h1 h2 _ => hk e h1 h2
      · simp? only []
        have hl := congrArg List.length h1
        simp only [List.length_map, List.length_cons, List.length_nil] at hl
        refine ⟨by omega, kk _ (alk_tup.mpr ?_) ⟨_, rfl⟩ ?_⟩
        · simp only [List.map_cons, h1, List.map_nil]
        · simp [isP, isPs, isPs_of h2]
    rcases hw with ⟨rfl, rfl⟩ | ⟨rfl, rfl⟩
    · (refine x_cons ?_; simp_all? only [WNB]); (refine x_cons ?_; simp_all? only [c_in2, WNB, or_self, true_or, or_true])
      exact go rfl
    · (refine x_cons ?_; simp_all? only [WNB]); (refine x_cons ?_; simp_all? only [c_in2, WNB, or_self, true_or, or_true])
      exact go rfl
  | @cl k a c u rs xs hu hr hxs ihx =>
    intro hp hc n hn M b Q Z hb kk
    obtain ⟨m, rfl⟩ : ∃ m, n = m + 4 := ⟨n - 4, by omega⟩
    simp only [isP, isPs, Bool.and_eq_true] at hp
    simp only [cntD, cntDs] at hc
    have hth : ∀ x, x ∈ xs → isP x = true ∧ cntD x ≤ 4000 := fun x h => ⟨isPs_mem hp.2.2.2.1 x h, by have := cnt_mem h; omega⟩
    have := cnt_len xs
    rw [cn L.lo]
    refine ⟨rfl, ?_⟩
    unfold d_law_loose b_law_loose
    (refine x_cons ?_; simp_all? only [WNB]); (refine x_cons ?_; simp_all? only [c_in2, WNB, or_self]); (refine x_cons ?_; simp_all? only [WNB])
    simp? only [ct2]
    refine listed_spec G L hb fun e1 h1 => ?_
    simp? only []
    refine looseall_spec G L hb (fun x hx => ihx x hx (hth x hx).1 (hth x hx).2 (m + 2) (by omega)) (by omega) fun e2 h2 h3 _ => ?_
    simp? only []
    have i1 := isP_list (isPs_strs rs) h1
    refine kk _ (alk_tup.mpr ?_) ⟨_, rfl⟩ (by simp [isP, isPs, i1, h3])
    have h1' : tupled e1 = _ := alk_list h1
    have h2' : tupled e2 = _ := h2
    simp only [List.map_cons, List.map_nil, h1', h2']
  | @tr k a c xs cts ys zs hxs he hct hys hzs ihx ihc ihy ihz =>
    intro hp hc n hn M b Q Z hb kk
    obtain ⟨m, rfl⟩ : ∃ m, n = m + 4 := ⟨n - 4, by omega⟩
    simp only [isP, isPs, Bool.and_eq_true] at hp
    simp only [cntD, cntDs] at hc
    have hx' : ∀ x, x ∈ xs → isP x = true ∧ cntD x ≤ 4000 := fun x h => ⟨isPs_mem hp.2.1 x h, by have := cnt_mem h; omega⟩
    have hy' : ∀ x, x ∈ ys → isP x = true ∧ cntD x ≤ 4000 := fun x h => ⟨isPs_mem hp.2.2.2.1 x h, by have := cnt_mem h; omega⟩
    have hz' : ∀ x, x ∈ zs → isP x = true ∧ cntD x ≤ 4000 := fun x h => ⟨isPs_mem hp.2.2.2.2.1 x h, by have := cnt_mem h; omega⟩
    have hc1 : ∀ p ∈ cts, isP (catchD p) = true ∧ cntD (catchD p) ≤ 4000 := fun p h => ⟨isPs_mem hp.2.2.1 _ (List.mem_map_of_mem h), by have := cnt_mem (List.mem_map_of_mem (f := catchD) h); omega⟩
    have hc2 : ∀ p ∈ cts, p.2.length ≤ 4000 ∧ ∀ x ∈ p.2, isP x = true ∧ cntD x ≤ 4000 := fun p h => by
      obtain ⟨a1, a2⟩ := hc1 p h
      simp only [catchD, isP, isPs, Bool.and_eq_true] at a1
      simp only [catchD, cntD, cntDs] at a2
      have := cnt_len p.2
      exact ⟨by omega, fun x hx => ⟨isPs_mem a1.2.1 x hx, by have := cnt_mem hx; omega⟩⟩
    have := cnt_len xs
    have := cnt_len ys
    have := cnt_len zs
    have hcl := cnt_len (cts.map catchD)
    simp only [List.length_map] at hcl
    rw [cn L.lo]
    refine ⟨rfl, ?_⟩
    unfold d_law_loose b_law_loose
    (refine x_cons ?_; simp_all? only [WNB]); (refine x_cons ?_; simp_all? only [c_in2, WNB, or_self]); (refine x_cons ?_; simp_all? only [WNB]); (refine x_cons ?_; simp_all? only [WNB])
    (refine x_cons ?_; simp_all? only [])
    refine comp_rel tupled tupled (fun x => isP x = true) trivial (by rw [List.length_map, sizeLine_eq]; omega) (fun x hx acc k2 hk => ?_) fun acc g1 g2 => ?_
    · obtain ⟨p, hp2, rfl⟩ := List.mem_map.mp hx
      unfold catchD
      simp? only []
      refine listed_spec G L hb fun e1 h1 => ?_
      simp? only []
      refine looseall_spec G L hb (fun x hx => ihc p hp2 x hx ((hc2 p hp2).2 x hx).1 ((hc2 p hp2).2 x hx).2 (m + 2) (by omega)) (by have := (hc2 p hp2).1; omega) fun e2 h2 h3 _ => ?_
      simp? only []
      have i1 := isP_list (isPs_strs p.1) h1
      have h1' : tupled e1 = _ := alk_list h1
      have h2' : tupled e2 = _ := h2
      refine hk _ ?_ (by simp [isP, isPs, i1, h3])
      simp only [catchD, tupled, tupleds, h1', h2']
    have gl := congrArg List.length g1
    simp only [List.length_map] at gl
    (refine x_cons ?_; simp_all? only [])
    refine comp_rel tupled tupled (fun x => isP x = true) trivial (by show 3 ≤ sizeLine; decide) (fun x hx acc2 k2 hk => ?_) fun acc2 q1 q2 => ?_
    · simp only [List.mem_cons, List.not_mem_nil, or_false] at hx
      rcases hx with rfl | rfl | rfl
      · exact looseall_spec G L hb (fun x hx => ihx x hx (hx' x hx).1 (hx' x hx).2 (m + 2) (by omega)) (by omega) fun e h1 h2 _ => hk e h1 h2
      · exact looseall_spec G L hb (fun x hx => ihy x hx (hy' x hx).1 (hy' x hx).2 (m + 2) (by omega)) (by omega) fun e h1 h2 _ => hk e h1 h2
      · exact looseall_spec G L hb (fun x hx => ihz x hx (hz' x hx).1 (hz' x hx).2 (m + 2) (by omega)) (by omega) fun e h1 h2 _ => hk e h1 h2
    match acc2, q1, q2 with
    | [e1, e2, e3], q1, q2 =>
      simp only [List.map_cons, List.map_nil, List.cons.injEq, and_true] at q1
      simp? only []
      refine listed_spec G L hb fun e4 h4 => ?_
      simp? only []
      have i4 := isP_list (isPs_of g2) h4
      have h4' : tupled e4 = _ := alk_list h4
      have i1 := q2 e1 (by simp)
      have i2 := q2 e2 (by simp)
      have i3 := q2 e3 (by simp)
      refine kk _ (alk_tup.mpr ?_) ⟨_, rfl⟩ (by simp [isP, isPs, i1, i2, i3, i4])
      simp only [List.map_cons, List.map_nil, q1.1, q1.2.1, q1.2.2, h4']
      simp only [tupled, tupleds_map, g1]
    | [], q1, _ => simp at q1
    | [_], q1, _ => simp at q1
    | [_, _], q1, _ => simp at q1
    | _ :: _ :: _ :: _ :: _, q1, _ => simp at q1
end
end DL
set_option maxRecDepth 100000
set_option maxHeartbeats 1600000
open PySem L2 DL
namespace DL
open PySem L2
def Od (d : D) : Prop := Th 60 d ∧ dpD d ≤ 2
theorem od_closed {d : D} (h : (isP d && leafB d && decide (cntD d ≤ 60) && decide (dpD d ≤ 2)) = true) : Od d := by
  simp only [Bool.and_eq_true, decide_eq_true_eq] at h
  exact ⟨⟨h.1.1.1, h.1.1.2, h.1.2⟩, h.2⟩
theorem od_nil : ∀ d ∈ ([] : List D), Od d := by simp
theorem od_cons {d : D} {ds : List D} (h : Od d) (t : ∀ d ∈ ds, Od d) : ∀ x ∈ d :: ds, Od x := fun x hx => (List.mem_cons.mp hx).elim (fun e => e ▸ h) (t x)
theorem od_str {x : Str} (h : strB x = true) : Od (.str x) := ⟨th_str h, by simp [dpD, toP, PyData.depth]⟩
theorem od_int {x : Int} (h : intB x = true) : Od (.int x) := ⟨th_int h, by simp [dpD, toP, PyData.depth]⟩
theorem od_tup1 {x : Str} (h : strB x = true) : Od (.tup [.str x]) := ⟨⟨rfl, by simp [leafB, leafBs, h], by simp [cntD, cntDs]⟩, by simp [dpD, toP, toPs, PyData.depth, PyData.depthAll]⟩
theorem od_lst1 {x : Str} (h : strB x = true) : Od (.lst [.str x]) := ⟨⟨rfl, by simp [leafB, leafBs, h], by simp [cntD, cntDs]⟩, by simp [dpD, toP, toPs, PyData.depth, PyData.depthAll]⟩
theorem od_dct1 {x : Str} (h : strB x = true) : Od (.dct [(.inr x, .int 1)]) := ⟨⟨rfl, by simp [leafB, leafBk, h]; decide +kernel, by simp [cntD, cntDk]⟩, by simp [dpD, toP, toPk, PyData.depth, PyData.depthKv]⟩
def chB (x : Str) : Prop := ∀ c ∈ x.cps.toList, c < 1114112
theorem strB_of {x : Str} (h1 : x.length ≤ 190) (h2 : chB x) : strB x = true := by
  unfold strB
  simp only [Bool.and_eq_true, decide_eq_true_eq]
  refine ⟨h1, ?_⟩
  rw [Array.all_eq_true_iff_forall_mem]
  intro c hc
  exact decide_eq_true (h2 c (by simpa using hc))
theorem chB_of {x : Str} (h : strB x = true) : chB x := by
  unfold strB at h
  simp only [Bool.and_eq_true, decide_eq_true_eq] at h
  have h2 := h.2
  rw [Array.all_eq_true_iff_forall_mem] at h2
  intro c hc
  simpa using h2 c (by simpa using hc)
theorem chB_app {x y : Str} (h1 : chB x) (h2 : chB y) : chB (x ++ y) := fun c hc => (mem_app.mp hc).elim (h1 c) (h2 c)
section
variable {tab : List (Nat × Ent)} {γ : List D} {n : Nat} {b p q : Addr} {d : D} {M M' : MS} {Q : KR} {Z : KX}
theorem odd_tk (htk : tabGet tab i_law_take = some (.prim phTake)) (ho : tabGet tab i_law_odd = some (.comp d_law_odd)) (hb : M b = some .bag) {nm : Str} (hn : strB nm = true) (hl : nm.length ≤ 20) (k : ∀ d, Th 60 d → dpD d ≤ 2 → Q (.val d) M) : callN tab γ (n + 2) i_law_odd [.obj b, .str nm] M Q Z := by
  rw [cn ho]
  refine ⟨rfl, ?_⟩
  unfold d_law_odd b_law_odd
  (refine x_cons ?_; simp_all? only [take_iff (ct htk) hb])
  intro v h0 h1
  obtain ⟨w, w1, w2, w3, w4, w5⟩ := wide_ok h0 h1
  have w6 := w4
  rw [strLen_append] at w4
  refine ⟨⟨by omega, by omega, by decide +kernel⟩, by omega, ?_⟩
  simp_all? only [w5]
  have hz : strB (nm ++ "z") = true := by
    refine strB_of (by rw [strLen_append]; show nm.length + 1 ≤ 190; omega) (chB_app (chB_of hn) ?_)
    unfold chB; decide +kernel
  (refine x_cons ?_; simp_all? only [])
  refine ⟨by show nm.length + 1 ≤ _; omega, fun p hp => ?_⟩
  (refine x_cons ?_; simp_all? only [pairsD])
  refine ⟨List.nodup_nil, .inl ⟨p, _, _, rfl, updM_same, rfl, by simp, ?_⟩⟩
  rw [updM_updM]
  (refine x_cons ?_; simp_all? only [pairsD])
  refine ⟨by simp, .inl ⟨p, _, _, rfl, updM_same, rfl, by simp, ?_⟩⟩
  rw [updM_updM]
  (refine x_cons ?_; simp_all? only [pairsD])
  refine ⟨List.nodup_nil, .inl ⟨p, _, _, rfl, updM_same, rfl, by simp, ?_⟩⟩
  rw [updM_updM]
  simp? only [vw_upd, take_iff (ct htk) (bag_upd hb hp)]
  have od : ∀ (L : List D) (m : Nat), (∀ d ∈ L, Od d) → L.length = m → ∀ v : Int, 0 ≤ v → v < (m : Int) → ∃ d, atI L v = some d ∧ retR M Q (.val d) (updM M p (.lst L)) := fun L m hL hm v v0 v1 => by
    subst hm
    obtain ⟨d, hd, e⟩ := idx_at v0 v1
    have h := hL d hd
    refine ⟨d, e, ?_⟩
    have er : retR M Q (.val d) (updM M p (.lst L)) = Q (.val d) (restrict M (updM M p (.lst L))) := by
      unfold retR
      cases d with
      | obj a => have := h.1.p; simp [isP] at this
      | _ => rfl
    rw [er, restrict_new hp]
    exact k d h.1 h.2
  exact ⟨by decide, by decide, od _ 41 (od_cons (od_closed (by decide +kernel)) (od_cons (od_closed (by decide +kernel)) (od_cons (od_closed (by decide +kernel)) (od_cons (od_int w2) (od_cons (od_int w3) (od_cons (od_closed (by decide +kernel)) (od_cons (od_closed (by decide +kernel)) (od_cons (od_closed (by decide +kernel)) (od_cons (od_closed (by decide +kernel)) (od_cons (od_closed (by decide +kernel)) (od_cons (od_str hn) (od_cons (od_str hz) (od_cons (od_closed (by decide +kernel)) (od_cons (od_closed (by decide +kernel)) (od_cons (od_closed (by decide +kernel)) (od_cons (od_closed (by decide +kernel)) (od_cons (od_closed (by decide +kernel)) (od_cons (od_closed (by decide +kernel)) (od_cons (od_closed (by decide +kernel)) (od_cons (od_closed (by decide +kernel)) (od_cons (od_closed (by decide +kernel)) (od_cons (od_closed (by decide +kernel)) (od_cons (od_closed (by decide +kernel)) (od_cons (od_closed (by decide +kernel)) (od_cons (od_closed (by decide +kernel)) (od_cons (od_closed (by decide +kernel)) (od_cons (od_closed (by decide +kernel)) (od_cons (od_closed (by decide +kernel)) (od_cons (od_closed (by decide +kernel)) (od_cons (od_closed (by decide +kernel)) (od_cons (od_tup1 hn) (od_cons (od_dct1 hn) (od_cons (od_lst1 hn) (od_cons (od_closed (by decide +kernel)) (od_cons (od_closed (by decide +kernel)) (od_cons (od_closed (by decide +kernel)) (od_cons (od_closed (by decide +kernel)) (od_cons (od_closed (by decide +kernel)) (od_cons (od_closed (by decide +kernel)) (od_cons (od_closed (by decide +kernel)) (od_cons (od_closed (by decide +kernel)) od_nil))))))))))))))))))))))))))))))))))))))))) rfl⟩
theorem odd_spec (G : Gn tab) (ho : tabGet tab i_law_odd = some (.comp d_law_odd)) (hb : M b = some .bag) {nm : Str} (hn : strB nm = true) (hl : nm.length ≤ 20) (k : ∀ d, Th 60 d → dpD d ≤ 2 → Q (.val d) M) : callN tab γ (n + 2) i_law_odd [.obj b, .str nm] M Q Z := odd_tk G.tk ho hb hn hl k
/-! ### parts put otherwise -/
structure Tz (n m : Nat) (d : D) : Prop where
  p : isP d = true
  l : leafB d = true
  c : cntD d ≤ n
  e : dpD d ≤ m
theorem Tz.th {n m : Nat} {d : D} (h : Tz n m d) : Th n d := ⟨h.p, h.l, h.c⟩
theorem Tz.mono {n m n' m' : Nat} {d : D} (h : Tz n m d) (h1 : n ≤ n') (h2 : m ≤ m') : Tz n' m' d := ⟨h.p, h.l, Nat.le_trans h.c h1, Nat.le_trans h.e h2⟩
theorem leafBs_of : ∀ {xs : List D}, (∀ x ∈ xs, leafB x = true) → leafBs xs = true
  | [], _ => rfl
  | x :: xs, h => by simp only [leafBs, Bool.and_eq_true]; exact ⟨h x (by simp), leafBs_of fun y hy => h y (List.mem_cons_of_mem _ hy)⟩
theorem depthAll_of {m : Nat} : ∀ {xs : List D}, (∀ x ∈ xs, dpD x ≤ m) → PyData.depthAll (toPs xs) ≤ m
  | [], _ => Nat.zero_le _
  | x :: xs, h => by
    have h1 := h x (by simp)
    have h2 := depthAll_of (xs := xs) fun y hy => h y (List.mem_cons_of_mem _ hy)
    unfold dpD at h1
    simp only [toPs, PyData.depthAll]
    omega
/-- a list or a tuple of such -/
theorem tz_seq {n m : Nat} {xs : List D} {e : D} (he : e = .lst xs ∨ e = .tup xs) (hx : ∀ x ∈ xs, isP x = true ∧ leafB x = true ∧ dpD x ≤ m) (hc : cntDs xs + 1 ≤ n) : Tz n (m + 1) e := by
  have h1 := isPs_of fun x h => (hx x h).1
  have h2 := leafBs_of fun x h => (hx x h).2.1
  have h3 := depthAll_of fun x h => (hx x h).2.2
  rcases he with rfl | rfl
  · exact ⟨h1, h2, hc, by unfold dpD; simp only [toP, PyData.depth]; omega⟩
  · exact ⟨h1, h2, hc, by unfold dpD; simp only [toP, PyData.depth]; omega⟩
theorem seq_cases {d : D} (h : seqQ d = true) : d = .lst (itemsQ d) ∨ d = .tup (itemsQ d) := by
  cases d <;> first | exact .inl rfl | exact .inr rfl | cases h
theorem cnt_seq {d : D} (h : seqQ d = true) : cntD d = cntDs (itemsQ d) + 1 := by
  cases d <;> first | rfl | cases h
theorem cntDs_set : ∀ {xs : List D} {i : Nat} {x y : D}, xs[i]? = some x → cntDs (xs.set i y) + cntD x = cntDs xs + cntD y
  | z :: zs, 0, x, y, h => by simp at h; subst h; simp only [List.set_cons_zero, cntDs]; omega
  | z :: zs, i + 1, x, y, h => by
    have := cntDs_set (xs := zs) (i := i) (x := x) (y := y) (by simpa using h)
    simp only [List.set_cons_succ, cntDs]; omega
theorem ix_seq {d : D} {i : Int} (h : seqQ d = true) : idxD d (.int i) = atI (itemsQ d) i := by
  cases d <;> first | rfl | cases h
theorem b_lst_seq {d : D} (h : seqQ d = true) : biD .list [d] = some (.new (itemsQ d)) := by
  cases d <;> first | rfl | cases h
theorem at_nat {xs : List D} {i : Int} {x : D} (h0 : 0 ≤ i) (h1 : i < xs.length) (e : atI xs i = some x) : xs[i.toNat]? = some x := by
  unfold atI ixN at e
  rw [if_pos h0, if_pos h1] at e
  exact e
end
end DL
set_option maxRecDepth 100000
set_option maxHeartbeats 1600000
open PySem L2 DL
namespace DL
open PySem L2
section
variable {tab : List (Nat × Ent)} {γ : List D} {b p q : Addr} {d : D}
theorem rt_own' {M : MS} {Q : KR} {ds : List D} {e : D} (hp : M p = none) (h : isP e = true) : retR M Q (.val e) (updM M p (.lst ds)) ↔ Q (.val e) M := by
  have er : retR M Q (.val e) (updM M p (.lst ds)) = Q (.val e) (restrict M (updM M p (.lst ds))) := by
    unfold retR
    cases e with
    | obj a => simp [isP] at h
    | _ => rfl
  rw [er, restrict_new hp]
/-- what comes of a thing whose parts are put otherwise -/
def SpP (t o r : D) : Prop := isP r = true ∧ leafB r = true ∧ cntD r ≤ 2 * cntD t + cntD o ∧ dpD r ≤ dpD t + dpD o
theorem sp_seq {t o e : D} {xs : List D} (ht : seqQ t = true) (he : e = .lst xs ∨ e = .tup xs) (hx : ∀ x ∈ xs, isP x = true ∧ leafB x = true ∧ dpD x + 1 ≤ dpD t + dpD o) (hc : cntDs xs + 1 ≤ 2 * cntD t + cntD o) (h1 : 1 ≤ dpD t) : SpP t o e := by
  have z := tz_seq (m := dpD t + dpD o - 1) he (fun x h => ⟨(hx x h).1, (hx x h).2.1, by have := (hx x h).2.2; omega⟩) hc
  exact ⟨z.p, z.l, z.c, by have := z.e; omega⟩
theorem spoilt_spec (G : Gn tab) (hs : tabGet tab i_law_spoilt = some (.comp d_law_spoilt)) {o : D} (ho : Th 4000 o) : ∀ (n : Nat) {t : D} {M : MS} {Q : KR} {Z : KX}, M b = some .bag → Th 4000 t → dpD t + 3 ≤ n → (∀ r : R, SpP t o r.toD → Q r M) → callN tab γ n i_law_spoilt [.obj b, t, o] M Q Z := by
  intro n
  induction n with
  | zero => intro t M Q Z hb ht hn; omega
  | succ n ih =>
    intro t M Q Z hb ht hn k
    obtain ⟨m, rfl⟩ : ∃ m, n = m + 1 := ⟨n - 1, by omega⟩
    rw [cn hs]
    refine ⟨rfl, ?_⟩
    unfold d_law_spoilt b_law_spoilt
    have odd : retR M Q (.val o) M := (rt_val ho.p).mpr (k (.val o) ⟨ho.p, ho.l, by show cntD o ≤ _; omega, by show dpD o ≤ _; omega⟩)
    (refine x_cons ?_; simp_all? only [take_iff (ct G.tk) hb])
    intro v v0 v1
    (refine x_cons ?_; simp_all? only [view_p ht.p, isi_seq ht.p])
    refine ⟨fun _ => ?_, fun hv => ⟨fun h1 => ?_, fun h1 => ?_⟩⟩
    · simp? only []; exact odd
    · simp? only []; exact odd
    simp_all? only [l_seq h1]
    refine ⟨fun _ => ?_, fun hl0 => ?_⟩
    · simp? only []; exact odd
    obtain ⟨hl, hx⟩ := th_items ht
    have hl1 : 0 < (itemsQ t).length := by omega
    have hd1 : ∀ x ∈ itemsQ t, dpD x + 1 ≤ dpD t := fun x hx => dp_items hx
    have hdt : 1 ≤ dpD t := by
      have := hd1 _ (List.getElem_mem hl1)
      omega
    have hct := cnt_seq h1
    have hbase : ∀ x ∈ itemsQ t, isP x = true ∧ leafB x = true ∧ dpD x + 1 ≤ dpD t + dpD o := fun x h => ⟨(hx x h).p, (hx x h).l, by have := hd1 x h; omega⟩
    (refine x_cons ?_; simp_all? only [view_p ht.p, b_lst_seq h1, l_seq h1])
    intro p hp
    have hb' : ∀ {o : MO}, updM M p o b = some .bag := fun {o} => bag_upd hb hp
    rw [take_iff (ct G.tk) hb']
    refine ⟨by omega, by omega, fun at' at0' at1' => ?_⟩
    obtain ⟨x, hx1, hx2⟩ := idx_at at0' at1'
    have hnat := at_nat at0' at1' hx2
    have hthx := hx x hx1
    have fin : ∀ {e : D} {ds : List D}, SpP t o e → retR M Q (.val e) (updM M p (.lst ds)) := fun {e ds} h => (rt_own' hp h.1).mpr (k (.val e) h)
    have finO : ∀ {ds : List D}, SpP t o (.lst ds) → retR M Q (.val (.obj p)) (updM M p (.lst ds)) := fun {ds} h => (rt_own hp).mpr (k (.new ds) h)
    simp_all? only []
    (refine x_cons ?_; simp_all? only [])
    refine ⟨fun hv4 => ?_, fun hv4 => ?_⟩
    · (refine x_cons ?_; simp_all? only [view_p ht.p, ix_seq h1, hx2])
      refine ih hb' hthx (by have := hd1 x hx1; omega) fun r hr => ?_
      refine ⟨p, _, _, at'.toNat, rfl, updM_same, rfl, by unfold ixN; rw [if_pos at0', if_pos at1'], ?_⟩
      rw [updM_updM]
      have hcs := cntDs_set (y := r.toD) hnat
      have hset : ∀ y ∈ (itemsQ t).set at'.toNat r.toD, isP y = true ∧ leafB y = true ∧ dpD y + 1 ≤ dpD t + dpD o := fun y hy => by
        rcases List.mem_or_eq_of_mem_set hy with h | rfl
        · exact hbase y h
        · exact ⟨hr.1, hr.2.1, by have := hr.2.2.2; have := hd1 x hx1; omega⟩
      have hcc : cntDs ((itemsQ t).set at'.toNat r.toD) + 1 ≤ 2 * cntD t + cntD o := by
        have := hr.2.2.1
        have := cnt_mem hx1
        omega
      simp? only [view_p ht.p, isi_tup ht.p, vw_upd]
      exact ⟨fun _ => fin (sp_seq h1 (.inr rfl) hset hcc hdt), fun _ => finO (sp_seq h1 (.inl rfl) hset hcc hdt)⟩
    (refine x_cons ?_; simp_all? only [])
    refine ⟨fun hv5 => ?_, fun hv5 => ?_⟩
    · have hsame : cntDs (itemsQ t) + 1 ≤ 2 * cntD t + cntD o := by omega
      simp? only [view_p ht.p, isi_lst ht.p, vw_upd]
      cases hq : lstQ t with
      | true =>
        refine ⟨.tup (itemsQ t), rfl, ?_⟩
        exact fin (sp_seq h1 (.inr rfl) hbase hsame hdt)
      | false =>
        refine ⟨.obj p, rfl, ?_⟩
        exact finO (sp_seq h1 (.inl rfl) hbase hsame hdt)
    (refine x_cons ?_; simp_all? only [vw_upd, ix_l, hx2, take_iff (ct G.tk) hb'])
    rw [cut_take at0', cut_drop (by omega)]
    have hlt : ((itemsQ t).take at'.toNat).length + ((itemsQ t).drop (at' + 1).toNat).length ≤ (itemsQ t).length := by
      rw [List.length_take, List.length_drop]; omega
    refine ⟨by omega, by omega, by omega, fun u u0 u1 => ?_⟩
    obtain ⟨d, hd, e⟩ := idx_at (xs := [D.lst (itemsQ t ++ [o]), D.lst ((itemsQ t).take at'.toNat ++ (itemsQ t).drop (at' + 1).toNat), D.lst (itemsQ t ++ [x])]) u0 (by simpa using u1)
    refine ⟨d, e, ?_⟩
    obtain ⟨zs, rfl, hz1, hz2⟩ : ∃ zs, d = .lst zs ∧ (∀ y ∈ zs, isP y = true ∧ leafB y = true ∧ dpD y + 1 ≤ dpD t + dpD o) ∧ cntDs zs + 1 ≤ 2 * cntD t + cntD o := by
      simp only [List.mem_cons, List.not_mem_nil, or_false] at hd
      have hcx := cnt_mem hx1
      rcases hd with rfl | rfl | rfl
      · refine ⟨_, rfl, fun y hy => ?_, by rw [cntDs_app]; simp only [cntDs]; omega⟩
        rcases List.mem_append.mp hy with h | h
        · exact hbase y h
        · obtain rfl : y = o := by simpa using h
          exact ⟨ho.p, ho.l, by omega⟩
      · refine ⟨_, rfl, fun y hy => ?_, ?_⟩
        · rcases List.mem_append.mp hy with h | h
          · exact hbase y (List.mem_of_mem_take h)
          · exact hbase y (List.mem_of_mem_drop h)
        · have e1 : (itemsQ t).take at'.toNat ++ (itemsQ t).drop at'.toNat = itemsQ t := List.take_append_drop _ _
          have e2 := congrArg cntDs e1
          have e3 : (itemsQ t).drop at'.toNat = x :: (itemsQ t).drop (at' + 1).toNat := by
            have hlt2 : at'.toNat < (itemsQ t).length := by omega
            rw [List.drop_eq_getElem_cons hlt2]
            have : (itemsQ t)[at'.toNat] = x := by
              rw [List.getElem?_eq_getElem hlt2] at hnat
              exact Option.some.inj hnat
            rw [this]
            congr 2
            omega
          rw [cntDs_app, e3] at e2
          rw [cntDs_app]
          simp only [cntDs] at e2
          omega
      · refine ⟨_, rfl, fun y hy => ?_, by rw [cntDs_app]; simp only [cntDs]; omega⟩
        rcases List.mem_append.mp hy with h | h
        · exact hbase y h
        · obtain rfl : y = x := by simpa using h
          exact hbase _ hx1
    simp? only [view_p ht.p, isi_tup ht.p]
    exact ⟨fun _ => fin (sp_seq h1 (.inr rfl) hz1 hz2 hdt), fun _ => fin (sp_seq h1 (.inl rfl) hz1 hz2 hdt)⟩
/-! ### drawn rows are small -/
theorem Nw.leaf {x : Str} (h : Nw x) : strB x = true := h.nm.leaf
theorem strs_leaf {xs : List Str} (h : ∀ x ∈ xs, strB x = true) : leafBs (xs.map D.str) = true := leafBs_of fun d hd => by
  obtain ⟨x, hx, rfl⟩ := List.mem_map.mp hd
  simpa [leafB] using h x hx
theorem strs_dp {xs : List Str} : PyData.depthAll (toPs (xs.map D.str)) = 0 := by
  have := depthAll_of (m := 0) (xs := xs.map D.str) fun d hd => by
    obtain ⟨x, hx, rfl⟩ := List.mem_map.mp hd
    simp [dpD, toP, PyData.depth]
  omega
theorem lit_leaf (x : Str) (h : strB x = true) : leafB (.str x) = true := by simpa [leafB] using h
theorem row_leaf {cs ws es : List Str} (hc : ∀ x ∈ cs, strB x = true) (hw : ∀ x ∈ ws, strB x = true) (he : ∀ x ∈ es, strB x = true) {k : Nat} {a c : Bool} (R : RowP cs ws es k a c d) : leafB d = true ∧ dpD d ≤ 4 * k + 2 := by
  have e0 : strB ("" : Str) = true := by decide +kernel
  have cell : ∀ {x : Str}, x ∈ cs ∨ x = "" → strB x = true := fun h => h.elim (hc _) fun e => e ▸ e0
  induction R with
  | deed h =>
    obtain ⟨c, w, as, rs, rfl, h1, h2, h3, h4, h5, h6, h7⟩ := h.ex
    have := @strs_dp as
    have := @strs_dp rs
    refine ⟨by simp [leafB, leafBs, cell h1, hw w h2, strs_leaf fun x hx => hc x (h4 x hx), strs_leaf fun x hx => he x (h6 x hx)]; decide +kernel, ?_⟩
    unfold dpD
    simp only [toP, toPs, PyData.depth, PyData.depthAll]
    omega
  | set h1 h2 => exact ⟨by simp [leafB, leafBs, hc _ h1, hc _ h2]; decide +kernel, by unfold dpD; simp [toP, toPs, PyData.depth, PyData.depthAll]⟩
  | ans h1 => exact ⟨by simp [leafB, leafBs, cell h1]; decide +kernel, by unfold dpD; simp [toP, toPs, PyData.depth, PyData.depthAll]⟩
  | lv h1 => exact ⟨by rcases h1 with rfl | rfl <;> decide +kernel, by unfold dpD; simp [toP, toPs, PyData.depth, PyData.depthAll]⟩
  | ag => exact ⟨by decide +kernel, by unfold dpD; simp [toP, toPs, PyData.depth, PyData.depthAll]⟩
  | rs h1 => exact ⟨by simp [leafB, leafBs, he _ h1]; decide +kernel, by unfold dpD; simp [toP, toPs, PyData.depth, PyData.depthAll]⟩
  | @ifl k a a' c w u xs ys hw1 hu hxs hys ihx ihy =>
    have l1 := leafBs_of fun x hx => (ihx x hx).1
    have l2 := leafBs_of fun x hx => (ihy x hx).1
    have d1 := depthAll_of fun x hx => (ihx x hx).2
    have d2 := depthAll_of fun x hx => (ihy x hx).2
    refine ⟨?_, by unfold dpD; simp only [toP, toPs, PyData.depth, PyData.depthAll]; omega⟩
    have lw : strB w = true := by rcases hw1 with ⟨rfl, _⟩ | ⟨rfl, _⟩ <;> decide +kernel
    simp [leafB, leafBs, lw, hw u hu, l1, l2]
  | @cl k a c u rs xs hu hr hxs ihx =>
    have l1 := leafBs_of fun x hx => (ihx x hx).1
    have d1 := depthAll_of fun x hx => (ihx x hx).2
    have := @strs_dp rs
    refine ⟨?_, by unfold dpD; simp only [toP, toPs, PyData.depth, PyData.depthAll]; omega⟩
    simp [leafB, leafBs, hw u hu, l1, strs_leaf fun x hx => he x (hr.mem x hx)]
    decide +kernel
  | @tr k a c xs cts ys zs hxs hee hct hys hzs ihx ihc ihy ihz =>
    have l1 := leafBs_of fun x hx => (ihx x hx).1
    have l2 := leafBs_of fun x hx => (ihy x hx).1
    have l3 := leafBs_of fun x hx => (ihz x hx).1
    have d1 := depthAll_of fun x hx => (ihx x hx).2
    have d2 := depthAll_of fun x hx => (ihy x hx).2
    have d3 := depthAll_of fun x hx => (ihz x hx).2
    have l4 : leafBs (cts.map catchD) = true := leafBs_of fun x hx => by
      obtain ⟨p, hp, rfl⟩ := List.mem_map.mp hx
      have := leafBs_of fun x hx => (ihc p hp x hx).1
      simp [catchD, leafB, leafBs, this, strs_leaf fun x hx => he x ((hee p hp).mem x hx)]
    have d4 : PyData.depthAll (toPs (cts.map catchD)) ≤ 4 * k + 4 := depthAll_of fun x hx => by
      obtain ⟨p, hp, rfl⟩ := List.mem_map.mp hx
      have := depthAll_of fun x hx => (ihc p hp x hx).2
      have := @strs_dp p.1
      unfold dpD
      simp only [catchD, toP, toPs, PyData.depth, PyData.depthAll]
      omega
    refine ⟨?_, by unfold dpD; simp only [toP, toPs, PyData.depth, PyData.depthAll]; omega⟩
    simp [leafB, leafBs, l1, l2, l3, l4]
    decide +kernel
end
end DL
set_option maxRecDepth 100000
set_option maxHeartbeats 1600000
open PySem L2 DL
namespace DL
open PySem L2
section
variable {tab : List (Nat × Ent)} {γ : List D} {n : Nat} {b p q : Addr} {d : D} {M : MS} {Q : KR} {Z : KX}
theorem alike_spec (ha : tabGet tab i_law_alike = some (.comp d_law_alike)) (h : Th 60 d) (he : cmp2 .Eq d d = some true) (k : Q (.val (.bl true)) M) : callN tab γ (n + 1) i_law_alike [d, d] M Q Z := by
  rw [cn ha]
  exact alike_same h (Nat.le_refl _) he k
theorem bls_ok (bs : List Bool) : isPs (bs.map D.bl) = true ∧ PyData.canLayAll0 (toPs (bs.map D.bl)) = true ∧ PyData.depthAll (toPs (bs.map D.bl)) = 0 ∧ leafBs (bs.map D.bl) = true ∧ cntDs (bs.map D.bl) = bs.length := by
  induction bs with
  | nil => exact ⟨rfl, rfl, rfl, rfl, rfl⟩
  | cons b bs ih =>
    obtain ⟨a1, a2, a3, a4, a5⟩ := ih
    refine ⟨by simpa [isPs, isP] using a1, by simpa [toPs, toP, PyData.canLayAll0, PyData.canLay0] using a2, by simpa [toPs, toP, PyData.depthAll, PyData.depth] using a3, by simpa [leafBs, leafB] using a4, ?_⟩
    simp only [List.map_cons, cntDs, cntD, a5, List.length_cons]; omega
theorem th_bls {bs : List Bool} (h : bs.length ≤ 50) : Th 60 (.lst (bs.map D.bl)) := by
  obtain ⟨a1, a2, a3, a4, a5⟩ := bls_ok bs
  exact ⟨a1, a4, by simp only [cntD]; omega⟩
theorem eq_bls {bs : List Bool} : cmp2 .Eq (.lst (bs.map D.bl)) (.lst (bs.map D.bl)) = some true := by
  obtain ⟨a1, a2, a3, a4, a5⟩ := bls_ok bs
  have hs : SeqAt.shaped (toP (.lst (bs.map D.bl))) = true := by simp [SeqAt.shaped, toP, PyData.canLay0, PyData.depth, a2, a3]
  have e1 : cmp2 .Eq (.lst (bs.map D.bl)) (.lst (bs.map D.bl)) = eqD (.lst (bs.map D.bl)) (.lst (bs.map D.bl)) := by unfold cmp2; rfl
  rw [e1]
  unfold eqD
  simp only [ne_eq, not_true_eq_false, if_false]
  rw [eqS_of (x := .lst (bs.map D.bl)) (y := .lst (bs.map D.bl)) a1 a1 hs hs]
  congr 1
  exact eqv_refl _ (by simpa [toP, PyData.canLay0] using a2)
theorem alike_bls (ha : tabGet tab i_law_alike = some (.comp d_law_alike)) {bs : List Bool} (h : bs.length ≤ 50) (k : Q (.val (.bl true)) M) : callN tab γ (n + 1) i_law_alike [.lst (bs.map D.bl), .lst (bs.map D.bl)] M Q Z :=
  alike_spec ha (th_bls h) eq_bls k
theorem repr_tz {n m : Nat} (h : Tz n m d) (hn : n ≤ 4000) (hm : m ≤ 60) : biD .repr [d] = some (.val (.str (toP d).shown)) := by
  obtain ⟨h1, h2, h3⟩ := shown_le d h.l h.p
  have := h.c
  have := h.e
  unfold dpD at this
  exact if_pos ⟨h.p, h1, by rw [sizeLine_eq]; omega, by omega⟩
end
end DL
set_option maxRecDepth 100000
set_option maxHeartbeats 1600000
open PySem L2 DL
namespace K11
open PySem L2 DL
/-- the classes, in the order of the law's numbers, with the field of each -/
def CLS : List (Str × Str) := [("Wrong", "place"), ("Full", "limit"), ("Deep", "limit"), ("Wide", "limit"), ("Many", "limit"), ("NoLoop", "address"), ("NoCatch", "address"), ("NoRow", "address"), ("NoGap", "gap"), ("NoOutcome", "outcome"), ("BadOutcomes", "index"), ("NoStand", "stand"), ("NoEnd", "end"), ("TooMany", "most"), ("Parted", "shown"), ("NoEntry", "many"), ("Refused", "deed"), ("NoHole", ""), ("Nothing", ""), ("NoDeed", ""), ("NoText", ""), ("NoCommand", "")]
def cAt (i : Nat) : Str := (CLS.getD i ("", "")).1
def fAt (i : Nat) : Str := (CLS.getD i ("", "")).2
def clsL (i : Nat) : List Bool := (List.range 22).map (fun j => decide (i = j)) ++ [true, true, false]
theorem su_ok : ∀ i : Fin 22, assoc TBL.xsu (cAt i.1) = some [cAt i.1, "ExitError", "ValueError"] := by decide +kernel
theorem mem_ok : ∀ i j : Fin 22, decide (cAt j.1 ∈ ([cAt i.1, "ExitError", "ValueError"] : List Str)) = decide (i.1 = j.1) := by decide +kernel
theorem mem_ex : ∀ i : Fin 22, decide (("LookupError" : Str) ∈ ([cAt i.1, "ExitError", "ValueError"] : List Str)) = false := by decide +kernel
theorem isa_ok {i j : Nat} (hi : i < 22) (hj : j < 22) : assoc (isaT TBL.xsu (cAt j)) (cAt i) = some (decide (i = j)) := by
  rw [assoc_isaT1 (su_ok ⟨i, hi⟩)]
  rw [show decide (cAt j ∈ ([cAt i, "ExitError", "ValueError"] : List Str)) = decide (i = j) from mem_ok ⟨i, hi⟩ ⟨j, hj⟩]
theorem isa_E {i : Nat} (hi : i < 22) : assoc (isaT TBL.xsu "ExitError") (cAt i) = some true := by
  rw [assoc_isaT1 (su_ok ⟨i, hi⟩)]
  simp
theorem isa_V {i : Nat} (hi : i < 22) : assoc (isaT TBL.xsu "ValueError") (cAt i) = some true := by
  rw [assoc_isaT1 (su_ok ⟨i, hi⟩)]
  simp
theorem isa_L {i : Nat} (hi : i < 22) : assoc (isaT TBL.xsu "LookupError") (cAt i) = some false := by
  rw [assoc_isaT1 (su_ok ⟨i, hi⟩), mem_ex ⟨i, hi⟩]
theorem ex_exc {a : Addr} {dd : Option Addr} {C : Str} {fs : List (Str × D)} {α : Type} {P : Addr → Option Addr → Str → List (Str × D) → α → Prop} :
    (∃ p dd' C' fs' b, D.exc a dd C fs = .exc p dd' C' fs' ∧ D.exc a dd C fs = .exc p dd' C' fs' ∧ P p dd' C' fs' b) ↔ ∃ b, P a dd C fs b := by
  constructor
  · rintro ⟨p, dd', C', fs', b, e, _, h⟩
    cases e
    exact ⟨b, h⟩
  · rintro ⟨b, h⟩
    exact ⟨_, _, _, _, b, rfl, rfl, h⟩
section
variable {n : Nat} {b p q : Addr} {d : D} {M M' : MS} {Q : KR} {Z : KX} {a : Addr} {dd : Option Addr} {fs : List (Str × D)}
theorem classes_spec {i : Nat} (hi : i < 22) (k : Q (.new ((clsL i).map D.bl)) M) : callN TAB [] (n + 1) 73 [.exc a dd (cAt i) fs] M Q Z := by
  rw [ch (show tabGet TAB 73 = some (.hot d_law_classes) from rfl)]
  show callDef (callN TAB [] n) [.exc a dd (cAt i) fs] d_law_classes [.exc a dd (cAt i) fs] M Q Z
  refine ⟨rfl, ?_⟩
  have h0 := isa_ok hi (j := 0) (by decide)
  have h1 := isa_ok hi (j := 1) (by decide)
  have h2 := isa_ok hi (j := 2) (by decide)
  have h3 := isa_ok hi (j := 3) (by decide)
  have h4 := isa_ok hi (j := 4) (by decide)
  have h5 := isa_ok hi (j := 5) (by decide)
  have h6 := isa_ok hi (j := 6) (by decide)
  have h7 := isa_ok hi (j := 7) (by decide)
  have h8 := isa_ok hi (j := 8) (by decide)
  have h9 := isa_ok hi (j := 9) (by decide)
  have h10 := isa_ok hi (j := 10) (by decide)
  have h11 := isa_ok hi (j := 11) (by decide)
  have h12 := isa_ok hi (j := 12) (by decide)
  have h13 := isa_ok hi (j := 13) (by decide)
  have h14 := isa_ok hi (j := 14) (by decide)
  have h15 := isa_ok hi (j := 15) (by decide)
  have h16 := isa_ok hi (j := 16) (by decide)
  have h17 := isa_ok hi (j := 17) (by decide)
  have h18 := isa_ok hi (j := 18) (by decide)
  have h19 := isa_ok hi (j := 19) (by decide)
  have h20 := isa_ok hi (j := 20) (by decide)
  have h21 := isa_ok hi (j := 21) (by decide)
  have hE := isa_E hi
  have hV := isa_V hi
  have hL := isa_L hi
  change assoc (isaT TBL.xsu "Wrong") (cAt i) = _ at h0
  change assoc (isaT TBL.xsu "Full") (cAt i) = _ at h1
  change assoc (isaT TBL.xsu "Deep") (cAt i) = _ at h2
  change assoc (isaT TBL.xsu "Wide") (cAt i) = _ at h3
  change assoc (isaT TBL.xsu "Many") (cAt i) = _ at h4
  change assoc (isaT TBL.xsu "NoLoop") (cAt i) = _ at h5
  change assoc (isaT TBL.xsu "NoCatch") (cAt i) = _ at h6
  change assoc (isaT TBL.xsu "NoRow") (cAt i) = _ at h7
  change assoc (isaT TBL.xsu "NoGap") (cAt i) = _ at h8
  change assoc (isaT TBL.xsu "NoOutcome") (cAt i) = _ at h9
  change assoc (isaT TBL.xsu "BadOutcomes") (cAt i) = _ at h10
  change assoc (isaT TBL.xsu "NoStand") (cAt i) = _ at h11
  change assoc (isaT TBL.xsu "NoEnd") (cAt i) = _ at h12
  change assoc (isaT TBL.xsu "TooMany") (cAt i) = _ at h13
  change assoc (isaT TBL.xsu "Parted") (cAt i) = _ at h14
  change assoc (isaT TBL.xsu "NoEntry") (cAt i) = _ at h15
  change assoc (isaT TBL.xsu "Refused") (cAt i) = _ at h16
  change assoc (isaT TBL.xsu "NoHole") (cAt i) = _ at h17
  change assoc (isaT TBL.xsu "Nothing") (cAt i) = _ at h18
  change assoc (isaT TBL.xsu "NoDeed") (cAt i) = _ at h19
  change assoc (isaT TBL.xsu "NoText") (cAt i) = _ at h20
  change assoc (isaT TBL.xsu "NoCommand") (cAt i) = _ at h21
  unfold d_law_classes b_law_classes
  generalize cAt i = C at *
  generalize TBL.xsu = T at *
  (refine x_cons ?_; simp_all? only [])
  intro p hp
  (refine x_cons ?_; simp_all? only [ex_exc, h0, h1, h2])
  refine .inl ⟨p, _, _, rfl, updM_same, rfl, by simp, ?_⟩
  rw [updM_updM]
  (refine x_cons ?_; simp_all? only [ex_exc, h3, h4, h5])
  refine .inl ⟨p, _, _, rfl, updM_same, rfl, by simp, ?_⟩
  rw [updM_updM]
  (refine x_cons ?_; simp_all? only [ex_exc, h6, h7, h8])
  refine .inl ⟨p, _, _, rfl, updM_same, rfl, by simp, ?_⟩
  rw [updM_updM]
  (refine x_cons ?_; simp_all? only [ex_exc, h9, h10, h11])
  refine .inl ⟨p, _, _, rfl, updM_same, rfl, by simp, ?_⟩
  rw [updM_updM]
  (refine x_cons ?_; simp_all? only [ex_exc, h12, h13, h14])
  refine .inl ⟨p, _, _, rfl, updM_same, rfl, by simp, ?_⟩
  rw [updM_updM]
  (refine x_cons ?_; simp_all? only [ex_exc, h15, h16, h17])
  refine .inl ⟨p, _, _, rfl, updM_same, rfl, by simp, ?_⟩
  rw [updM_updM]
  (refine x_cons ?_; simp_all? only [ex_exc, h18, h19, h20])
  refine .inl ⟨p, _, _, rfl, updM_same, rfl, by simp, ?_⟩
  rw [updM_updM]
  (refine x_cons ?_; simp_all? only [ex_exc, h21])
  refine .inl ⟨p, _, _, rfl, updM_same, rfl, by simp, ?_⟩
  rw [updM_updM]
  simp? only [vw_upd, ex_exc, hE, hV, hL]
  show Q _ (restrict M (updM M p _))
  rw [restrict_new hp]
  exact k
theorem in_ints {x : Int} {cs : List Int} : cmp2 .In (.int x) (.tup (cs.map D.int)) = some (cs.any fun c => decide (c = x)) := by
  have h : (cs.map D.int).all flatD = true := by rw [List.all_eq_true]; intro y hy; obtain ⟨c, _, rfl⟩ := List.mem_map.mp hy; rfl
  unfold cmp2 inD
  simp only [h, flatD, and_self, if_true, List.any_map]
  congr 1
theorem in_1 {x c : Int} : cmp2 .In (.int x) (.tup [.int c]) = some (decide (c = x)) := by
  have := in_ints (x := x) (cs := [c])
  simpa using this
theorem in_3 {x c c1 c2 : Int} : cmp2 .In (.int x) (.tup [.int c, .int c1, .int c2]) = some (decide (c = x) || (decide (c1 = x) || decide (c2 = x))) := by
  have := in_ints (x := x) (cs := [c, c1, c2])
  simpa using this
theorem in_4 {x c c1 c2 c3 : Int} : cmp2 .In (.int x) (.tup [.int c, .int c1, .int c2, .int c3]) = some (decide (c = x) || (decide (c1 = x) || (decide (c2 = x) || decide (c3 = x)))) := by
  have := in_ints (x := x) (cs := [c, c1, c2, c3])
  simpa using this
def fld (i : Int) (d : D) : List D := if i < 17 then [d] else []
def fsAt (i : Int) (d : D) : Option (List (Str × D)) := if i < 17 then some [(fAt i.toNat, d)] else none
theorem cases22 {i : Int} (h0 : 0 ≤ i) (h1 : i < 22) : i = 0 ∨ i = 1 ∨ i = 2 ∨ i = 3 ∨ i = 4 ∨ i = 5 ∨ i = 6 ∨ i = 7 ∨ i = 8 ∨ i = 9 ∨ i = 10 ∨ i = 11 ∨ i = 12 ∨ i = 13 ∨ i = 14 ∨ i = 15 ∨ i = 16 ∨ i = 17 ∨ i = 18 ∨ i = 19 ∨ i = 20 ∨ i = 21 := by omega
theorem as1 {f : Str} : assoc [(f, d)] f = some d := by simp [assoc]
theorem fs_0 : fsAt 0 d = some [(("place" : Str), d)] := rfl
theorem fs_1 : fsAt 1 d = some [(("limit" : Str), d)] := rfl
theorem fs_2 : fsAt 2 d = some [(("limit" : Str), d)] := rfl
theorem fs_3 : fsAt 3 d = some [(("limit" : Str), d)] := rfl
theorem fs_4 : fsAt 4 d = some [(("limit" : Str), d)] := rfl
theorem fs_5 : fsAt 5 d = some [(("address" : Str), d)] := rfl
theorem fs_6 : fsAt 6 d = some [(("address" : Str), d)] := rfl
theorem fs_7 : fsAt 7 d = some [(("address" : Str), d)] := rfl
theorem fs_8 : fsAt 8 d = some [(("gap" : Str), d)] := rfl
theorem fs_9 : fsAt 9 d = some [(("outcome" : Str), d)] := rfl
theorem fs_10 : fsAt 10 d = some [(("index" : Str), d)] := rfl
theorem fs_11 : fsAt 11 d = some [(("stand" : Str), d)] := rfl
theorem fs_12 : fsAt 12 d = some [(("end" : Str), d)] := rfl
theorem fs_13 : fsAt 13 d = some [(("most" : Str), d)] := rfl
theorem fs_14 : fsAt 14 d = some [(("shown" : Str), d)] := rfl
theorem fs_15 : fsAt 15 d = some [(("many" : Str), d)] := rfl
theorem fs_16 : fsAt 16 d = some [(("deed" : Str), d)] := rfl
theorem fs_17 : fsAt 17 d = none := rfl
theorem fs_18 : fsAt 18 d = none := rfl
theorem fs_19 : fsAt 19 d = none := rfl
theorem fs_20 : fsAt 20 d = none := rfl
theorem fs_21 : fsAt 21 d = none := rfl
theorem fields_spec {i : Int} (h0 : 0 ≤ i) (h1 : i < 22) {C : Str} (k : Q (.new (fld i d)) M) : callN TAB [] (n + 1) 74 [.int i, .exc a dd C ((fsAt i d).getD [])] M Q Z := by
  rw [ch (show tabGet TAB 74 = some (.hot d_law_fields) from rfl)]
  show callDef (callN TAB [] n) [.exc a dd C ((fsAt i d).getD [])] d_law_fields [.int i, .exc a dd C ((fsAt i d).getD [])] M Q Z
  refine ⟨rfl, ?_⟩
  unfold d_law_fields b_law_fields
  have k' : retR M Q (.new (fld i d)) M := by
    show Q (.new (fld i d)) (restrict M M)
    rw [restrict_self]; exact k
  obtain rfl | rfl | rfl | rfl | rfl | rfl | rfl | rfl | rfl | rfl | rfl | rfl | rfl | rfl | rfl | rfl | rfl | rfl | rfl | rfl | rfl | rfl := cases22 h0 h1
  all_goals
    simp? only [fs_0, fs_1, fs_2, fs_3, fs_4, fs_5, fs_6, fs_7, fs_8, fs_9, fs_10, fs_11, fs_12, fs_13, fs_14, fs_15, fs_16, fs_17, fs_18, fs_19, fs_20, fs_21, Option.getD_some, Option.getD_none, as1, in_1, in_3, in_4, ex_exc, Bool.or_true, Bool.or_false, Bool.true_or, Bool.false_or]
    exact k
theorem raise1 {i : Int} (h0 : 0 ≤ i) (h1 : i < 17) (k : Z ⟨cAt i.toNat, some [(fAt i.toNat, d)]⟩ M) : callN TAB [] (n + 1) 75 [.int i, d] M Q Z := by
  rw [cn (show tabGet TAB 75 = some (.comp d_law_raise_one) from rfl)]
  refine ⟨rfl, ?_⟩
  unfold d_law_raise_one b_law_raise_one
  have k' : Z ⟨cAt i.toNat, some [(fAt i.toNat, d)]⟩ (restrict M M) := by rw [restrict_self]; exact k
  obtain rfl | rfl | rfl | rfl | rfl | rfl | rfl | rfl | rfl | rfl | rfl | rfl | rfl | rfl | rfl | rfl | rfl | rfl | rfl | rfl | rfl | rfl := cases22 h0 (by omega)
  all_goals
    first
    | (exfalso; revert h1; decide)
    | (simp? only []
       exact k')
theorem raise0 {i : Int} (h0 : 17 ≤ i) (h1 : i < 22) (k : Z ⟨cAt i.toNat, none⟩ M) : callN TAB [] (n + 1) 76 [.int i] M Q Z := by
  rw [cn (show tabGet TAB 76 = some (.comp d_law_raise_none) from rfl)]
  refine ⟨rfl, ?_⟩
  unfold d_law_raise_none b_law_raise_none
  have k' : Z ⟨cAt i.toNat, none⟩ (restrict M M) := by rw [restrict_self]; exact k
  obtain rfl | rfl | rfl | rfl | rfl : i = 17 ∨ i = 18 ∨ i = 19 ∨ i = 20 ∨ i = 21 := by omega
  all_goals
    simp? only []
    exact k'
theorem taken_spec {i : Int} (h0 : 0 ≤ i) (h1 : i < 22) (k : Q (.new [.lst ((clsL i.toNat).map D.bl), .lst (fld i d)]) M) : callN TAB [] (n + 2) 77 [.int i, d] M Q Z := by
  rw [cn (show tabGet TAB 77 = some (.comp d_law_taken) from rfl)]
  refine ⟨rfl, ?_⟩
  unfold d_law_taken b_law_taken
  have hn : i.toNat < 22 := by omega
  by_cases h17 : i < 17
  · have e17 : fsAt i d = some [(fAt i.toNat, d)] := if_pos h17
    simp? only [h17]
    refine raise1 h0 h17 ?_
    refine ⟨true, isa_E hn, fun _ a dd _ => ?_, fun h => by cases h⟩
    simp? only [excOf]
    refine classes_spec hn ?_
    rw [← e17]
    refine fields_spec h0 h1 ?_
    simp? only []
    exact (restrict_self (M := M)).symm ▸ k
  · have e17 : fsAt i d = none := if_neg h17
    simp? only [h17]
    refine raise0 (by omega) h1 ?_
    refine ⟨true, isa_E hn, fun _ a dd _ => ?_, fun h => by cases h⟩
    simp? only [excOf]
    refine classes_spec hn ?_
    rw [← e17]
    refine fields_spec h0 h1 ?_
    simp? only []
    exact (restrict_self (M := M)).symm ▸ k
end
theorem eqS_self {d : D} (h : isP d = true) : eqS d d = none ∨ eqS d d = some true := by
  by_cases hs : SeqAt.shaped (toP d) = true
  · refine .inr ?_
    rw [eqS_of h h hs hs]
    congr 1
    exact eqv_refl _ (SeqAt.canLay_of_shaped hs)
  · refine .inl ?_
    unfold eqS
    rw [if_neg]
    intro hc
    exact hs hc.2.2.1
theorem hal : tabGet TAB 14 = some (.comp d_law_alike) := rfl
theorem alike_any {x y : D} {ds : List D} {k m n : Nat} {M : MS} {Q : KR} {Z : KX} (hx : deepV M 4 x = .lst ds) (hy : deepV M 4 y = .lst ds) (h : Tz k m (.lst ds)) (hk : k ≤ 4000) (hm : m ≤ 60) (q : Q (.val (.bl true)) M) : callN TAB [] (n + 1) 14 [x, y] M Q Z := by
  rw [cn hal]
  refine ⟨rfl, ?_⟩
  unfold d_law_alike b_law_alike
  have e := h.e
  unfold dpD at e
  simp? only [hx, hy, eqW_same h.p (by omega) (eqS_self h.p), repr_tz h hk hm]
  exact q
end K11
set_option maxRecDepth 100000
set_option maxHeartbeats 1600000
open PySem L2 DL
namespace K11
open PySem L2 DL
theorem hod : tabGet TAB i_law_odd = some (.comp DL.d_law_odd) := rfl
theorem htk : tabGet TAB i_law_take = some (.prim phTake) := rfl
theorem tz2 {a b : D} (ha : Tz 60 2 a) (hb : Tz 60 2 b) : Tz 121 3 (.lst [a, b]) := tz_seq (.inl rfl) (fun x hx => by
  simp only [List.mem_cons, List.not_mem_nil, or_false] at hx
  rcases hx with rfl | rfl
  · exact ⟨ha.p, ha.l, ha.e⟩
  · exact ⟨hb.p, hb.l, hb.e⟩) (by have := ha.c; have := hb.c; simp only [cntDs]; omega)
theorem two_ways {A B C : Prop} (h : C) (h1 : C → A → B) : (A → B) ∧ (¬ A → C) := ⟨h1 h, fun _ => h⟩
theorem cut1 {a b : D} : cutD [a, b] (some 1) none = [b] := rfl
theorem deepV_q : ∀ (n : Nat) {d : D} (M : MS), isP d = true → deepV M n d = d
  | 0, d, M, h => rfl
  | n + 1, d, M, h => by
    have lm : ∀ {xs : List D}, isPs xs = true → xs.map (deepV M n) = xs := fun {xs} hx => by
      have : xs.map (deepV M n) = xs.map id := List.map_congr_left fun x h => deepV_q n M (isPs_mem0 hx x h)
      rw [this, List.map_id]
    unfold deepV
    rw [view_p h]
    cases d with
    | lst xs => simp only [lm (show isPs xs = true from h)]
    | tup xs => simp only [lm (show isPs xs = true from h)]
    | _ => rfl
theorem tz_l1 {n m : Nat} {a : D} (ha : Tz n m a) : Tz (n + 1) (m + 1) (.lst [a]) := tz_seq (.inl rfl) (fun x hx => by
  simp only [List.mem_cons, List.not_mem_nil, or_false] at hx
  subst hx
  exact ⟨ha.p, ha.l, ha.e⟩) (by have := ha.c; simp only [cntDs]; omega)
theorem plain (ns : List Int) : callN TAB [] 110 35 [.scr ns] (fun _ => none) (fun r _ => r = .val (.bl true)) (fun _ _ => False) := by
  rw [cn (show tabGet TAB 35 = some (.comp d_law) from rfl)]
  refine ⟨rfl, ?_⟩
  unfold d_law b_law
  (refine x_cons ?_; simp_all? only [])
  show callN TAB [] (108 + 1) 12 _ _ _ _
  rw [ct (show tabGet TAB 12 = some (.prim phBag) from rfl)]
  refine ⟨ns, rfl, fun b hb0 => ?_⟩
  (refine x_cons ?_; simp_all? only [])
  refine for_ind (fun r δ M' => M' b = some .bag ∧ ∃ x2 x3 x4 x5 x6 x7, δ = [some (.scr ns), some (.obj b), x2, x3, x4, x5, x6, x7]) ⟨updM_same, _, _, _, _, _, _, rfl⟩ ?_ ?_
  · rintro dk r δ M' ⟨u, hu⟩ ⟨hb, x2, x3, x4, x5, x6, x7, rfl⟩
    clear hb0
    refine ⟨trivial, fun kk hk => ?_⟩
    have hin : dk ∈ (List.range (Int.toNat 22)).map (fun (k : Nat) => D.int (k : Int)) := by rw [hu]; simp
    obtain ⟨i, hi, rfl⟩ := List.mem_map.mp hin
    have hi22 : i < 22 := by simpa using hi
    simp_all? only []
    (refine x_cons ?_; simp_all? only [])
    refine odd_tk (n := 107) htk hod hb (nm := "ab") (by decide +kernel) (by decide +kernel) fun o1 t1 p1 => ?_
    simp_all? only []
    refine odd_tk (n := 107) htk hod hb (nm := "ba") (by decide +kernel) (by decide +kernel) fun o2 t2 p2 => ?_
    simp_all? only []
    intro p hp
    (refine x_cons ?_; simp_all? only [])
    refine odd_tk (n := 107) htk hod (bag_upd hb hp) (nm := "ab") (by decide +kernel) (by decide +kernel) fun o3 t3 p3 => ?_
    simp_all? only []
    (refine x_cons ?_; simp_all? only [])
    have hi0 : (0 : Int) ≤ (i : Int) := by omega
    have hi1 : (i : Int) < 22 := by omega
    have hb1 : updM M' p (.lst [o1, o2]) b = some .bag := bag_upd hb hp
    have hp1 : updM M' p (.lst [o1, o2]) p = some (.lst [o1, o2]) := updM_same
    refine two_ways ?_ fun rest hlt => ?_
    rotate_left
    · refine taken_spec (n := 107) hi0 hi1 ?_
      have ef : fld (i : Int) o3 = [o3] := if_pos hlt
      rw [ef]
      simp_all? only [vw_lst]
      rw [cut1]
      have tz3 : Tz 60 2 o3 := ⟨t3.p, t3.l, t3.c, p3⟩
      have tl := tz_l1 (tz_l1 tz3)
      have ev : ∀ M, deepV M 4 (.lst [.lst [o3]]) = .lst [.lst [o3]] := fun M => deepV_q 4 M tl.p
      refine alike_any (n := 108) (ev _) (ev _) tl (by decide) (by decide) ?_
      simp_all? only []
      exact rest
    · simp? only []
      refine comp_mapA (xs := List.range (Int.toNat 22)) (fun (j : Nat) => .int (j : Int)) (fun j => .bl (decide (i = j))) trivial (by have := sizeLine_eq; simp; omega) (fun j hj acc k2 hk2 => ?_) ?_
      · refine ⟨_, c_eqI, ?_⟩
        rw [show decide ((i : Int) = (j : Int)) = decide (i = j) from decide_eq_decide.mpr (by omega)]
        exact hk2
      have ec : (List.range (Int.toNat 22)).map (fun j => D.bl (decide (i = j))) ++ [.bl true, .bl true, .bl false] = (clsL i).map D.bl := by
        unfold clsL
        rw [List.map_append, List.map_map]
        rfl
      rw [ec]
      refine ⟨by simp, ?_⟩
      refine taken_spec (n := 107) hi0 hi1 ?_
      rw [show (i : Int).toNat = i from rfl]
      have eb : Tz 60 1 (.lst ((clsL i).map D.bl)) := ⟨(th_bls (by simp [clsL])).p, (th_bls (by simp [clsL])).l, (th_bls (by simp [clsL])).c, by
        obtain ⟨a1, a2, a3, a4, a5⟩ := bls_ok (clsL i)
        simp only [dpD, toP, PyData.depth, a3]
        omega⟩
      have ev : ∀ M, deepV M 4 (.lst ((clsL i).map D.bl)) = .lst ((clsL i).map D.bl) := fun M => deepV_q 4 M eb.p
      simp? only [vw_lst, updM_updM]
      refine ⟨fun h => (by cases h), fun _ => ?_⟩
      refine alike_any (n := 108) (ev _) (ev _) eb (by decide) (by decide) ?_
      simp? only []
      refine ⟨fun hlt => ⟨⟨_, hp1⟩, _, hp1, (by show 2 < 16777216; decide), ?_⟩, fun _ => hk _ _ ⟨hb1, _, _, _, _, _, _, rfl⟩⟩
      have ef : fld (i : Int) (.obj p) = [.obj p] := if_pos hlt
      rw [ef, updM_updM]
      have hz : Tz 1 0 (.str "zz") := ⟨rfl, by decide +kernel, by simp [cntD], by simp [dpD, toP, PyData.depth]⟩
      have t4 : Tz 122 3 (.lst [o1, o2, .str "zz"]) := tz_seq (.inl rfl) (fun x hx => by
        simp only [List.mem_cons, List.not_mem_nil, or_false] at hx
        rcases hx with rfl | rfl | rfl
        · exact ⟨t1.p, t1.l, p1⟩
        · exact ⟨t2.p, t2.l, p2⟩
        · exact ⟨hz.p, hz.l, Nat.le_trans hz.e (by decide)⟩) (by have := t1.c; have := t2.c; have := hz.c; simp only [cntDs]; omega)
      have ev2 : deepV (updM M' p (.lst ([o1, o2] ++ [.str "zz"]))) 4 (.lst [.obj p]) = .lst [.lst [o1, o2, .str "zz"]] := by
        have e1 : view (updM M' p (.lst ([o1, o2] ++ [.str "zz"]))) (.obj p) = .lst [o1, o2, .str "zz"] := view_obj updM_same
        have e2 : ∀ M, deepV M 3 (.lst [o1, o2, .str "zz"]) = .lst [o1, o2, .str "zz"] := fun M => deepV_q 3 M t4.p
        have e3 : deepV (updM M' p (.lst ([o1, o2] ++ [.str "zz"]))) 3 (.obj p) = .lst [o1, o2, .str "zz"] := by
          have l2 : ∀ M, [o1, o2, .str "zz"].map (deepV M 2) = [o1, o2, .str "zz"] := fun M => by
            simp only [List.map_cons, List.map_nil, deepV_q 2 M t1.p, deepV_q 2 M t2.p, deepV_q 2 M hz.p]
          unfold deepV
          rw [e1]
          simp only [l2]
        unfold deepV
        simp only [vw_lst, List.map_cons, List.map_nil, e3]
      refine alike_any (n := 108) ev2 ev2 (tz_l1 t4) (by decide) (by decide) ?_
      simp? only []
      exact hk _ _ ⟨bag_upd hb hp, _, _, _, _, _, _, rfl⟩
  · rintro δ M' ⟨hb, x2, x3, x4, x5, x6, x7, rfl⟩
    refine ⟨trivial, ?_⟩
    simp? only []
    exact rfl
end K11
open PySem PySem.W PyProof.Rows
set_option maxRecDepth 100000 in
set_option maxHeartbeats 0 in
theorem PySem.Challenge.cw_exitswin_k11_errors_kept_holds : PySem.Challenge.rw_exitswin_k11_errors_kept.Holds := by
  w_on; o_law; k_head; (case hw => w_witness2)
  k_fill
  refine DL.walk_g (l := PySem.Challenge.rw_exitswin_k11_errors_kept) (n := 63) (k := 3 + 2 * 110) (x := "_law_script") (sp := fun _ => DL.spD _ (DL.callN K11.TAB [] 110 35)) rfl (by decide) rfl ⟨rfl, by decide, by decide⟩ (by rfl) (fun w h Y => by first | exact PySem.W.kIn_of Y | exact PySem.W.km_in_of Y) ?F (fun w H a ns hl o hs => DL.law_true K11.plain H a ns hl o hs)
  case F =>
    intro w mg fa h KX G hmg
    refine' K11.all_mk 110 KX G hmg ?fh0 ?fh1 ?fh2 ?fh3 ?fh4 ?fh5 ?fh6 ?fh7 ?fz0 ?fz1 ?fz2 ?fz3 ?fz4 ?fz5 ?fz6 ?fz7 ?fx0 ?fx1 ?fx2 ?fx3 ?fx4 ?fx5 ?fx6 ?fx7 ?fx8 ?fx9 ?fx10 ?fx11 ?fx12 ?fx13 ?fx14 ?fx15 ?fx16 ?fxs ?fy0 ?fy1
    case fh0 => (refine' DL.fnIn_mk K11.bd_law_bag ?a ?l ?c ?k); (case a => k_is); (case l => k_is); (case c => k_is); (case k => k_is)
    case fh1 => (refine' DL.fnIn_mk K11.bd_law_take ?a ?l ?c ?k); (case a => k_is); (case l => k_is); (case c => k_is); (case k => k_is)
    case fh2 => (refine' DL.fnIn_mk K11.bd_law_alike ?a ?l ?c ?k); (case a => k_is); (case l => k_is); (case c => k_is); (case k => k_is)
    case fh3 => (refine' DL.fnIn_mk K11.bd_law_odd ?a ?l ?c ?k); (case a => k_is); (case l => k_is); (case c => k_is); (case k => k_is)
    case fh4 => (refine' DL.fnIn_mk K11.bd_law_raise_one ?a ?l ?c ?k); (case a => k_is); (case l => k_is); (case c => k_is); (case k => k_is)
    case fh5 => (refine' DL.fnIn_mk K11.bd_law_raise_none ?a ?l ?c ?k); (case a => k_is); (case l => k_is); (case c => k_is); (case k => k_is)
    case fh6 => (refine' DL.fnIn_mk K11.bd_law_taken ?a ?l ?c ?k); (case a => k_is); (case l => k_is); (case c => k_is); (case k => k_is)
    case fh7 => (refine' DL.fnIn_mk K11.bd_law ?a ?l ?c ?k); (case a => k_is); (case l => k_is); (case c => k_is); (case k => k_is)
    case fz0 => k_is
    case fz1 => k_is
    case fz2 => k_is
    case fz3 => k_is
    case fz4 => k_is
    case fz5 => k_is
    case fz6 => k_is
    case fz7 => k_is
    case fx0 => (refine' DL.inIn_mk K11.bd_Wrong___init__ K11.in_Wrong___init__ ?a ?o ?rv ?sa ?ex ?ty ?kc ?ff ?fi ?ti ?l ?c ?k); (case a => k_is); (case o => k_is); (case rv => rfl); (case sa => k_is); (case ex => k_is); (case ty => k_is); (case kc => k_is); (case ff => k_is); (case fi => k_is); (case ti => k_is); (case l => k_is); (case c => k_is); (case k => k_is)
    case fx1 => (refine' DL.inIn_mk K11.bd_Full___init__ K11.in_Full___init__ ?a ?o ?rv ?sa ?ex ?ty ?kc ?ff ?fi ?ti ?l ?c ?k); (case a => k_is); (case o => k_is); (case rv => rfl); (case sa => k_is); (case ex => k_is); (case ty => k_is); (case kc => k_is); (case ff => k_is); (case fi => k_is); (case ti => k_is); (case l => k_is); (case c => k_is); (case k => k_is)
    case fx2 => (refine' DL.inIn_mk K11.bd_Deep___init__ K11.in_Deep___init__ ?a ?o ?rv ?sa ?ex ?ty ?kc ?ff ?fi ?ti ?l ?c ?k); (case a => k_is); (case o => k_is); (case rv => rfl); (case sa => k_is); (case ex => k_is); (case ty => k_is); (case kc => k_is); (case ff => k_is); (case fi => k_is); (case ti => k_is); (case l => k_is); (case c => k_is); (case k => k_is)
    case fx3 => (refine' DL.inIn_mk K11.bd_Wide___init__ K11.in_Wide___init__ ?a ?o ?rv ?sa ?ex ?ty ?kc ?ff ?fi ?ti ?l ?c ?k); (case a => k_is); (case o => k_is); (case rv => rfl); (case sa => k_is); (case ex => k_is); (case ty => k_is); (case kc => k_is); (case ff => k_is); (case fi => k_is); (case ti => k_is); (case l => k_is); (case c => k_is); (case k => k_is)
    case fx4 => (refine' DL.inIn_mk K11.bd_Many___init__ K11.in_Many___init__ ?a ?o ?rv ?sa ?ex ?ty ?kc ?ff ?fi ?ti ?l ?c ?k); (case a => k_is); (case o => k_is); (case rv => rfl); (case sa => k_is); (case ex => k_is); (case ty => k_is); (case kc => k_is); (case ff => k_is); (case fi => k_is); (case ti => k_is); (case l => k_is); (case c => k_is); (case k => k_is)
    case fx5 => (refine' DL.inIn_mk K11.bd_NoLoop___init__ K11.in_NoLoop___init__ ?a ?o ?rv ?sa ?ex ?ty ?kc ?ff ?fi ?ti ?l ?c ?k); (case a => k_is); (case o => k_is); (case rv => rfl); (case sa => k_is); (case ex => k_is); (case ty => k_is); (case kc => k_is); (case ff => k_is); (case fi => k_is); (case ti => k_is); (case l => k_is); (case c => k_is); (case k => k_is)
    case fx6 => (refine' DL.inIn_mk K11.bd_NoCatch___init__ K11.in_NoCatch___init__ ?a ?o ?rv ?sa ?ex ?ty ?kc ?ff ?fi ?ti ?l ?c ?k); (case a => k_is); (case o => k_is); (case rv => rfl); (case sa => k_is); (case ex => k_is); (case ty => k_is); (case kc => k_is); (case ff => k_is); (case fi => k_is); (case ti => k_is); (case l => k_is); (case c => k_is); (case k => k_is)
    case fx7 => (refine' DL.inIn_mk K11.bd_NoRow___init__ K11.in_NoRow___init__ ?a ?o ?rv ?sa ?ex ?ty ?kc ?ff ?fi ?ti ?l ?c ?k); (case a => k_is); (case o => k_is); (case rv => rfl); (case sa => k_is); (case ex => k_is); (case ty => k_is); (case kc => k_is); (case ff => k_is); (case fi => k_is); (case ti => k_is); (case l => k_is); (case c => k_is); (case k => k_is)
    case fx8 => (refine' DL.inIn_mk K11.bd_NoGap___init__ K11.in_NoGap___init__ ?a ?o ?rv ?sa ?ex ?ty ?kc ?ff ?fi ?ti ?l ?c ?k); (case a => k_is); (case o => k_is); (case rv => rfl); (case sa => k_is); (case ex => k_is); (case ty => k_is); (case kc => k_is); (case ff => k_is); (case fi => k_is); (case ti => k_is); (case l => k_is); (case c => k_is); (case k => k_is)
    case fx9 => (refine' DL.inIn_mk K11.bd_NoOutcome___init__ K11.in_NoOutcome___init__ ?a ?o ?rv ?sa ?ex ?ty ?kc ?ff ?fi ?ti ?l ?c ?k); (case a => k_is); (case o => k_is); (case rv => rfl); (case sa => k_is); (case ex => k_is); (case ty => k_is); (case kc => k_is); (case ff => k_is); (case fi => k_is); (case ti => k_is); (case l => k_is); (case c => k_is); (case k => k_is)
    case fx10 => (refine' DL.inIn_mk K11.bd_BadOutcomes___init__ K11.in_BadOutcomes___init__ ?a ?o ?rv ?sa ?ex ?ty ?kc ?ff ?fi ?ti ?l ?c ?k); (case a => k_is); (case o => k_is); (case rv => rfl); (case sa => k_is); (case ex => k_is); (case ty => k_is); (case kc => k_is); (case ff => k_is); (case fi => k_is); (case ti => k_is); (case l => k_is); (case c => k_is); (case k => k_is)
    case fx11 => (refine' DL.inIn_mk K11.bd_NoStand___init__ K11.in_NoStand___init__ ?a ?o ?rv ?sa ?ex ?ty ?kc ?ff ?fi ?ti ?l ?c ?k); (case a => k_is); (case o => k_is); (case rv => rfl); (case sa => k_is); (case ex => k_is); (case ty => k_is); (case kc => k_is); (case ff => k_is); (case fi => k_is); (case ti => k_is); (case l => k_is); (case c => k_is); (case k => k_is)
    case fx12 => (refine' DL.inIn_mk K11.bd_NoEnd___init__ K11.in_NoEnd___init__ ?a ?o ?rv ?sa ?ex ?ty ?kc ?ff ?fi ?ti ?l ?c ?k); (case a => k_is); (case o => k_is); (case rv => rfl); (case sa => k_is); (case ex => k_is); (case ty => k_is); (case kc => k_is); (case ff => k_is); (case fi => k_is); (case ti => k_is); (case l => k_is); (case c => k_is); (case k => k_is)
    case fx13 => (refine' DL.inIn_mk K11.bd_TooMany___init__ K11.in_TooMany___init__ ?a ?o ?rv ?sa ?ex ?ty ?kc ?ff ?fi ?ti ?l ?c ?k); (case a => k_is); (case o => k_is); (case rv => rfl); (case sa => k_is); (case ex => k_is); (case ty => k_is); (case kc => k_is); (case ff => k_is); (case fi => k_is); (case ti => k_is); (case l => k_is); (case c => k_is); (case k => k_is)
    case fx14 => (refine' DL.inIn_mk K11.bd_Parted___init__ K11.in_Parted___init__ ?a ?o ?rv ?sa ?ex ?ty ?kc ?ff ?fi ?ti ?l ?c ?k); (case a => k_is); (case o => k_is); (case rv => rfl); (case sa => k_is); (case ex => k_is); (case ty => k_is); (case kc => k_is); (case ff => k_is); (case fi => k_is); (case ti => k_is); (case l => k_is); (case c => k_is); (case k => k_is)
    case fx15 => (refine' DL.inIn_mk K11.bd_NoEntry___init__ K11.in_NoEntry___init__ ?a ?o ?rv ?sa ?ex ?ty ?kc ?ff ?fi ?ti ?l ?c ?k); (case a => k_is); (case o => k_is); (case rv => rfl); (case sa => k_is); (case ex => k_is); (case ty => k_is); (case kc => k_is); (case ff => k_is); (case fi => k_is); (case ti => k_is); (case l => k_is); (case c => k_is); (case k => k_is)
    case fx16 => (refine' DL.inIn_mk K11.bd_Refused___init__ K11.in_Refused___init__ ?a ?o ?rv ?sa ?ex ?ty ?kc ?ff ?fi ?ti ?l ?c ?k); (case a => k_is); (case o => k_is); (case rv => rfl); (case sa => k_is); (case ex => k_is); (case ty => k_is); (case kc => k_is); (case ff => k_is); (case fi => k_is); (case ti => k_is); (case l => k_is); (case c => k_is); (case k => k_is)
    case fxs => first | k_is | rfl | kernel_rfl | decide +kernel
    case fy0 => (refine' DL.fnIn_mk K11.bd_law_classes ?a ?l ?c ?k); (case a => k_is); (case l => k_is); (case c => k_is); (case k => k_is)
    case fy1 => (refine' DL.fnIn_mk K11.bd_law_fields ?a ?l ?c ?k); (case a => k_is); (case l => k_is); (case c => k_is); (case k => k_is)
