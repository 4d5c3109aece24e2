import PyProof.Rows.All
import Wide.All
import OpenK.AllK
import Wide.FinOn
import HandS.ForMost
import HandS.ForExc
import HandS.Flow
import HandS.IsInst
import HandS.CallSlots
import HandS.TupAny
import HandS.Style
import HandS.More
import PySem.Challenge.RW_exitswin_k12_kinds_known
set_option Elab.async false
set_option maxRecDepth 100000
set_option linter.all false
set_option maxRecDepth 100000
set_option maxHeartbeats 2000000
/-! # The data layer. Python values as trees; lists that are changed, and other things with an identity, stand in a store M -/
namespace DL
open PySem L2

/-- a value: a tree. obj: a thing with an identity (a list that is changed, the bag, a def, a class) -/
inductive D where
  | non | bl (b : Bool) | int (i : Int) | str (x : Str) | lst (xs : List D) | tup (xs : List D) | dct (kvs : List (Key × D)) | obj (a : Addr) | ty (n : String) | scr (ns : List Int)
/-- what stands at an identity -/
inductive MO where
  | bag | lst (ds : List D)
abbrev MS := Addr → Option MO
/-- what an expression gives: a value, or a list that nobody else holds -/
inductive R where
  | val (d : D) | new (ds : List D)
def R.toD : R → D
  | .val d => d
  | .new ds => .lst ds
/-- an error: its class, its fields -/
structure Xn where
  cls : Value
  fs : Option (List (Str × D))

section
variable (K : PySem.W.Frag)
mutual
inductive Dv : Hp → V → D → Prop
  | non {G} : Dv G .non .non
  | bl {G} (b : Bool) : Dv G (.bl b) (.bl b)
  | int {G} (i : Int) : Dv G (.int i) (.int i)
  | str {G} (x : Str) : Dv G (.str x) (.str x)
  | lst {G a xs ds} : G a = some (.lst xs) → DvAll G xs ds → Dv G (.ref a) (.lst ds)
  | tup {G a xs ds} : SqT K G a xs → DvAll G xs ds → Dv G (.ref a) (.tup ds)
  | dct {G a ks xs ds} : G a = some (.dK (List.zip ks xs)) → ks.length = xs.length → DvAll G xs ds → Dv G (.ref a) (.dct (List.zip ks ds))
  | obj {G} (a : Addr) : Dv G (.ref a) (.obj a)
  | ty {G} (n : String) : Dv G (.ty n) (.ty n)
  | scr {G a ns} : SqL K G a (ns.map V.int) → ns.length ≤ 63 → Dv G (.ref a) (.scr ns)
inductive DvAll : Hp → List V → List D → Prop
  | nil {G} : DvAll G [] []
  | cons {G v vs d ds} : Dv G v d → DvAll G vs ds → DvAll G (v :: vs) (d :: ds)
end
end
def Sub (G H : Hp) : Prop := ∀ a o, G a = some o → H a = some o
theorem Sub.refl (G : Hp) : Sub G G := fun _ _ h => h
theorem Sub.trans {G H I : Hp} (a : Sub G H) (b : Sub H I) : Sub G I := fun c o h => b c o (a c o h)
theorem Sub.rd {G H : Hp} {a : Addr} {u : HO} (e : Sub G H) (h : Rd G a u) : Rd H a u := by
  rcases h with h | ⟨o, h⟩
  · exact Or.inl (e a _ h)
  · exact Or.inr ⟨o, e a _ h⟩
theorem Sub.sqL {K : PySem.W.Frag} {G H : Hp} {a : Addr} {xs : List V} (e : Sub G H) (h : SqL K G a xs) : SqL K H a xs := by
  rcases h with h | h
  · exact Or.inl (e.rd h)
  · exact Or.inr h
theorem Sub.sqT {K : PySem.W.Frag} {G H : Hp} {a : Addr} {xs : List V} (e : Sub G H) (h : SqT K G a xs) : SqT K H a xs := by
  rcases h with h | h
  · exact Or.inl (e.rd h)
  · exact Or.inr h
mutual
theorem Dv.mono {K : PySem.W.Frag} {G G' : Hp} (e : Sub G G') : ∀ {v : V} {d : D}, Dv K G v d → Dv K G' v d
  | _, _, .non => .non
  | _, _, .bl b => .bl b
  | _, _, .int i => .int i
  | _, _, .str x => .str x
  | _, _, .lst h t => .lst (e _ _ h) (DvAll.mono e t)
  | _, _, .tup h t => .tup (e.sqT h) (DvAll.mono e t)
  | _, _, .dct h l t => .dct (e _ _ h) l (DvAll.mono e t)
  | _, _, .obj a => .obj a
  | _, _, .ty n => .ty n
  | _, _, .scr h l => .scr (e.sqL h) l
theorem DvAll.mono {K : PySem.W.Frag} {G G' : Hp} (e : Sub G G') : ∀ {vs : List V} {ds : List D}, DvAll K G vs ds → DvAll K G' vs ds
  | _, _, .nil => .nil
  | _, _, .cons h t => .cons (Dv.mono e h) (DvAll.mono e t)
end
section
variable {K : PySem.W.Frag} {G : Hp}
theorem DvAll.length : ∀ {vs : List V} {ds : List D}, DvAll K G vs ds → vs.length = ds.length
  | _, _, .nil => rfl
  | _, _, .cons _ t => by simp [DvAll.length t]
theorem DvAll.get : ∀ {vs : List V} {ds : List D} {i : Nat} {d : D}, DvAll K G vs ds → ds[i]? = some d → ∃ v, vs[i]? = some v ∧ Dv K G v d
  | _, _, _, _, .nil, e => by simp at e
  | _, _, 0, _, .cons r _, e => by simp at e; subst e; exact ⟨_, rfl, r⟩
  | _, _, i + 1, x, .cons _ t, e => by
    obtain ⟨u, h1, h2⟩ := DvAll.get (i := i) t (by simpa using e)
    exact ⟨u, by simpa using h1, h2⟩
theorem DvAll.get' : ∀ {vs : List V} {ds : List D} {i : Nat} {v : V}, DvAll K G vs ds → vs[i]? = some v → ∃ d, ds[i]? = some d ∧ Dv K G v d
  | _, _, _, _, .nil, e => by simp at e
  | _, _, 0, _, .cons r _, e => by simp at e; subst e; exact ⟨_, rfl, r⟩
  | _, _, i + 1, x, .cons _ t, e => by
    obtain ⟨u, h1, h2⟩ := DvAll.get' (i := i) t (by simpa using e)
    exact ⟨u, by simpa using h1, h2⟩
theorem DvAll.append : ∀ {vs ws : List V} {ds es : List D}, DvAll K G vs ds → DvAll K G ws es → DvAll K G (vs ++ ws) (ds ++ es)
  | _, _, _, _, .nil, s => s
  | _, _, _, _, .cons r t, s => .cons r (DvAll.append t s)
theorem DvAll.take : ∀ {vs : List V} {ds : List D} (n : Nat), DvAll K G vs ds → DvAll K G (vs.take n) (ds.take n)
  | _, _, 0, _ => .nil
  | _, _, _ + 1, .nil => .nil
  | _, _, n + 1, .cons r t => .cons r (DvAll.take n t)
theorem DvAll.drop : ∀ {vs : List V} {ds : List D} (n : Nat), DvAll K G vs ds → DvAll K G (vs.drop n) (ds.drop n)
  | _, _, 0, r => r
  | _, _, _ + 1, .nil => .nil
  | _, _, n + 1, .cons _ t => DvAll.drop n t
theorem DvAll.set {v : V} {d : D} (r : Dv K G v d) : ∀ {vs : List V} {ds : List D} (i : Nat), DvAll K G vs ds → DvAll K G (vs.set i v) (ds.set i d)
  | _, _, _, .nil => .nil
  | _, _, 0, .cons _ t => .cons r t
  | _, _, i + 1, .cons q t => .cons q (DvAll.set r i t)
theorem DvAll.one {v : V} {d : D} (r : Dv K G v d) : DvAll K G [v] [d] := .cons r .nil
theorem DvAll.snoc {vs : List V} {ds : List D} {v : V} {d : D} (t : DvAll K G vs ds) (r : Dv K G v d) : DvAll K G (vs ++ [v]) (ds ++ [d]) := t.append (.one r)
end

/-- the bag that the law draws from: a list [rest, mixed, place, cells]; of its numbers little is said -/
def MOk (K : PySem.W.Frag) (G H : Hp) (a : Addr) : MO → Prop
  | .bag => ∃ (x0 x1 x2 : Int) (ns : List Int) (vs : List V), H a = some (.lst vs) ∧ DvAll K G vs [.int x0, .int x1, .int x2, .lst (ns.map D.int)] ∧ 0 ≤ x0 ∧ 0 ≤ x1 ∧ x1 < 2147483647 ∧ 0 ≤ x2 ∧ ∀ n ∈ ns, 0 ≤ n
  | .lst ds => ∃ vs, H a = some (.lst vs) ∧ DvAll K G vs ds
structure OkS (K : PySem.W.Frag) (G : Hp) (M : MS) (H : Hp) : Prop where
  sub : Sub G H
  dis : ∀ a mo, M a = some mo → G a = none
  mok : ∀ a mo, M a = some mo → MOk K G H a mo
/-- from one state to a later one -/
structure Step (K : PySem.W.Frag) (G : Hp) (M : MS) (H : Hp) (G' : Hp) (M' : MS) (H' : Hp) : Prop where
  ok : OkS K G' M' H'
  sub : Sub G G'
  keep : ∀ a o, H a = some o → M a = none → H' a = some o
  newM : ∀ a mo, M a = none → M' a = some mo → H a = none
  dom : ∀ a, H' a = none → H a = none
  newG : ∀ a o, G a = none → G' a = some o → M a = none → H a = none
section
variable {K : PySem.W.Frag} {G G1 G2 : Hp} {M M1 M2 : MS} {H H1 H2 : Hp}
theorem MOk.there {a : Addr} {mo : MO} (h : MOk K G H a mo) : ∃ o, H a = some o := by
  cases mo with
  | bag => obtain ⟨_, _, _, _, _, h, _⟩ := h; exact ⟨_, h⟩
  | lst ds => obtain ⟨_, h, _⟩ := h; exact ⟨_, h⟩
theorem Step.refl (o : OkS K G M H) : Step K G M H G M H := ⟨o, Sub.refl G, fun _ _ h _ => h, fun a mo h q => (by rw [h] at q; cases q), fun _ h => h, fun a o h q _ => (by rw [h] at q; cases q)⟩
theorem Step.noM (s : Step K G M H G1 M1 H1) {a : Addr} {o : HO} (h : H a = some o) (hm : M a = none) : M1 a = none := by
  cases e : M1 a with
  | none => rfl
  | some mo =>
    have q := s.newM a mo hm e
    rw [h] at q; cases q
theorem Step.trans (a : Step K G M H G1 M1 H1) (b : Step K G1 M1 H1 G2 M2 H2) : Step K G M H G2 M2 H2 where
  ok := b.ok
  sub := a.sub.trans b.sub
  keep := fun x o h hm => b.keep x o (a.keep x o h hm) (a.noM h hm)
  newM := fun x mo hm h => by
    cases e : M1 x with
    | none => exact a.dom x (b.newM x mo e h)
    | some m1 => exact a.newM x m1 hm e
  dom := fun x h => a.dom x (b.dom x h)
  newG := fun x o hg h hm => by
    cases e : G1 x with
    | some u => exact a.newG x u hg e hm
    | none =>
      cases e2 : M1 x with
      | some mo => exact a.newM x mo hm e2
      | none => exact a.dom x (b.newG x o e h e2)
end
/-- a value as what is given; H0: the heap ahead of it -/
def Rv (K : PySem.W.Frag) (H0 G : Hp) (M : MS) (H : Hp) (v : V) : R → Prop
  | .val d => Dv K G v d
  | .new ds => ∃ p vs, v = .ref p ∧ H0 p = none ∧ H p = some (.lst vs) ∧ G p = none ∧ M p = none ∧ DvAll K G vs ds
theorem upd_sub {G H : Hp} {p : Addr} {o : HO} (s : Sub G H) (h : H p = some o) : Sub (upd G p o) H := fun a u e => by
  by_cases ha : a = p
  · subst ha; rw [upd_same] at e; cases e; exact h
  · rw [upd_ne ha] at e; exact s a u e
theorem sub_upd {G : Hp} {p : Addr} {o : HO} (h : G p = none) : Sub G (upd G p o) := fun a u e => by
  rw [upd_ne (ne_of_none e h)]; exact e
theorem MOk.mono {K : PySem.W.Frag} {G G' H : Hp} {a : Addr} (e : Sub G G') {mo : MO} (h : MOk K G H a mo) : MOk K G' H a mo := by
  cases mo with
  | bag => obtain ⟨x0, x1, x2, ns, vs, h1, h2, h3⟩ := h; exact ⟨x0, x1, x2, ns, vs, h1, h2.mono e, h3⟩
  | lst ds => obtain ⟨vs, h1, h2⟩ := h; exact ⟨vs, h1, h2.mono e⟩
/-- an object is known still if its place in the heap is as it was -/
theorem MOk.at_ {K : PySem.W.Frag} {G H H' : Hp} {a : Addr} {mo : MO} (h : MOk K G H a mo) (e : H' a = H a) : MOk K G H' a mo := by
  cases mo with
  | bag => obtain ⟨x0, x1, x2, ns, vs, h1, h3⟩ := h; exact ⟨x0, x1, x2, ns, vs, e.trans h1, h3⟩
  | lst ds => obtain ⟨vs, h1, h2⟩ := h; exact ⟨vs, e.trans h1, h2⟩
section
variable {K : PySem.W.Frag} {H0 G G1 : Hp} {M M1 : MS} {H H1 : Hp} {v : V} {r : R}
/-- what nobody else holds may be taken as data -/
theorem Rv.adopt (s : Step K G M H G1 M1 H1) (h : Rv K H G1 M1 H1 v r) : ∃ G2, Step K G M H G2 M1 H1 ∧ Dv K G2 v r.toD := by
  cases r with
  | val d => exact ⟨G1, s, h⟩
  | new ds =>
    obtain ⟨p, vs, rfl, h0, h1, hg, hm, t⟩ := h
    have e : Sub G1 (upd G1 p (.lst vs)) := sub_upd hg
    refine ⟨upd G1 p (.lst vs), ⟨⟨upd_sub s.ok.sub h1, fun a mo q => ?_, fun a mo q => (s.ok.mok a mo q).mono e⟩, s.sub.trans e, s.keep, s.newM, s.dom, fun a o hg' q hm' => ?_⟩, .lst upd_same (t.mono e)⟩
    · have ha : a ≠ p := fun z => by rw [z, hm] at q; cases q
      rw [upd_ne ha]; exact s.ok.dis a mo q
    · by_cases ha : a = p
      · rw [ha]; exact h0
      · rw [upd_ne ha] at q; exact s.newG a o hg' q hm'
end
def updM (M : MS) (a : Addr) (o : MO) : MS := fun b => if b = a then some o else M b
theorem updM_same {M : MS} {a : Addr} {o : MO} : updM M a o a = some o := by unfold updM; rw [if_pos rfl]
theorem updM_ne {M : MS} {a b : Addr} {o : MO} (h : b ≠ a) : updM M a o b = M b := by unfold updM; rw [if_neg h]
def dropM (M : MS) (a : Addr) : MS := fun b => if b = a then none else M b
theorem dropM_same {M : MS} {a : Addr} : dropM M a a = none := by unfold dropM; rw [if_pos rfl]
theorem dropM_ne {M : MS} {a b : Addr} (h : b ≠ a) : dropM M a b = M b := by unfold dropM; rw [if_neg h]
/-- M' without the lists that M does not know -/
def restrict (M M' : MS) : MS := fun a => match M' a with
  | some (.lst ds) => if (M a).isSome then some (.lst ds) else none
  | m => m

/-! ### slots -/
abbrev DEnv := List (Option D)
structure ER (K : PySem.W.Frag) (G : Hp) (σ : L2.St) (δ : DEnv) : Prop where
  len : σ.length = δ.length
  at_ : ∀ (i : Nat) (d : D), δ[i]? = some (some d) → ∃ v, σ[i]? = some (some v) ∧ Dv K G v d
theorem ER.mono {K : PySem.W.Frag} {G G' : Hp} {σ : L2.St} {δ : DEnv} (e : ER K G σ δ) (s : Sub G G') : ER K G' σ δ :=
  ⟨e.len, fun i d h => let ⟨v, h1, h2⟩ := e.at_ i d h; ⟨v, h1, h2.mono s⟩⟩
theorem ER.set {K : PySem.W.Frag} {G : Hp} {σ : L2.St} {δ : DEnv} (e : ER K G σ δ) (i : Nat) {v : V} {d : D} (h : Dv K G v d) : ER K G (σ.set i (some v)) (δ.set i (some d)) := by
  refine ⟨by simp [e.len], fun j d' q => ?_⟩
  by_cases hj : i = j
  · subst hj
    have hl : i < δ.length := by
      have := (List.getElem?_eq_some_iff.mp q).1
      simpa using this
    rw [List.getElem?_set_self hl] at q
    cases q
    exact ⟨v, by rw [List.getElem?_set_self (by rw [e.len]; exact hl)], h⟩
  · rw [List.getElem?_set_ne hj] at q ⊢
    exact e.at_ j d' q
theorem ER.unset {K : PySem.W.Frag} {G : Hp} {σ : L2.St} {δ : DEnv} (e : ER K G σ δ) (i : Nat) : ER K G (σ.set i none) (δ.set i none) := by
  refine ⟨by simp [e.len], fun j d' q => ?_⟩
  by_cases hj : i = j
  · subst hj
    have hl : i < δ.length := by
      have := (List.getElem?_eq_some_iff.mp q).1
      simpa using this
    rw [List.getElem?_set_self hl] at q
    cases q
  · rw [List.getElem?_set_ne hj] at q ⊢
    exact e.at_ j d' q
def wipeD (δ : DEnv) : List Nat → DEnv
  | [] => δ
  | v :: vs => (wipeD δ vs).set v none
theorem ER.wipe {K : PySem.W.Frag} {G : Hp} {σ : L2.St} {δ : DEnv} (e : ER K G σ δ) : ∀ vs : List Nat, ER K G (L2.wipe σ vs) (wipeD δ vs)
  | [] => e
  | v :: vs => (ER.wipe e vs).unset v
end DL
set_option linter.all false
set_option maxRecDepth 100000
set_option maxHeartbeats 2000000
/-! # The small language: what it is, what it means -/
namespace DL
open PySem L2

/-! ### data of the library -/
mutual
def toP : D → PyData
  | .non => .none
  | .bl b => .bool b
  | .int i => .int i
  | .str x => .str x
  | .lst xs => .list (toPs xs)
  | .tup xs => .tuple (toPs xs)
  | .dct kvs => .dict (toPk kvs)
  | .obj _ => .none
  | .ty _ => .none
  | .scr _ => .none
def toPs : List D → List PyData
  | [] => []
  | x :: xs => toP x :: toPs xs
def toPk : List (Key × D) → List (PyData × PyData)
  | [] => []
  | (k, x) :: xs => ((match k with | .inl i => PyData.int i | .inr s => PyData.str s), toP x) :: toPk xs
end
mutual
/-- nothing with an identity stands in it -/
def isP : D → Bool
  | .non | .bl _ | .int _ | .str _ => true
  | .lst xs | .tup xs => isPs xs
  | .dct kvs => isPk kvs
  | .obj _ | .ty _ | .scr _ => false
def isPs : List D → Bool
  | [] => true
  | x :: xs => isP x && isPs xs
def isPk : List (Key × D) → Bool
  | [] => true
  | (_, x) :: xs => isP x && isPk xs
end

/-! ### syntax -/
/-- built-in functions -/
inductive BI where
  | len | int | abs | repr | all | any | tuple | list
  deriving DecidableEq
/-- methods of built-in values -/
inductive MT where
  | split | join
  deriving DecidableEq
mutual
inductive E where
  | var (i : Nat) | cst (d : D) | gl (i : Nat) | tup (es : Es) | lst (es : Es) | dct (es : Es)
  | bin (o : Operator) (a b : E) | neg (a : E) | cmp (o : CmpOp) (a b : E) | chain (o o' : CmpOp) (a b c : E)
  | not (a : E) | and (a b : E) | or (a b : E) | ife (t : T) (a b : E) | idx (a i : E) | slc (a : E) (lo hi : O)
  | call (f : Nat) (es : Es) | bi (b : BI) (es : Es) | isi (a : E) (ts : List String) | mt (m : MT) (a : E) (es : Es)
  | comp (elt : E) (tg : List Nat) (one : Bool) (own : List Nat) (it : I) (cond : T)
inductive Es where
  | nil | cons (e : E) (es : Es)
inductive O where
  | none | some (e : E)
inductive T where
  | yes | e (e : E) | and (a b : T) | or (a b : T) | not (a : T)
inductive I where
  | seq (e : E) | rng1 (e : E) | rng2 (a b : E)
end
mutual
inductive S where
  | set (i : Nat) (e : E) | setM (i : Nat) (e : E) | par (is : List Nat) (es : Es) | unp (is : List Nat) (e : E) | aug (i : Nat) (o : Operator) (e : E)
  | sto (o i e : E) | augS (o i : E) (op : Operator) (e : E) | exp (e : E) | app (o e : E) | ins (o i e : E) | ret (e : E) | retN | iff (t : T) (a b : Ss)
  | for_ (tg : List Nat) (one : Bool) (it : I) (body : Ss) | pass | brk | cnt
inductive Ss where
  | nil | cons (s : S) (ss : Ss)
end

/-! ### operations on values -/
def view (M : MS) : D → D
  | .obj a => match M a with
    | some (.lst ds) => .lst ds
    | _ => .obj a
  | d => d
def op2 : Operator → D → D → Option R
  | .Add, .int i, .int j => some (.val (.int (i + j)))
  | .Add, .str a, .str b => if a.length + b.length ≤ sizeLine then some (.val (.str (a ++ b))) else none
  | .Add, .lst xs, .lst ys => if xs.length + ys.length ≤ sizeLine then some (.new (xs ++ ys)) else none
  | .Add, .tup xs, .tup ys => if xs.length + ys.length ≤ sizeLine then some (.val (.tup (xs ++ ys))) else none
  | .Sub, .int i, .int j => some (.val (.int (i - j)))
  | .Mult, .int i, .int j => if (-(2 ^ 64) < i ∧ i < 2 ^ 64) ∨ (-(2 ^ 64) < j ∧ j < 2 ^ 64) then some (.val (.int (i * j))) else none
  | .Mult, .str a, .int j => if j ≤ 1000 ∧ -1000 ≤ j ∧ a.length ≤ 1000 then some (.val (.str (PySem.Txt.mul a j))) else none
  | .Mod, .int i, .int j => if 0 < j then some (.val (.int (i % j))) else none
  | .FloorDiv, .int i, .int j => if 0 < j ∧ j < 1073741824 then some (.val (.int (i / j))) else none
  | _, _, _ => none
/-- x op= y of values that do not change -/
def augD : Operator → D → D → Option D
  | .Add, .int i, .int j => some (.int (i + j))
  | .Sub, .int i, .int j => some (.int (i - j))
  | .Add, .str a, .str b => if a.length + b.length ≤ sizeLine then some (.str (a ++ b)) else none
  | _, _, _ => none
def flatD : D → Bool
  | .non | .bl _ | .int _ | .str _ => true
  | _ => false
/-- == of two values -/
def eqS (x y : D) : Option Bool := if isP x = true ∧ isP y = true ∧ SeqAt.shaped (toP x) = true ∧ SeqAt.shaped (toP y) = true then some (PyData.eqv (toP x) (toP y)) else none
def eqD : D → D → Option Bool
  | .lst xs, .lst ys => if xs.length ≠ ys.length then some false else eqS (.lst xs) (.lst ys)
  | .str a, .str b => some (decide (a = b))
  | x, y => eqS x y
def neD : D → D → Option Bool
  | .str a, .str b => some (!decide (a = b))
  | x, y => (eqS x y).map (!·)
def inD (x y : D) : Option Bool :=
  match x, y with
  | .str a, .str b => match a.cps.toList with
    | [c] => some (decide (c ∈ b.cps.toList))
    | _ => none
  | _, .lst ys => if flatD x = true ∧ ys.all flatD = true then some (ys.any fun z => PyData.eqv (toP z) (toP x)) else none
  | _, .tup ys => if flatD x = true ∧ ys.all flatD = true then some (ys.any fun z => PyData.eqv (toP z) (toP x)) else none
  | _, _ => none
def cmp2 : CmpOp → D → D → Option Bool
  | .Eq, x, y => eqD x y
  | .NotEq, x, y => neD x y
  | .Lt, .int i, .int j => some (decide (i < j))
  | .LtE, .int i, .int j => some (decide (i ≤ j))
  | .Gt, .int i, .int j => some (decide (j < i))
  | .GtE, .int i, .int j => some (decide (j ≤ i))
  | .In, x, y => inD x y
  | .NotIn, x, y => (inD x y).map (!·)
  | _, _, _ => none
def truthD : D → Option Bool
  | .non => some false
  | .bl b => some b
  | .int i => some (i != 0)
  | .str y => if y.length ≤ sizeLine then some ((y.length : Int) != 0) else none
  | .lst xs => some (!xs.isEmpty)
  | .tup xs => some (!xs.isEmpty)
  | _ => none
def idxD : D → D → Option D
  | .lst xs, .int i => atI xs i
  | .tup xs, .int i => atI xs i
  | .str z, .int i => if z.length ≤ sizeLine then (atI z.cps.toList i).map fun c => D.str ⟨#[c]⟩ else none
  | _, _ => none
def cutD (xs : List D) (lo hi : Option Int) : List D := (xs.drop (HT.sIx xs.length 0 lo)).take (HT.sIx xs.length xs.length hi - HT.sIx xs.length 0 lo)
def slcD (x : D) (lo hi : Option Int) : Option R :=
  match x with
  | .lst xs => some (.new (cutD xs lo hi))
  | .scr ns => some (.new (cutD (ns.map D.int) lo hi))
  | .tup xs => some (.val (.tup (cutD xs lo hi)))
  | .str z => if z.length ≤ sizeLine then some (.val (.str (cutS z lo hi))) else none
  | _ => none
def lenD : D → Option Nat
  | .lst xs => some xs.length
  | .tup xs => some xs.length
  | .str z => if z.length ≤ sizeLine then some z.length else none
  | _ => none
def boolsD : List D → Option (List Bool)
  | [] => some []
  | .bl b :: r => (boolsD r).map (b :: ·)
  | _ :: _ => none
def strsD : List D → Option (List Str)
  | [] => some []
  | .str b :: r => (strsD r).map (b :: ·)
  | _ :: _ => none
def tyD : D → Option String
  | .non => some "NoneType"
  | .bl _ => some "bool"
  | .int _ => some "int"
  | .str _ => some "str"
  | .lst _ => some "list"
  | .tup _ => some "tuple"
  | .dct _ => some "dict"
  | _ => none
/-- isinstance against one of some built-in classes -/
def isiD (x : D) (ts : List String) : Option Bool := match tyD x with
  | some t => if t ∈ ["NoneType", "bool", "int", "str", "list", "tuple", "dict"] ∧ (∀ u ∈ ts, u ∈ ["bool", "int", "str", "list", "tuple", "dict"]) then some (ts.any fun u => u == t || (t == "bool" && u == "int")) else none
  | none => none
def biD : BI → List D → Option R
  | .len, [x] => (lenD x).map fun n => .val (.int n)
  | .int, [.int i] => some (.val (.int i))
  | .int, [.bl b] => some (.val (.int (if b then 1 else 0)))
  | .int, [.str a] => if a.length ≤ 640 then (PySem.intText? a).map fun n => .val (.int n) else none
  | .abs, [.int i] => some (.val (.int (if i < 0 then -i else i)))
  | .repr, [x] => if isP x = true ∧ (toP x).showable = true ∧ (toP x).shown.length ≤ sizeLine ∧ (toP x).depth ≤ 60 then some (.val (.str (toP x).shown)) else none
  | .all, [.lst xs] => (boolsD xs).map fun bs => .val (.bl (bs.all id))
  | .any, [.lst xs] => (boolsD xs).map fun bs => .val (.bl (bs.any id))
  | .tuple, [.lst xs] => some (.val (.tup xs))
  | .tuple, [.tup xs] => some (.val (.tup xs))
  | .list, [.lst xs] => some (.new xs)
  | .list, [.tup xs] => some (.new xs)
  | _, _ => none
def mtD : MT → D → List D → Option R
  | .split, .str a, [.str b] => if b.length ≠ 0 ∧ a.length + 2 ≤ sizeLine then some (.new ((PySem.Txt.split a b).map D.str)) else none
  | .join, .str a, [.lst xs] => match strsD xs with
    | some ys => if (ys.map (·.length)).sum + ys.length * a.length ≤ 16777216 then some (.val (.str (PySem.Txt.join a ys))) else none
    | none => none
  | _, _, _ => none
def pairsD : List D → Option (List (Key × D))
  | [] => some []
  | .str x :: d :: r => (pairsD r).map ((.inr x, d) :: ·)
  | .int i :: d :: r => (pairsD r).map ((.inl i, d) :: ·)
  | _ => none
def itemsD : D → Option (List D)
  | .lst xs => some xs
  | .tup xs => some xs
  | .str z => some (z.cps.toList.map fun c => D.str ⟨#[c]⟩)
  | _ => none
/-- names are given an item -/
def bindT (δ : DEnv) : List Nat → Bool → D → Option DEnv
  | [i], true, d => some (δ.set i (some d))
  | is, false, .tup ds => if is.length = ds.length then some ((is.zip ds).foldl (fun δ p => δ.set p.1 (some p.2)) δ) else none
  | _, _, _ => none

/-! ### meaning -/
abbrev KR := R → MS → Prop
abbrev KX := Xn → MS → Prop
abbrev Fns := Nat → List D → MS → KR → KX → Prop
def compLoop (src : MS → Prop) (step : D → List D → MS → (List D → MS → Prop) → Prop) : List D → List D → MS → (List D → MS → Prop) → Prop
  | [], acc, M, Q => src M ∧ Q acc M
  | d :: r, acc, M, Q => src M ∧ acc.length < sizeLine ∧ step d acc M fun acc' M' => compLoop src step r acc' M' Q
mutual
def evalE (Φ : Fns) (γ : List D) : E → DEnv → MS → KR → KX → Prop
  | .var i, δ, M, Q, _ => ∃ d, δ[i]? = some (some d) ∧ Q (.val d) M
  | .cst d, _, M, Q, _ => Q (.val d) M
  | .gl i, _, M, Q, _ => ∃ d, γ[i]? = some d ∧ Q (.val d) M
  | .tup es, δ, M, Q, Z => evalEs Φ γ es δ M (fun ds M' => ds.length ≤ sizeLine ∧ Q (.val (.tup ds)) M') Z
  | .lst es, δ, M, Q, Z => evalEs Φ γ es δ M (fun ds M' => ds.length ≤ sizeLine ∧ Q (.new ds) M') Z
  | .dct es, δ, M, Q, Z => evalEs Φ γ es δ M (fun ds M' => ∃ kvs, pairsD ds = some kvs ∧ kvs.length ≤ 15 ∧ (kvs.map (·.1)).Nodup ∧ Q (.val (.dct kvs)) M') Z
  | .bin o a b, δ, M, Q, Z => evalE Φ γ a δ M (fun x M1 => evalE Φ γ b δ M1 (fun y M2 => ∃ r, op2 o (view M2 x.toD) (view M2 y.toD) = some r ∧ Q r M2) Z) Z
  | .neg a, δ, M, Q, Z => evalE Φ γ a δ M (fun x M1 => ∃ i, x.toD = .int i ∧ Q (.val (.int (-i))) M1) Z
  | .cmp o a b, δ, M, Q, Z => evalE Φ γ a δ M (fun x M1 => evalE Φ γ b δ M1 (fun y M2 => ∃ k, cmp2 o (view M2 x.toD) (view M2 y.toD) = some k ∧ Q (.val (.bl k)) M2) Z) Z
  | .chain o o' a b c, δ, M, Q, Z => evalE Φ γ a δ M (fun x M1 => evalE Φ γ b δ M1 (fun y M2 => ∃ k, cmp2 o (view M2 x.toD) (view M2 y.toD) = some k ∧
      if k = true then evalE Φ γ c δ M2 (fun z M3 => ∃ k', cmp2 o' (view M3 y.toD) (view M3 z.toD) = some k' ∧ Q (.val (.bl k')) M3) Z else Q (.val (.bl false)) M2) Z) Z
  | .not a, δ, M, Q, Z => evalE Φ γ a δ M (fun x M1 => ∃ k, truthD (view M1 x.toD) = some k ∧ Q (.val (.bl (!k))) M1) Z
  | .and a b, δ, M, Q, Z => evalE Φ γ a δ M (fun x M1 => ∃ k, truthD (view M1 x.toD) = some k ∧ if k = true then evalE Φ γ b δ M1 Q Z else Q (.val x.toD) M1) Z
  | .or a b, δ, M, Q, Z => evalE Φ γ a δ M (fun x M1 => ∃ k, truthD (view M1 x.toD) = some k ∧ if k = true then Q (.val x.toD) M1 else evalE Φ γ b δ M1 Q Z) Z
  | .ife t a b, δ, M, Q, Z => evalT Φ γ t δ M (fun k M1 => if k = true then evalE Φ γ a δ M1 Q Z else evalE Φ γ b δ M1 Q Z) Z
  | .idx a i, δ, M, Q, Z => evalE Φ γ a δ M (fun x M1 => evalE Φ γ i δ M1 (fun y M2 => ∃ d, idxD (view M2 x.toD) y.toD = some d ∧ Q (.val d) M2) Z) Z
  | .slc a lo hi, δ, M, Q, Z => evalE Φ γ a δ M (fun x M1 => evalO Φ γ lo δ M1 (fun l M2 => evalO Φ γ hi δ M2 (fun h M3 => ∃ r, slcD (view M3 x.toD) l h = some r ∧ Q r M3) Z) Z) Z
  | .call f es, δ, M, Q, Z => evalEs Φ γ es δ M (fun ds M1 => Φ f ds M1 Q Z) Z
  | .bi b es, δ, M, Q, Z => evalEs Φ γ es δ M (fun ds M1 => ∃ r, biD b (ds.map (view M1)) = some r ∧ Q r M1) Z
  | .isi a ts, δ, M, Q, Z => evalE Φ γ a δ M (fun x M1 => ∃ k, isiD (view M1 x.toD) ts = some k ∧ Q (.val (.bl k)) M1) Z
  | .mt m a es, δ, M, Q, Z => evalE Φ γ a δ M (fun x M1 => ∃ z, x.toD = .str z ∧ evalEs Φ γ es δ M1 (fun ds M2 => ∃ r, mtD m (.str z) (ds.map (view M2)) = some r ∧ Q r M2) Z) Z
  | .comp elt tg one own it cond, δ, M, Q, Z => evalI Φ γ it δ M (fun src items M1 =>
      compLoop src (fun d acc M2 k => ∃ δ', bindT (wipeD δ own) tg one d = some δ' ∧ evalT Φ γ cond δ' M2 (fun b M3 =>
        if b = true then evalE Φ γ elt δ' M3 (fun r M4 => k (acc ++ [r.toD]) M4) (fun _ _ => False) else k acc M3) (fun _ _ => False)) items [] M1 fun acc M5 => Q (.new acc) M5) Z
def evalEs (Φ : Fns) (γ : List D) : Es → DEnv → MS → (List D → MS → Prop) → KX → Prop
  | .nil, _, M, Q, _ => Q [] M
  | .cons e es, δ, M, Q, Z => evalE Φ γ e δ M (fun r M1 => evalEs Φ γ es δ M1 (fun ds M2 => Q (r.toD :: ds) M2) Z) Z
def evalO (Φ : Fns) (γ : List D) : O → DEnv → MS → (Option Int → MS → Prop) → KX → Prop
  | .none, _, M, Q, _ => Q none M
  | .some e, δ, M, Q, Z => evalE Φ γ e δ M (fun r M1 => ∃ i, r.toD = .int i ∧ Q (some i) M1) Z
def evalT (Φ : Fns) (γ : List D) : T → DEnv → MS → (Bool → MS → Prop) → KX → Prop
  | .yes, _, M, Q, _ => Q true M
  | .e e, δ, M, Q, Z => evalE Φ γ e δ M (fun r M1 => ∃ k, truthD (view M1 r.toD) = some k ∧ Q k M1) Z
  | .and a b, δ, M, Q, Z => evalT Φ γ a δ M (fun k M1 => if k = true then evalT Φ γ b δ M1 Q Z else Q false M1) Z
  | .or a b, δ, M, Q, Z => evalT Φ γ a δ M (fun k M1 => if k = true then Q true M1 else evalT Φ γ b δ M1 Q Z) Z
  | .not a, δ, M, Q, Z => evalT Φ γ a δ M (fun k M1 => Q (!k) M1) Z
/-- what is walked: how it stands (src), its items -/
def evalI (Φ : Fns) (γ : List D) : I → DEnv → MS → ((MS → Prop) → List D → MS → Prop) → KX → Prop
  | .seq e, δ, M, Q, Z => evalE Φ γ e δ M (fun r M1 => ∃ items, itemsD (view M1 r.toD) = some items ∧ Q (fun M2 => itemsD (view M2 r.toD) = some items) items M1) Z
  | .rng1 e, δ, M, Q, Z => evalE Φ γ e δ M (fun r M1 => ∃ i, r.toD = .int i ∧ i < 2 ^ 62 ∧ -(2 ^ 62) ≤ i ∧ Q (fun _ => True) ((List.range i.toNat).map fun (k : Nat) => D.int (k : Int)) M1) Z
  | .rng2 a b, δ, M, Q, Z => evalE Φ γ a δ M (fun r M1 => evalE Φ γ b δ M1 (fun r' M2 => ∃ i j, r.toD = .int i ∧ r'.toD = .int j ∧ -(2 ^ 62) ≤ i ∧ i < 2 ^ 62 ∧ -(2 ^ 62) ≤ j ∧ j < 2 ^ 62 ∧
      Q (fun _ => True) ((List.range (j - i).toNat).map fun (k : Nat) => D.int (i + (k : Int))) M2) Z) Z
end
/-- what is wanted behind a statement -/
structure DE where
  nx : DEnv → MS → Prop
  rt : R → MS → Prop
  bk : DEnv → MS → Prop := fun _ _ => False
  ct : DEnv → MS → Prop := fun _ _ => False
  xc : Xn → DEnv → MS → Prop := fun _ _ _ => False
/-- a loop over items: what follows it -/
def forLoop (src : MS → Prop) (step : D → DEnv → MS → (DEnv → MS → Prop) → Prop) (nx : DEnv → MS → Prop) : List D → DEnv → MS → Prop
  | [], δ, M => src M ∧ nx δ M
  | d :: r, δ, M => src M ∧ step d δ M fun δ' M' => forLoop src step nx r δ' M'
mutual
def execS (Φ : Fns) (γ : List D) : S → DE → DEnv → MS → Prop
  | .set i e, K, δ, M => evalE Φ γ e δ M (fun r M1 => K.nx (δ.set i (some r.toD)) M1) fun x M1 => K.xc x δ M1
  | .setM i e, K, δ, M => evalE Φ γ e δ M (fun r M1 => ∃ ds, r = .new ds ∧ ∀ p, M1 p = none → K.nx (δ.set i (some (.obj p))) (updM M1 p (.lst ds))) fun x M1 => K.xc x δ M1
  | .unp is e, K, δ, M => evalE Φ γ e δ M (fun r M1 => ∃ δ', bindT δ is false r.toD = some δ' ∧ K.nx δ' M1) fun x M1 => K.xc x δ M1
  | .par is es, K, δ, M => evalEs Φ γ es δ M (fun ds M1 => ds.length ≤ sizeLine ∧ is.length = ds.length ∧ K.nx ((is.zip ds).foldl (fun δ p => δ.set p.1 (some p.2)) δ) M1) fun x M1 => K.xc x δ M1
  | .aug i o e, K, δ, M => ∃ d, δ[i]? = some (some d) ∧ evalE Φ γ e δ M (fun y M1 =>
      (∃ p xs ys, d = .obj p ∧ o = .Add ∧ M1 p = some (.lst xs) ∧ view M1 y.toD = .lst ys ∧ xs.length + ys.length ≤ sizeLine ∧ K.nx δ (updM M1 p (.lst (xs ++ ys)))) ∨
      ∃ z, augD o d y.toD = some z ∧ K.nx (δ.set i (some z)) M1) fun x M1 => K.xc x δ M1
  | .sto o i e, K, δ, M => evalE Φ γ e δ M (fun y M1 => evalE Φ γ o δ M1 (fun x M2 => evalE Φ γ i δ M2 (fun z M3 => ∃ p ds k j, x.toD = .obj p ∧ M3 p = some (.lst ds) ∧ z.toD = .int k ∧ ixN ds.length k = some j ∧
      K.nx δ (updM M3 p (.lst (ds.set j y.toD)))) fun x M1 => K.xc x δ M1) fun x M1 => K.xc x δ M1) fun x M1 => K.xc x δ M1
  | .augS o i op e, K, δ, M => evalE Φ γ o δ M (fun x M1 => evalE Φ γ i δ M1 (fun z M2 => ∃ p k, x.toD = .obj p ∧ z.toD = .int k ∧ ∃ ds d, M2 p = some (.lst ds) ∧ atI ds k = some d ∧ evalE Φ γ e δ M2 (fun y M3 => ∃ w ds' j, augD op d y.toD = some w ∧ M3 p = some (.lst ds') ∧ ixN ds'.length k = some j ∧
      K.nx δ (updM M3 p (.lst (ds'.set j w)))) fun x M1 => K.xc x δ M1) fun x M1 => K.xc x δ M1) fun x M1 => K.xc x δ M1
  | .exp e, K, δ, M => evalE Φ γ e δ M (fun _ M1 => K.nx δ M1) fun x M1 => K.xc x δ M1
  | .app o e, K, δ, M => evalE Φ γ o δ M (fun x M1 => ∃ p, x.toD = .obj p ∧ (∃ ds, M1 p = some (.lst ds)) ∧ evalE Φ γ e δ M1 (fun y M2 => ∃ ds, M2 p = some (.lst ds) ∧ ds.length < sizeLine ∧ K.nx δ (updM M2 p (.lst (ds ++ [y.toD])))) fun x M1 => K.xc x δ M1) fun x M1 => K.xc x δ M1
  | .ins o i e, K, δ, M => evalE Φ γ o δ M (fun x M1 => ∃ p, x.toD = .obj p ∧ (∃ ds, M1 p = some (.lst ds)) ∧ evalE Φ γ i δ M1 (fun z M2 => evalE Φ γ e δ M2 (fun y M3 => ∃ ds k, M3 p = some (.lst ds) ∧ z.toD = .int k ∧ 0 ≤ k ∧ k < 2 ^ 63 ∧ ds.length < sizeLine ∧
      K.nx δ (updM M3 p (.lst (ds.take k.toNat ++ [y.toD] ++ ds.drop k.toNat)))) fun x M1 => K.xc x δ M1) fun x M1 => K.xc x δ M1) fun x M1 => K.xc x δ M1
  | .ret e, K, δ, M => evalE Φ γ e δ M K.rt fun x M1 => K.xc x δ M1
  | .retN, K, _, M => K.rt (.val .non) M
  | .iff t a b, K, δ, M => evalT Φ γ t δ M (fun k M1 => if k = true then execSs Φ γ a K δ M1 else execSs Φ γ b K δ M1) fun x M1 => K.xc x δ M1
  | .for_ tg one it body, K, δ, M => evalI Φ γ it δ M (fun src items M1 => forLoop src (fun d δ' M' next => ∃ δ2, bindT δ' tg one d = some δ2 ∧ execSs Φ γ body { K with nx := next, ct := next, bk := K.nx } δ2 M') K.nx items δ M1) fun x M1 => K.xc x δ M1
  | .pass, K, δ, M => K.nx δ M
  | .brk, K, δ, M => K.bk δ M
  | .cnt, K, δ, M => K.ct δ M
def execSs (Φ : Fns) (γ : List D) : Ss → DE → DEnv → MS → Prop
  | .nil, K, δ, M => K.nx δ M
  | .cons s ss, K, δ, M => execS Φ γ s { K with nx := fun δ' M' => execSs Φ γ ss K δ' M' } δ M
end
/-- a def -/
structure Def where
  arity : Nat
  slots : Nat
  body : Ss
/-- what is handed back: a list of the def's own goes to the caller; lists of its own that stay behind are forgotten -/
def retR (M : MS) (Q : KR) : R → MS → Prop
  | .val (.obj p), M' => match M p, M' p with
    | none, some (.lst ds) => Q (.new ds) (restrict M M')
    | _, _ => Q (.val (.obj p)) (restrict M M')
  | r, M' => Q r (restrict M M')
def callDef (Φ : Fns) (γ : List D) (d : Def) : List D → MS → KR → KX → Prop := fun ds M Q Z => ds.length = d.arity ∧
  execSs Φ γ d.body { nx := fun _ M' => Q (.val .non) (restrict M M'), rt := retR M Q, xc := fun x _ M' => Z x (restrict M M') } (ds.map some ++ List.replicate (d.slots - d.arity) none) M
end DL
set_option linter.all false
set_option maxRecDepth 100000
set_option maxHeartbeats 2000000
/-! # The operations, over the layer's rules -/
namespace DL
open PySem L2

/-- what an expression's end asks: given data, whatever value and heap tell it -/
def PostV (K : PySem.W.Frag) (G : Hp) (M : MS) (H : Hp) (Q : VK) : KR := fun r M' => ∀ v G' H', Step K G M H G' M' H' → Rv K H G' M' H' v r → Q v H'
section
variable {K : PySem.W.Frag} {G G1 : Hp} {M M1 : MS} {H H1 : Hp} {Q : VK}
theorem MOk.alloc {a p : Addr} {o : HO} {mo : MO} (h : MOk K G H a mo) (hp : H p = none) : MOk K G (upd H p o) a mo := by
  obtain ⟨u, hu⟩ := h.there
  exact h.at_ (upd_ne (ne_of_none hu hp))
theorem OkS.noM (o : OkS K G M H) {p : Addr} (hp : H p = none) : M p = none := by
  cases e : M p with
  | none => rfl
  | some mo =>
    obtain ⟨u, h⟩ := (o.mok p mo e).there
    rw [hp] at h; cases h
theorem OkS.noG (o : OkS K G M H) {p : Addr} (hp : H p = none) : G p = none := by
  cases e : G p with
  | none => rfl
  | some u => rw [o.sub p u e] at hp; cases hp
/-- a new object, of nobody's -/
theorem Step.alloc (s : Step K G M H G1 M1 H1) {p : Addr} {o : HO} (hp : H1 p = none) : Step K G M H G1 M1 (upd H1 p o) where
  ok := ⟨fun a u e => by rw [upd_ne (ne_of_none (s.ok.sub a u e) hp)]; exact s.ok.sub a u e, s.ok.dis, fun a mo e => (s.ok.mok a mo e).alloc hp⟩
  sub := s.sub
  keep := fun a u e hm => by
    have q := s.keep a u e hm
    rw [upd_ne (ne_of_none q hp)]; exact q
  newM := s.newM
  dom := fun a e => by
    by_cases ha : a = p
    · subst ha; exact s.dom a hp
    · rw [upd_ne ha] at e; exact s.dom a e
  newG := s.newG
/-- a new object, taken as data -/
theorem Step.allocG (s : Step K G M H G1 M1 H1) {p : Addr} {o : HO} (hp : H1 p = none) : Step K G M H (upd G1 p o) M1 (upd H1 p o) := by
  have s2 := s.alloc (o := o) hp
  have e : Sub G1 (upd G1 p o) := sub_upd (s.ok.noG hp)
  refine ⟨⟨upd_sub s2.ok.sub upd_same, fun a mo q => ?_, fun a mo q => (s2.ok.mok a mo q).mono e⟩, s.sub.trans e, s2.keep, s2.newM, s2.dom, fun a u hg q hm => ?_⟩
  · have ha : a ≠ p := fun z => by rw [z, s.ok.noM hp] at q; cases q
    rw [upd_ne ha]; exact s.ok.dis a mo q
  · by_cases ha : a = p
    · rw [ha]; exact s.dom p hp
    · rw [upd_ne ha] at q; exact s.newG a u hg q hm
theorem ans_val {d : D} {v : V} (q : PostV K G M H Q (.val d) M1) (s : Step K G M H G1 M1 H1) (h : Dv K G1 v d) : Q v H1 := q v G1 H1 s h
theorem ans_new {ds : List D} {vs : List V} {p : Addr} (q : PostV K G M H Q (.new ds) M1) (s : Step K G M H G1 M1 H1) (hp : H1 p = none) (t : DvAll K G1 vs ds) : Q (.ref p) (upd H1 p (.lst vs)) :=
  q (.ref p) G1 _ (s.alloc hp) ⟨p, vs, rfl, s.dom p hp, upd_same, s.ok.noG hp, s.ok.noM hp, t⟩
theorem ans_tup {ds : List D} {vs : List V} {p : Addr} (q : PostV K G M H Q (.val (.tup ds)) M1) (s : Step K G M H G1 M1 H1) (hp : H1 p = none) (t : DvAll K G1 vs ds) : Q (.ref p) (upd H1 p (.tup vs)) :=
  q (.ref p) _ _ (s.allocG hp) (.tup (SqT.of upd_same) (t.mono (sub_upd (s.ok.noG hp))))
end

/-- a value as it is seen: a list that is changed as its items -/
inductive Vw (K : PySem.W.Frag) (G H : Hp) : V → D → Prop
  | non : Vw K G H .non .non
  | bl (b : Bool) : Vw K G H (.bl b) (.bl b)
  | int (i : Int) : Vw K G H (.int i) (.int i)
  | str (x : Str) : Vw K G H (.str x) (.str x)
  | lst {a xs ds} : H a = some (.lst xs) → DvAll K G xs ds → Vw K G H (.ref a) (.lst ds)
  | tup {a xs ds} : SqT K G a xs → DvAll K G xs ds → Vw K G H (.ref a) (.tup ds)
  | dct {a ks xs ds} : G a = some (.dK (List.zip ks xs)) → ks.length = xs.length → DvAll K G xs ds → Vw K G H (.ref a) (.dct (List.zip ks ds))
  | obj (a : Addr) : Vw K G H (.ref a) (.obj a)
  | ty (n : String) : Vw K G H (.ty n) (.ty n)
  | scr {a ns} : SqL K G a (ns.map V.int) → ns.length ≤ 63 → Vw K G H (.ref a) (.scr ns)
section
variable {K : PySem.W.Frag} {G G1 : Hp} {M M1 : MS} {H H1 : Hp} {Q : VK} {v : V} {d : D}
theorem Dv.vw (h : Dv K G v d) (o : OkS K G M H) : Vw K G H v (view M d) := by
  cases h with
  | non => exact .non
  | bl b => exact .bl b
  | int i => exact .int i
  | str x => exact .str x
  | lst h t => exact .lst (o.sub _ _ h) t
  | tup h t => exact .tup h t
  | dct h l t => exact .dct h l t
  | obj a =>
    cases e : M a with
    | none => simp only [view, e]; exact .obj a
    | some mo =>
      cases mo with
      | bag => simp only [view, e]; exact .obj a
      | lst ds =>
        obtain ⟨vs, h, t⟩ := o.mok a _ e
        simp only [view, e]
        exact .lst h t
  | ty n => exact .ty n
  | scr h l => exact .scr h l
theorem DvAll.vw (o : OkS K G M H) : ∀ {vs : List V} {ds : List D}, DvAll K G vs ds → ∀ (i : Nat) (d : D), (ds.map (view M))[i]? = some d → ∃ v, vs[i]? = some v ∧ Vw K G H v d
  | _, _, .nil, _, _, e => by simp at e
  | _, _, .cons r _, 0, _, e => by simp at e; subst e; exact ⟨_, rfl, r.vw o⟩
  | _, _, .cons _ t, i + 1, x, e => by
    obtain ⟨u, h1, h2⟩ := DvAll.vw o t i x (by simpa using e)
    exact ⟨u, by simpa using h1, h2⟩
/-- a flat value is itself -/
theorem Dv.flat (h : Dv K G v d) (f : flatD d = true) : flatV v = true := by
  cases h <;> first | rfl | cases f
/-- data of the library -/
theorem eqv_flat {x y : V} {d e : D} (hx : Dv K G x d) (hy : Dv K G1 y e) (fx : flatD d = true) (fy : flatD e = true) : eqV x y = PyData.eqv (toP d) (toP e) := by
  cases hx <;> cases hy <;> first | (simp [toP, PyData.eqv, eqV]; done) | (simp [flatD] at fx; done) | (simp [flatD] at fy; done)
theorem any_flat {x : V} {d : D} (hx : Dv K G x d) (fx : flatD d = true) : ∀ {ys : List V} {ds : List D}, DvAll K G ys ds → ds.all flatD = true → ys.all flatV = true ∧ inV x ys = ds.any fun z => PyData.eqv (toP z) (toP d)
  | _, _, .nil, _ => ⟨rfl, rfl⟩
  | _, _, .cons r t, f => by
    simp only [List.all_cons, Bool.and_eq_true] at f
    obtain ⟨h1, h2⟩ := any_flat hx fx t f.2
    refine ⟨by simp only [List.all_cons, Bool.and_eq_true]; exact ⟨r.flat f.1, h1⟩, ?_⟩
    unfold inV at h2 ⊢
    rw [List.any_cons, List.any_cons, h2, eqv_flat r hx f.1 fx]
mutual
theorem Dv.dp {H : Hp} (o : Sub G H) : ∀ {v : V} {d : D}, Dv K G v d → isP d = true → (toP d).canLay0 = true → Dp K H v (toP d)
  | _, _, .non, _, _ => .non
  | _, _, .bl b, _, _ => .bl b
  | _, _, .int i, _, _ => .int i
  | _, _, .str x, _, _ => .str x
  | _, _, .lst h t, p, c => by
    have p' : isPs _ = true := p
    unfold toP at c ⊢
    exact .lst (SqL.of (o _ _ h)) (DvAll.dp o t p' (by simpa [PyData.canLay0] using c))
  | _, _, .tup h t, p, c => by
    have p' : isPs _ = true := p
    unfold toP at c ⊢
    exact .tup (o.sqT h) (DvAll.dp o t p' (by simpa [PyData.canLay0] using c))
  | _, _, .dct h l t, p, c => by
    unfold toP at c
    simp [PyData.canLay0] at c
  | _, _, .obj _, p, _ => by cases p
  | _, _, .ty _, p, _ => by cases p
  | _, _, .scr _ _, p, _ => by cases p
theorem DvAll.dp {H : Hp} (o : Sub G H) : ∀ {vs : List V} {ds : List D}, DvAll K G vs ds → isPs ds = true → PyData.canLayAll0 (toPs ds) = true → DpAll K H vs (toPs ds)
  | _, _, .nil, _, _ => .nil
  | _, _, .cons h t, p, c => by
    unfold isPs at p
    simp only [Bool.and_eq_true] at p
    unfold toPs at c ⊢
    simp only [PyData.canLayAll0, Bool.and_eq_true] at c
    exact .cons (Dv.dp o h p.1 c.1) (DvAll.dp o t p.2 c.2)
end
theorem Vw.dp (o : OkS K G M H) (h : Vw K G H v d) (p : isP d = true) (c : (toP d).canLay0 = true) : Dp K H v (toP d) := by
  cases h with
  | non => exact .non
  | bl b => exact .bl b
  | int i => exact .int i
  | str x => exact .str x
  | lst h t =>
    unfold toP at c ⊢
    exact .lst (SqL.of h) (DvAll.dp o.sub t p (by simpa [PyData.canLay0] using c))
  | tup h t =>
    unfold toP at c ⊢
    exact .tup (o.sub.sqT h) (DvAll.dp o.sub t p (by simpa [PyData.canLay0] using c))
  | dct h l t =>
    unfold toP at c
    simp [PyData.canLay0] at c
  | obj a => cases p
  | ty n => cases p
  | scr _ _ => cases p
end
end DL
set_option linter.all false
set_option maxRecDepth 100000
set_option maxHeartbeats 2000000
namespace DL
open PySem L2

/-- two values, a partial function of their data -/
def rB (K : PySem.W.Frag) (f : D → D → Option R) : R2 := fun x y H Q => ∃ (G0 : Hp) (M0 : MS) (H0 : Hp) (G : Hp) (M : MS) (xd yd : D) (r : R),
  Step K G0 M0 H0 G M H ∧ Vw K G H x xd ∧ Vw K G H y yd ∧ f xd yd = some r ∧ PostV K G0 M0 H0 Q r M
section
variable {X : Cx}
theorem op2_ok (o : Operator) : OpR X (binaryOp o) (rB X.K (op2 o)) := by
  intro pins s σ H x y v u Q I rx ry h
  obtain ⟨G0, M0, H0, G, M, xd, yd, r, st, hx, hy, e, q⟩ := h
  unfold op2 at e
  split at e
  · cases hx; cases hy; cases e
    exact op_add pins s σ H _ _ v u Q I rx ry ⟨_, _, rfl, rfl, ans_val q st (.int _)⟩
  · cases hx; cases hy
    split at e
    · cases e; rename_i hz
      exact op_add_str pins s σ H _ _ v u Q I rx ry ⟨_, _, rfl, rfl, hz, ans_val q st (.str _)⟩
    · cases e
  · cases hx with
    | lst hx tx =>
      cases hy with
      | lst hy ty =>
        split at e
        · cases e; rename_i hz
          refine op_cat pins s σ H _ _ v u Q I rx ry ⟨_, _, _, _, rfl, rfl, hx, hy, by rw [tx.length, ty.length]; exact hz, fun p hp => ?_⟩
          exact ans_new q st hp (tx.append ty)
        · cases e
  · cases hx with
    | tup hx tx =>
      cases hy with
      | tup hy ty =>
        split at e
        · cases e; rename_i hz
          refine op_catA pins s σ H _ _ v u Q I rx ry ⟨_, _, _, _, rfl, rfl, st.ok.sub.sqT hx, st.ok.sub.sqT hy, by rw [tx.length, ty.length]; exact hz, fun z => ?_, fun _ z => ?_, fun _ _ p hp => ?_⟩
          · subst z; cases tx
            exact ans_val q st (.tup hy ty)
          · subst z; cases ty
            exact ans_val q st (by rw [List.append_nil]; exact .tup hx tx)
          · exact ans_tup q st hp (tx.append ty)
        · cases e
  · cases hx; cases hy; cases e
    exact op_sub pins s σ H _ _ v u Q I rx ry ⟨_, _, rfl, rfl, ans_val q st (.int _)⟩
  · cases hx; cases hy
    split at e
    · cases e; rename_i hz
      exact op_mul pins s σ H _ _ v u Q I rx ry ⟨_, _, rfl, rfl, hz, ans_val q st (.int _)⟩
    · cases e
  · cases hx; cases hy
    split at e
    · cases e; rename_i a j hz
      obtain ⟨t, rfl⟩ := rx
      obtain ⟨t', rfl⟩ := ry
      obtain ⟨h1, h2, h3⟩ := hz
      have hl : (sizeLine : Nat) = 16777216 := sizeLine_eq
      refine PySem.SB.mul ⟨?_, fun h4 h5 => ?_, fun h4 h5 => ?_⟩ fun t' k => ⟨.str _, H, I.tok _, ⟨_, rfl⟩, ans_val q st (.str _)⟩
      · have e1 : ¬ j < -(2 ^ 63 : Int) := by omega
        have e2 : ¬ j ≥ (2 ^ 63 : Int) := by omega
        rw [decide_eq_false e1, decide_eq_false e2]; rfl
      · have : (1000 : Int) ≤ (2 ^ 63 - 1) / j := by
          rw [Int.le_ediv_iff_mul_le (by omega)]
          omega
        omega
      · have hm : a.length * j.toNat ≤ 1000 * 1000 := Nat.mul_le_mul h3 (by omega)
        simp only [Builtin.Str.tooLong, decide_eq_false_iff_not]
        omega
    · cases e
  · cases hx; cases hy
    split at e
    · cases e; rename_i hz
      exact op_mod pins s σ H _ _ v u Q I rx ry ⟨_, _, rfl, rfl, hz, ans_val q st (.int _)⟩
    · cases e
  · cases hx; cases hy
    split at e
    · cases e; rename_i hz
      exact op_fdiv pins s σ H _ _ v u Q I rx ry ⟨_, _, rfl, rfl, hz, ans_val q st (.int _)⟩
    · cases e
  · cases e
theorem neg_ok : UnR X (unaryOp .USub) (rU fun i => .int (-i)) := un_neg
end
end DL
set_option linter.all false
set_option maxRecDepth 100000
set_option maxHeartbeats 2000000
namespace DL
open PySem L2
section
variable {X : Cx}
def cmpR (o : CmpOp) (x y : D) : Option R := (cmp2 o x y).map fun k => .val (.bl k)
theorem eqS_dp {K : PySem.W.Frag} {G : Hp} {M : MS} {H : Hp} {x y : V} {xd yd : D} {k : Bool} (o : OkS K G M H) (hx : Vw K G H x xd) (hy : Vw K G H y yd) (e : eqS xd yd = some k) :
    Dp K H x (toP xd) ∧ Dp K H y (toP yd) ∧ SeqAt.shaped (toP xd) = true ∧ SeqAt.shaped (toP yd) = true ∧ k = PyData.eqv (toP xd) (toP yd) := by
  unfold eqS at e
  split at e
  · rename_i h
    obtain ⟨h1, h2, h3, h4⟩ := h
    cases e
    exact ⟨hx.dp o h1 (SeqAt.canLay_of_shaped h3), hy.dp o h2 (SeqAt.canLay_of_shaped h4), h3, h4, rfl⟩
  · cases e
theorem sign_of {a : Str} {c : Nat} (hc : a.cps.toList = [c]) : a = ⟨#[c]⟩ := by
  obtain ⟨cps⟩ := a
  have h : cps = #[c] := by
    have h := congrArg List.toArray hc
    simpa using h
  rw [h]
theorem cmp2_ok (hu : X.A.units + 64 < cLine) (o : CmpOp) : OpR X (compareOp o) (rB X.K (cmpR o)) := by
  intro pins s σ H x y v u Q I rx ry h
  obtain ⟨G0, M0, H0, G, M, xd, yd, r, st, hx, hy, e, q⟩ := h
  unfold cmpR at e
  cases e' : cmp2 o xd yd with
  | none => rw [e'] at e; cases e
  | some k =>
    rw [e'] at e
    have er : r = .val (.bl k) := (Option.some.inj e).symm
    subst er
    have fin : Q (.bl k) H := ans_val q st (.bl k)
    clear e q
    unfold cmp2 at e'
    split at e'
    · -- ==
      unfold eqD at e'
      split at e'
      · split at e'
        · rename_i xs ys hne
          cases e'
          cases hx with
          | lst hx tx =>
            cases hy with
            | lst hy ty =>
              cases rx; cases ry
              obtain ⟨its, rv, pl, hz⟩ := I.list (SqL.of hx)
              obtain ⟨its2, rv2, pl2, hz2⟩ := I.list (SqL.of hy)
              refine SeqAt.eq_list_lengthsAt pl.isList pl2.isList ?_ (by omega) ⟨.bl false, H, I, rfl, fin⟩
              simp only [List.size_toArray, bne_iff_ne]
              rw [← rv.length, ← rv2.length, tx.length, ty.length]
              exact hne
        · obtain ⟨h1, h2, h3, h4, rfl⟩ := eqS_dp st.ok hx hy e'
          exact op_eqD hu pins s σ H x y v u Q I rx ry ⟨_, _, h1, h2, h3, h4, fin⟩
      · cases hx; cases hy; cases e'
        refine op_eq pins s σ H _ _ v u Q I rx ry ⟨rfl, ?_⟩
        simpa using fin
      · obtain ⟨h1, h2, h3, h4, rfl⟩ := eqS_dp st.ok hx hy e'
        exact op_eqD hu pins s σ H x y v u Q I rx ry ⟨_, _, h1, h2, h3, h4, fin⟩
    · -- !=
      unfold neD at e'
      split at e'
      · cases hx; cases hy; cases e'
        refine op_ne pins s σ H _ _ v u Q I rx ry ⟨rfl, ?_⟩
        simpa using fin
      · cases e2 : eqS xd yd with
        | none => rw [e2] at e'; cases e'
        | some k2 =>
          rw [e2] at e'
          cases e'
          obtain ⟨h1, h2, h3, h4, rfl⟩ := eqS_dp st.ok hx hy e2
          exact op_neD hu pins s σ H x y v u Q I rx ry ⟨_, _, h1, h2, h3, h4, fin⟩
    · cases hx; cases hy; cases e'
      exact op_lt pins s σ H _ _ v u Q I rx ry ⟨_, _, rfl, rfl, fin⟩
    · cases hx; cases hy; cases e'
      exact op_le pins s σ H _ _ v u Q I rx ry ⟨_, _, rfl, rfl, fin⟩
    · cases hx; cases hy; cases e'
      exact op_gt pins s σ H _ _ v u Q I rx ry ⟨_, _, rfl, rfl, fin⟩
    · cases hx; cases hy; cases e'
      exact op_ge pins s σ H _ _ v u Q I rx ry ⟨_, _, rfl, rfl, fin⟩
    · -- in
      unfold inD at e'
      split at e'
      · split at e'
        · rename_i a b _ c hc
          cases hx; cases hy; cases e'
          have ea := sign_of hc
          subst ea
          exact op_in_sign pins s σ H _ _ v u Q I rx ry ⟨_, _, rfl, rfl, fin⟩
        · cases e'
      · split at e'
        · rename_i hf
          cases e'
          cases hy with
          | lst hy ty =>
            have hx' : Dv X.K G x xd := by cases hx <;> first | exact .non | exact .bl _ | exact .int _ | exact .str _ | (simp [flatD] at hf)
            obtain ⟨f1, f2⟩ := any_flat hx' hf.1 ty hf.2
            exact op_in_seq pins s σ H _ _ v u Q I rx ry ⟨_, _, rfl, .inl (SqL.of hy), hx'.flat hf.1, f1, by simpa [f2] using fin⟩
        · cases e'
      · split at e'
        · rename_i hf
          cases e'
          cases hy with
          | tup hy ty =>
            have hx' : Dv X.K G x xd := by cases hx <;> first | exact .non | exact .bl _ | exact .int _ | exact .str _ | (simp [flatD] at hf)
            obtain ⟨f1, f2⟩ := any_flat hx' hf.1 ty hf.2
            exact op_in_seq pins s σ H _ _ v u Q I rx ry ⟨_, _, rfl, .inr (st.ok.sub.sqT hy), hx'.flat hf.1, f1, by simpa [f2] using fin⟩
        · cases e'
      · cases e'
    · -- not in
      cases e2 : inD xd yd with
      | none => rw [e2] at e'; cases e'
      | some k2 =>
        rw [e2] at e'
        cases e'
        unfold inD at e2
        split at e2
        · split at e2
          · rename_i a b _ c hc
            cases hx; cases hy; cases e2
            have ea := sign_of hc
            subst ea
            exact op_notIn_sign pins s σ H _ _ v u Q I rx ry ⟨_, _, rfl, rfl, fin⟩
          · cases e2
        · split at e2
          · rename_i hf
            cases e2
            cases hy with
            | lst hy ty =>
              have hx' : Dv X.K G x xd := by cases hx <;> first | exact .non | exact .bl _ | exact .int _ | exact .str _ | (simp [flatD] at hf)
              obtain ⟨f1, f2⟩ := any_flat hx' hf.1 ty hf.2
              exact op_notIn_seq pins s σ H _ _ v u Q I rx ry ⟨_, _, rfl, .inl (SqL.of hy), hx'.flat hf.1, f1, by simpa [f2] using fin⟩
          · cases e2
        · split at e2
          · rename_i hf
            cases e2
            cases hy with
            | tup hy ty =>
              have hx' : Dv X.K G x xd := by cases hx <;> first | exact .non | exact .bl _ | exact .int _ | exact .str _ | (simp [flatD] at hf)
              obtain ⟨f1, f2⟩ := any_flat hx' hf.1 ty hf.2
              exact op_notIn_seq pins s σ H _ _ v u Q I rx ry ⟨_, _, rfl, .inr (st.ok.sub.sqT hy), hx'.flat hf.1, f1, by simpa [f2] using fin⟩
          · cases e2
        · cases e2
    · cases e'
/-- truth -/
theorem truth_ok {K : PySem.W.Frag} {G : Hp} {M : MS} {H : Hp} {x : V} {xd : D} {k : Bool} (o : OkS K G M H) (hx : Vw K G H x xd) (e : truthD xd = some k) : TruV K x H k := by
  cases hx with
  | non => cases e; exact rfl
  | bl b => cases e; exact rfl
  | int i => cases e; exact rfl
  | str y =>
    simp only [truthD] at e
    split at e
    · cases e; rename_i hz; exact ⟨hz, rfl⟩
    · cases e
  | lst h t =>
    cases e
    refine .inl ⟨_, SqL.of h, ?_⟩
    have := t.length
    cases t <;> rfl
  | tup h t =>
    cases e
    refine .inr (.inl ⟨_, o.sub.sqT h, ?_⟩)
    cases t <;> rfl
  | dct h l t => cases e
  | obj a => cases e
  | ty n => cases e
  | scr _ _ => cases e
/-- x[i] -/
theorem atI_all {K : PySem.W.Frag} {G : Hp} {vs : List V} {ds : List D} {i : Int} {d : D} (t : DvAll K G vs ds) (e : atI ds i = some d) : ∃ v, atI vs i = some v ∧ Dv K G v d := by
  unfold atI at e ⊢
  rw [t.length]
  cases e2 : ixN ds.length i with
  | none => rw [e2] at e; cases e
  | some j =>
    rw [e2] at e
    exact t.get e
def idxR (x y : D) : Option R := (idxD x y).map R.val
theorem idx_ok : IxR X (rB X.K idxR) := by
  intro value slice pins s σ H x y v u Q I rx ry h hs
  obtain ⟨G0, M0, H0, G, M, xd, yd, r, st, hx, hy, e, q⟩ := h
  unfold idxR at e
  cases e' : idxD xd yd with
  | none => rw [e'] at e; cases e
  | some d =>
    rw [e'] at e
    have er : r = .val d := (Option.some.inj e).symm
    subst er
    clear e
    unfold idxD at e'
    split at e'
    · cases hx with
      | lst hx tx =>
        cases hy
        obtain ⟨w, hw, dw⟩ := atI_all tx e'
        exact ix_list value slice pins s σ H _ _ v u Q I rx ry ⟨_, _, _, _, rfl, rfl, SqL.of hx, hw, ans_val q st dw⟩ hs
    · cases hx with
      | tup hx tx =>
        cases hy
        obtain ⟨w, hw, dw⟩ := atI_all tx e'
        exact ix_tup value slice pins s σ H _ _ v u Q I rx ry ⟨_, _, _, _, rfl, rfl, st.ok.sub.sqT hx, hw, ans_val q st dw⟩ hs
    · cases hx; cases hy
      split at e'
      · rename_i z i hz
        cases e2 : atI z.cps.toList i with
        | none => rw [e2] at e'; cases e'
        | some c =>
          rw [e2] at e'
          cases e'
          exact ix_str value slice pins s σ H _ _ v u Q I rx ry ⟨_, _, _, rfl, rfl, hz, e2, ans_val q st (.str _)⟩ hs
      · cases e'
    · cases e'
/-- x[lo:hi] -/
def rSlD (K : PySem.W.Frag) : V → Option Int → Option Int → Hp → VK → Prop := fun x lo hi H Q => ∃ (G0 : Hp) (M0 : MS) (H0 : Hp) (G : Hp) (M : MS) (xd : D) (r : R),
  Step K G0 M0 H0 G M H ∧ Vw K G H x xd ∧ slcD xd lo hi = some r ∧ PostV K G0 M0 H0 Q r M
theorem cut_all {K : PySem.W.Frag} {G : Hp} {vs : List V} {ds : List D} (t : DvAll K G vs ds) (lo hi : Option Int) : DvAll K G (cutV vs lo hi) (cutD ds lo hi) := by
  unfold cutV cutD
  rw [t.length]
  exact (t.drop _).take _
theorem ints_all {K : PySem.W.Frag} {G : Hp} : ∀ ns : List Int, DvAll K G (ns.map V.int) (ns.map D.int)
  | [] => .nil
  | n :: ns => .cons (.int n) (ints_all ns)
theorem cut_whole {K : PySem.W.Frag} {G : Hp} {vs : List V} {ds : List D} {lo hi : Option Int} (t : DvAll K G vs ds) (h1 : HT.sIx vs.length 0 lo = 0) (h2 : HT.sIx vs.length vs.length hi = vs.length) : cutD ds lo hi = ds := by
  unfold cutD
  rw [← t.length, h1, h2, List.drop_zero, Nat.sub_zero, t.length]
  exact List.take_length
theorem slc_ok : SlR X (rSlD X.K) := by
  intro pins s σ H x v vl vu lo hi sl Q I rx hs pl pu h
  obtain ⟨G0, M0, H0, G, M, xd, r, st, hx, e, q⟩ := h
  unfold slcD at e
  split at e
  · cases hx with
    | lst hx tx =>
      cases e
      exact sl_list pins s σ H _ v vl vu lo hi sl Q I rx hs pl pu ⟨_, _, rfl, SqL.of hx, fun p hp => ans_new q st hp (cut_all tx lo hi)⟩
  · cases hx with
    | scr hx hl =>
      cases e
      exact sl_list pins s σ H _ v vl vu lo hi sl Q I rx hs pl pu ⟨_, _, rfl, st.ok.sub.sqL hx, fun p hp => ans_new q st hp (cut_all (ints_all _) lo hi)⟩
  · cases hx with
    | tup hx tx =>
      cases e
      refine sl_tupA pins s σ H _ v vl vu lo hi sl Q I rx hs pl pu ⟨_, _, rfl, st.ok.sub.sqT hx, fun z => ?_, fun _ p hp => ans_tup q st hp (cut_all tx lo hi)⟩
      refine ans_val q st ?_
      rw [cut_whole tx z.1 z.2]
      exact .tup hx tx
  · cases hx
    split at e
    · cases e; rename_i hz
      exact sl_str pins s σ H _ v vl vu lo hi sl Q I rx hs pl pu ⟨_, rfl, hz, ans_val q st (.str _)⟩
    · cases e
  · cases e
end
end DL
set_option linter.all false
set_option maxRecDepth 100000
set_option maxHeartbeats 2000000
namespace DL
open PySem L2
/-! ### what is written of a value (repr) -/
def keyP : Key → PyData
  | .inl i => .int i
  | .inr s => .str s
theorem toPk_zip : ∀ (ks : List Key) (ds : List D), ks.length = ds.length → (toPk (List.zip ks ds)).map (·.1) = ks.map keyP ∧ (toPk (List.zip ks ds)).map (·.2) = toPs ds
  | [], [], _ => ⟨rfl, rfl⟩
  | k :: ks, d :: ds, h => by
    obtain ⟨h1, h2⟩ := toPk_zip ks ds (by simpa using h)
    constructor
    · simp only [List.zip_cons_cons, toPk, List.map_cons, h1]
      cases k <;> rfl
    · simp only [List.zip_cons_cons, toPk, List.map_cons, h2, toPs]
  | [], _ :: _, h => by simp at h
  | _ :: _, [], h => by simp at h
theorem isPk_zip : ∀ (ks : List Key) (ds : List D), ks.length = ds.length → isPk (List.zip ks ds) = isPs ds
  | [], [], _ => rfl
  | k :: ks, d :: ds, h => by
    simp only [List.zip_cons_cons, isPk, isPs]
    rw [isPk_zip ks ds (by simpa using h)]
  | [], _ :: _, h => by simp at h
  | _ :: _, [], h => by simp at h
section
variable {X : Cx} {pins : List (Addr × Obj)} {σ : L2.St} {H G : Hp} {s : Shared}
theorem keys_read {P : Program} {w : World} {h : Heap} : ∀ {es : List DictEntry} {ks : List Key} {us : List Value}, ks.length = us.length → Pairs (mixKind P w) es (List.zip ks us) → ReadsAll h (es.map (·.key)) (ks.map keyP) []
  | [], [], [], _, _ => .nil
  | e :: es, k :: ks, u :: us, l, p => by
    cases p with
    | cons h1 h2 t =>
      have ih := keys_read (h := h) (by simpa using l) t
      have r : Reads h e.key (keyP k) [] := by
        rcases keyIs_shape (k := k) (v := e.key) h1 with ⟨i, t, e1, e2⟩ | ⟨x, t, e1, e2⟩
        · rw [e1, e2]; exact .int i t
        · rw [e1, e2]; exact .str x t
      exact .cons r ih
  | [], k :: ks, u :: us, _, p => by cases p
  | e :: es, [], _, l, p => by simp at p; cases p
  | _, [], _ :: _, l, _ => by simp at l
  | _, _ :: _, [], l, _ => by simp at l
theorem vals_pairs {P : Program} {w : World} : ∀ {es : List DictEntry} {ks : List Key} {us : List Value}, ks.length = us.length → Pairs (mixKind P w) es (List.zip ks us) → es.map (·.val) = us
  | [], [], [], _, _ => rfl
  | e :: es, k :: ks, u :: us, l, p => by
    cases p with
    | cons h1 h2 t =>
      have ih := vals_pairs (by simpa using l) t
      simp only [List.map_cons, ih]
      rw [h2]
  | [], k :: ks, u :: us, _, p => by cases p
  | e :: es, [], _, l, p => by simp at p; cases p
  | _, [], _ :: _, l, _ => by simp at l
  | _, _ :: _, [], l, _ => by simp at l
theorem kv_zip : ∀ {ks : List Key} {xs : List V} {ws : List (Key × Value)}, ks.length = xs.length → KV (List.zip ks xs) ws → ∃ us, Vals xs us ∧ ws = List.zip ks us ∧ ks.length = us.length
  | [], [], ws, _, h => by cases h; exact ⟨[], .nil, rfl, rfl⟩
  | k :: ks, x :: xs, ws, l, h => by
    cases h with
    | cons r t =>
      rename_i q ws'
      obtain ⟨us, h1, h2, h3⟩ := kv_zip (by simpa using l) t
      refine ⟨q.2 :: us, .cons r.2 h1, ?_, by simp [h3]⟩
      rw [h2]
      obtain ⟨q1, q2⟩ := q
      have e : k = q1 := r.1
      rw [e]; rfl
  | [], _ :: _, _, l, _ => by simp at l
  | _ :: _, [], _, l, _ => by simp at l
mutual
theorem Dv.reads (I : Inv X pins σ H s) (o : Sub G H) (sm : H sysModules = none) : ∀ {v : V} {d : D}, Dv X.K G v d → isP d = true → ∀ u, RelV v u → ∃ as, Reads s.heap u (toP d) as ∧ sysModules ∉ as
  | _, _, .non, _, u, r => by cases r; exact ⟨[], .none, by simp⟩
  | _, _, .bl b, _, u, r => by cases r; exact ⟨[], .bool b, by simp⟩
  | _, _, .int i, _, u, r => by obtain ⟨t, rfl⟩ := r; exact ⟨[], .int i t, by simp⟩
  | _, _, .str x, _, u, r => by obtain ⟨t, rfl⟩ := r; exact ⟨[], .str x t, by simp⟩
  | _, _, .lst h t, p, u, r => by
    cases r
    obtain ⟨its, rv, ⟨ob, n, ho, hc, _, hd⟩, _⟩ := I.list (SqL.of (o _ _ h))
    obtain ⟨as, hr, hn⟩ := DvAll.reads I o sm t p its rv
    refine ⟨_, .list ho hc hd hr, ?_⟩
    simp only [List.mem_cons, not_or]
    exact ⟨fun e => (by rw [← e] at h; have := o _ _ h; rw [sm] at this; cases this), hn⟩
  | _, _, .tup h t, p, u, r => by
    cases r
    obtain ⟨its, rv, ⟨ob, ho, hc, n, hd⟩, _⟩ := I.tuple (o.sqT h)
    obtain ⟨as, hr, hn⟩ := DvAll.reads I o sm t p its rv
    exact ⟨_, .tuple ho hc hd hr, hn⟩
  | _, _, .dct (ks := ks) (xs := xs) (ds := ds) h l t, p, u, r => by
    cases r
    obtain ⟨_, _, ws, kv, ob, es, ep, ho, ex, hd, ko, pr, nd⟩ := I.hok _ _ (o _ _ h)
    have tl := t.length
    obtain ⟨us, rv, e1, l2⟩ := kv_zip l kv
    subst e1
    have p' : isPs ds = true := by rw [← isPk_zip ks ds (by omega)]; exact p
    obtain ⟨as, hr, hn⟩ := DvAll.reads I o sm t p' us rv
    obtain ⟨z1, z2⟩ := toPk_zip ks ds (by omega)
    refine ⟨_, .dict (as := []) (bs := as) ho ex.1 hd ?_ ?_, ?_⟩
    · rw [z1]; exact keys_read l2 pr
    · rw [z2, vals_pairs l2 pr]; exact hr
    · simp only [List.cons_append, List.nil_append, List.mem_cons, not_or]
      exact ⟨fun e => (by rw [← e] at h; have := o _ _ h; rw [sm] at this; cases this), hn⟩
  | _, _, .obj _, p, _, _ => by cases p
  | _, _, .ty _, p, _, _ => by cases p
  | _, _, .scr _ _, p, _, _ => by cases p
theorem DvAll.reads (I : Inv X pins σ H s) (o : Sub G H) (sm : H sysModules = none) : ∀ {vs : List V} {ds : List D}, DvAll X.K G vs ds → isPs ds = true → ∀ us, Vals vs us → ∃ as, ReadsAll s.heap us (toPs ds) as ∧ sysModules ∉ as
  | _, _, .nil, _, us, r => by cases r; exact ⟨[], .nil, by simp⟩
  | _, _, .cons h t, p, us, r => by
    cases r with
    | cons r1 r2 =>
      unfold isPs at p
      simp only [Bool.and_eq_true] at p
      obtain ⟨as, h1, n1⟩ := Dv.reads I o sm h p.1 _ r1
      obtain ⟨bs, h2, n2⟩ := DvAll.reads I o sm t p.2 _ r2
      exact ⟨as ++ bs, .cons h1 h2, by simp only [List.mem_append, not_or]; exact ⟨n1, n2⟩⟩
end
theorem Vw.reads {M : MS} (I : Inv X pins σ H s) (o : OkS X.K G M H) (sm : H sysModules = none) {v : V} {d : D} (h : Vw X.K G H v d) (p : isP d = true) (u : Value) (r : RelV v u) : ∃ as, Reads s.heap u (toP d) as ∧ sysModules ∉ as := by
  cases h with
  | non => exact Dv.reads I o.sub sm .non p u r
  | bl b => exact Dv.reads I o.sub sm (.bl b) p u r
  | int i => exact Dv.reads I o.sub sm (.int i) p u r
  | str x => exact Dv.reads I o.sub sm (.str x) p u r
  | lst h t =>
    cases r
    obtain ⟨its, rv, ⟨ob, n, ho, hc, _, hd⟩, _⟩ := I.list (SqL.of h)
    obtain ⟨as, hr, hn⟩ := DvAll.reads I o.sub sm t p its rv
    refine ⟨_, .list ho hc hd hr, ?_⟩
    simp only [List.mem_cons, not_or]
    exact ⟨fun e => (by rw [← e, sm] at h; cases h), hn⟩
  | tup h t => exact Dv.reads I o.sub sm (.tup h t) p u r
  | dct h l t => exact Dv.reads I o.sub sm (.dct h l t) p u r
  | obj a => cases p
  | ty n => cases p
  | scr _ _ => cases p
end
end DL
set_option linter.all false
set_option maxRecDepth 100000
set_option maxHeartbeats 2000000
namespace DL
open PySem L2
/-- some values, a partial function of their data -/
def rA (K : PySem.W.Frag) (f : List D → Option R) : List V → Hp → VK → Prop := fun xs H Q => ∃ (G0 : Hp) (M0 : MS) (H0 : Hp) (G : Hp) (M : MS) (ds : List D) (r : R),
  Step K G0 M0 H0 G M H ∧ DvAll K G xs ds ∧ f (ds.map (view M)) = some r ∧ PostV K G0 M0 H0 Q r M
def biV : BI → Value
  | .len => .builtin "len"
  | .int => .type "int"
  | .abs => .builtin "abs"
  | .repr => .builtin "repr"
  | .all => .builtin "all"
  | .any => .builtin "any"
  | .tuple => .type "tuple"
  | .list => .type "list"
theorem one_of {K : PySem.W.Frag} {G : Hp} {M : MS} {H : Hp} (o : OkS K G M H) {xs : List V} {ds : List D} {d : D} (t : DvAll K G xs ds) (e : ds.map (view M) = [d]) : ∃ x, xs = [x] ∧ Vw K G H x d := by
  cases t with
  | nil => simp at e
  | cons h t =>
    cases t with
    | cons h2 t2 => simp at e
    | nil =>
      simp only [List.map_cons, List.map_nil, List.cons.injEq, and_true] at e
      subst e
      exact ⟨_, rfl, h.vw o⟩
theorem bools_of {K : PySem.W.Frag} {G : Hp} : ∀ {vs : List V} {ds : List D} {bs : List Bool}, DvAll K G vs ds → boolsD ds = some bs → vs = bs.map V.bl
  | _, _, _, .nil, e => by cases e; rfl
  | _, _, _, .cons h t, e => by
    cases h with
    | bl b =>
      simp only [boolsD] at e
      rename_i vs ds
      cases e2 : boolsD ds with
      | none => rw [e2] at e; cases e
      | some bs2 =>
        rw [e2] at e
        cases e
        rw [bools_of t e2]; rfl
    | non => cases e
    | int i => cases e
    | str x => cases e
    | lst h t => cases e
    | tup h t => cases e
    | dct h l t => cases e
    | obj a => cases e
    | ty n => cases e
    | scr _ _ => cases e
theorem strs_of {K : PySem.W.Frag} {G : Hp} : ∀ {vs : List V} {ds : List D} {bs : List Str}, DvAll K G vs ds → strsD ds = some bs → vs = bs.map V.str
  | _, _, _, .nil, e => by cases e; rfl
  | _, _, _, .cons h t, e => by
    cases h with
    | str b =>
      simp only [strsD] at e
      rename_i vs ds
      cases e2 : strsD ds with
      | none => rw [e2] at e; cases e
      | some bs2 =>
        rw [e2] at e
        cases e
        rw [strs_of t e2]; rfl
    | non => cases e
    | int i => cases e
    | bl x => cases e
    | lst h t => cases e
    | tup h t => cases e
    | dct h l t => cases e
    | obj a => cases e
    | ty n => cases e
    | scr _ _ => cases e
theorem strs_all {K : PySem.W.Frag} {G : Hp} : ∀ xs : List Str, DvAll K G (xs.map V.str) (xs.map D.str)
  | [] => .nil
  | x :: xs => .cons (.str x) (strs_all xs)
section
variable {X : Cx}
/-- what the built-ins lean on -/
structure Cal (X : Cx) : Prop where
  calm : X.calm = true
  gd : X.A.guards = some []
  hu : X.A.units + 70 < cLine
  sm : ∃ o, X.base.get? sysModules = some o
theorem Cal.noSys (c : Cal X) {pins : List (Addr × Obj)} {σ : L2.St} {H : Hp} {s : Shared} (I : Inv X pins σ H s) : H sysModules = none :=
  let ⟨o, h⟩ := c.sm
  (I.bs _ o h).2
theorem repr_ok (c : Cal X) {pins : List (Addr × Obj)} {s : Shared} {σ : L2.St} {H : Hp} {G : Hp} {M : MS} {x : V} {d : D} {u : Value} {Q : VK} (I : Inv X pins σ H s) (o : OkS X.K G M H) (h : Vw X.K G H x d) (p : isP d = true) (sh : (toP d).showable = true) (sz : (toP d).shown.length ≤ sizeLine)
    (dp : (toP d).depth ≤ 60) (ru : RelV x u) (q : Q (.str (toP d).shown) H) : wpAny (model X.prog X.w) X.A (call (.builtin "repr") [u]) (EP X pins σ Q) X.xe s := by
  obtain ⟨as, hr, hn⟩ := h.reads I o (c.noSys I) p u ru
  have hu := c.hu
  have deep : ∀ a, u = .ref a → wpAny (model X.prog X.w) X.A (call (.builtin "repr") [u]) (EP X pins σ Q) X.xe s := fun a e => by
    subst e
    refine PySem.repr_of_reads' hr sh (fun _ => hn) c.gd (by omega) (fun _ _ e => e) (fun h' t tk hk => ?_) sz
    exact ⟨.str _, H, I.kept (t' := tk) hk, ⟨_, rfl⟩, q⟩
  cases h with
  | non => cases ru; exact PySem.P.repr_of_none ⟨.str _, H, I.tok _, ⟨_, rfl⟩, q⟩
  | bl b => cases ru; exact PySem.P.repr_of_bool ⟨.str _, H, I.tok _, ⟨_, rfl⟩, q⟩
  | int i =>
    obtain ⟨t, rfl⟩ := ru
    exact PySem.P.repr_of_int (by simpa [toP, PyData.showable] using sh) ⟨.str _, H, I.tok _, ⟨_, rfl⟩, q⟩
  | str x =>
    obtain ⟨t, rfl⟩ := ru
    exact PySem.P.repr_of_str ⟨.str _, H, I.tok _, ⟨_, rfl⟩, q⟩ (by simpa [toP, PyData.shown] using sz)
  | lst h t => cases ru; exact deep _ rfl
  | tup h t => cases ru; exact deep _ rfl
  | dct h l t => cases ru; exact deep _ rfl
  | obj a => cases p
  | ty n => cases p
  | scr _ _ => cases p
theorem bi_ok (c : Cal X) (b : BI) : CallR X (biV b) (rA X.K (biD b)) := by
  intro pins s σ H xs us Q I rs h
  obtain ⟨G0, M0, H0, G, M, ds, r, st, t, e, q⟩ := h
  unfold biD at e
  split at e
  · -- len
    rename_i x he
    obtain ⟨v, rfl, hv⟩ := one_of st.ok t he
    cases e2 : lenD x with
    | none => rw [e2] at e; cases e
    | some n =>
      rw [e2] at e
      cases e
      refine call_len pins s σ H _ us Q I rs ⟨v, n, rfl, ?_, ans_val q st (.int _)⟩
      cases hv with
      | str z =>
        simp only [lenD] at e2
        split at e2
        · cases e2; rename_i hz; exact ⟨hz, rfl⟩
        · cases e2
      | lst h t3 => cases e2; exact .inl ⟨_, SqL.of h, t3.length.symm⟩
      | tup h t3 => cases e2; exact .inr ⟨_, st.ok.sub.sqT h, t3.length.symm⟩
      | non => cases e2
      | bl b => cases e2
      | int i => cases e2
      | dct h l t => cases e2
      | obj a => cases e2
      | ty n => cases e2
      | scr _ _ => cases e2
  · rename_i he; obtain ⟨v, rfl, hv⟩ := one_of st.ok t he
    cases hv; cases e
    exact call_int1 pins s σ H _ us Q I rs (.inl ⟨_, rfl, ans_val q st (.int _)⟩)
  · rename_i he; obtain ⟨v, rfl, hv⟩ := one_of st.ok t he
    cases hv; cases e
    exact call_int1 pins s σ H _ us Q I rs (.inr ⟨_, rfl, ans_val q st (.int _)⟩)
  · rename_i a he; obtain ⟨v, rfl, hv⟩ := one_of st.ok t he
    cases hv
    split at e
    · rename_i hz
      cases e2 : PySem.intText? a with
      | none => rw [e2] at e; cases e
      | some n =>
        rw [e2] at e; cases e
        exact call_int_str pins s σ H _ us Q I rs ⟨_, _, rfl, e2, hz, ans_val q st (.int _)⟩
    · cases e
  · rename_i he; obtain ⟨v, rfl, hv⟩ := one_of st.ok t he
    cases hv; cases e
    exact call_abs pins s σ H _ us Q I rs ⟨_, rfl, ans_val q st (.int _)⟩
  · rename_i x he; obtain ⟨v, rfl, hv⟩ := one_of st.ok t he
    split at e
    · rename_i hz
      obtain ⟨h1, h2, h3, h4⟩ := hz
      cases e
      obtain ⟨u, rfl, ru⟩ := vals1 rs
      exact repr_ok c I st.ok hv h1 h2 h3 h4 ru (ans_val q st (.str _))
    · cases e
  · rename_i xs he; obtain ⟨v, rfl, hv⟩ := one_of st.ok t he
    cases hv with
    | lst h t2 =>
      cases e2 : boolsD xs with
      | none => rw [e2] at e; cases e
      | some bs =>
        rw [e2] at e; cases e
        have ev := bools_of t2 e2
        subst ev
        exact cr_all c.calm pins s σ H _ us Q I rs ⟨_, bs, rfl, SqL.of h, ans_val q st (.bl _)⟩
  · rename_i xs he; obtain ⟨v, rfl, hv⟩ := one_of st.ok t he
    cases hv with
    | lst h t2 =>
      cases e2 : boolsD xs with
      | none => rw [e2] at e; cases e
      | some bs =>
        rw [e2] at e; cases e
        have ev := bools_of t2 e2
        subst ev
        exact cr_any c.calm pins s σ H _ us Q I rs ⟨_, bs, rfl, SqL.of h, ans_val q st (.bl _)⟩
  · rename_i he; obtain ⟨v, rfl, hv⟩ := one_of st.ok t he
    cases e
    cases hv with
    | lst h t2 => exact call_tuple_of pins s σ H _ us Q I rs ⟨_, _, rfl, .inl ⟨SqL.of h, fun p hp => ans_tup q st hp t2⟩⟩
  · rename_i he; obtain ⟨v, rfl, hv⟩ := one_of st.ok t he
    cases e
    cases hv with
    | tup h t2 => exact call_tuple_of pins s σ H _ us Q I rs ⟨_, _, rfl, .inr ⟨st.ok.sub.sqT h, ans_val q st (.tup h t2)⟩⟩
  · rename_i he; obtain ⟨v, rfl, hv⟩ := one_of st.ok t he
    cases e
    cases hv with
    | lst h t2 => exact call_list_of pins s σ H _ us Q I rs ⟨_, _, rfl, .inl (SqL.of h), fun p hp => ans_new q st hp t2⟩
  · rename_i he; obtain ⟨v, rfl, hv⟩ := one_of st.ok t he
    cases e
    cases hv with
    | tup h t2 => exact call_list_of pins s σ H _ us Q I rs ⟨_, _, rfl, .inr (st.ok.sub.sqT h), fun p hp => ans_new q st hp t2⟩
  · cases e
/-- methods -/
def rM (K : PySem.W.Frag) (m : MT) : V → List V → Hp → VK → Prop := fun x xs H Q => ∃ (G0 : Hp) (M0 : MS) (H0 : Hp) (G : Hp) (M : MS) (z : Str) (ds : List D) (r : R),
  Step K G0 M0 H0 G M H ∧ x = .str z ∧ DvAll K G xs ds ∧ mtD m (.str z) (ds.map (view M)) = some r ∧ PostV K G0 M0 H0 Q r M
def mtN : MT → String
  | .split => "str.split"
  | .join => "str.join"
theorem mt_ok (m : MT) : MtR X (mtN m) (rM X.K m) := by
  intro pins s σ H x xs v us Q I rx rs h
  obtain ⟨G0, M0, H0, G, M, z, ds, r, st, rfl, t, e, q⟩ := h
  unfold mtD at e
  split at e
  · rename_i a b ha he
    cases ha
    obtain ⟨y, rfl, hy⟩ := one_of st.ok t he
    cases hy
    split at e
    · rename_i hz
      cases e
      refine mt_split pins s σ H _ _ v us Q I rx rs ⟨_, _, rfl, rfl, ?_, hz.2, fun p hp => ans_new q st hp (strs_all _)⟩
      simpa using hz.1
    · cases e
  · rename_i a ys ha he
    cases ha
    obtain ⟨y, rfl, hy⟩ := one_of st.ok t he
    cases hy with
    | lst h t2 =>
      split at e
      · rename_i zs e2
        split at e
        · rename_i hz
          cases e
          have ev := strs_of t2 e2
          subst ev
          exact mt_join pins s σ H _ _ v us Q I rx rs ⟨_, _, zs, rfl, rfl, .inl (SqL.of h), hz, ans_val q st (.str _)⟩
        · cases e
      · cases e
  · cases e
end
end DL
set_option linter.all false
set_option maxRecDepth 100000
set_option maxHeartbeats 2000000
namespace DL
open PySem L2
/-! ### the judgements: a piece of syntax, its small form -/
def XRel (K : PySem.W.Frag) (G H : Hp) (x : Xn) (dA : Option Addr) : Prop := match x.fs with
  | none => dA = none
  | some fs => ∃ a vs, dA = some a ∧ H a = some (.xd (List.zip (fs.map (·.1)) vs)) ∧ DvAll K G vs (fs.map (·.2))
def PostX (K : PySem.W.Frag) (G : Hp) (M : MS) (H : Hp) (W : WX) (σ : L2.St) : KX := fun x M' => ∀ dA G' H', Step K G M H G' M' H' → XRel K G' H' x dA → W x.cls dA σ H'
section
variable (Φ : Fns) (γ : List D) (X : Cx) (W : WX)
def SE (e : Expr) (ir : E) : Prop := ∃ te, PE X e te ∧ ∀ (σ : L2.St) (δ : DEnv) (G : Hp) (M : MS) (H : Hp) (Q : VK) (Qd : KR) (Zd : KX), OkS X.K G M H → ER X.K G σ δ →
  (∀ r M', Qd r M' → PostV X.K G M H Q r M') → (∀ x M', Zd x M' → PostX X.K G M H W σ x M') → evalE Φ γ ir δ M Qd Zd → te σ H Q
def SA (es : List Expr) (ir : Es) : Prop := ∃ ta, PA X es ta ∧ ∀ (σ : L2.St) (δ : DEnv) (G : Hp) (M : MS) (H : Hp) (Q : List V → Hp → Prop) (Qd : List D → MS → Prop) (Zd : KX), OkS X.K G M H → ER X.K G σ δ →
  (∀ ds M', Qd ds M' → ∀ vs G' H', Step X.K G M H G' M' H' → DvAll X.K G' vs ds → Q vs H') → (∀ x M', Zd x M' → PostX X.K G M H W σ x M') → evalEs Φ γ ir δ M Qd Zd → ta σ H Q
def ST (e : Expr) (ir : T) : Prop := ∃ tt, PT X e tt ∧ ∀ (σ : L2.St) (δ : DEnv) (G : Hp) (M : MS) (H : Hp) (Q : Bool → Hp → Prop) (Qd : Bool → MS → Prop) (Zd : KX), OkS X.K G M H → ER X.K G σ δ →
  (∀ b M', Qd b M' → ∀ G' H', Step X.K G M H G' M' H' → Q b H') → (∀ x M', Zd x M' → PostX X.K G M H W σ x M') → evalT Φ γ ir δ M Qd Zd → tt σ H Q
def SO (e : Option Expr) (ir : O) : Prop := ∃ to, PO X e to ∧ ∀ (σ : L2.St) (δ : DEnv) (G : Hp) (M : MS) (H : Hp) (Q : Option Int → Hp → Prop) (Qd : Option Int → MS → Prop) (Zd : KX), OkS X.K G M H → ER X.K G σ δ →
  (∀ o M', Qd o M' → ∀ G' H', Step X.K G M H G' M' H' → Q o H') → (∀ x M', Zd x M' → PostX X.K G M H W σ x M') → evalO Φ γ ir δ M Qd Zd → to σ H Q
end
section
variable {Φ : Fns} {γ : List D} {X : Cx} {W : WX} {σ : L2.St} {δ : DEnv} {G G1 : Hp} {M M1 : MS} {H H1 : Hp}
theorem px_after {K : PySem.W.Frag} {Zd : KX} (s : Step K G M H G1 M1 H1) (hz : ∀ x M', Zd x M' → PostX K G M H W σ x M') : ∀ x M', Zd x M' → PostX K G1 M1 H1 W σ x M' :=
  fun x M' z dA G' H' st xr => hz x M' z dA G' H' (s.trans st) xr
/-- a part of an expression is run; what it gives is taken as data -/
theorem run_e {te : TE} {ir : E} {Q : VK} {Qd : KR} {Zd : KX}
    (hr : ∀ (σ : L2.St) (δ : DEnv) (G : Hp) (M : MS) (H : Hp) (Q : VK) (Qd : KR) (Zd : KX), OkS X.K G M H → ER X.K G σ δ → (∀ r M', Qd r M' → PostV X.K G M H Q r M') → (∀ x M', Zd x M' → PostX X.K G M H W σ x M') → evalE Φ γ ir δ M Qd Zd → te σ H Q)
    (ok : OkS X.K G M H) (er : ER X.K G σ δ) (hz : ∀ x M', Zd x M' → PostX X.K G M H W σ x M') (h : evalE Φ γ ir δ M Qd Zd)
    (k : ∀ r M1 v G1 H1, Qd r M1 → Step X.K G M H G1 M1 H1 → Dv X.K G1 v r.toD → Q v H1) : te σ H Q :=
  hr σ δ G M H Q Qd Zd ok er (fun r M' q v G' H' s rv => by
    obtain ⟨G2, s2, dv⟩ := rv.adopt s
    exact k r M' v G2 H' q s2 dv) hz h
variable {a b c : Expr} {ia ib ic : E} {pos : Pos}
theorem se_var {i : Nat} {x : Str} (hN : X.N[i]? = some x) (hv : Vis X.env.scope x) (hd : (x == ("__debug__" : Str)) = false) (hcd : (x == ("__classdict__" : Str)) = false) : SE Φ γ X W (.Name x pos) (.var i) := by
  refine ⟨_, pe_var hN hv hd hcd, fun σ δ G M H Q Qd Zd ok er hq hz h => ?_⟩
  unfold evalE at h
  obtain ⟨d, h1, h2⟩ := h
  obtain ⟨v, h3, h4⟩ := er.at_ i d h1
  exact ⟨v, h3, hq _ _ h2 v G H (Step.refl ok) h4⟩
theorem se_int {i j} : SE Φ γ X W (.Constant (.int i) j pos) (.cst (.int i)) :=
  ⟨_, pe_int, fun σ δ G M H Q Qd Zd ok er hq hz h => by unfold evalE at h; exact hq _ _ h _ G H (Step.refl ok) (.int i)⟩
theorem se_str {x j} : SE Φ γ X W (.Constant (.str x) j pos) (.cst (.str x)) :=
  ⟨_, pe_str, fun σ δ G M H Q Qd Zd ok er hq hz h => by unfold evalE at h; exact hq _ _ h _ G H (Step.refl ok) (.str x)⟩
theorem se_bl {b j} : SE Φ γ X W (.Constant (.bool b) j pos) (.cst (.bl b)) :=
  ⟨_, pe_bl, fun σ δ G M H Q Qd Zd ok er hq hz h => by unfold evalE at h; exact hq _ _ h _ G H (Step.refl ok) (.bl b)⟩
theorem se_non {j} : SE Φ γ X W (.Constant .none j pos) (.cst .non) :=
  ⟨_, pe_non, fun σ δ G M H Q Qd Zd ok er hq hz h => by unfold evalE at h; exact hq _ _ h _ G H (Step.refl ok) .non⟩
theorem se_gl {i : Nat} {x : Str} {v : V} {u : Value} {d : D} (hg : Gl X x) (hm : X.mg x = some u) (r : RelV v u) (hi : γ[i]? = some d) (hv : ∀ G, Dv X.K G v d) (hd : (x == ("__debug__" : Str)) = false) : SE Φ γ X W (.Name x pos) (.gl i) := by
  refine ⟨_, pe_glob hg hm r hd, fun σ δ G M H Q Qd Zd ok er hq hz h => ?_⟩
  unfold evalE at h
  obtain ⟨d', h1, h2⟩ := h
  rw [hi] at h1
  cases h1
  exact hq _ _ h2 v G H (Step.refl ok) (hv G)
theorem sa_nil : SA Φ γ X W [] .nil :=
  ⟨_, pa_nil, fun σ δ G M H Q Qd Zd ok er hq hz h => by unfold evalEs at h; exact hq _ _ h [] G H (Step.refl ok) .nil⟩
theorem sa_cons {es : List Expr} {ies : Es} (ha : SE Φ γ X W a ia) (hs : SA Φ γ X W es ies) (hst : starEach (a :: es) X.env = (false, eval a X.env) :: starEach es X.env) : SA Φ γ X W (a :: es) (.cons ia ies) := by
  obtain ⟨te, pe, re⟩ := ha
  obtain ⟨ta, pa, ra⟩ := hs
  refine ⟨_, pa_cons pe pa hst, fun σ δ G M H Q Qd Zd ok er hq hz h => ?_⟩
  unfold evalEs at h
  refine run_e re ok er hz h fun r M1 v G1 H1 q s1 dv => ?_
  refine ra σ δ G1 M1 H1 _ _ Zd s1.ok (er.mono s1.sub) (fun ds M2 q2 vs G2 H2 s2 t => ?_) (px_after s1 hz) q
  exact hq _ _ q2 _ G2 H2 (s1.trans s2) (.cons (dv.mono s2.sub) t)
theorem se_tup {es : List Expr} {ies : Es} {k : Nat} (hs : SA Φ γ X W es ies) : SE Φ γ X W (.Tuple es k pos) (.tup ies) := by
  obtain ⟨ta, pa, ra⟩ := hs
  refine ⟨_, pe_tup pa, fun σ δ G M H Q Qd Zd ok er hq hz h => ?_⟩
  unfold evalE at h
  refine ra σ δ G M H _ _ Zd ok er (fun ds M2 q2 vs G2 H2 s2 t => ?_) hz h
  exact ⟨by rw [t.length]; exact q2.1, fun p hp => ans_tup (hq _ _ q2.2) s2 hp t⟩
theorem se_lst {es : List Expr} {ies : Es} (hs : SA Φ γ X W es ies) : SE Φ γ X W (.List es pos) (.lst ies) := by
  obtain ⟨ta, pa, ra⟩ := hs
  refine ⟨_, pe_lst pa, fun σ δ G M H Q Qd Zd ok er hq hz h => ?_⟩
  unfold evalE at h
  refine ra σ δ G M H _ _ Zd ok er (fun ds M2 q2 vs G2 H2 s2 t => ?_) hz h
  exact ⟨by rw [t.length]; exact q2.1, fun p hp => ans_new (hq _ _ q2.2) s2 hp t⟩
theorem se_bin {o : Operator} (ha : SE Φ γ X W a ia) (hb : SE Φ γ X W b ib) : SE Φ γ X W (.BinOp a o b pos) (.bin o ia ib) := by
  obtain ⟨ta, pa, ra⟩ := ha
  obtain ⟨tb, pb, rb⟩ := hb
  refine ⟨_, pe_op (op2_ok o) pa pb, fun σ δ G M H Q Qd Zd ok er hq hz h => ?_⟩
  unfold evalE at h
  show ta σ H _
  refine run_e ra ok er hz h fun r M1 v G1 H1 q s1 dv => ?_
  show tb σ H1 _
  refine run_e rb s1.ok (er.mono s1.sub) (px_after s1 hz) q fun r2 M2 v2 G2 H2 q2 s2 dv2 => ?_
  obtain ⟨r3, e, q3⟩ := q2
  exact ⟨G, M, H, G2, M2, _, _, r3, s1.trans s2, (dv.mono s2.sub).vw s2.ok, dv2.vw s2.ok, e, hq _ _ q3⟩
theorem se_neg (ha : SE Φ γ X W a ia) : SE Φ γ X W (.UnaryOp .USub a pos) (.neg ia) := by
  obtain ⟨ta, pa, ra⟩ := ha
  refine ⟨_, pe_un un_neg pa, fun σ δ G M H Q Qd Zd ok er hq hz h => ?_⟩
  unfold evalE at h
  show ta σ H _
  refine run_e ra ok er hz h fun r M1 v G1 H1 q s1 dv => ?_
  obtain ⟨i, e, q⟩ := q
  rw [e] at dv
  cases dv
  exact ⟨i, rfl, hq _ _ q _ G1 H1 s1 (.int _)⟩
theorem se_cmp {o : CmpOp} (hu : X.A.units + 64 < cLine) (ha : SE Φ γ X W a ia) (hb : SE Φ γ X W b ib) (hm : behindInMarks o b = false) : SE Φ γ X W (.Compare a [o] [b] pos) (.cmp o ia ib) := by
  obtain ⟨ta, pa, ra⟩ := ha
  obtain ⟨tb, pb, rb⟩ := hb
  refine ⟨_, pe_cmpR (cmp2_ok hu o) pa pb hm, fun σ δ G M H Q Qd Zd ok er hq hz h => ?_⟩
  unfold evalE at h
  show ta σ H _
  refine run_e ra ok er hz h fun r M1 v G1 H1 q s1 dv => ?_
  show tb σ H1 _
  refine run_e rb s1.ok (er.mono s1.sub) (px_after s1 hz) q fun r2 M2 v2 G2 H2 q2 s2 dv2 => ?_
  obtain ⟨k, e, q3⟩ := q2
  exact ⟨G, M, H, G2, M2, _, _, _, s1.trans s2, (dv.mono s2.sub).vw s2.ok, dv2.vw s2.ok, by unfold cmpR; rw [e]; rfl, hq _ _ q3⟩
theorem se_chain {o o' : CmpOp} (hu : X.A.units + 64 < cLine) (ha : SE Φ γ X W a ia) (hb : SE Φ γ X W b ib) (hc : SE Φ γ X W c ic) (hm : lastMarks [o, o'] [b, c] = false) :
    SE Φ γ X W (.Compare a [o, o'] [b, c] pos) (.chain o o' ia ib ic) := by
  obtain ⟨ta, pa, ra⟩ := ha
  obtain ⟨tb, pb, rb⟩ := hb
  obtain ⟨tc, pc, rc⟩ := hc
  refine ⟨_, pe_chain (cmp2_ok hu o) (cmp2_ok hu o') pa pb pc hm, fun σ δ G M H Q Qd Zd ok er hq hz h => ?_⟩
  unfold evalE at h
  show ta σ H _
  refine run_e ra ok er hz h fun r M1 v G1 H1 q s1 dv => ?_
  show tb σ H1 _
  refine run_e rb s1.ok (er.mono s1.sub) (px_after s1 hz) q fun r2 M2 v2 G2 H2 q2 s2 dv2 => ?_
  obtain ⟨k, e, q3⟩ := q2
  have s12 := s1.trans s2
  refine ⟨G2, M2, H2, G2, M2, _, _, .val (.bl k), Step.refl s2.ok, (dv.mono s2.sub).vw s2.ok, dv2.vw s2.ok, by unfold cmpR; rw [e]; rfl, fun w G3 H3 s3 rv => ?_⟩
  have rv' : Dv X.K G3 w (.bl k) := rv
  cases rv'
  refine ⟨k, rfl, ?_⟩
  have s13 := s12.trans s3
  cases k with
  | true =>
    simp only [if_true] at q3 ⊢
    show tc σ H3 _
    refine run_e rc s3.ok (er.mono s13.sub) (px_after s13 hz) q3 fun r4 M4 v4 G4 H4 q4 s4 dv4 => ?_
    obtain ⟨k', e', q4⟩ := q4
    exact ⟨G, M, H, G4, M4, _, _, _, s13.trans s4, (dv2.mono (s3.sub.trans s4.sub)).vw s4.ok, dv4.vw s4.ok, by unfold cmpR; rw [e']; rfl, hq _ _ q4⟩
  | false =>
    simp only [Bool.false_eq_true, if_false] at q3 ⊢
    exact hq _ _ q3 _ G3 H3 s13 (.bl false)
theorem se_not (ha : SE Φ γ X W a ia) : SE Φ γ X W (.UnaryOp .Not a pos) (.not ia) := by
  obtain ⟨ta, pa, ra⟩ := ha
  refine ⟨_, pe_notT pa, fun σ δ G M H Q Qd Zd ok er hq hz h => ?_⟩
  unfold evalE at h
  show ta σ H _
  refine run_e ra ok er hz h fun r M1 v G1 H1 q s1 dv => ?_
  obtain ⟨k, e, q⟩ := q
  exact ⟨k, truth_ok s1.ok (dv.vw s1.ok) e, hq _ _ q _ G1 H1 s1 (.bl _)⟩
theorem se_and {rest : List Expr} (ha : SE Φ γ X W a ia) (hb : SE Φ γ X W (.BoolOp .And (b :: rest) pos) ib) : SE Φ γ X W (.BoolOp .And (a :: b :: rest) pos) (.and ia ib) := by
  obtain ⟨ta, pa, ra⟩ := ha
  obtain ⟨tb, pb, rb⟩ := hb
  refine ⟨_, pe_andT pa pb, fun σ δ G M H Q Qd Zd ok er hq hz h => ?_⟩
  unfold evalE at h
  show ta σ H _
  refine run_e ra ok er hz h fun r M1 v G1 H1 q s1 dv => ?_
  obtain ⟨k, e, q⟩ := q
  refine ⟨k, truth_ok s1.ok (dv.vw s1.ok) e, ?_⟩
  cases k with
  | true =>
    simp only [if_true] at q ⊢
    exact rb σ δ G1 M1 H1 Q Qd Zd s1.ok (er.mono s1.sub) (fun r2 M2 q2 v2 G2 H2 s2 rv2 => hq _ _ q2 v2 G2 H2 (s1.trans s2) (by
      cases r2 with
      | val d => exact rv2
      | new ds => obtain ⟨p, vs, e1, e2, e3⟩ := rv2; exact ⟨p, vs, e1, s1.dom _ e2, e3⟩)) (px_after s1 hz) q
  | false =>
    simp only [Bool.false_eq_true, if_false] at q ⊢
    exact hq _ _ q v G1 H1 s1 dv
theorem se_or {rest : List Expr} (ha : SE Φ γ X W a ia) (hb : SE Φ γ X W (.BoolOp .Or (b :: rest) pos) ib) : SE Φ γ X W (.BoolOp .Or (a :: b :: rest) pos) (.or ia ib) := by
  obtain ⟨ta, pa, ra⟩ := ha
  obtain ⟨tb, pb, rb⟩ := hb
  refine ⟨_, pe_orT pa pb, fun σ δ G M H Q Qd Zd ok er hq hz h => ?_⟩
  unfold evalE at h
  show ta σ H _
  refine run_e ra ok er hz h fun r M1 v G1 H1 q s1 dv => ?_
  obtain ⟨k, e, q⟩ := q
  refine ⟨k, truth_ok s1.ok (dv.vw s1.ok) e, ?_⟩
  cases k with
  | false =>
    simp only [Bool.false_eq_true, if_false] at q ⊢
    exact rb σ δ G1 M1 H1 Q Qd Zd s1.ok (er.mono s1.sub) (fun r2 M2 q2 v2 G2 H2 s2 rv2 => hq _ _ q2 v2 G2 H2 (s1.trans s2) (by
      cases r2 with
      | val d => exact rv2
      | new ds => obtain ⟨p, vs, e1, e2, e3⟩ := rv2; exact ⟨p, vs, e1, s1.dom _ e2, e3⟩)) (px_after s1 hz) q
  | true =>
    simp only [if_true] at q ⊢
    exact hq _ _ q v G1 H1 s1 dv
theorem se_one {o : BoolOp} (ha : SE Φ γ X W a ia) : SE Φ γ X W (.BoolOp o [a] pos) ia := by
  obtain ⟨ta, pa, ra⟩ := ha
  exact ⟨_, pe_one pa, ra⟩
theorem Rv.back {K : PySem.W.Frag} {H0 : Hp} {v : V} {r : R} {G2 : Hp} {M2 : MS} {H2 : Hp} (s : Step K G M H0 G1 M1 H1) (h : Rv K H1 G2 M2 H2 v r) : Rv K H0 G2 M2 H2 v r := by
  cases r with
  | val d => exact h
  | new ds => obtain ⟨p, vs, e1, e2, e3⟩ := h; exact ⟨p, vs, e1, s.dom _ e2, e3⟩
/-- what comes behind a part that was run -/
theorem pv_after {K : PySem.W.Frag} {Q : VK} {Qd : KR} (s : Step K G M H G1 M1 H1) (hq : ∀ r M', Qd r M' → PostV K G M H Q r M') : ∀ r M', Qd r M' → PostV K G1 M1 H1 Q r M' :=
  fun r M' q v G' H' st rv => hq r M' q v G' H' (s.trans st) (rv.back s)
theorem se_ife {t : T} (ht : ST Φ γ X W c t) (ha : SE Φ γ X W a ia) (hb : SE Φ γ X W b ib) : SE Φ γ X W (.IfExp c a b pos) (.ife t ia ib) := by
  obtain ⟨tt, pt, rt⟩ := ht
  obtain ⟨ta, pa, ra⟩ := ha
  obtain ⟨tb, pb, rb⟩ := hb
  refine ⟨_, pe_ifExp pt pa pb, fun σ δ G M H Q Qd Zd ok er hq hz h => ?_⟩
  unfold evalE at h
  refine rt σ δ G M H _ _ Zd ok er (fun k M1 q G1 H1 s1 => ?_) hz h
  cases k with
  | true =>
    simp only [if_true] at q ⊢
    exact ra σ δ G1 M1 H1 Q Qd Zd s1.ok (er.mono s1.sub) (pv_after s1 hq) (px_after s1 hz) q
  | false =>
    simp only [Bool.false_eq_true, if_false] at q ⊢
    exact rb σ δ G1 M1 H1 Q Qd Zd s1.ok (er.mono s1.sub) (pv_after s1 hq) (px_after s1 hz) q
theorem se_idx (ha : SE Φ γ X W a ia) (hb : SE Φ γ X W b ib) (hs : PlainIx b) : SE Φ γ X W (.Subscript a b pos) (.idx ia ib) := by
  obtain ⟨ta, pa, ra⟩ := ha
  obtain ⟨tb, pb, rb⟩ := hb
  refine ⟨_, pe_ix idx_ok pa pb hs, fun σ δ G M H Q Qd Zd ok er hq hz h => ?_⟩
  unfold evalE at h
  show ta σ H _
  refine run_e ra ok er hz h fun r M1 v G1 H1 q s1 dv => ?_
  show tb σ H1 _
  refine run_e rb s1.ok (er.mono s1.sub) (px_after s1 hz) q fun r2 M2 v2 G2 H2 q2 s2 dv2 => ?_
  obtain ⟨d, e, q3⟩ := q2
  have ei : view M2 r2.toD = r2.toD := by
    cases e2 : r2.toD with
    | obj p => rw [e2] at e; unfold idxD at e; split at e <;> simp_all
    | _ => rfl
  exact ⟨G, M, H, G2, M2, _, _, _, s1.trans s2, (dv.mono s2.sub).vw s2.ok, dv2.vw s2.ok, by unfold idxR; rw [ei, e]; rfl, hq _ _ q3⟩
theorem so_none : SO Φ γ X W none .none :=
  ⟨_, po_none, fun σ δ G M H Q Qd Zd ok er hq hz h => by unfold evalO at h; exact hq _ _ h G H (Step.refl ok)⟩
theorem so_some (ha : SE Φ γ X W a ia) : SO Φ γ X W (some a) (.some ia) := by
  obtain ⟨ta, pa, ra⟩ := ha
  refine ⟨_, po_some pa, fun σ δ G M H Q Qd Zd ok er hq hz h => ?_⟩
  unfold evalO at h
  show ta σ H _
  refine run_e ra ok er hz h fun r M1 v G1 H1 q s1 dv => ?_
  obtain ⟨i, e, q⟩ := q
  rw [e] at dv
  cases dv
  exact ⟨i, rfl, hq _ _ q G1 H1 s1⟩
theorem se_slc {lo hi : Option Expr} {il ih : O} {p2 : Pos} (ha : SE Φ γ X W a ia) (hl : SO Φ γ X W lo il) (hh : SO Φ γ X W hi ih) : SE Φ γ X W (.Subscript a (.Slice lo hi none p2) pos) (.slc ia il ih) := by
  obtain ⟨ta, pa, ra⟩ := ha
  obtain ⟨tl, pl, rl⟩ := hl
  obtain ⟨th, ph, rh⟩ := hh
  refine ⟨_, pe_slice slc_ok pa pl ph, fun σ δ G M H Q Qd Zd ok er hq hz h => ?_⟩
  unfold evalE at h
  show ta σ H _
  refine run_e ra ok er hz h fun r M1 v G1 H1 q s1 dv => ?_
  refine rl σ δ G1 M1 H1 _ _ Zd s1.ok (er.mono s1.sub) (fun l M2 q2 G2 H2 s2 => ?_) (px_after s1 hz) q
  have s12 := s1.trans s2
  refine rh σ δ G2 M2 H2 _ _ Zd s2.ok (er.mono s12.sub) (fun hh M3 q3 G3 H3 s3 => ?_) (px_after s12 hz) q2
  obtain ⟨r3, e, q3⟩ := q3
  exact ⟨G, M, H, G3, M3, _, r3, s12.trans s3, (dv.mono (s2.sub.trans s3.sub)).vw s3.ok, e, hq _ _ q3⟩
end
end DL
set_option linter.all false
set_option maxRecDepth 100000
set_option maxHeartbeats 2000000
namespace DL
open PySem L2
/-! ### calls -/
/-- room for k calls; nothing is being written (repr) around -/
structure Rm (k : Nat) (A : Around) : Prop where
  room : Room k A
  gd : A.guards = some []
theorem Rm.mono {j k : Nat} {A : Around} (r : Rm k A) (h : j ≤ k) : Rm j A := ⟨r.room.mono h, r.gd⟩
theorem Rm.deeper {k : Nat} {A : Around} (r : Rm (k + 1) A) (env : Env) : Rm k (A.deeper env) := ⟨r.room.deeper env, r.gd⟩
/-- a def keeps its promise, called where nothing is being written -/
structure FnG (P : Program) (w : World) (K : PySem.W.Frag) (mg : Str → Option Value) (base : Heap) (k : Nat) (f : Addr) (fd : FuncData) (ps : List Str) (sp : Sp) : Prop where
  len : ∀ vs H Q E, sp vs H Q E → vs.length = ps.length
  run : ∀ (A : Around) (outer : List Env) (s : Shared) (H : Hp) (args : Args) (us : List Value) (vs : List V) (Q : VK) (E : XK), Rm k A → Env0 P w K mg base A outer s H → BindsTo s fd args (ps.zip us) → Vals vs us → sp vs H Q E →
    codeAny (model P w) A (.call (.ref f) args) (CR (L2.CX P w) outer P w H s Q E) s
theorem FnG.mono {P : Program} {w : World} {K : PySem.W.Frag} {mg : Str → Option Value} {base : Heap} {j k : Nat} {f : Addr} {fd : FuncData} {ps : List Str} {sp : Sp} (F : FnG P w K mg base j f fd ps sp) (h : j ≤ k) : FnG P w K mg base k f fd ps sp :=
  ⟨F.len, fun A outer s H args us vs Q E hr => F.run A outer s H args us vs Q E (hr.mono h)⟩
theorem FnG.of {P : Program} {w : World} {K : PySem.W.Frag} {mg : Str → Option Value} {base : Heap} {k : Nat} {f : Addr} {fd : FuncData} {ps : List Str} {sp : Sp} (F : FnOk P w K mg base (L2.CX P w) k f fd ps sp) : FnG P w K mg base k f fd ps sp :=
  ⟨F.len, fun A outer s H args us vs Q E hr => F.run A outer s H args us vs Q E hr.room⟩
def PostXF (K : PySem.W.Frag) (G : Hp) (M : MS) (H : Hp) (E : XK) : KX := fun x M' => ∀ dA G' H', Step K G M H G' M' H' → XRel K G' H' x dA → E x.cls dA H'
/-- the promise «it does what φ tells» -/
def spD (K : PySem.W.Frag) (φ : List D → MS → KR → KX → Prop) : Sp := fun vs H Q E => ∃ (G : Hp) (M : MS) (ds : List D) (Qd : KR) (Zd : KX), OkS K G M H ∧ DvAll K G vs ds ∧
  (∀ r M', Qd r M' → PostV K G M H Q r M') ∧ (∀ x M', Zd x M' → PostXF K G M H E x M') ∧ φ ds M Qd Zd
section
variable {X : Cx} {W : WX} {k : Nat} {f : Addr} {fd : FuncData} {ps : List Str} {sp : Sp}
theorem run_g {pins : List (Addr × Obj)} {σ : L2.St} {H : Hp} {s : Shared} {Q : VK} {us : List Value} {vs : List V} (F : FnG X.prog X.w X.K X.mg X.base k f fd ps sp) (hr : Rm k X.A) (hb : Binds X.K fd ps []) (tk : Takes X W)
    (I : Inv X pins σ H s) (r : Vals vs us) (h : sp vs H Q fun cls d H' => W cls d σ H') : wpAny (model X.prog X.w) X.A (call (.ref f) us) (EP X pins σ Q) X.xe s := by
  have hl : us.length = ps.length := r.length.symm.trans (F.len _ _ _ _ h)
  have bd : BindsTo s fd ⟨us, []⟩ (ps.zip us) := by
    have z := hb s us I.kIn (by rw [List.append_nil]; exact hl)
    rw [List.append_nil] at z
    exact z
  refine wpAny_call (codeAny_mono (F.run X.A X.stack s H ⟨us, []⟩ us vs Q _ hr I.env0 bd r h) fun res s' hq => ?_)
  match res, hq with
  | .error e, hq => exact tk e s' (XE.of_call I (fun _ _ _ z => z) hq)
  | .ok (.ret u), hq => exact I.after hq
  | .ok .next, hq => exact hq.elim
  | .ok .brk, hq => exact hq.elim
  | .ok .cont, hq => exact hq.elim
def tCallG (sp : Sp) (W : WX) (t : TA) : TE := fun σ H Q => t σ H fun vs H1 => sp vs H1 Q fun cls d H' => W cls d σ H'
theorem pe_callG {x : Str} {p pos : Pos} {e : Expr} {es : List Expr} {t : TA} (F : FnG X.prog X.w X.K X.mg X.base k f fd ps sp) (hr : Rm k X.A) (hb : Binds X.K fd ps []) (tk : Takes X W)
    (hg : Gl X x) (hm : X.mg x = some (.ref f)) (hk : PySem.W.keepIn X.K (.ref f) = true) (ha : PA X (e :: es) t) (hdb : (x == ("__debug__" : Str)) = false)
    (hst : starEach (e :: es) X.env = (false, eval e X.env) :: starEach es X.env) (hpl : (backTo pos (starEach es X.env)).any (·.1) = false) : PE X (.Call (.Name x p) (e :: es) [] pos) (tCallG sp W t) := by
  refine ⟨fun pins s σ H Q I h => wpAny_Call_Name_kw (ld_glob I hg hm ?_ hdb)⟩
  have go := ha.run pos pins s σ H _ I h
  refine PySem.W.callWith_K (h₀ := X.base) I.ok.mod.kin hk (thn go ?_) hst hpl
  rintro us s1 ⟨vs, H1, I1, r, q⟩
  exact ⟨I1.kIn, run_g F hr hb tk I1 r q⟩
theorem pe_callG0 {x : Str} {p pos : Pos} (F : FnG X.prog X.w X.K X.mg X.base k f fd ps sp) (hr : Rm k X.A) (hb : Binds X.K fd ps []) (tk : Takes X W)
    (hg : Gl X x) (hm : X.mg x = some (.ref f)) (hk : PySem.W.keepIn X.K (.ref f) = true) (hdb : (x == ("__debug__" : Str)) = false) : PE X (.Call (.Name x p) [] [] pos) (tCallG sp W tNil) := by
  refine ⟨fun pins s σ H Q I h => wpAny_Call_Name_kw (ld_glob I hg hm ?_ hdb)⟩
  exact PySem.W.callWith_K0 I.kIn hk (run_g (us := []) F hr hb tk I .nil h)
end
section
variable {Φ : Fns} {γ : List D} {X : Cx} {W : WX}
/-- a def of one's own -/
theorem se_call {i k : Nat} {f : Addr} {fd : FuncData} {ps : List Str} {x : Str} {p pos : Pos} {e : Expr} {es : List Expr} {ies : Es} (F : FnG X.prog X.w X.K X.mg X.base k f fd ps (spD X.K (Φ i))) (hr : Rm k X.A) (hb : Binds X.K fd ps []) (tk : Takes X W)
    (hg : Gl X x) (hm : X.mg x = some (.ref f)) (hk : PySem.W.keepIn X.K (.ref f) = true) (hdb : (x == ("__debug__" : Str)) = false) (ha : SA Φ γ X W (e :: es) ies)
    (hst : starEach (e :: es) X.env = (false, eval e X.env) :: starEach es X.env) (hpl : (backTo pos (starEach es X.env)).any (·.1) = false) : SE Φ γ X W (.Call (.Name x p) (e :: es) [] pos) (.call i ies) := by
  obtain ⟨ta, pa, ra⟩ := ha
  refine ⟨_, pe_callG F hr hb tk hg hm hk pa hdb hst hpl, fun σ δ G M H Q Qd Zd ok er hq hz h => ?_⟩
  unfold evalE at h
  refine ra σ δ G M H _ _ Zd ok er (fun ds M1 q vs G1 H1 s1 t => ?_) hz h
  exact ⟨G1, M1, ds, Qd, Zd, s1.ok, t, pv_after s1 hq, fun x M' z => px_after s1 hz x M' z, q⟩
theorem se_call0 {i k : Nat} {f : Addr} {fd : FuncData} {ps : List Str} {x : Str} {p pos : Pos} (F : FnG X.prog X.w X.K X.mg X.base k f fd ps (spD X.K (Φ i))) (hr : Rm k X.A) (hb : Binds X.K fd ps []) (tk : Takes X W)
    (hg : Gl X x) (hm : X.mg x = some (.ref f)) (hk : PySem.W.keepIn X.K (.ref f) = true) (hdb : (x == ("__debug__" : Str)) = false) : SE Φ γ X W (.Call (.Name x p) [] [] pos) (.call i .nil) := by
  refine ⟨_, pe_callG0 F hr hb tk hg hm hk hdb, fun σ δ G M H Q Qd Zd ok er hq hz h => ?_⟩
  unfold evalE evalEs at h
  exact ⟨G, M, [], Qd, Zd, ok, .nil, hq, fun x M' z => hz x M' z, h⟩
/-- a built-in function or class -/
def biName : BI → Str
  | .len => "len"
  | .int => "int"
  | .abs => "abs"
  | .repr => "repr"
  | .all => "all"
  | .any => "any"
  | .tuple => "tuple"
  | .list => "list"
theorem bi_boot : ∀ b : BI, bootBuiltins (biName b) = some (biV b) := by
  intro b; cases b <;> decide +kernel
theorem bi_plain : ∀ b : BI, biName b ≠ "__name__" ∧ (biName b == ("__debug__" : Str)) = false := by
  intro b; cases b <;> decide +kernel
theorem se_bi {b : BI} {p pos : Pos} {e : Expr} {es : List Expr} {ies : Es} (c : Cal X) (hg : Gl X (biName b)) (hm : X.mg (biName b) = none) (ha : SA Φ γ X W (e :: es) ies)
    (hst : starEach (e :: es) X.env = (false, eval e X.env) :: starEach es X.env) (hpl : (backTo pos (starEach es X.env)).any (·.1) = false) : SE Φ γ X W (.Call (.Name (biName b) p) (e :: es) [] pos) (.bi b ies) := by
  obtain ⟨ta, pa, ra⟩ := ha
  have pe : PE X (.Call (.Name (biName b) p) (e :: es) [] pos) (tCB (rA X.K (biD b)) ta) := by
    have hv := bi_boot b
    have hc := bi_ok c b
    cases eb : biV b with
    | builtin id => rw [eb] at hv hc; exact pe_callB hc hg hm hv pa (bi_plain b).1 (bi_plain b).2 hst hpl
    | type T => rw [eb] at hv hc; exact pe_callTy hc hg hm hv pa (bi_plain b).1 (bi_plain b).2 hst hpl
    | _ => cases b <;> simp [biV] at eb
  refine ⟨_, pe, fun σ δ G M H Q Qd Zd ok er hq hz h => ?_⟩
  unfold evalE at h
  refine ra σ δ G M H _ _ Zd ok er (fun ds M1 q vs G1 H1 s1 t => ?_) hz h
  obtain ⟨r, e, q⟩ := q
  exact ⟨G, M, H, G1, M1, ds, r, s1, t, e, hq _ _ q⟩
/-! isinstance -/
theorem kit_all : ∀ t ∈ ["NoneType", "bool", "int", "str", "list", "tuple", "dict"], ∀ u ∈ ["bool", "int", "str", "list", "tuple", "dict"], kitB t u = some (u == t || (t == "bool" && u == "int")) := by decide +kernel
theorem ty_ok {K : PySem.W.Frag} {G : Hp} {M : MS} {H : Hp} {x : V} {d : D} {t : String} (o : OkS K G M H) (h : Vw K G H x d) (e : tyD d = some t) : TyX K H x (.type t) := by
  cases h with
  | non => cases e; exact .base .non
  | bl b => cases e; exact .base (.bl b)
  | int i => cases e; exact .base (.int i)
  | str x => cases e; exact .base (.str x)
  | lst h t => cases e; exact .base (.lst h)
  | tup h t =>
    cases e
    rcases h with (h | ⟨ob, h⟩) | ⟨ob, its, n, h1, h2, _⟩
    · exact .base (.tup (o.sub _ _ h))
    · exact .fTuple (o.sub _ _ h)
    · exact .kTuple h1 h2
  | dct h l t => cases e; exact .base (.dK (o.sub _ _ h))
  | obj a => cases e
  | ty n => cases e
  | scr _ _ => cases e
theorem kitAny_all {K : PySem.W.Frag} {t : String} (ht : t ∈ ["NoneType", "bool", "int", "str", "list", "tuple", "dict"]) : ∀ ts : List String, (∀ u ∈ ts, u ∈ ["bool", "int", "str", "list", "tuple", "dict"]) →
    PySem.W.kitAny K (.type t) (ts.map Value.type) = some (ts.any fun u => u == t || (t == "bool" && u == "int"))
  | [], _ => kitAny_nil
  | u :: ts, h => by
    have h1 := kit_ty (K := K) (kit_all t ht u (h u List.mem_cons_self))
    have ih := kitAny_all (K := K) ht ts fun v hv => h v (List.mem_cons_of_mem _ hv)
    refine kitAny_cons h1 (fun e => ?_) fun e => ?_
    · rw [List.any_cons, e, Bool.false_or]; exact ih
    · rw [List.any_cons, e, Bool.true_or]
theorem isi_boot : bootBuiltins "isinstance" = some (.builtin "isinstance") := by decide +kernel
theorem ty_boot : ∀ u ∈ ["bool", "int", "str", "list", "tuple", "dict"], bootBuiltins (Str.ofString u) = some (.type u) ∧ Str.ofString u ≠ "__name__" ∧ (Str.ofString u == ("__debug__" : Str)) = false := by decide +kernel
theorem pe_ty {u : String} {p : Pos} (hu : u ∈ ["bool", "int", "str", "list", "tuple", "dict"]) (hg : Gl X (Str.ofString u)) (hm : X.mg (Str.ofString u) = none) : PE X (.Name (Str.ofString u) p) (tC (.ty u)) :=
  let ⟨h1, h2, h3⟩ := ty_boot u hu
  pe_bltn hg hm h1 rfl h2 h3
theorem se_isi1 {u : String} {p p2 pos : Pos} {a : Expr} {ia : E} (hu : u ∈ ["bool", "int", "str", "list", "tuple", "dict"]) (hgi : Gl X "isinstance") (hmi : X.mg "isinstance" = none) (hg : Gl X (Str.ofString u)) (hm : X.mg (Str.ofString u) = none) (ha : SE Φ γ X W a ia)
    (hst : starEach [a, .Name (Str.ofString u) p2] X.env = (false, eval a X.env) :: starEach [.Name (Str.ofString u) p2] X.env) : SE Φ γ X W (.Call (.Name "isinstance" p) [a, .Name (Str.ofString u) p2] [] pos) (.isi ia [u]) := by
  obtain ⟨ta, pa, ra⟩ := ha
  refine ⟨_, pe_callB call_isi hgi hmi isi_boot (pa_cons pa (pa_cons (pe_ty hu hg hm) pa_nil) hst) (by decide) (by decide) hst, fun σ δ G M H Q Qd Zd ok er hq hz h => ?_⟩
  unfold evalE at h
  show ta σ H _
  refine run_e ra ok er hz h fun r M1 v G1 H1 q s1 dv => ?_
  obtain ⟨k, e, q⟩ := q
  unfold isiD at e
  cases et : tyD (view M1 r.toD) with
  | none => rw [et] at e; cases e
  | some t =>
    rw [et] at e
    simp only at e
    split at e
    · rename_i hc
      cases e
      refine ⟨v, .ty u, .type t, .type u, _, rfl, .ty u, ty_ok s1.ok (dv.vw s1.ok) et, kit_ty (kit_all t hc.1 u hu), ?_⟩
      have z := hq _ _ q (.bl (u == t || (t == "bool" && u == "int"))) G1 H1 s1 (by simp only [List.any_cons, List.any_nil, Bool.or_false]; exact .bl _)
      exact z
    · cases e
theorem se_isi2 {u u' : String} {p p2 p3 p4 pos : Pos} {kk : Nat} {a : Expr} {ia : E} (hu : u ∈ ["bool", "int", "str", "list", "tuple", "dict"]) (hu' : u' ∈ ["bool", "int", "str", "list", "tuple", "dict"]) (hgi : Gl X "isinstance") (hmi : X.mg "isinstance" = none)
    (hg : Gl X (Str.ofString u)) (hm : X.mg (Str.ofString u) = none) (hg' : Gl X (Str.ofString u')) (hm' : X.mg (Str.ofString u') = none) (ha : SE Φ γ X W a ia)
    (hst : starEach [a, .Tuple [.Name (Str.ofString u) p2, .Name (Str.ofString u') p3] kk p4] X.env = (false, eval a X.env) :: starEach [.Tuple [.Name (Str.ofString u) p2, .Name (Str.ofString u') p3] kk p4] X.env) :
    SE Φ γ X W (.Call (.Name "isinstance" p) [a, .Tuple [.Name (Str.ofString u) p2, .Name (Str.ofString u') p3] kk p4] [] pos) (.isi ia [u, u']) := by
  obtain ⟨ta, pa, ra⟩ := ha
  refine ⟨_, pe_callB call_isiT hgi hmi isi_boot (pa_cons pa (pa_cons (pe_tup (pa_cons (pe_ty hu hg hm) (pa_cons (pe_ty hu' hg' hm') pa_nil))) pa_nil) hst) (by decide) (by decide) hst, fun σ δ G M H Q Qd Zd ok er hq hz h => ?_⟩
  unfold evalE at h
  show ta σ H _
  refine run_e ra ok er hz h fun r M1 v G1 H1 q s1 dv => ?_
  obtain ⟨k, e, q⟩ := q
  unfold isiD at e
  cases et : tyD (view M1 r.toD) with
  | none => rw [et] at e; cases e
  | some t =>
    rw [et] at e
    simp only at e
    split at e
    · rename_i hc
      cases e
      refine ⟨(by show 2 ≤ sizeLine; decide), fun pt hp => ?_⟩
      have s2 := s1.alloc (o := HO.tup [.ty u, .ty u']) hp
      refine ⟨v, pt, [.ty u, .ty u'], .type t, [.type u, .type u'], _, rfl, upd_same, .cons (.ty u) (.cons (.ty u') .nil), ty_ok s2.ok (dv.vw s2.ok) et, kitAny_all hc.1 [u, u'] hc.2, ?_⟩
      exact hq _ _ q _ G1 _ s2 (.bl _)
    · cases e
/-! methods -/
def mtName : MT → Str
  | .split => "split"
  | .join => "join"
theorem se_mt {m : MT} {apos pos : Pos} {o e : Expr} {io ie : E} (ho : SE Φ γ X W o io) (he : SE Φ γ X W e ie)
    (hs : starEach [e] X.env = [(false, eval e X.env)]) (hbase : attributeBase o (mtName m) X.env (eval o X.env) = eval o X.env) (hline : (apos.endLine == pos.line) = true) :
    SE Φ γ X W (.Call (.Attribute o (mtName m) apos) [e] [] pos) (.mt m io (.cons ie .nil)) := by
  obtain ⟨ta, pa, ra⟩ := ho
  obtain ⟨tb, pb, rb⟩ := he
  have pe : PE X (.Call (.Attribute o (mtName m) apos) [e] [] pos) (tM1 (rM X.K m) ta tb) := by
    cases m with
    | split => exact pe_m1 F.slot_str_split F.type_str_split (mt_ok .split) pa pb hs hbase hline
    | join => exact pe_m1 F.slot_str_join F.type_str_join (mt_ok .join) pa pb hs hbase hline
  refine ⟨_, pe, fun σ δ G M H Q Qd Zd ok er hq hz h => ?_⟩
  unfold evalE at h
  show ta σ H _
  refine run_e ra ok er hz h fun r M1 v G1 H1 q s1 dv => ?_
  obtain ⟨z, ez, q⟩ := q
  rw [ez] at dv
  cases dv
  refine ⟨⟨z, rfl⟩, ?_⟩
  show tb σ H1 _
  unfold evalEs evalEs at q
  refine run_e rb s1.ok (er.mono s1.sub) (px_after s1 hz) q fun r2 M2 v2 G2 H2 q2 s2 dv2 => ?_
  obtain ⟨r3, e, q3⟩ := q2
  exact ⟨G, M, H, G2, M2, z, _, r3, s1.trans s2, rfl, .one dv2, e, hq _ _ q3⟩
end
end DL
set_option linter.all false
set_option maxRecDepth 100000
set_option maxHeartbeats 2000000
namespace DL
open PySem L2
/-! ### tests -/
section
variable (Φ : Fns) (γ : List D) (X : Cx) (W : WX)
def SW (e : Expr) (ir : T) : Prop := ∃ tt, PW X e tt ∧ ∀ (σ : L2.St) (δ : DEnv) (G : Hp) (M : MS) (H : Hp) (Q : Bool → Hp → Prop) (Qd : Bool → MS → Prop) (Zd : KX), OkS X.K G M H → ER X.K G σ δ →
  (∀ b M', Qd b M' → ∀ G' H', Step X.K G M H G' M' H' → Q b H') → (∀ x M', Zd x M' → PostX X.K G M H W σ x M') → evalT Φ γ ir δ M Qd Zd → tt σ H Q
end
section
variable {Φ : Fns} {γ : List D} {X : Cx} {W : WX} {a b c : Expr} {ia ib ic : E} {ta tb : T} {pos : Pos}
theorem SW.st {e : Expr} {ir : T} (h : SW Φ γ X W e ir) : ST Φ γ X W e ir :=
  let ⟨tt, p, r⟩ := h
  ⟨tt, p.pt, r⟩
theorem st_plain (ha : SE Φ γ X W a ia) (he : ∀ whole, isTrue a X.env whole = (do let v ← whole; standAt a.pos; holding [v] (truthy v))) : ST Φ γ X W a (.e ia) := by
  obtain ⟨t1, p1, r1⟩ := ha
  refine ⟨_, pt_truth p1 he, fun σ δ G M H Q Qd Zd ok er hq hz h => ?_⟩
  unfold evalT at h
  show t1 σ H _
  refine run_e r1 ok er hz h fun r M1 v G1 H1 q s1 dv => ?_
  obtain ⟨k, e, q⟩ := q
  exact ⟨k, truth_ok s1.ok (dv.vw s1.ok) e, hq _ _ q G1 H1 s1⟩
theorem truth_bl {M : MS} {k k' : Bool} (e : truthD (view M (R.toD (.val (.bl k)))) = some k') : k' = k := by
  have e' : some k = some k' := e
  exact (Option.some.inj e').symm
theorem st_cmp {o : CmpOp} (hu : X.A.units + 64 < cLine) (ha : SE Φ γ X W a ia) (hb : SE Φ γ X W b ib) (hm : behindInMarks o b = false) : ST Φ γ X W (.Compare a [o] [b] pos) (.e (.cmp o ia ib)) := by
  obtain ⟨t1, p1, r1⟩ := ha
  obtain ⟨t2, p2, r2⟩ := hb
  refine ⟨_, pt_cmpR (cmp2_ok hu o) p1 p2 hm, fun σ δ G M H Q Qd Zd ok er hq hz h => ?_⟩
  unfold evalT evalE at h
  show t1 σ H _
  refine run_e r1 ok er hz h fun r M1 v G1 H1 q s1 dv => ?_
  show t2 σ H1 _
  refine run_e r2 s1.ok (er.mono s1.sub) (px_after s1 hz) q fun r2 M2 v2 G2 H2 q2 s2 dv2 => ?_
  obtain ⟨k, e, k', e', q3⟩ := q2
  have ek := truth_bl e'
  subst ek
  refine ⟨G, M, H, G2, M2, _, _, .val (.bl k'), s1.trans s2, (dv.mono s2.sub).vw s2.ok, dv2.vw s2.ok, by unfold cmpR; rw [e]; rfl, fun w G3 H3 s3 rv => ?_⟩
  have rv' : Dv X.K G3 w (.bl k') := rv
  cases rv'
  exact ⟨_, rfl, hq _ _ q3 G3 H3 s3⟩
theorem st_chain {o o' : CmpOp} (hu : X.A.units + 64 < cLine) (ha : SE Φ γ X W a ia) (hb : SE Φ γ X W b ib) (hc : SE Φ γ X W c ic) (hm : lastMarks [o, o'] [b, c] = false) : ST Φ γ X W (.Compare a [o, o'] [b, c] pos) (.e (.chain o o' ia ib ic)) := by
  obtain ⟨t1, p1, r1⟩ := ha
  obtain ⟨t2, p2, r2⟩ := hb
  obtain ⟨t3, p3, r3⟩ := hc
  refine ⟨_, pt_chain (cmp2_ok hu o) (cmp2_ok hu o') p1 p2 p3 hm, fun σ δ G M H Q Qd Zd ok er hq hz h => ?_⟩
  unfold evalT evalE at h
  show t1 σ H _
  refine run_e r1 ok er hz h fun r M1 v G1 H1 q s1 dv => ?_
  show t2 σ H1 _
  refine run_e r2 s1.ok (er.mono s1.sub) (px_after s1 hz) q fun r2 M2 v2 G2 H2 q2 s2 dv2 => ?_
  obtain ⟨k, e, q3⟩ := q2
  have s12 := s1.trans s2
  refine ⟨G2, M2, H2, G2, M2, _, _, .val (.bl k), Step.refl s2.ok, (dv.mono s2.sub).vw s2.ok, dv2.vw s2.ok, by unfold cmpR; rw [e]; rfl, fun w G3 H3 s3 rv => ?_⟩
  have rv' : Dv X.K G3 w (.bl k) := rv
  cases rv'
  have s13 := s12.trans s3
  cases k with
  | true =>
    simp only [if_true] at q3
    refine ⟨true, rfl, ?_⟩
    simp only [if_true]
    show t3 σ H3 _
    refine run_e r3 s3.ok (er.mono s13.sub) (px_after s13 hz) q3 fun r4 M4 v4 G4 H4 q4 s4 dv4 => ?_
    obtain ⟨k', e', k2, e2, q4⟩ := q4
    have ek := truth_bl e2
    subst ek
    refine ⟨G, M, H, G4, M4, _, _, .val (.bl k2), s13.trans s4, (dv2.mono (s3.sub.trans s4.sub)).vw s4.ok, dv4.vw s4.ok, by unfold cmpR; rw [e']; rfl, fun w G5 H5 s5 rv => ?_⟩
    have rv' : Dv X.K G5 w (.bl k2) := rv
    cases rv'
    exact ⟨_, rfl, hq _ _ q4 G5 H5 s5⟩
  | false =>
    simp only [Bool.false_eq_true, if_false] at q3
    refine ⟨false, rfl, ?_⟩
    simp only [Bool.false_eq_true, if_false]
    obtain ⟨k2, e2, q4⟩ := q3
    have ek := truth_bl e2
    subst ek
    exact ⟨_, rfl, hq _ _ q4 G3 H3 s13⟩
theorem st_not (ha : ST Φ γ X W a ta) : ST Φ γ X W (.UnaryOp .Not a pos) (.not ta) := by
  obtain ⟨t1, p1, r1⟩ := ha
  refine ⟨_, pt_not p1, fun σ δ G M H Q Qd Zd ok er hq hz h => ?_⟩
  unfold evalT at h
  exact r1 σ δ G M H _ _ Zd ok er (fun k M' q G' H' s => hq _ _ q G' H' s) hz h
theorem sw_and {rest : List Expr} (ha : ST Φ γ X W a ta) (hb : SW Φ γ X W (.BoolOp .And (b :: rest) pos) tb) : SW Φ γ X W (.BoolOp .And (a :: b :: rest) pos) (.and ta tb) := by
  obtain ⟨t1, p1, r1⟩ := ha
  obtain ⟨t2, p2, r2⟩ := hb
  refine ⟨_, pw_and p1 p2, fun σ δ G M H Q Qd Zd ok er hq hz h => ?_⟩
  unfold evalT at h
  refine r1 σ δ G M H _ _ Zd ok er (fun k M1 q G1 H1 s1 => ?_) hz h
  cases k with
  | true =>
    simp only [if_true] at q ⊢
    exact r2 σ δ G1 M1 H1 Q Qd Zd s1.ok (er.mono s1.sub) (fun k2 M2 q2 G2 H2 s2 => hq _ _ q2 G2 H2 (s1.trans s2)) (px_after s1 hz) q
  | false =>
    simp only [Bool.false_eq_true, if_false] at q ⊢
    exact hq _ _ q G1 H1 s1
theorem sw_or {rest : List Expr} (ha : ST Φ γ X W a ta) (hb : SW Φ γ X W (.BoolOp .Or (b :: rest) pos) tb) : SW Φ γ X W (.BoolOp .Or (a :: b :: rest) pos) (.or ta tb) := by
  obtain ⟨t1, p1, r1⟩ := ha
  obtain ⟨t2, p2, r2⟩ := hb
  refine ⟨_, pw_or p1 p2, fun σ δ G M H Q Qd Zd ok er hq hz h => ?_⟩
  unfold evalT at h
  refine r1 σ δ G M H _ _ Zd ok er (fun k M1 q G1 H1 s1 => ?_) hz h
  cases k with
  | false =>
    simp only [Bool.false_eq_true, if_false] at q ⊢
    exact r2 σ δ G1 M1 H1 Q Qd Zd s1.ok (er.mono s1.sub) (fun k2 M2 q2 G2 H2 s2 => hq _ _ q2 G2 H2 (s1.trans s2)) (px_after s1 hz) q
  | true =>
    simp only [if_true] at q ⊢
    exact hq _ _ q G1 H1 s1
theorem sw_and1 (ha : ST Φ γ X W a ta) : SW Φ γ X W (.BoolOp .And [a] pos) ta :=
  let ⟨t1, p1, r1⟩ := ha
  ⟨t1, pw_and1 p1, r1⟩
theorem sw_or1 (ha : ST Φ γ X W a ta) : SW Φ γ X W (.BoolOp .Or [a] pos) ta :=
  let ⟨t1, p1, r1⟩ := ha
  ⟨t1, pw_or1 p1, r1⟩
end
/-! ### what is walked -/
/-- the walk J goes over these items as long as src tells that its source stands -/
structure WalkJ (K : PySem.W.Frag) (G0 : Hp) (J : It) (src : MS → Prop) (items : List D) : Prop where
  go : ∀ G M H (i : Nat), OkS K G M H → Sub G0 G → src M → i < items.length → J.go i H
  stop : ∀ G M H (i : Nat), OkS K G M H → Sub G0 G → src M → i = items.length → J.stop i H
  yld : ∀ G M H (i : Nat) x H', OkS K G M H → Sub G0 G → src M → i < items.length → J.yld i H x H' → ∃ d G', items[i]? = some d ∧ Step K G M H G' M H' ∧ Dv K G' x d
def SI (Φ : Fns) (γ : List D) (X : Cx) (W : WX) (tg e : Expr) (ir : I) : Prop := ∃ wi, PI X tg e wi ∧ ∀ (σ : L2.St) (δ : DEnv) (G : Hp) (M : MS) (H : Hp) (R : It → Hp → Prop) (Qd : (MS → Prop) → List D → MS → Prop) (Zd : KX), OkS X.K G M H → ER X.K G σ δ →
  (∀ src items M1, Qd src items M1 → ∀ J G1 H1, Step X.K G M H G1 M1 H1 → WalkJ X.K G1 J src items → R J H1) → (∀ x M', Zd x M' → PostX X.K G M H W σ x M') → evalI Φ γ ir δ M Qd Zd → wi σ H R
/-- a list, a tuple or a text -/
def iSeq (K : PySem.W.Frag) (tl : TE) : TI := fun σ H R => tl σ H fun x H1 => (∃ a xs, x = .ref a ∧ SqL K H1 a xs ∧ R (Itl K a) H1) ∨ (∃ a xs, x = .ref a ∧ SqT K H1 a xs ∧ R (Itt K a) H1) ∨ ∃ z, x = .str z ∧ R (Its z) H1
theorem pi_seq {X : Cx} {tg l : Expr} {tl : TE} (hl : PE X l tl) : PI X tg l (iSeq X.K tl) := by
  refine ⟨fun pins s σ H R I h => thn (hl.run pins s σ H _ I h) ?_⟩
  rintro v s1 ⟨x, H1, I1, r1, ⟨a, xs, rfl, hq, q⟩ | ⟨a, xs, rfl, hq, q⟩ | ⟨z, rfl, q⟩⟩
  · obtain ⟨its, rv, pl, hz⟩ := I1.list hq
    cases r1
    exact wpAny_pyIter_list pl.isList (pi_one (tk := s1.toks) I1 _ (turn_list a _) ⟨_, Heap.get?_push_size _ rfl, rfl, rfl⟩ q)
  · obtain ⟨its, rv, pl, hz⟩ := I1.tuple hq
    cases r1
    exact wpAny_pyIter_tuple (show s1.heap.IsTuple a its.toArray from pl) (pi_one (tk := s1.toks) I1 _ (turn_tuple a _) ⟨_, Heap.get?_push_size _ rfl, rfl, rfl⟩ q)
  · obtain ⟨t, rfl⟩ := r1
    cases ha : z.cps.all (· < 128) with
    | false => exact wpAny_pyIter_wide ha (pi_one (tk := s1.toks) I1 _ (turn_str _ z t "str_iterator" (.inr rfl)) ⟨_, Heap.get?_push_size _ rfl, rfl, rfl⟩ q)
    | true => exact wpAny_pyIter_ascii ha (pi_one (tk := s1.toks) I1 _ (turn_str _ z t "str_ascii_iterator" (.inl rfl)) ⟨_, Heap.get?_push_size _ rfl, rfl, rfl⟩ q)
section
variable {K : PySem.W.Frag} {G0 : Hp}
theorem walk_list {a : Addr} {items : List D} {src : MS → Prop} (hs : ∀ G M H, OkS K G M H → Sub G0 G → src M → ∃ vs, H a = some (.lst vs) ∧ DvAll K G vs items) : WalkJ K G0 (Itl K a) src items where
  go := fun G M H i o sg sm hi => by
    obtain ⟨vs, h, t⟩ := hs G M H o sg sm
    have : i < vs.length := by rw [t.length]; exact hi
    exact ⟨vs, vs[i], SqL.of h, by simp [this]⟩
  stop := fun G M H i o sg sm hi => by
    obtain ⟨vs, h, t⟩ := hs G M H o sg sm
    exact ⟨vs, SqL.of h, by rw [t.length, hi]; exact Nat.le_refl _⟩
  yld := fun G M H i x H' o sg sm hi y => by
    obtain ⟨vs, h, t⟩ := hs G M H o sg sm
    obtain ⟨rfl, y⟩ := y
    obtain ⟨d, h1, h2⟩ := t.get' (y vs (SqL.of h))
    exact ⟨d, G, h1, Step.refl o, h2⟩
theorem walk_tup {a : Addr} {vs : List V} {items : List D} {src : MS → Prop} (h : SqT K G0 a vs) (t : DvAll K G0 vs items) : WalkJ K G0 (Itt K a) src items where
  go := fun G M H i o sg sm hi => by
    have : i < vs.length := by rw [t.length]; exact hi
    exact ⟨vs, vs[i], (sg.trans o.sub).sqT h, by simp [this]⟩
  stop := fun G M H i o sg sm hi => ⟨vs, (sg.trans o.sub).sqT h, by rw [t.length, hi]; exact Nat.le_refl _⟩
  yld := fun G M H i x H' o sg sm hi y => by
    obtain ⟨rfl, y⟩ := y
    obtain ⟨d, h1, h2⟩ := t.get' (y vs ((sg.trans o.sub).sqT h))
    exact ⟨d, G, h1, Step.refl o, h2.mono sg⟩
theorem walk_str {z : Str} {src : MS → Prop} : WalkJ K G0 (Its z) src (z.cps.toList.map fun c => D.str ⟨#[c]⟩) where
  go := fun G M H i o sg sm hi => by
    have : i < z.cps.size := by simpa using hi
    exact this
  stop := fun G M H i o sg sm hi => by
    have : z.cps.size ≤ i := by rw [hi]; simp
    exact this
  yld := fun G M H i x H' o sg sm hi y => by
    obtain ⟨rfl, c, e, rfl⟩ := y
    refine ⟨.str ⟨#[c]⟩, G, ?_, Step.refl o, .str _⟩
    rw [List.getElem?_map]
    have : z.cps.toList[i]? = some c := by simpa using e
    rw [this]; rfl
theorem walk_rng {lo : Int} {n : Nat} {src : MS → Prop} : WalkJ K G0 (Itr lo n) src ((List.range n).map fun (k : Nat) => D.int (lo + (k : Int))) where
  go := fun G M H i o sg sm hi => by
    have : i < n := by simpa using hi
    exact this
  stop := fun G M H i o sg sm hi => by
    have : n ≤ i := by rw [hi]; simp
    exact this
  yld := fun G M H i x H' o sg sm hi y => by
    obtain ⟨rfl, rfl⟩ := y
    have hi' : i < n := by simpa using hi
    exact ⟨.int (lo + i), G, by simp [hi'], Step.refl o, .int _⟩
end
section
variable {Φ : Fns} {γ : List D} {X : Cx} {W : WX} {tg : Expr} {pos p : Pos}
theorem si_seq {e : Expr} {ie : E} (he : SE Φ γ X W e ie) : SI Φ γ X W tg e (.seq ie) := by
  obtain ⟨t1, p1, r1⟩ := he
  refine ⟨_, pi_seq p1, fun σ δ G M H R Qd Zd ok er hq hz h => ?_⟩
  unfold evalI at h
  show t1 σ H _
  refine run_e r1 ok er hz h fun r M1 v G1 H1 q s1 dv => ?_
  obtain ⟨items, e1, q⟩ := q
  have go := hq _ _ _ q
  cases hd : r.toD with
  | lst ds =>
    rw [hd] at e1 dv go
    cases e1
    cases dv with
    | lst h1 t1 =>
      exact .inl ⟨_, _, rfl, SqL.of (s1.ok.sub _ _ h1), go _ G1 H1 s1 (walk_list fun G2 M2 H2 o2 sg _ => ⟨_, o2.sub _ _ (sg _ _ h1), t1.mono sg⟩)⟩
  | tup ds =>
    rw [hd] at e1 dv go
    cases e1
    cases dv with
    | tup h1 t1 => exact .inr (.inl ⟨_, _, rfl, s1.ok.sub.sqT h1, go _ G1 H1 s1 (walk_tup h1 t1)⟩)
  | str z =>
    rw [hd] at e1 dv go
    cases e1
    cases dv
    exact .inr (.inr ⟨z, rfl, go _ G1 H1 s1 walk_str⟩)
  | obj a =>
    rw [hd] at e1 dv go
    cases dv
    have look : ∀ M2, itemsD (view M2 (.obj a)) = some items → M2 a = some (.lst items) := fun M2 e => by
      unfold view at e
      split at e
      · rename_i p ez
        cases ez
        split at e
        · rename_i ds e3
          cases e
          exact e3
        · cases e
      · rename_i hno; exact absurd rfl (hno a)
    obtain ⟨vs, h1, t1⟩ := s1.ok.mok a _ (look M1 e1)
    exact .inl ⟨_, _, rfl, SqL.of h1, go _ G1 H1 s1 (walk_list fun G2 M2 H2 o2 sg sm => o2.mok a _ (look M2 sm))⟩
  | non => rw [hd] at e1; cases e1
  | bl b => rw [hd] at e1; cases e1
  | int i => rw [hd] at e1; cases e1
  | dct kvs => rw [hd] at e1; cases e1
  | ty n => rw [hd] at e1; cases e1
  | scr n => rw [hd] at e1; cases e1
theorem si_rng1 {e : Expr} {ie : E} (hg : Gl X "range") (hm : X.mg "range" = none) (he : SE Φ γ X W e ie) (hs : starEach [e] X.env = [(false, eval e X.env)]) : SI Φ γ X W tg (.Call (.Name "range" p) [e] [] pos) (.rng1 ie) := by
  obtain ⟨t1, p1, r1⟩ := he
  refine ⟨_, pi_range1 hg hm (pa_cons p1 pa_nil hs) hs, fun σ δ G M H R Qd Zd ok er hq hz h => ?_⟩
  unfold evalI at h
  show t1 σ H _
  refine run_e r1 ok er hz h fun r M1 v G1 H1 q s1 dv => ?_
  obtain ⟨i, e1, b1, b2, q⟩ := q
  rw [e1] at dv
  cases dv
  refine ⟨i, rfl, b2, b1, hq _ _ _ q _ G1 H1 s1 ?_⟩
  have z := walk_rng (K := X.K) (G0 := G1) (lo := 0) (n := i.toNat) (src := fun _ => True)
  simpa using z
theorem si_rng2 {e e2 : Expr} {ie ie2 : E} (hg : Gl X "range") (hm : X.mg "range" = none) (he : SE Φ γ X W e ie) (he2 : SE Φ γ X W e2 ie2) (hs : starEach [e, e2] X.env = [(false, eval e X.env), (false, eval e2 X.env)]) (hs2 : starEach [e2] X.env = [(false, eval e2 X.env)]) :
    SI Φ γ X W tg (.Call (.Name "range" p) [e, e2] [] pos) (.rng2 ie ie2) := by
  obtain ⟨t1, p1, r1⟩ := he
  obtain ⟨t2, p2, r2⟩ := he2
  refine ⟨_, pi_range2 hg hm (pa_cons p1 (pa_cons p2 pa_nil hs2) (by rw [hs, hs2])) hs hs2, fun σ δ G M H R Qd Zd ok er hq hz h => ?_⟩
  unfold evalI at h
  show t1 σ H _
  refine run_e r1 ok er hz h fun r M1 v G1 H1 q s1 dv => ?_
  show t2 σ H1 _
  refine run_e r2 s1.ok (er.mono s1.sub) (px_after s1 hz) q fun r2 M2 v2 G2 H2 q2 s2 dv2 => ?_
  obtain ⟨i, j, e1, e2, b1, b2, b3, b4, q⟩ := q2
  rw [e1] at dv
  rw [e2] at dv2
  cases dv
  cases dv2
  exact ⟨i, j, rfl, ⟨b1, b2, b3, b4⟩, hq _ _ _ q _ G2 H2 (s1.trans s2) walk_rng⟩
end
end DL
set_option linter.all false
set_option maxRecDepth 100000
set_option maxHeartbeats 2000000
namespace DL
open PySem L2
/-! ### slots forgotten -/
theorem wipe_get (σ : L2.St) (j : Nat) : ∀ vs : List Nat, (L2.wipe σ vs)[j]? = if j ∈ vs then (σ[j]?).map (fun _ => none) else σ[j]?
  | [] => by simp [L2.wipe]
  | v :: vs => by
    unfold L2.wipe
    by_cases h : v = j
    · subst h
      rw [List.getElem?_set_self']
      rw [wipe_get σ v vs]
      by_cases hv : v ∈ vs
      · simp [hv]
        cases σ[v]? <;> rfl
      · simp [hv]
        cases σ[v]? <;> rfl
    · rw [List.getElem?_set_ne h, wipe_get σ j vs]
      have : j ≠ v := fun e => h e.symm
      simp [this]
theorem wipe_set {σ : L2.St} {i : Nat} {v : Option V} {vs : List Nat} (h : i ∈ vs) : L2.wipe (σ.set i v) vs = L2.wipe σ vs := by
  apply List.ext_getElem?
  intro j
  rw [wipe_get, wipe_get]
  by_cases hj : j ∈ vs
  · simp only [hj, if_true]
    by_cases e : i = j
    · subst e
      rw [List.getElem?_set_self']
      cases σ[i]? <;> rfl
    · rw [List.getElem?_set_ne e]
  · have e : i ≠ j := fun e => hj (e ▸ h)
    simp only [hj, if_false]
    rw [List.getElem?_set_ne e]
theorem wipe_wipe {σ : L2.St} {vs : List Nat} : L2.wipe (L2.wipe σ vs) vs = L2.wipe σ vs := by
  apply List.ext_getElem?
  intro j
  rw [wipe_get, wipe_get]
  by_cases hj : j ∈ vs
  · simp only [hj, if_true]
    cases σ[j]? <;> rfl
  · simp only [hj, if_false]
/-! ### targets -/
def gNames : List Nat → TGs
  | [] => gNil
  | i :: is => gCons (gName i) (gNames is)
def gT (K : PySem.W.Frag) : List Nat → Bool → TG
  | is, false => gTup K is.length (gNames is)
  | [i], true => gName i
  | _, true => fun _ _ _ _ => False
section
variable {K : PySem.W.Frag} {G : Hp} {M : MS} {H : Hp}
theorem gNames_ok {Q : L2.St → Hp → Prop} : ∀ {is : List Nat} {xs : List V} {ds : List D} {σ : L2.St} {δ : DEnv}, is.length = ds.length → DvAll K G xs ds → ER K G σ δ →
    (∀ σ', ER K G σ' ((is.zip ds).foldl (fun δ p => δ.set p.1 (some p.2)) δ) → (∀ vs : List Nat, (∀ i ∈ is, i ∈ vs) → L2.wipe σ' vs = L2.wipe σ vs) → Q σ' H) → gNames is xs σ H Q
  | [], _, [], σ, δ, _, .nil, er, k => ⟨rfl, k σ er fun _ _ => rfl⟩
  | i :: is, _, d :: ds, σ, δ, l, .cons (v := v) (vs := vs) h t, er, k => by
    refine ⟨v, vs, rfl, ?_⟩
    refine gNames_ok (by simpa using l) t (er.set i h) fun σ' er' hw => ?_
    refine k σ' er' fun ws hi => ?_
    rw [hw ws fun j hj => hi j (List.mem_cons_of_mem _ hj)]
    exact wipe_set (hi i List.mem_cons_self)
  | [], _, _ :: _, _, _, l, _, _, _ => by simp at l
  | _ :: _, _, [], _, _, l, _, _, _ => by simp at l
theorem gT_ok {is : List Nat} {one : Bool} {v : V} {d : D} {σ : L2.St} {δ δ' : DEnv} {Q : L2.St → Hp → Prop} (o : OkS K G M H) (er : ER K G σ δ) (dv : Dv K G v d) (e : bindT δ is one d = some δ')
    (k : ∀ σ', ER K G σ' δ' → (∀ vs : List Nat, (∀ i ∈ is, i ∈ vs) → L2.wipe σ' vs = L2.wipe σ vs) → Q σ' H) : gT K is one v σ H Q := by
  unfold bindT at e
  split at e
  · rename_i i
    cases e
    exact k _ (er.set i dv) fun vs hi => wipe_set (hi i (by simp))
  · rename_i ds
    split at e
    · rename_i hl
      cases e
      cases dv with
      | tup h t =>
        exact ⟨_, _, rfl, o.sub.sqT h, by rw [t.length]; exact hl.symm, gNames_ok hl t er k⟩
    · cases e
  · cases e
end
/-! ### one reading for all contexts -/
section
variable (Φ : Fns) (γ : List D) (K : PySem.W.Frag) (W : WX)
def tDE (ir : E) : TE := fun σ H Q => ∃ (δ : DEnv) (G : Hp) (M : MS) (Qd : KR) (Zd : KX), OkS K G M H ∧ ER K G σ δ ∧ (∀ r M', Qd r M' → PostV K G M H Q r M') ∧ (∀ x M', Zd x M' → PostX K G M H W σ x M') ∧ evalE Φ γ ir δ M Qd Zd
def tDT (ir : T) : TT := fun σ H Q => ∃ (δ : DEnv) (G : Hp) (M : MS) (Qd : Bool → MS → Prop) (Zd : KX), OkS K G M H ∧ ER K G σ δ ∧ (∀ b M', Qd b M' → ∀ G' H', Step K G M H G' M' H' → Q b H') ∧ (∀ x M', Zd x M' → PostX K G M H W σ x M') ∧ evalT Φ γ ir δ M Qd Zd
end
section
variable {Φ : Fns} {γ : List D} {X : Cx} {W : WX}
theorem SE.pe {e : Expr} {ir : E} (h : SE Φ γ X W e ir) : PE X e (tDE Φ γ X.K W ir) :=
  let ⟨_, p, r⟩ := h
  ⟨fun pins s σ H Q I ⟨δ, G, M, Qd, Zd, ok, er, hq, hz, hv⟩ => p.run pins s σ H Q I (r σ δ G M H Q Qd Zd ok er hq hz hv)⟩
/-- the tests of a comprehension -/
def SC (Φ : Fns) (γ : List D) (X : Cx) (W : WX) (ifs : List Expr) (ir : T) : Prop := PTs X ifs (tDT Φ γ X.K W ir)
theorem sc_nil : SC Φ γ X W [] .yes := by
  refine ⟨fun pins s σ H Q I h => ?_⟩
  obtain ⟨δ, G, M, Qd, Zd, ok, er, hq, hz, hv⟩ := h
  unfold evalT at hv
  exact pts_nil.run pins s σ H Q I (hq _ _ hv G H (Step.refl ok))
theorem sc_one {c : Expr} {ir : T} (h : ST Φ γ X W c ir) : SC Φ γ X W [c] ir := by
  obtain ⟨tt, p, r⟩ := h
  refine ⟨fun pins s σ H Q I h => ?_⟩
  obtain ⟨δ, G, M, Qd, Zd, ok, er, hq, hz, hv⟩ := h
  exact (pts_one p).run pins s σ H Q I (r σ δ G M H Q Qd Zd ok er hq hz hv)
abbrev W0 : WX := fun _ _ _ _ => False
theorem comp_read {own : List (Str × Nat)} {ie : E} {it : I} {cond : T} {is : List Nat} {one : Bool} {wi : TI}
    (ri : ∀ (σ : L2.St) (δ : DEnv) (G : Hp) (M : MS) (H : Hp) (R : It → Hp → Prop) (Qd : (MS → Prop) → List D → MS → Prop) (Zd : KX), OkS X.K G M H → ER X.K G σ δ →
      (∀ src items M1, Qd src items M1 → ∀ J G1 H1, Step X.K G M H G1 M1 H1 → WalkJ X.K G1 J src items → R J H1) → (∀ x M', Zd x M' → PostX X.K G M H W σ x M') → evalI Φ γ it δ M Qd Zd → wi σ H R)
    (hown : ∀ i ∈ is, i ∈ own.map (·.2)) (σ : L2.St) (δ : DEnv) (G : Hp) (M : MS) (H : Hp) (Q : VK) (Qd : KR) (Zd : KX) (okS : OkS X.K G M H) (er : ER X.K G σ δ)
    (hq : ∀ r M', Qd r M' → PostV X.K G M H Q r M') (hz : ∀ x M', Zd x M' → PostX X.K G M H W σ x M') (h : evalE Φ γ (.comp ie is one (own.map (·.2)) it cond) δ M Qd Zd) :
    tLc wi (gT X.K is one) (tDT Φ γ X.K W0 cond) (tDE Φ γ X.K W0 ie) (own.map (·.2)) σ H Q := by
  unfold evalE at h
  refine ri σ δ G M H _ _ Zd okS er (fun src items M1 q J G1 H1 s1 wj => ?_) hz h
  intro D hD
  generalize hstep : (fun (d : DL.D) (acc : List DL.D) (M2 : MS) (k : List DL.D → MS → Prop) => ∃ δ', bindT (wipeD δ (own.map (·.2))) is one d = some δ' ∧ evalT Φ γ cond δ' M2 (fun b M3 =>
        if b = true then evalE Φ γ ie δ' M3 (fun r M4 => k (acc ++ [r.toD]) M4) (fun _ _ => False) else k acc M3) (fun _ _ => False)) = step at q
  refine ⟨fun i m H2 => m = items.length - i ∧ i ≤ items.length ∧ ∃ (G2 : Hp) (M2 : MS) (acc : List DL.D) (vs : List V), Step X.K G M H G2 M2 H2 ∧ Sub G1 G2 ∧ H2 D = some (.lst vs) ∧ DvAll X.K G2 vs acc ∧ G2 D = none ∧ M2 D = none ∧
      compLoop src step (items.drop i) acc M2 fun acc M5 => Qd (.new acc) M5,
    ⟨items.length, by simp, Nat.zero_le _, G1, M1, [], [], s1.alloc hD, Sub.refl G1, upd_same, .nil, s1.ok.noG hD, s1.ok.noM hD, by simpa using q⟩, ?_⟩
  rintro i m H2 ⟨rfl, hi, G2, M2, acc, vs, s2, sg, hd, t, gd, md, lp⟩
  by_cases hlt : i < items.length
  · rw [List.drop_eq_getElem_cons hlt] at lp
    unfold compLoop at lp
    obtain ⟨sm, hz2, lp⟩ := lp
    refine .inr ⟨wj.go G2 M2 H2 i s2.ok sg sm hlt, fun H' => ∃ (G3 : Hp) (M3 : MS) (acc' : List DL.D) (vs' : List V), Step X.K G M H G3 M3 H' ∧ Sub G1 G3 ∧ H' D = some (.lst vs') ∧ DvAll X.K G3 vs' acc' ∧ G3 D = none ∧ M3 D = none ∧
      compLoop src step (items.drop (i + 1)) acc' M3 fun acc M5 => Qd (.new acc) M5, fun H' hH => ⟨items.length - (i + 1), by omega, rfl, hlt, hH⟩, fun x H3 y => ?_⟩
    obtain ⟨d, G3, ed, s3, dx⟩ := wj.yld G2 M2 H2 i x H3 s2.ok sg sm hlt y
    have ed' : items[i] = d := by
      have := List.getElem?_eq_getElem hlt
      rw [this] at ed
      exact Option.some.inj ed
    rw [ed'] at lp
    rw [← hstep] at lp
    obtain ⟨δ', hb, lp⟩ := lp
    have hd3 : H3 D = some (.lst vs) := s3.keep D _ hd md
    have gd3 : G3 D = none := by
      cases e : G3 D with
      | none => rfl
      | some u =>
        have := s3.newG D u gd e md
        rw [hd] at this; cases this
    have er3 : ER X.K G3 (L2.wipe σ (own.map (·.2))) (wipeD δ (own.map (·.2))) := (er.mono (s2.sub.trans s3.sub)).wipe _
    refine gT_ok s3.ok er3 dx hb fun σ' er' hw => ?_
    refine ⟨(hw _ hown).trans wipe_wipe, ?_⟩
    refine ⟨δ', G3, M2, _, _, s3.ok, er', fun b M4 q4 G4 H4 s4 => ?_, fun _ _ z => z.elim, lp⟩
    have hd4 : H4 D = some (.lst vs) := s4.keep D _ hd3 md
    have md4 : M4 D = none := s4.noM hd3 md
    have gd4 : G4 D = none := by
      cases e : G4 D with
      | none => rfl
      | some u =>
        have := s4.newG D u gd3 e md
        rw [hd3] at this; cases this
    cases b with
    | false =>
      simp only [Bool.false_eq_true, if_false] at q4 ⊢
      exact ⟨G4, M4, acc, vs, (s2.trans s3).trans s4, (sg.trans s3.sub).trans s4.sub, hd4, t.mono (s3.sub.trans s4.sub), gd4, md4, by rw [hstep] at q4; exact q4⟩
    | true =>
      simp only [if_true] at q4 ⊢
      refine ⟨δ', G4, M4, _, _, s4.ok, er'.mono s4.sub, fun r M5 q5 v G5 H5 s5 rv => ?_, fun _ _ z => z.elim, q4⟩
      obtain ⟨G6, s6, dv⟩ := rv.adopt s5
      have hd6 : H5 D = some (.lst vs) := s6.keep D _ hd4 md4
      have md6 : M5 D = none := s6.noM hd4 md4
      have gd6 : G6 D = none := by
        cases e : G6 D with
        | none => rfl
        | some u =>
          have := s6.newG D u gd4 e md4
          rw [hd4] at this; cases this
      have sAll := ((s2.trans s3).trans s4).trans s6
      have tl := t.length
      refine ⟨vs, hd6, by omega, G6, M5, acc ++ [r.toD], vs ++ [v], ?_, ((sg.trans s3.sub).trans s4.sub).trans s6.sub, upd_same, (t.mono ((s3.sub.trans s4.sub).trans s6.sub)).snoc dv, gd6, md6, by rw [hstep] at q5; exact q5⟩
      have hD0 : H D = none := s1.dom D hD
      exact ⟨⟨fun a u e => by rw [upd_ne (fun z => by rw [z, gd6] at e; cases e)]; exact sAll.ok.sub a u e, sAll.ok.dis, fun a mo e => by
          have ha : a ≠ D := fun z => by rw [z, md6] at e; cases e
          exact (sAll.ok.mok a mo e).at_ (upd_ne ha)⟩, sAll.sub, fun a u e hm => by
          have ha : a ≠ D := fun z => by rw [z, hD0] at e; cases e
          rw [upd_ne ha]; exact sAll.keep a u e hm, sAll.newM, fun a e => by
          by_cases ha : a = D
          · rw [ha]; exact hD0
          · rw [upd_ne ha] at e; exact sAll.dom a e, sAll.newG⟩
  · have e : i = items.length := by omega
    subst e
    rw [List.drop_eq_nil_of_le (Nat.le_refl _)] at lp
    unfold compLoop at lp
    exact .inl ⟨wj.stop G2 M2 H2 _ s2.ok sg lp.1 rfl, hq _ _ lp.2 (.ref D) G2 H2 s2 ⟨D, vs, rfl, s1.dom D hD, hd, gd, md, t⟩⟩
theorem se_comp {elt tg iter : Expr} {ifs : List Expr} {scope : Scope} {own : List (Str × Nat)} {pos : Pos} {ie : E} {it : I} {cond : T} {is : List Nat} {one : Bool} (hc : X.calm = true) (hN : X.N.Nodup) (hi : SI Φ γ X W tg iter it)
    (ok : BlkOk X.N X.env.scope scope own)
    (hg : ∀ (s : Shared) (H : Hp) (C : Addr) (cl : List (Str × Addr)) (fp : List Addr), PG (X.blk s H scope (compEnvC scope cl C X.env) fp) tg (gT X.K is one))
    (ht : ∀ (s : Shared) (H : Hp) (C : Addr) (cl : List (Str × Addr)) (fp : List Addr), SC Φ γ (X.blk s H scope (compEnvC scope cl C X.env) fp) W0 ifs cond)
    (he : ∀ (s : Shared) (H : Hp) (C : Addr) (cl : List (Str × Addr)) (fp : List Addr), SE Φ γ (X.blk s H scope (compEnvC scope cl C X.env) fp) W0 elt ie)
    (hs : ∀ x, foldedSetIterable iter X.env x = pure x) (hown : ∀ i ∈ is, i ∈ own.map (·.2)) :
    SE Φ γ X W (.ListComp elt [⟨tg, iter, ifs, 0⟩] scope pos) (.comp ie is one (own.map (·.2)) it cond) := by
  obtain ⟨wi, pi, ri⟩ := hi
  exact ⟨_, pe_lc (te := tDE Φ γ X.K W0 ie) (tt := tDT Φ γ X.K W0 cond) hc hN pi ok hg ht (fun s H C cl fp => (he s H C cl fp).pe) hs, comp_read ri hown⟩
end
end DL
set_option linter.all false
set_option maxRecDepth 100000
set_option maxHeartbeats 2000000
namespace DL
open PySem L2
/-! ### statements -/
def noSliceE : Expr → Bool
  | .Slice .. => false
  | _ => true
/-- what the small form wants behind it is what is wanted in the layer -/
structure Sim (K : PySem.W.Frag) (W : WX) (G : Hp) (M : MS) (H : Hp) (N : Ends) (F : DE) : Prop where
  nx : ∀ δ' M', F.nx δ' M' → ∀ σ' G' H', Step K G M H G' M' H' → ER K G' σ' δ' → N.nx σ' H'
  rt : ∀ r M', F.rt r M' → ∀ v G' H', Step K G M H G' M' H' → Rv K H G' M' H' v r → N.rt v H'
  bk : ∀ δ' M', F.bk δ' M' → ∀ σ' G' H', Step K G M H G' M' H' → ER K G' σ' δ' → N.bk σ' H'
  ct : ∀ δ' M', F.ct δ' M' → ∀ σ' G' H', Step K G M H G' M' H' → ER K G' σ' δ' → N.ct σ' H'
  xc : ∀ x δ' M', F.xc x δ' M' → ∀ dA σ' G' H', Step K G M H G' M' H' → XRel K G' H' x dA → ER K G' σ' δ' → W x.cls dA σ' H'
section
variable {K : PySem.W.Frag} {W : WX} {G G1 : Hp} {M M1 : MS} {H H1 : Hp} {N : Ends} {F : DE}
theorem Sim.after (s : Step K G M H G1 M1 H1) (h : Sim K W G M H N F) : Sim K W G1 M1 H1 N F where
  nx := fun δ' M' q σ' G' H' st er => h.nx δ' M' q σ' G' H' (s.trans st) er
  rt := fun r M' q v G' H' st rv => h.rt r M' q v G' H' (s.trans st) (rv.back s)
  bk := fun δ' M' q σ' G' H' st er => h.bk δ' M' q σ' G' H' (s.trans st) er
  ct := fun δ' M' q σ' G' H' st er => h.ct δ' M' q σ' G' H' (s.trans st) er
  xc := fun x δ' M' q dA σ' G' H' st xr er => h.xc x δ' M' q dA σ' G' H' (s.trans st) xr er
theorem Sim.pz {σ : L2.St} {δ : DEnv} (h : Sim K W G M H N F) (er : ER K G σ δ) : ∀ x M', F.xc x δ M' → PostX K G M H W σ x M' :=
  fun x M' z dA G' H' st xr => h.xc x δ M' z dA σ G' H' st xr (er.mono st.sub)
end
section
variable (Φ : Fns) (γ : List D) (X : Cx) (W : WX)
def SS (st : Stmt) (ir : S) : Prop := ∃ t, PS X st t ∧ ∀ (σ : L2.St) (δ : DEnv) (G : Hp) (M : MS) (H : Hp) (N : Ends) (F : DE), OkS X.K G M H → ER X.K G σ δ → Sim X.K W G M H N F → execS Φ γ ir F δ M → t N σ H
def SSs (sts : List Stmt) (ir : Ss) : Prop := ∃ t, PSs X sts t ∧ ∀ (σ : L2.St) (δ : DEnv) (G : Hp) (M : MS) (H : Hp) (N : Ends) (F : DE), OkS X.K G M H → ER X.K G σ δ → Sim X.K W G M H N F → execSs Φ γ ir F δ M → t N σ H
end
section
variable {K : PySem.W.Frag} {G G1 : Hp} {M M1 : MS} {H H1 : Hp}
/-- a list of nobody's becomes one with an identity -/
theorem Step.own (s : Step K G M H G1 M1 H1) {p : Addr} {vs : List V} {ds : List D} (h0 : H p = none) (h1 : H1 p = some (.lst vs)) (hg : G1 p = none) (hm : M1 p = none) (t : DvAll K G1 vs ds) : Step K G M H G1 (updM M1 p (.lst ds)) H1 := by
  refine ⟨⟨s.ok.sub, fun a mo e => ?_, fun a mo e => ?_⟩, s.sub, s.keep, fun a mo hma e => ?_, s.dom, s.newG⟩
  · by_cases ha : a = p
    · rw [ha]; exact hg
    · rw [updM_ne ha] at e; exact s.ok.dis a mo e
  · by_cases ha : a = p
    · subst ha
      rw [updM_same] at e
      cases e
      exact ⟨vs, h1, t⟩
    · rw [updM_ne ha] at e
      exact s.ok.mok a mo e
  · by_cases ha : a = p
    · rw [ha]; exact h0
    · rw [updM_ne ha] at e; exact s.newM a mo hma e
/-- a list with an identity is changed -/
theorem Step.mut (s : Step K G M H G1 M1 H1) {p : Addr} {ds ds' : List D} {vs : List V} (hm : M1 p = some (.lst ds)) (t : DvAll K G1 vs ds') : Step K G M H G1 (updM M1 p (.lst ds')) (upd H1 p (.lst vs)) := by
  have hg := s.ok.dis p _ hm
  obtain ⟨u, hu⟩ := (s.ok.mok p _ hm).there
  refine ⟨⟨fun a o e => ?_, fun a mo e => ?_, fun a mo e => ?_⟩, s.sub, fun a o e hma => ?_, fun a mo hma e => ?_, fun a e => ?_, s.newG⟩
  · rw [upd_ne (fun z => by rw [z, hg] at e; cases e)]; exact s.ok.sub a o e
  · by_cases ha : a = p
    · rw [ha]; exact hg
    · rw [updM_ne ha] at e; exact s.ok.dis a mo e
  · by_cases ha : a = p
    · subst ha
      rw [updM_same] at e
      cases e
      exact ⟨vs, upd_same, t⟩
    · rw [updM_ne ha] at e
      exact (s.ok.mok a mo e).at_ (upd_ne ha)
  · have q := s.keep a o e hma
    by_cases ha : a = p
    · subst ha
      have z := s.noM e hma
      rw [hm] at z; cases z
    · rw [upd_ne ha]; exact q
  · by_cases ha : a = p
    · subst ha; exact s.newM a _ hma hm
    · rw [updM_ne ha] at e; exact s.newM a mo hma e
  · by_cases ha : a = p
    · subst ha; rw [upd_same] at e; cases e
    · rw [upd_ne ha] at e; exact s.dom a e
end
section
variable {Φ : Fns} {γ : List D} {X : Cx} {W : WX} {pos pos' : Pos} {e o i : Expr} {ie io ii : E}
theorem sss_nil : SSs Φ γ X W [] .nil := ⟨_, pss_nil, fun σ δ G M H N F ok er sim h => by unfold execSs at h; exact sim.nx _ _ h σ G H (Step.refl ok) er⟩
theorem sss_cons {st : Stmt} {sts : List Stmt} {ir : S} {irs : Ss} (h1 : SS Φ γ X W st ir) (h2 : SSs Φ γ X W sts irs) : SSs Φ γ X W (st :: sts) (.cons ir irs) := by
  obtain ⟨t1, p1, r1⟩ := h1
  obtain ⟨t2, p2, r2⟩ := h2
  refine ⟨_, pss_cons p1 p2, fun σ δ G M H N F ok er sim h => ?_⟩
  unfold execSs at h
  exact r1 σ δ G M H _ { F with nx := fun δ' M' => execSs Φ γ irs F δ' M' } ok er ⟨fun δ' M' q σ' G' H' st er' => r2 σ' δ' G' M' H' N F st.ok er' (sim.after st) q, sim.rt, sim.bk, sim.ct, sim.xc⟩ h
theorem ss_pass : SS Φ γ X W (.Pass pos) .pass := ⟨_, ps_pass, fun σ δ G M H N F ok er sim h => by unfold execS at h; exact sim.nx _ _ h σ G H (Step.refl ok) er⟩
theorem ss_brk : SS Φ γ X W (.Break pos) .brk := ⟨_, ps_break, fun σ δ G M H N F ok er sim h => by unfold execS at h; exact sim.bk _ _ h σ G H (Step.refl ok) er⟩
theorem ss_cnt : SS Φ γ X W (.Continue pos) .cnt := ⟨_, ps_continue, fun σ δ G M H N F ok er sim h => by unfold execS at h; exact sim.ct _ _ h σ G H (Step.refl ok) er⟩
theorem ss_retN : SS Φ γ X W (.Return none pos) .retN := ⟨_, ps_retN, fun σ δ G M H N F ok er sim h => by unfold execS at h; exact sim.rt _ _ h _ G H (Step.refl ok) .non⟩
theorem ss_ret (he : SE Φ γ X W e ie) : SS Φ γ X W (.Return (some e) pos) (.ret ie) := by
  obtain ⟨t1, p1, r1⟩ := he
  refine ⟨_, ps_ret p1, fun σ δ G M H N F ok er sim h => ?_⟩
  unfold execS at h
  exact r1 σ δ G M H _ _ _ ok er (fun r M' q v G' H' s rv => sim.rt r M' q v G' H' s rv) (sim.pz er) h
theorem ss_exp (he : SE Φ γ X W e ie) (hs : swapsWith e none pos.line X.env = pure false) : SS Φ γ X W (.Expr e pos) (.exp ie) := by
  obtain ⟨t1, p1, r1⟩ := he
  refine ⟨_, ps_expr p1 hs, fun σ δ G M H N F ok er sim h => ?_⟩
  unfold execS at h
  show t1 σ H _
  refine run_e r1 ok er (sim.pz er) h fun r M1 v G1 H1 q s1 dv => ?_
  exact sim.nx _ _ q σ G1 H1 s1 (er.mono s1.sub)
theorem ss_doc {x j p} : SS Φ γ X W (.Expr (.Constant (.str x) j p) pos) .pass := ⟨_, ps_doc, fun σ δ G M H N F ok er sim h => by unfold execS at h; exact sim.nx _ _ h σ G H (Step.refl ok) er⟩
/-- a value goes to a name -/
theorem set_read {t1 : TE} {i : Nat} (r1 : ∀ (σ : L2.St) (δ : DEnv) (G : Hp) (M : MS) (H : Hp) (Q : VK) (Qd : KR) (Zd : KX), OkS X.K G M H → ER X.K G σ δ →
      (∀ r M', Qd r M' → PostV X.K G M H Q r M') → (∀ x M', Zd x M' → PostX X.K G M H W σ x M') → evalE Φ γ ie δ M Qd Zd → t1 σ H Q)
    (σ : L2.St) (δ : DEnv) (G : Hp) (M : MS) (H : Hp) (N : Ends) (F : DE) (ok : OkS X.K G M H) (er : ER X.K G σ δ) (sim : Sim X.K W G M H N F) (h : execS Φ γ (.set i ie) F δ M) : tAsg t1 (gName i) N σ H := by
  unfold execS at h
  show t1 σ H _
  refine run_e r1 ok er (sim.pz er) h fun r M1 v G1 H1 q s1 dv => ?_
  exact sim.nx _ _ q _ G1 H1 s1 ((er.mono s1.sub).set i dv)
theorem setM_read {t1 : TE} {i : Nat} (r1 : ∀ (σ : L2.St) (δ : DEnv) (G : Hp) (M : MS) (H : Hp) (Q : VK) (Qd : KR) (Zd : KX), OkS X.K G M H → ER X.K G σ δ →
      (∀ r M', Qd r M' → PostV X.K G M H Q r M') → (∀ x M', Zd x M' → PostX X.K G M H W σ x M') → evalE Φ γ ie δ M Qd Zd → t1 σ H Q)
    (σ : L2.St) (δ : DEnv) (G : Hp) (M : MS) (H : Hp) (N : Ends) (F : DE) (ok : OkS X.K G M H) (er : ER X.K G σ δ) (sim : Sim X.K W G M H N F) (h : execS Φ γ (.setM i ie) F δ M) : tAsg t1 (gName i) N σ H := by
  unfold execS at h
  refine r1 σ δ G M H _ _ _ ok er (fun r M1 q v G1 H1 s1 rv => ?_) (sim.pz er) h
  obtain ⟨ds, rfl, q⟩ := q
  obtain ⟨p, vs, rfl, h0, h1, hg, hm, t⟩ := rv
  exact sim.nx _ _ (q p hm) _ G1 H1 (s1.own h0 h1 hg hm t) ((er.mono s1.sub).set i (.obj p))
theorem ss_set {i : Nat} {x : Str} (hN : X.N.Nodup) (hi : X.N[i]? = some x) (hx : Loc X.env.scope x) (he : SE Φ γ X W e ie) (hs : swapsWith e (some (.Name x pos')) pos.line X.env = pure false) (hf : X.fn x = true ∨ X.env.scope.names.lookup x = some .local) :
    SS Φ γ X W (.Assign [.Name x pos'] e pos) (.set i ie) := by
  obtain ⟨t1, p1, r1⟩ := he
  exact ⟨_, ps_set hN hi hx p1 hs hf, set_read r1⟩
theorem ss_setM {i : Nat} {x : Str} (hN : X.N.Nodup) (hi : X.N[i]? = some x) (hx : Loc X.env.scope x) (he : SE Φ γ X W e ie) (hs : swapsWith e (some (.Name x pos')) pos.line X.env = pure false) (hf : X.fn x = true ∨ X.env.scope.names.lookup x = some .local) :
    SS Φ γ X W (.Assign [.Name x pos'] e pos) (.setM i ie) := by
  obtain ⟨t1, p1, r1⟩ := he
  exact ⟨_, ps_set hN hi hx p1 hs hf, setM_read r1⟩
/-- name = [..], stored within the comprehension's own frame -/
theorem ss_setLc {i : Nat} {y : Str} {py spos : Pos} {elt tg iter : Expr} {ifs : List Expr} {scope : Scope} {own : List (Str × Nat)} {iel : E} {it : I} {cond : T} {is : List Nat} {one : Bool} (hc : X.calm = true) (hN : X.N.Nodup)
    (hy : X.N[i]? = some y) (hyl : X.env.scope.names.lookup y = some .local) (hsw : swapsWith (.ListComp elt [⟨tg, iter, ifs, 0⟩] scope pos) (some (.Name y py)) spos.line X.env = pure true) (hi : SI Φ γ X W tg iter it)
    (ok : BlkOk X.N X.env.scope scope own)
    (hg : ∀ (s : Shared) (H : Hp) (C : Addr) (cl : List (Str × Addr)) (fp : List Addr), PG (X.blk s H scope (compEnvC scope cl C X.env) fp) tg (gT X.K is one))
    (ht : ∀ (s : Shared) (H : Hp) (C : Addr) (cl : List (Str × Addr)) (fp : List Addr), SC Φ γ (X.blk s H scope (compEnvC scope cl C X.env) fp) W0 ifs cond)
    (he : ∀ (s : Shared) (H : Hp) (C : Addr) (cl : List (Str × Addr)) (fp : List Addr), SE Φ γ (X.blk s H scope (compEnvC scope cl C X.env) fp) W0 elt iel)
    (hs : ∀ x, foldedSetIterable iter X.env x = pure x) (hown : ∀ i ∈ is, i ∈ own.map (·.2)) :
    SS Φ γ X W (.Assign [.Name y py] (.ListComp elt [⟨tg, iter, ifs, 0⟩] scope pos) spos) (.set i (.comp iel is one (own.map (·.2)) it cond)) ∧
    SS Φ γ X W (.Assign [.Name y py] (.ListComp elt [⟨tg, iter, ifs, 0⟩] scope pos) spos) (.setM i (.comp iel is one (own.map (·.2)) it cond)) := by
  obtain ⟨wi, pi, ri⟩ := hi
  have p := ps_setLc (te := tDE Φ γ X.K W0 iel) (tt := tDT Φ γ X.K W0 cond) hc hN hy hyl hsw pi ok hg ht (fun s H C cl fp => (he s H C cl fp).pe) hs
  exact ⟨⟨_, p, set_read (comp_read ri hown)⟩, ⟨_, p, setM_read (comp_read ri hown)⟩⟩
/-- x op= e -/
theorem aug_ok (op : Operator) : OpR X (inplaceOp op) (fun x y H Q => (∃ l b xs zs, op = .Add ∧ x = .ref l ∧ y = .ref b ∧ H l = some (.lst xs) ∧ H b = some (.lst zs) ∧ xs.length + zs.length ≤ sizeLine ∧ Q (.ref l) (upd H l (.lst (xs ++ zs)))) ∨
    ∃ (G : Hp) (xd yd z : D), Dv X.K G x xd ∧ Dv X.K G y yd ∧ augD op xd yd = some z ∧ ∀ v, Dv X.K G v z → Q v H) := by
  intro pins s σ H x y v u Q I rx ry h
  rcases h with ⟨l, b, xs, zs, rfl, h⟩ | ⟨G, xd, yd, z, hx, hy, e, q⟩
  · exact iop_ext pins s σ H x y v u Q I rx ry ⟨l, b, xs, zs, h⟩
  · unfold augD at e
    split at e
    · cases hx; cases hy; cases e
      exact iop_add pins s σ H _ _ v u Q I rx ry ⟨_, _, rfl, rfl, q _ (.int _)⟩
    · cases hx; cases hy; cases e
      exact iop_sub pins s σ H _ _ v u Q I rx ry ⟨_, _, rfl, rfl, q _ (.int _)⟩
    · cases hx; cases hy
      split at e
      · cases e; rename_i hz
        exact iop_add_str pins s σ H _ _ v u Q I rx ry ⟨_, _, rfl, rfl, hz, q _ (.str _)⟩
      · cases e
    · cases e
theorem ss_aug {i : Nat} {x : Str} {op : Operator} (hN : X.N.Nodup) (hi : X.N[i]? = some x) (hx : Loc X.env.scope x) (he : SE Φ γ X W e ie) (hf : X.fn x = true ∨ X.env.scope.names.lookup x = some .local) :
    SS Φ γ X W (.AugAssign (.Name x pos') op e pos) (.aug i op ie) := by
  obtain ⟨t1, p1, r1⟩ := he
  refine ⟨_, ps_aug hN hi hx p1 (aug_ok op) hf, fun σ δ G M H N F ok er sim h => ?_⟩
  unfold execS at h
  obtain ⟨d, hd, h⟩ := h
  obtain ⟨v, hv, dv⟩ := er.at_ i d hd
  refine ⟨v, hv, ?_⟩
  refine run_e r1 ok er (sim.pz er) h fun r M1 w G1 H1 q s1 dw => ?_
  rcases q with ⟨p, xs, ys, rfl, rfl, hm, hy, hz, q⟩ | ⟨z, ez, q⟩
  · cases dv
    have vw := dw.vw s1.ok
    rw [hy] at vw
    obtain ⟨vs, h1, t1⟩ := s1.ok.mok p _ hm
    cases vw with
    | lst h2 t2 =>
      refine .inl ⟨p, _, vs, _, rfl, rfl, rfl, h1, h2, by rw [t1.length, t2.length]; exact hz, ?_⟩
      refine sim.nx _ _ q _ G1 _ (s1.mut hm (t1.append t2)) ?_
      have er' := (er.mono s1.sub).set i (.obj p)
      have e2 : δ.set i (some (.obj p)) = δ := by
        apply List.ext_getElem?
        intro j
        by_cases hj : i = j
        · subst hj
          rw [List.getElem?_set_self', hd]; rfl
        · rw [List.getElem?_set_ne hj]
      rw [e2] at er'
      exact er'
  · refine .inr ⟨G1, d, _, z, dv.mono s1.sub, dw, ez, fun v' dv' => ?_⟩
    exact sim.nx _ _ q _ G1 H1 s1 ((er.mono s1.sub).set i dv')
/-- o[i] = e -/
theorem ss_sto {tpos : Pos} (ho : SE Φ γ X W o io) (hi : SE Φ γ X W i ii) (he : SE Φ γ X W e ie)
    (ha : ∀ v, assign (.Subscript o i tpos) X.env v = (do
      let ov ← holding [v] (eval o X.env)
      let iv ← holding [v, ov] (eval i X.env)
      standAt tpos
      holding [v, ov, iv] (setItem ov iv v)
      release [v, ov, iv] []))
    (hs : swapsWithSole [.Subscript o i tpos] e pos.line X.env = pure false) (hw : swappedStores [.Subscript o i tpos] e X.env = pure none)
    (h1 : (assignEach [.Subscript o i tpos] X.env).map (·.2) = [assign (.Subscript o i tpos) X.env]) : SS Φ γ X W (.Assign [.Subscript o i tpos] e pos) (.sto io ii ie) := by
  obtain ⟨t1, p1, r1⟩ := ho
  obtain ⟨t2, p2, r2⟩ := hi
  obtain ⟨t3, p3, r3⟩ := he
  refine ⟨_, ps_asg p3 (pg_sub p1 p2 set_list ha) hs hw h1, fun σ δ G M H N F ok er sim h => ?_⟩
  unfold execS at h
  show t3 σ H _
  refine run_e r3 ok er (sim.pz er) h fun r M1 v G1 H1 q s1 dv => ?_
  show t1 σ H1 _
  refine run_e r1 s1.ok (er.mono s1.sub) ((sim.after s1).pz (er.mono s1.sub)) q fun r2' M2 v2 G2 H2 q2 s2 dv2 => ?_
  have s12 := s1.trans s2
  show t2 σ H2 _
  refine run_e r2 s2.ok (er.mono s12.sub) ((sim.after s12).pz (er.mono s12.sub)) q2 fun r3' M3 v3 G3 H3 q3 s3 dv3 => ?_
  obtain ⟨p, ds, k, j, e1, hm, e2, hj, q⟩ := q3
  rw [e1] at dv2
  rw [e2] at dv3
  cases dv2; cases dv3
  have s13 := s12.trans s3
  obtain ⟨vs, h1, t1⟩ := s13.ok.mok p _ hm
  refine ⟨p, vs, k, j, rfl, rfl, h1, by rw [t1.length]; exact hj, ?_⟩
  exact sim.nx _ _ q σ G3 _ (s13.mut hm (t1.set (dv.mono (s2.sub.trans s3.sub)) j)) (er.mono s13.sub)
/-- o[i] op= e -/
def rGetL : V → V → Hp → VK → Prop := fun o i H Q => ∃ p xs k v, o = .ref p ∧ i = .int k ∧ H p = some (.lst xs) ∧ atI xs k = some v ∧ Q v H
theorem get_list : PGet X rGetL := by
  intro pins s σ H o i ov iv Q I ro ri h
  obtain ⟨p, xs, k, v, rfl, rfl, hp, ha, q⟩ := h
  cases ro
  obtain ⟨t, rfl⟩ := ri
  obtain ⟨its, r, pl, hz⟩ := I.list (SqL.of hp)
  obtain ⟨j, h1, h2, h3, h4, h5⟩ := atI_get ha
  obtain ⟨w, ew, rw'⟩ := r.get h2
  have hl : xs.length = its.length := r.length
  have big := line63
  have fin : EP X pins σ Q w s := ⟨v, H, I, rw', q⟩
  rcases Int.lt_or_le k 0 with h0 | h0
  · have ej : (k + (its.toArray.size : Int)).toNat = j := by
      rw [seqIndex_neg (by omega) h4] at h1
      rw [List.size_toArray, ← hl]
      exact Option.some.inj h1
    exact wpAny_getItem_list_neg pl.isList (by omega) (by rw [List.size_toArray] <;> omega) (by omega) (by rw [ej]; simpa using ew) fin
  · have ej : k.toNat = j := by
      rw [seqIndex_of h0 h5] at h1
      exact Option.some.inj h1
    exact wpAny_getItem_list pl.isList h0 (by omega) (by rw [ej]; simpa using ew) fin
theorem ss_augS {tpos : Pos} {op : Operator} (ho : SE Φ γ X W o io) (hi : SE Φ γ X W i ii) (he : SE Φ γ X W e ie) (hs : noSliceE i = true) : SS Φ γ X W (.AugAssign (.Subscript o i tpos) op e pos) (.augS io ii op ie) := by
  obtain ⟨t1, p1, r1⟩ := ho
  obtain ⟨t2, p2, r2⟩ := hi
  obtain ⟨t3, p3, r3⟩ := he
  refine ⟨_, ps_augS p1 p2 get_list p3 (aug_ok op) set_list (fun ov iv new => by cases i <;> first | rfl | cases hs), fun σ δ G M H N F ok er sim h => ?_⟩
  unfold execS at h
  show t1 σ H _
  refine run_e r1 ok er (sim.pz er) h fun r M1 v G1 H1 q s1 dv => ?_
  show t2 σ H1 _
  refine run_e r2 s1.ok (er.mono s1.sub) ((sim.after s1).pz (er.mono s1.sub)) q fun r2' M2 v2 G2 H2 q2 s2 dv2 => ?_
  have s12 := s1.trans s2
  obtain ⟨p, k, e1, e2, ds, d, hm, hat, q⟩ := q2
  rw [e1] at dv
  rw [e2] at dv2
  cases dv; cases dv2
  obtain ⟨vs, h1, t1⟩ := s12.ok.mok p _ hm
  obtain ⟨w, hw, dw⟩ := atI_all t1 hat
  refine ⟨p, vs, k, w, rfl, rfl, h1, hw, ?_⟩
  show t3 σ H2 _
  refine run_e r3 s2.ok (er.mono s12.sub) ((sim.after s12).pz (er.mono s12.sub)) q fun r3' M3 v3 G3 H3 q3 s3 dv3 => ?_
  obtain ⟨z, ds', j, ez, hm3, hj, q⟩ := q3
  have s13 := s12.trans s3
  obtain ⟨vs', h1', t1'⟩ := s13.ok.mok p _ hm3
  refine .inr ⟨G3, d, _, z, dw.mono s3.sub, dv3, ez, fun v' dv' => ?_⟩
  refine ⟨p, vs', k, j, rfl, rfl, h1', by rw [t1'.length]; exact hj, ?_⟩
  exact sim.nx _ _ q σ G3 _ (s13.mut hm3 (t1'.set dv' j)) (er.mono s13.sub)
theorem tyV_obj {K : PySem.W.Frag} {G : Hp} {M : MS} {H : Hp} {p : Addr} {ds : List D} (o : OkS K G M H) (h : M p = some (.lst ds)) : tyV K "list" (.ref p) H := by
  obtain ⟨vs, h1, _⟩ := o.mok p _ h
  exact .inl ⟨rfl, vs, SqL.of h1⟩
/-- o.append(e) -/
theorem ss_app {apos cpos : Pos} (ho : SE Φ γ X W o io) (he : SE Φ γ X W e ie) (hbase : attributeBase o "append" X.env (eval o X.env) = eval o X.env)
    (hfew : ((backTo cpos (starEach [e] X.env)).all (fun x => !x.1) && (backToKw cpos (keywordEach [] X.env)).all (fun x => x.1.isSome) && decide (([e] : List Expr).length + ([] : List Keyword).length + (if ([] : List Keyword).isEmpty then 0 else 1) < 30)) = true)
    (hline : (apos.endLine == cpos.line) = true) (hs : starEach [e] X.env = (false, eval e X.env) :: starEach [] X.env) : SS Φ γ X W (.Expr (.Call (.Attribute o "append" apos) [e] [] cpos) pos) (.app io ie) := by
  obtain ⟨t1, p1, r1⟩ := ho
  obtain ⟨t2, p2, r2⟩ := he
  refine ⟨_, ps_expr (pe_bm PySem.F.plainAttrs_list PySem.F.slot_list_append PySem.F.type_list_append mt_append p1 (pa_cons p2 pa_nil hs) hbase hfew hline hs rfl) rfl, fun σ δ G M H N F ok er sim h => ?_⟩
  unfold execS at h
  show t1 σ H _
  refine run_e r1 ok er (sim.pz er) h fun r M1 v G1 H1 q s1 dv => ?_
  obtain ⟨p, e1, ⟨ds0, hm0⟩, q⟩ := q
  rw [e1] at dv
  cases dv
  refine ⟨tyV_obj s1.ok hm0, ?_⟩
  show t2 σ H1 _
  refine run_e r2 s1.ok (er.mono s1.sub) ((sim.after s1).pz (er.mono s1.sub)) q fun r2' M2 v2 G2 H2 q2 s2 dv2 => ?_
  obtain ⟨ds, hm, hz, q⟩ := q2
  have s12 := s1.trans s2
  obtain ⟨vs, h1, t1⟩ := s12.ok.mok p _ hm
  refine ⟨p, vs, v2, rfl, rfl, h1, by rw [t1.length]; exact hz, ?_⟩
  exact sim.nx _ _ q σ G2 _ (s12.mut hm (t1.snoc dv2)) (er.mono s12.sub)
/-- o.insert(i, e) -/
theorem ss_ins {apos cpos : Pos} (ho : SE Φ γ X W o io) (hi : SE Φ γ X W i ii) (he : SE Φ γ X W e ie) (hbase : attributeBase o "insert" X.env (eval o X.env) = eval o X.env)
    (hfew : ((backTo cpos (starEach [i, e] X.env)).all (fun x => !x.1) && (backToKw cpos (keywordEach [] X.env)).all (fun x => x.1.isSome) && decide (([i, e] : List Expr).length + ([] : List Keyword).length + (if ([] : List Keyword).isEmpty then 0 else 1) < 30)) = true)
    (hline : (apos.endLine == cpos.line) = true) (hs : starEach [i, e] X.env = (false, eval i X.env) :: starEach [e] X.env) (hs2 : starEach [e] X.env = (false, eval e X.env) :: starEach [] X.env)
    (hpl : (backTo cpos (starEach [e] X.env)).any (·.1) = false) : SS Φ γ X W (.Expr (.Call (.Attribute o "insert" apos) [i, e] [] cpos) pos) (.ins io ii ie) := by
  obtain ⟨t1, p1, r1⟩ := ho
  obtain ⟨t2, p2, r2⟩ := hi
  obtain ⟨t3, p3, r3⟩ := he
  refine ⟨_, ps_expr (pe_bm PySem.F.plainAttrs_list PySem.F.slot_list_insert PySem.F.type_list_insert mt_insert p1 (pa_cons p2 (pa_cons p3 pa_nil hs2) hs) hbase hfew hline hs hpl) rfl, fun σ δ G M H N F ok er sim h => ?_⟩
  unfold execS at h
  show t1 σ H _
  refine run_e r1 ok er (sim.pz er) h fun r M1 v G1 H1 q s1 dv => ?_
  obtain ⟨p, e1, ⟨ds0, hm0⟩, q⟩ := q
  rw [e1] at dv
  cases dv
  refine ⟨tyV_obj s1.ok hm0, ?_⟩
  show t2 σ H1 _
  refine run_e r2 s1.ok (er.mono s1.sub) ((sim.after s1).pz (er.mono s1.sub)) q fun r2' M2 v2 G2 H2 q2 s2 dv2 => ?_
  have s12 := s1.trans s2
  show t3 σ H2 _
  refine run_e r3 s2.ok (er.mono s12.sub) ((sim.after s12).pz (er.mono s12.sub)) q2 fun r3' M3 v3 G3 H3 q3 s3 dv3 => ?_
  obtain ⟨ds, k, hm, e2, k0, k1, hz, q⟩ := q3
  rw [e2] at dv2
  cases dv2
  have s13 := s12.trans s3
  obtain ⟨vs, h1, t1⟩ := s13.ok.mok p _ hm
  refine ⟨p, vs, k, v3, rfl, rfl, h1, by rw [t1.length]; exact hz, k0, k1, ?_⟩
  exact sim.nx _ _ q σ G3 _ (s13.mut hm (((t1.take _).append (.one dv3)).append (t1.drop _))) (er.mono s13.sub)
theorem ss_iff {c : Expr} {a b : List Stmt} {t : T} {ia ib : Ss} (hc : ST Φ γ X W c t) (ha : SSs Φ γ X W a ia) (hb : SSs Φ γ X W b ib) : SS Φ γ X W (.If c a b pos) (.iff t ia ib) := by
  obtain ⟨t1, p1, r1⟩ := hc
  obtain ⟨t2, p2, r2⟩ := ha
  obtain ⟨t3, p3, r3⟩ := hb
  refine ⟨_, ps_if p1 p2 p3, fun σ δ G M H N F ok er sim h => ?_⟩
  unfold execS at h
  refine r1 σ δ G M H _ _ _ ok er (fun k M1 q G1 H1 s1 => ?_) (sim.pz er) h
  cases k with
  | true =>
    simp only [if_true] at q ⊢
    exact r2 σ δ G1 M1 H1 N F s1.ok (er.mono s1.sub) (sim.after s1) q
  | false =>
    simp only [Bool.false_eq_true, if_false] at q ⊢
    exact r3 σ δ G1 M1 H1 N F s1.ok (er.mono s1.sub) (sim.after s1) q
theorem ss_for {tg iter : Expr} {body : List Stmt} {is : List Nat} {one : Bool} {it : I} {ib : Ss} (hp : PassesOwn (model X.prog X.w) X.A X.env X.xe) (hc : X.calm = true) (hi : SI Φ γ X W tg iter it) (hg : PG X tg (gT X.K is one)) (hb : SSs Φ γ X W body ib)
    (hs : ∀ x, foldedSetIterable iter X.env x = pure x) : SS Φ γ X W (.For tg iter body [] pos) (.for_ is one it ib) := by
  obtain ⟨wi, pi, ri⟩ := hi
  obtain ⟨tb, pb, rb⟩ := hb
  refine ⟨_, ps_for hp hc pi hg pb hs, fun σ δ G M H N F ok er sim h => ?_⟩
  unfold execS at h
  refine ri σ δ G M H _ _ _ ok er (fun src items M1 q J G1 H1 s1 wj => ?_) (sim.pz er) h
  refine ⟨fun i m σ2 H2 => m = items.length - i ∧ i ≤ items.length ∧ ∃ (G2 : Hp) (M2 : MS) (δ2 : DEnv), Step X.K G M H G2 M2 H2 ∧ Sub G1 G2 ∧ ER X.K G2 σ2 δ2 ∧
      forLoop src (fun d δ' M' next => ∃ δ2, bindT δ' is one d = some δ2 ∧ execSs Φ γ ib { F with nx := next, ct := next, bk := F.nx } δ2 M') F.nx (items.drop i) δ2 M2,
    ⟨items.length, by simp, Nat.zero_le _, G1, M1, δ, s1, Sub.refl G1, er.mono s1.sub, by simpa using q⟩, ?_⟩
  rintro i m σ2 H2 ⟨rfl, hi, G2, M2, δ2, s2, sg, er2, lp⟩
  by_cases hlt : i < items.length
  · rw [List.drop_eq_getElem_cons hlt] at lp
    unfold forLoop at lp
    obtain ⟨sm, δ3, hb, lp⟩ := lp
    refine .inr ⟨wj.go G2 M2 H2 i s2.ok sg sm hlt, fun σ' H' => ∃ (G3 : Hp) (M3 : MS) (δ3 : DEnv), Step X.K G M H G3 M3 H' ∧ Sub G1 G3 ∧ ER X.K G3 σ' δ3 ∧
      forLoop src (fun d δ' M' next => ∃ δ2, bindT δ' is one d = some δ2 ∧ execSs Φ γ ib { F with nx := next, ct := next, bk := F.nx } δ2 M') F.nx (items.drop (i + 1)) δ3 M3, fun σ' H' hH => ⟨items.length - (i + 1), by omega, rfl, hlt, hH⟩, fun x H3 y => ?_⟩
    obtain ⟨d, G3, ed, s3, dx⟩ := wj.yld G2 M2 H2 i x H3 s2.ok sg sm hlt y
    have ed' : items[i] = d := by
      have := List.getElem?_eq_getElem hlt
      rw [this] at ed
      exact Option.some.inj ed
    rw [ed'] at hb
    have s23 := s2.trans s3
    refine gT_ok s3.ok (er2.mono s3.sub) dx hb fun σ' er' _ => ?_
    have sim' := sim.after s23
    generalize hnx : forLoop src (fun d δ' M' next => ∃ δ2, bindT δ' is one d = some δ2 ∧ execSs Φ γ ib { F with nx := next, ct := next, bk := F.nx } δ2 M') F.nx (items.drop (i + 1)) = nx at lp ⊢
    refine rb σ' δ3 G3 M2 H3 _ { F with nx := nx, ct := nx, bk := F.nx } s3.ok er' ⟨fun δ' M' q σ4 G4 H4 s4 er4 => ?_, sim'.rt, fun δ' M' q σ4 G4 H4 s4 er4 => sim'.nx δ' M' q σ4 G4 H4 s4 er4, fun δ' M' q σ4 G4 H4 s4 er4 => ?_, sim'.xc⟩ lp
    · exact ⟨G4, M', δ', s23.trans s4, (sg.trans s3.sub).trans s4.sub, er4, q⟩
    · exact ⟨G4, M', δ', s23.trans s4, (sg.trans s3.sub).trans s4.sub, er4, q⟩
  · have e : i = items.length := by omega
    subst e
    rw [List.drop_eq_nil_of_le (Nat.le_refl _)] at lp
    unfold forLoop at lp
    exact .inl ⟨wj.stop G2 M2 H2 _ s2.ok sg lp.1 rfl, sim.nx _ _ lp.2 σ2 G2 H2 s2 er2⟩
end
end DL
set_option linter.all false
set_option maxRecDepth 100000
set_option maxHeartbeats 2000000
namespace DL
open PySem L2
/-! ### from Python's syntax to the small language -/
structure CE where
  N : List Str
  fns : List Str
  gls : List Str
  bls : List Str
  mu : List Nat
def idxIn : List Str → Str → Option Nat
  | [], _ => none
  | y :: r, x => if y = x then some 0 else (idxIn r x).map (· + 1)
theorem idxIn_get : ∀ {l : List Str} {x : Str} {i : Nat}, idxIn l x = some i → l[i]? = some x
  | [], _, _, h => by cases h
  | y :: r, x, i, h => by
    unfold idxIn at h
    split at h
    · cases h; rename_i e; rw [e]; rfl
    · cases e : idxIn r x with
      | none => rw [e] at h; cases h
      | some j =>
        rw [e] at h
        cases h
        exact idxIn_get (l := r) e
def vis (sc : Scope) (x : Str) : Bool := match sc.names.lookup x with
  | some .local => true
  | some .cell => true
  | some .free => true
  | _ => false
theorem vis_ok {sc : Scope} {x : Str} (h : vis sc x = true) : Vis sc x := by
  unfold vis at h
  split at h
  · exact .inl (by assumption)
  · exact .inr (.inl (by assumption))
  · exact .inr (.inr (by assumption))
  · cases h
def isLocal (sc : Scope) (x : Str) : Bool := match sc.names.lookup x with
  | some .local => true
  | _ => false
theorem isLocal_ok {sc : Scope} {x : Str} (h : isLocal sc x = true) : sc.names.lookup x = some .local := by
  unfold isLocal at h
  split at h
  · assumption
  · cases h
def isCell (sc : Scope) (x : Str) : Bool := match sc.names.lookup x with
  | some .cell => true
  | _ => false
theorem isCell_ok {sc : Scope} {x : Str} (h : isCell sc x = true) : sc.names.lookup x = some .cell := by
  unfold isCell at h
  split at h
  · assumption
  · cases h
def isGl (sc : Scope) (x : Str) : Bool := match sc.names.lookup x with
  | some .globalImplicit => true
  | _ => false
theorem isGl_ok {sc : Scope} {x : Str} (h : isGl sc x = true) : sc.names.lookup x = some .globalImplicit := by
  unfold isGl at h
  split at h
  · assumption
  · cases h
def plainName (x : Str) : Bool := !(x == ("__debug__" : Str)) && !(x == ("__classdict__" : Str))
theorem plainName_ok {x : Str} (h : plainName x = true) : (x == ("__debug__" : Str)) = false ∧ (x == ("__classdict__" : Str)) = false := by
  unfold plainName at h
  simp only [Bool.and_eq_true, Bool.not_eq_true'] at h
  exact h
def noStar : Expr → Bool
  | .Starred .. => false
  | _ => true
theorem star_cons {e : Expr} (h : noStar e = true) (es : List Expr) (env : Env) : starEach (e :: es) env = (false, eval e env) :: starEach es env := by
  cases e <;> first | rfl | cases h
def noStars (es : List Expr) : Bool := es.all noStar
theorem stars_any {pos : Pos} {env : Env} : ∀ {es : List Expr}, noStars es = true → (backTo pos (starEach es env)).any (·.1) = false
  | [], _ => rfl
  | e :: es, h => by
    unfold noStars at h
    simp only [List.all_cons, Bool.and_eq_true] at h
    rw [star_cons h.1]
    show ((false || (backTo pos (starEach es env)).any (·.1))) = false
    rw [Bool.false_or]
    exact stars_any h.2
def noCall0 : Expr → Bool
  | .Call (.Name _ _) [] [] _ => false
  | _ => true
theorem base_ok {o : Expr} (h : noCall0 o = true) (attr : Str) (env : Env) (whole : Sem Value) : attributeBase o attr env whole = whole := by
  unfold attributeBase
  split
  · cases h
  · rfl
def noSet : Expr → Bool
  | .Set .. => false
  | _ => true
theorem folded_ok {e : Expr} (h : noSet e = true) (env : Env) : ∀ x, foldedSetIterable e env x = pure x := by
  intro x
  unfold foldedSetIterable
  split
  · cases h
  · rfl
theorem marks_ok {e : Expr} (h : noSet e = true) (o : CmpOp) : behindInMarks o e = false := by
  cases e <;> first | rfl | cases h
def noComp : Expr → Bool
  | .ListComp .. => false
  | .SetComp .. => false
  | .DictComp .. => false
  | _ => true
theorem swaps_ok {e : Expr} (h : noComp e = true) (t : Option Expr) (l : Nat) (env : Env) : swapsWith e t l env = pure false := by
  unfold swapsWith
  cases e <;> first | rfl | cases h
abbrev noSlice := noSliceE
theorem plainIx_ok {e : Expr} (h : noSlice e = true) : PlainIx e := by
  intro o i
  unfold subscripted
  cases e <;> first | rfl | cases h
def plainTest : Expr → Bool
  | .UnaryOp .Not _ _ => false
  | .BoolOp .. => false
  | .IfExp .. => false
  | .Compare .. => false
  | _ => true
theorem plainTest_ok {e : Expr} (h : plainTest e = true) (env : Env) : ∀ whole, isTrue e env whole = (do let v ← whole; standAt e.pos; holding [v] (truthy v)) := by
  intro whole
  cases e with
  | UnaryOp op x p => cases op <;> first | rfl | cases h
  | BoolOp _ _ _ => cases h
  | IfExp _ _ _ _ => cases h
  | Compare _ _ _ _ => cases h
  | _ => rfl
def biOf (x : Str) : Option BI :=
  if x = "len" then some .len else if x = "int" then some .int else if x = "abs" then some .abs else if x = "repr" then some .repr else if x = "all" then some .all
  else if x = "any" then some .any else if x = "tuple" then some .tuple else if x = "list" then some .list else none
theorem biOf_ok {x : Str} {b : BI} (h : biOf x = some b) : x = biName b := by
  unfold biOf at h
  repeat' split at h
  all_goals (cases h; try assumption)
def mtOf (x : Str) : Option MT := if x = "split" then some .split else if x = "join" then some .join else none
theorem mtOf_ok {x : Str} {b : MT} (h : mtOf x = some b) : x = mtName b := by
  unfold mtOf at h
  repeat' split at h
  all_goals (cases h; try assumption)
def tys : List String := ["bool", "int", "str", "list", "tuple", "dict"]
def tyOf (x : Str) : Option String := tys.find? fun u => decide (Str.ofString u = x)
theorem tyOf_ok {x : Str} {u : String} (h : tyOf x = some u) : u ∈ ["bool", "int", "str", "list", "tuple", "dict"] ∧ x = Str.ofString u := by
  unfold tyOf at h
  have h2 := List.find?_some h
  simp only [decide_eq_true_eq] at h2
  exact ⟨List.mem_of_find?_eq_some h, h2.symm⟩
def compEs (f : Expr → Option E) : List Expr → Option Es
  | [] => some .nil
  | e :: es => if noStar e = true then match f e, compEs f es with
    | some a, some b => some (.cons a b)
    | _, _ => none else none
def compCall (c : CE) (sc : Scope) (f : Expr → Option E) (x : Str) (args : List Expr) : Option E :=
  if isGl sc x = true ∧ plainName x = true then
    match idxIn c.fns x with
    | some i => (compEs f args).map (E.call i)
    | none => if x ∈ c.bls then
        if x = "isinstance" then match args with
          | [a, .Name t _] => match tyOf t, f a with
            | some u, some ia => if noStar a = true ∧ isGl sc t = true ∧ t ∈ c.bls then some (.isi ia [u]) else none
            | _, _ => none
          | [a, .Tuple [.Name t _, .Name t' _] _ _] => match tyOf t, tyOf t', f a with
            | some u, some u', some ia => if noStar a = true ∧ isGl sc t = true ∧ t ∈ c.bls ∧ isGl sc t' = true ∧ t' ∈ c.bls then some (.isi ia [u, u']) else none
            | _, _, _ => none
          | _ => none
        else match biOf x, args with
          | some b, _ :: _ => (compEs f args).map (E.bi b)
          | _, _ => none
      else none
  else none
/-- a target's slots, where the names are the block's own -/
def compTg (c : CE) (sc : Scope) (ok : Str → Bool) : Expr → Option (List Nat × Bool)
  | .Name x _ => if ok x = true then (idxIn c.N x).map fun i => ([i], true) else none
  | .Tuple ts _ _ => (go ts).map fun is => (is, false)
  | _ => none
where go : List Expr → Option (List Nat)
  | [] => some []
  | .Name x _ :: r => if ok x = true then match idxIn c.N x, go r with
    | some i, some is => some (i :: is)
    | _, _ => none else none
  | _ :: _ => none
def compI (c : CE) (sc : Scope) (f : Expr → Option E) (e : Expr) : Option I := match e with
  | .Call (.Name x _) [a] [] _ => if x = "range" then (if isGl sc x = true ∧ x ∈ c.bls ∧ noStar a = true then (f a).map I.rng1 else none) else (f e).map I.seq
  | .Call (.Name x _) [a, b] [] _ => if x = "range" then (if isGl sc x = true ∧ x ∈ c.bls ∧ noStar a = true ∧ noStar b = true then match f a, f b with
      | some a, some b => some (.rng2 a b)
      | _, _ => none else none) else (f e).map I.seq
  | e => if noSet e = true then (f e).map I.seq else none
def ownOf (c : CE) (scope : Scope) : List (Str × Nat) := scope.names.filterMap fun (y, k) => if k = .local ∨ k = .cell then (idxIn c.N y).map fun i => (y, i) else none
def compPs (f : Expr → Option E) : List (Option Expr) → List Expr → Option Es
  | [], [] => some .nil
  | some k :: ks, v :: vs => match f k, f v, compPs f ks vs with
    | some a, some b, some r => some (.cons a (.cons b r))
    | _, _, _ => none
  | _, _ => none
def compO (f : Expr → Option E) : Option Expr → Option O
  | none => some .none
  | some e => (f e).map O.some
mutual
def compE (c : CE) : Nat → Scope → Expr → Option E
  | 0, _, _ => none
  | n + 1, sc, e => match e with
    | .Name x _ => if plainName x = true then (if vis sc x = true then (idxIn c.N x).map E.var else if isGl sc x = true then (idxIn c.gls x).map E.gl else none) else none
    | .Constant (.int i) _ _ => some (.cst (.int i))
    | .Constant (.str x) _ _ => some (.cst (.str x))
    | .Constant (.bool b) _ _ => some (.cst (.bl b))
    | .Constant .none _ _ => some (.cst .non)
    | .Tuple es _ _ => (compEs (compE c n sc) es).map E.tup
    | .List es _ => (compEs (compE c n sc) es).map E.lst
    | .Dict ks vs _ => if ks.length ≤ 15 then (compPs (compE c n sc) ks vs).map E.dct else none
    | .BinOp a o b _ => match compE c n sc a, compE c n sc b with
      | some a, some b => some (.bin o a b)
      | _, _ => none
    | .UnaryOp .USub a _ => (compE c n sc a).map E.neg
    | .UnaryOp .Not a _ => (compE c n sc a).map E.not
    | .Compare a [o] [b] _ => if noSet b = true then match compE c n sc a, compE c n sc b with
      | some a, some b => some (.cmp o a b)
      | _, _ => none else none
    | .Compare a [o, o'] [b, d] _ => if noSet d = true then match compE c n sc a, compE c n sc b, compE c n sc d with
      | some a, some b, some d => some (.chain o o' a b d)
      | _, _, _ => none else none
    | .BoolOp _ [a] _ => compE c n sc a
    | .BoolOp .And (a :: b :: r) p => match compE c n sc a, compE c n sc (.BoolOp .And (b :: r) p) with
      | some a, some b => some (.and a b)
      | _, _ => none
    | .BoolOp .Or (a :: b :: r) p => match compE c n sc a, compE c n sc (.BoolOp .Or (b :: r) p) with
      | some a, some b => some (.or a b)
      | _, _ => none
    | .IfExp t a b _ => match compT c n sc t, compE c n sc a, compE c n sc b with
      | some t, some a, some b => some (.ife t a b)
      | _, _, _ => none
    | .Subscript a (.Slice lo hi none _) _ => match compE c n sc a, compO (compE c n sc) lo, compO (compE c n sc) hi with
      | some a, some l, some h => some (.slc a l h)
      | _, _, _ => none
    | .Subscript a b _ => if noSlice b = true then match compE c n sc a, compE c n sc b with
      | some a, some b => some (.idx a b)
      | _, _ => none else none
    | .Call (.Name x _) args [] _ => compCall c sc (compE c n sc) x args
    | .Call (.Attribute o m ap) [a] [] p => match mtOf m, compE c n sc o, compE c n sc a with
      | some m, some o', some a' => if noCall0 o = true ∧ noStar a = true ∧ (ap.endLine == p.line) = true then some (.mt m o' (.cons a' .nil)) else none
      | _, _, _ => none
    | .ListComp elt [⟨tg, iter, ifs, 0⟩] scope _ => compLC c n sc elt tg iter ifs scope
    | _ => none
def compT (c : CE) : Nat → Scope → Expr → Option T
  | 0, _, _ => none
  | n + 1, sc, e => match e with
    | .UnaryOp .Not a _ => (compT c n sc a).map T.not
    | .BoolOp _ [a] _ => compT c n sc a
    | .BoolOp .And (a :: b :: r) p => match compT c n sc a, compT c n sc (.BoolOp .And (b :: r) p) with
      | some a, some b => some (.and a b)
      | _, _ => none
    | .BoolOp .Or (a :: b :: r) p => match compT c n sc a, compT c n sc (.BoolOp .Or (b :: r) p) with
      | some a, some b => some (.or a b)
      | _, _ => none
    | .Compare a [o] [b] p => if noSet b = true then match compE c n sc a, compE c n sc b with
      | some a, some b => some (.e (.cmp o a b))
      | _, _ => none else none
    | .Compare a [o, o'] [b, d] p => if noSet d = true then match compE c n sc a, compE c n sc b, compE c n sc d with
      | some a, some b, some d => some (.e (.chain o o' a b d))
      | _, _, _ => none else none
    | e => if plainTest e = true then (compE c n sc e).map T.e else none
def compLC (c : CE) : Nat → Scope → Expr → Expr → Expr → List Expr → Scope → Option E
  | 0, _, _, _, _, _, _ => none
  | n + 1, sc, elt, tg, iter, ifs, scope =>
    if blkC c.N sc scope (ownOf c scope) = true then
      match compI c sc (compE c n sc) iter, compTg c (relS scope sc) (fun x => isLocal (relS scope sc) x || (isCell scope x && isCell (relS scope sc) x)) tg, compE c n (relS scope sc) elt with
      | some it, some (is, one), some ie =>
        if noSet iter = true ∧ is.all (fun i => decide (i ∈ (ownOf c scope).map (·.2))) = true then
          match ifs with
          | [] => some (.comp ie is one ((ownOf c scope).map (·.2)) it .yes)
          | [t] => (compT c n (relS scope sc) t).map fun t => .comp ie is one ((ownOf c scope).map (·.2)) it t
          | _ => none
        else none
      | _, _, _ => none
    else none
end
end DL
set_option linter.all false
set_option maxRecDepth 100000
set_option maxHeartbeats 4000000
namespace DL
open PySem L2
/-! ### dict displays -/
def flat2 : List (V × V) → List V
  | [] => []
  | (x, y) :: r => x :: y :: flat2 r
def SP (Φ : Fns) (γ : List D) (X : Cx) (W : WX) (pos : Pos) (ks : List (Option Expr)) (vs : List Expr) (ir : Es) : Prop := ∃ trs, PPs X pos ks vs trs ∧ ∀ (σ : L2.St) (δ : DEnv) (G : Hp) (M : MS) (H : Hp) (Q : List (V × V) → Hp → Prop) (Qd : List D → MS → Prop) (Zd : KX), OkS X.K G M H → ER X.K G σ δ →
  (∀ ds M', Qd ds M' → ∀ ps G' H', Step X.K G M H G' M' H' → DvAll X.K G' (flat2 ps) ds → Q ps H') → (∀ x M', Zd x M' → PostX X.K G M H W σ x M') → evalEs Φ γ ir δ M Qd Zd → tPairs trs σ H Q
section
variable {Φ : Fns} {γ : List D} {X : Cx} {W : WX} {pos : Pos}
theorem sp_nil : SP Φ γ X W pos [] [] .nil :=
  ⟨_, pps_nil, fun σ δ G M H Q Qd Zd ok er hq hz h => by unfold evalEs at h; exact hq _ _ h [] G H (Step.refl ok) .nil⟩
theorem sp_cons {k v : Expr} {ks : List (Option Expr)} {vs : List Expr} {ik iv : E} {r : Es} (hk : SE Φ γ X W k ik) (hv : SE Φ γ X W v iv) (hr : SP Φ γ X W pos ks vs r) : SP Φ γ X W pos (some k :: ks) (v :: vs) (.cons ik (.cons iv r)) := by
  obtain ⟨tk, pk, rk⟩ := hk
  obtain ⟨tv, pv, rv⟩ := hv
  obtain ⟨trs, pr, rr⟩ := hr
  refine ⟨_, pps_cons pk pv pr, fun σ δ G M H Q Qd Zd ok er hq hz h => ?_⟩
  unfold evalEs evalEs at h
  show tk σ H _
  refine run_e rk ok er hz h fun r1 M1 v1 G1 H1 q s1 dv => ?_
  show tv σ H1 _
  refine run_e rv s1.ok (er.mono s1.sub) (px_after s1 hz) q fun r2 M2 v2 G2 H2 q2 s2 dv2 => ?_
  have s12 := s1.trans s2
  refine rr σ δ G2 M2 H2 _ _ Zd s2.ok (er.mono s12.sub) (fun ds M3 q3 ps G3 H3 s3 t => ?_) (px_after s12 hz) q2
  exact hq _ _ q3 ((v1, v2) :: ps) G3 H3 (s12.trans s3) (.cons (dv.mono (s2.sub.trans s3.sub)) (.cons (dv2.mono s3.sub) t))
theorem pairs_of {K : PySem.W.Frag} {G : Hp} : ∀ {ps : List (V × V)} {ds : List D} {kvs : List (Key × D)}, DvAll K G (flat2 ps) ds → pairsD ds = some kvs →
    ∃ xs, ps = (List.zip (kvs.map (·.1)) xs).map (fun kv => (kV kv.1, kv.2)) ∧ (kvs.map (·.1)).length = xs.length ∧ DvAll K G xs (kvs.map (·.2))
  | [], _, kvs, t, e => by
    cases t
    cases e
    exact ⟨[], rfl, rfl, .nil⟩
  | (x, y) :: ps, _, kvs, t, e => by
    cases t with
    | cons hx t =>
      cases t with
      | cons hy t =>
        rename_i d0 d1 ds
        unfold pairsD at e
        split at e
        · rename_i h; cases h
        · rename_i h
          cases h
          cases e2 : pairsD ds with
          | none => rw [e2] at e; cases e
          | some r =>
            rw [e2] at e
            cases e
            obtain ⟨xs, h1, h2, h3⟩ := pairs_of t e2
            cases hx
            exact ⟨y :: xs, by rw [h1]; rfl, by simpa using h2, .cons hy h3⟩
        · rename_i h
          cases h
          cases e2 : pairsD ds with
          | none => rw [e2] at e; cases e
          | some r =>
            rw [e2] at e
            cases e
            obtain ⟨xs, h1, h2, h3⟩ := pairs_of t e2
            cases hx
            exact ⟨y :: xs, by rw [h1]; rfl, by simpa using h2, .cons hy h3⟩
        · cases e
theorem merge_nodup : ∀ (more acc : List (Key × V)), (acc.map (·.1) ++ more.map (·.1)).Nodup → mergeK acc more = acc ++ more
  | [], acc, _ => by simp [mergeK]
  | p :: r, acc, h => by
    have e : mergeK acc (p :: r) = mergeK (putK acc p.1 p.2) r := rfl
    rw [e]
    have hn : p.1 ∉ acc.map (·.1) := by
      intro hm
      rw [List.map_cons, List.nodup_append] at h
      exact h.2.2 p.1 hm p.1 List.mem_cons_self rfl
    have e2 : putK acc p.1 p.2 = acc ++ [p] := by
      unfold putK
      rw [if_neg]
      intro z
      rw [List.any_eq_true] at z
      obtain ⟨q, hq, hd⟩ := z
      exact hn (by rw [← of_decide_eq_true hd]; exact List.mem_map_of_mem hq)
    rw [e2, merge_nodup r (acc ++ [p]) (by simpa using h), List.append_assoc]
    rfl
theorem zip_fst_snd {α β : Type} : ∀ (l : List (α × β)), List.zip (l.map (·.1)) (l.map (·.2)) = l
  | [] => rfl
  | (a, b) :: r => by simp [zip_fst_snd r]
theorem ans_dct {K : PySem.W.Frag} {G G1 : Hp} {M M1 : MS} {H H1 : Hp} {Q : VK} {kvs : List (Key × D)} {xs : List V} {p : Addr} (q : PostV K G M H Q (.val (.dct kvs)) M1) (s : Step K G M H G1 M1 H1) (h0 : H p = none) (hg : G1 p = none) (hm : M1 p = none)
    (l : (kvs.map (·.1)).length = xs.length) (t : DvAll K G1 xs (kvs.map (·.2))) : Q (.ref p) (upd H1 p (.dK (List.zip (kvs.map (·.1)) xs))) := by
  have e : Sub G1 (upd G1 p (.dK (List.zip (kvs.map (·.1)) xs))) := sub_upd hg
  have z : Dv K (upd G1 p (.dK (List.zip (kvs.map (·.1)) xs))) (.ref p) (.dct (List.zip (kvs.map (·.1)) (kvs.map (·.2)))) := .dct upd_same l (t.mono e)
  rw [zip_fst_snd] at z
  refine q _ _ _ ⟨⟨?_, fun a mo q => ?_, fun a mo q => ?_⟩, s.sub.trans e, fun a u h hma => ?_, s.newM, fun a h => ?_, fun a u hga h hma => ?_⟩ z
  · intro a u h
    by_cases ha : a = p
    · subst ha; rw [upd_same] at h ⊢; exact h
    · rw [upd_ne ha] at h ⊢; exact s.ok.sub a u h
  · have ha : a ≠ p := fun z => by rw [z, hm] at q; cases q
    rw [upd_ne ha]; exact s.ok.dis a mo q
  · have ha : a ≠ p := fun z => by rw [z, hm] at q; cases q
    exact ((s.ok.mok a mo q).mono e).at_ (upd_ne ha)
  · have ha : a ≠ p := fun z => by rw [z, h0] at h; cases h
    rw [upd_ne ha]; exact s.keep a u h hma
  · by_cases ha : a = p
    · rw [ha]; exact h0
    · rw [upd_ne ha] at h; exact s.dom a h
  · by_cases ha : a = p
    · rw [ha]; exact h0
    · rw [upd_ne ha] at h; exact s.newG a u hga h hma
theorem se_dct {k : Option Expr} {ks : List (Option Expr)} {vs : List Expr} {ir : Es} (hp : SP Φ γ X W pos (k :: ks) vs ir) (hall : (k :: ks).all (·.isSome) = true) (hl : (k :: ks).length = vs.length) (h15 : (k :: ks).length ≤ 15) : SE Φ γ X W (.Dict (k :: ks) vs pos) (.dct ir) := by
  obtain ⟨trs, pp, rp⟩ := hp
  refine ⟨_, pe_disp pp hall hl (by simp) h15, fun σ δ G M H Q Qd Zd ok er hq hz h => ?_⟩
  unfold evalE at h
  intro p hp
  have s0 := (Step.refl ok).alloc (o := HO.dK []) hp
  refine rp σ δ G M _ _ _ Zd s0.ok er (fun ds M1 q ps G1 H1 s1 t => ?_) (px_after s0 hz) h
  obtain ⟨kvs, e, l15, nd, q⟩ := q
  obtain ⟨xs, h1, h2, h3⟩ := pairs_of t e
  have hm0 : M p = none := ok.noM hp
  refine ⟨s1.keep p _ upd_same hm0, List.zip (kvs.map (·.1)) xs, h1, ?_, ?_⟩
  · rw [List.length_zip, ← h2, Nat.min_self, List.length_map]; exact l15
  · rw [merge_nodup _ [] (by
      rw [List.map_nil, List.nil_append, List.map_fst_zip (by omega)]
      exact nd), List.nil_append]
    refine ans_dct (hq _ _ q) (s0.trans s1) hp ?_ (s1.noM upd_same hm0) h2 h3
    cases eg : G1 p with
    | none => rfl
    | some u =>
      have z := s1.newG p u (ok.noG hp) eg hm0
      rw [upd_same] at z; cases z
theorem se_dct0 : SE Φ γ X W (.Dict [] [] pos) (.dct .nil) := by
  refine ⟨_, pe_dnewK, fun σ δ G M H Q Qd Zd ok er hq hz h => ?_⟩
  unfold evalE evalEs at h
  obtain ⟨kvs, e, _, _, q⟩ := h
  cases e
  intro p hp
  exact ans_dct (kvs := []) (xs := []) (hq _ _ q) (Step.refl ok) hp (ok.noG hp) (ok.noM hp) rfl .nil
end
/-! ### the expressions: what is compiled means the same -/
/-- what a context must bear -/
structure XOk (c : CE) (Φ : Fns) (γ : List D) (X : Cx) (scp : Scope) : Prop where
  N : X.N = c.N
  nd : c.N.Nodup
  cal : Cal X
  sc : X.env.scope = scp
  kind : scp.kind = .function
  fn : ∀ (i : Nat) (x : Str), c.fns[i]? = some x → ∃ f fd ps k, X.mg x = some (.ref f) ∧ PySem.W.keepIn X.K (.ref f) = true ∧ Rm k X.A ∧ FnG X.prog X.w X.K X.mg X.base k f fd ps (spD X.K (Φ i)) ∧ Binds X.K fd ps []
  gl : ∀ (i : Nat) (x : Str), c.gls[i]? = some x → ∃ v u d, γ[i]? = some d ∧ X.mg x = some u ∧ RelV v u ∧ ∀ G, Dv X.K G v d
  bl : ∀ x, x ∈ c.bls → X.mg x = none
section
variable {c : CE} {Φ : Fns} {γ : List D}
theorem es_ok {X : Cx} {W : WX} {f : Expr → Option E} (hf : ∀ e ir, f e = some ir → SE Φ γ X W e ir) : ∀ {es : List Expr} {ies : Es}, compEs f es = some ies → SA Φ γ X W es ies ∧ noStars es = true
  | [], _, h => by cases h; exact ⟨sa_nil, rfl⟩
  | e :: es, ies, h => by
    unfold compEs at h
    split at h
    · rename_i hs
      split at h
      · rename_i a b ha hb
        cases h
        obtain ⟨h1, h2⟩ := es_ok hf hb
        exact ⟨sa_cons (hf _ _ ha) h1 (star_cons hs _ _), by unfold noStars at h2 ⊢; simp [hs, h2]⟩
      · cases h
    · cases h
theorem ps_ok {X : Cx} {W : WX} {pos : Pos} {f : Expr → Option E} (hf : ∀ e ir, f e = some ir → SE Φ γ X W e ir) : ∀ {ks : List (Option Expr)} {vs : List Expr} {ir : Es}, compPs f ks vs = some ir → SP Φ γ X W pos ks vs ir ∧ ks.all (·.isSome) = true ∧ ks.length = vs.length
  | [], [], _, h => by cases h; exact ⟨sp_nil, rfl, rfl⟩
  | some k :: ks, v :: vs, ir, h => by
    unfold compPs at h
    split at h
    · rename_i a b r ha hb hr
      cases h
      obtain ⟨h1, h2, h3⟩ := ps_ok (pos := pos) hf hr
      exact ⟨sp_cons (hf _ _ ha) (hf _ _ hb) h1, by simpa using h2, by simpa using h3⟩
    · cases h
  | [], _ :: _, _, h => by cases h
  | none :: _, _, _, h => by cases h
  | some _ :: _, [], _, h => by cases h
theorem o_ok {X : Cx} {W : WX} {f : Expr → Option E} (hf : ∀ e ir, f e = some ir → SE Φ γ X W e ir) {o : Option Expr} {io : O} (h : compO f o = some io) : SO Φ γ X W o io := by
  cases o with
  | none => cases h; exact so_none
  | some e =>
    have h : (f e).map O.some = some io := h
    cases e2 : f e with
    | none => rw [e2] at h; cases h
    | some ie => rw [e2] at h; cases h; exact so_some (hf _ _ e2)
theorem gl_of {X : Cx} {sc : Scope} (x : XOk c Φ γ X sc) {y : Str} (h : isGl sc y = true) : Gl X y := by
  show X.env.scope.names.lookup y = _
  rw [x.sc]; exact isGl_ok h
theorem call_ok {X : Cx} {W : WX} {sc : Scope} {f : Expr → Option E} (xo : XOk c Φ γ X sc) (tk : Takes X W) (hf : ∀ e ir, f e = some ir → SE Φ γ X W e ir) {x : Str} {args : List Expr} {p pos : Pos} {ir : E} (h : compCall c sc f x args = some ir) :
    SE Φ γ X W (.Call (.Name x p) args [] pos) ir := by
  unfold compCall at h
  split at h
  · rename_i hx
    have pn := plainName_ok hx.2
    split at h
    · rename_i i hi
      obtain ⟨fa, fd, ps, k, h1, h2, h3, h4, h5⟩ := xo.fn i x (idxIn_get hi)
      cases ea : compEs f args with
      | none => rw [ea] at h; cases h
      | some ies =>
        rw [ea] at h
        cases h
        obtain ⟨sa, st⟩ := es_ok hf ea
        cases args with
        | nil => cases ea; exact se_call0 h4 h3 h5 tk (gl_of xo hx.1) h1 h2 pn.1
        | cons e es =>
          unfold noStars at st
          simp only [List.all_cons, Bool.and_eq_true] at st
          exact se_call h4 h3 h5 tk (gl_of xo hx.1) h1 h2 pn.1 sa (star_cons st.1 _ _) (stars_any st.2)
    · split at h
      · rename_i hb
        split at h
        · rename_i hi
          subst hi
          split at h
          · rename_i a t p2
            split at h
            · rename_i u ia hu ha
              split at h
              · rename_i hc
                cases h
                obtain ⟨h1, rfl⟩ := tyOf_ok hu
                exact se_isi1 h1 (gl_of xo hx.1) (xo.bl _ hb) (gl_of xo hc.2.1) (xo.bl _ hc.2.2) (hf _ _ ha) (star_cons hc.1 _ _)
              · cases h
            · cases h
          · rename_i a t p2 t' p3 kk p4
            split at h
            · rename_i u u' ia hu hu' ha
              split at h
              · rename_i hc
                cases h
                obtain ⟨h1, rfl⟩ := tyOf_ok hu
                obtain ⟨h2, rfl⟩ := tyOf_ok hu'
                exact se_isi2 h1 h2 (gl_of xo hx.1) (xo.bl _ hb) (gl_of xo hc.2.1) (xo.bl _ hc.2.2.1) (gl_of xo hc.2.2.2.1) (xo.bl _ hc.2.2.2.2) (hf _ _ ha) (star_cons hc.1 _ _)
              · cases h
            · cases h
          · cases h
        · split at h
          · rename_i b a0 r0 hbi
            have eb := biOf_ok hbi
            subst eb
            cases ea : compEs f (a0 :: r0) with
            | none => rw [ea] at h; cases h
            | some ies =>
              rw [ea] at h
              cases h
              obtain ⟨sa, st⟩ := es_ok hf ea
              unfold noStars at st
              simp only [List.all_cons, Bool.and_eq_true] at st
              exact se_bi xo.cal (gl_of xo hx.1) (xo.bl _ hb) sa (star_cons st.1 _ _) (stars_any st.2)
          · cases h
      · cases h
  · cases h
theorem i_ok {X : Cx} {W : WX} {sc : Scope} {f : Expr → Option E} {tg : Expr} (xo : XOk c Φ γ X sc) (hf : ∀ e ir, f e = some ir → SE Φ γ X W e ir) {e : Expr} {ir : I} (h : compI c sc f e = some ir) : SI Φ γ X W tg e ir := by
  have seq : ∀ e' ir', (f e').map I.seq = some ir' → SI Φ γ X W tg e' ir' := fun e' ir' h => by
    cases e2 : f e' with
    | none => rw [e2] at h; cases h
    | some ie => rw [e2] at h; cases h; exact si_seq (hf _ _ e2)
  unfold compI at h
  split at h
  · rename_i x p a p2
    split at h
    · rename_i hx
      subst hx
      split at h
      · rename_i hc
        cases e2 : f a with
        | none => rw [e2] at h; cases h
        | some ie => rw [e2] at h; cases h; exact si_rng1 (gl_of xo hc.1) (xo.bl _ hc.2.1) (hf _ _ e2) (star_cons hc.2.2 _ _)
      · cases h
    · exact seq _ _ h
  · rename_i x p a b p2
    split at h
    · rename_i hx
      subst hx
      split at h
      · rename_i hc
        split at h
        · rename_i ia ib ha hb
          cases h
          exact si_rng2 (gl_of xo hc.1) (xo.bl _ hc.2.1) (hf _ _ ha) (hf _ _ hb) (by rw [star_cons hc.2.2.1, star_cons hc.2.2.2]; rfl) (star_cons hc.2.2.2 _ _)
        · cases h
      · cases h
    · exact seq _ _ h
  · split at h
    · exact seq _ _ h
    · cases h
theorem tg_ok {X : Cx} {sc : Scope} {ok : Str → Bool} (hN : X.N = c.N) (nd : c.N.Nodup) (hc : X.calm = true) (hok : ∀ x, ok x = true → Loc X.env.scope x ∧ (X.fn x = true ∨ X.env.scope.names.lookup x = some .local)) {tg : Expr} {is : List Nat} {one : Bool} (h : compTg c sc ok tg = some (is, one)) :
    PG X tg (gT X.K is one) := by
  have nm : ∀ {x : Str} {p : Pos} {i : Nat}, ok x = true → idxIn c.N x = some i → PG X (.Name x p) (gName i) := fun {x p i} h1 h2 =>
    pg_name (by rw [hN]; exact nd) (by rw [hN]; exact idxIn_get h2) (hok x h1).1 (hok x h1).2
  have go : ∀ {ts : List Expr} {is : List Nat}, compTg.go c ok ts = some is → PGs X ts (gNames is) ∧ (assignEach ts X.env).length = is.length ∧ (assignEach ts X.env).findIdx? (·.1) = none := by
    intro ts
    induction ts with
    | nil => intro is h; cases h; exact ⟨pgs_nil, rfl, rfl⟩
    | cons t r ih =>
      intro is h
      unfold compTg.go at h
      split at h
      · rename_i hz; cases hz
      · rename_i x p r' hz
        cases hz
        split at h
        · rename_i hx
          split at h
          · rename_i i is' hi hr
            cases h
            obtain ⟨h1, h2, h3⟩ := ih hr
            refine ⟨pgs_cons (nm hx hi) h1 rfl, by simp [assignEach, h2], ?_⟩
            show ((false, assign (.Name x p) X.env) :: assignEach r X.env).findIdx? (·.1) = none
            rw [List.findIdx?_cons]
            simp only [Bool.false_eq_true, if_false]
            rw [h3]; rfl
          · cases h
        · cases h
      · cases h
  unfold compTg at h
  split at h
  · rename_i x p
    split at h
    · rename_i hx
      cases e : idxIn c.N x with
      | none => rw [e] at h; cases h
      | some i => rw [e] at h; cases h; exact nm hx e
    · cases h
  · rename_i ts kk p
    cases e : compTg.go c ok ts with
    | none => rw [e] at h; cases h
    | some is' =>
      rw [e] at h
      cases h
      obtain ⟨h1, h2, h3⟩ := go e
      exact pg_tup hc h1 h2 h3
  · cases h
theorem XOk.blk {X : Cx} {sc scope : Scope} (xo : XOk c Φ γ X sc) (hk : scope.kind = .function) (s : Shared) (H : Hp) (C : Addr) (cl : List (Str × Addr)) (fp : List Addr) : XOk c Φ γ (X.blk s H scope (compEnvC scope cl C X.env) fp) (relS scope sc) where
  N := xo.N
  nd := xo.nd
  cal := ⟨xo.cal.calm, xo.cal.gd, xo.cal.hu, xo.cal.sm⟩
  sc := by show relS scope X.env.scope = _; rw [xo.sc]
  kind := hk
  fn := xo.fn
  gl := xo.gl
  bl := xo.bl
end
end DL
set_option linter.all false
set_option maxRecDepth 100000
set_option maxHeartbeats 8000000
namespace DL
open PySem L2
section
variable {c : CE} {Φ : Fns} {γ : List D}
/-- what a compiled comprehension brings -/
structure LC (Φ : Fns) (γ : List D) (X : Cx) (W : WX) (elt tg iter : Expr) (ifs : List Expr) (scope : Scope) (own : List (Str × Nat)) (ie : E) (is : List Nat) (one : Bool) (it : I) (cond : T) : Prop where
  si : SI Φ γ X W tg iter it
  blk : BlkOk X.N X.env.scope scope own
  pg : ∀ (s : Shared) (H : Hp) (C : Addr) (cl : List (Str × Addr)) (fp : List Addr), PG (X.blk s H scope (compEnvC scope cl C X.env) fp) tg (gT X.K is one)
  sc : ∀ (s : Shared) (H : Hp) (C : Addr) (cl : List (Str × Addr)) (fp : List Addr), SC Φ γ (X.blk s H scope (compEnvC scope cl C X.env) fp) W0 ifs cond
  se : ∀ (s : Shared) (H : Hp) (C : Addr) (cl : List (Str × Addr)) (fp : List Addr), SE Φ γ (X.blk s H scope (compEnvC scope cl C X.env) fp) W0 elt ie
  fs : ∀ x, foldedSetIterable iter X.env x = pure x
  own : ∀ i ∈ is, i ∈ own.map (·.2)
def POk (c : CE) (Φ : Fns) (γ : List D) (n : Nat) : Prop :=
  (∀ (sc : Scope) (e : Expr) (ir : E), compE c n sc e = some ir → ∀ (X : Cx) (W : WX), XOk c Φ γ X sc → Takes X W → SE Φ γ X W e ir) ∧
  (∀ (sc : Scope) (e : Expr) (ir : T), compT c n sc e = some ir → ∀ (X : Cx) (W : WX), XOk c Φ γ X sc → Takes X W → ST Φ γ X W e ir ∧ ∀ op v vs p, e = .BoolOp op (v :: vs) p → SW Φ γ X W e ir) ∧
  (∀ (sc : Scope) (elt tg iter : Expr) (ifs : List Expr) (scope : Scope) (ir : E), compLC c n sc elt tg iter ifs scope = some ir → ∀ (X : Cx) (W : WX), XOk c Φ γ X sc → Takes X W →
    ∃ ie is one it cond, ir = .comp ie is one ((ownOf c scope).map (·.2)) it cond ∧ LC Φ γ X W elt tg iter ifs scope (ownOf c scope) ie is one it cond)
theorem lc_ok {n : Nat} (ih : POk c Φ γ n) {sc : Scope} {elt tg iter : Expr} {ifs : List Expr} {scope : Scope} {ir : E} (h : compLC c (n + 1) sc elt tg iter ifs scope = some ir) {X : Cx} {W : WX} (xo : XOk c Φ γ X sc) (tk : Takes X W) :
    ∃ ie is one it cond, ir = .comp ie is one ((ownOf c scope).map (·.2)) it cond ∧ LC Φ γ X W elt tg iter ifs scope (ownOf c scope) ie is one it cond := by
  unfold compLC at h
  split at h
  · rename_i hb
    have bo := blkOk_by hb
    split at h
    · rename_i it is one ie h1 h2 h3
      split at h
      · rename_i hc
        have hblk : BlkOk X.N X.env.scope scope (ownOf c scope) := by rw [xo.N, xo.sc]; exact bo
        have hpg : ∀ (s : Shared) (H : Hp) (C : Addr) (cl : List (Str × Addr)) (fp : List Addr), PG (X.blk s H scope (compEnvC scope cl C X.env) fp) tg (gT X.K is one) := fun s H C cl fp => by
          have xb := xo.blk bo.kind s H C cl fp
          refine tg_ok xb.N xb.nd xb.cal.calm (fun x hx => ?_) h2
          rw [xb.sc]
          simp only [Bool.or_eq_true, Bool.and_eq_true] at hx
          rcases hx with hx | ⟨hx, hx2⟩
          · exact ⟨.inl (isLocal_ok hx), .inr (isLocal_ok hx)⟩
          · refine ⟨.inr (isCell_ok hx2), .inl ?_⟩
            show (scope.names.lookup x == some .cell) = true
            rw [isCell_ok hx]; rfl
        have hse : ∀ (s : Shared) (H : Hp) (C : Addr) (cl : List (Str × Addr)) (fp : List Addr), SE Φ γ (X.blk s H scope (compEnvC scope cl C X.env) fp) W0 elt ie := fun s H C cl fp => ih.1 _ _ _ h3 _ _ (xo.blk bo.kind s H C cl fp) takes0
        have hsi : SI Φ γ X W tg iter it := i_ok xo (fun e ir h => ih.1 _ _ _ h _ _ xo tk) h1
        have hown : ∀ i ∈ is, i ∈ (ownOf c scope).map (·.2) := fun i hi => by
          have z := List.all_eq_true.mp hc.2 i hi
          exact of_decide_eq_true z
        have hfs : ∀ x, foldedSetIterable iter X.env x = pure x := folded_ok hc.1 _
        split at h
        · cases h
          exact ⟨ie, is, one, it, .yes, rfl, hsi, hblk, hpg, fun _ _ _ _ _ => sc_nil, hse, hfs, hown⟩
        · rename_i t
          cases et : compT c n (relS scope sc) t with
          | none => rw [et] at h; cases h
          | some t' =>
            rw [et] at h
            cases h
            exact ⟨ie, is, one, it, t', rfl, hsi, hblk, hpg, fun s H C cl fp => sc_one (ih.2.1 _ _ _ et _ _ (xo.blk bo.kind s H C cl fp) takes0).1, hse, hfs, hown⟩
        · cases h
      · cases h
    · cases h
  · cases h
theorem LC.sexp {X : Cx} {W : WX} {sc : Scope} {elt tg iter : Expr} {ifs : List Expr} {scope : Scope} {own : List (Str × Nat)} {ie : E} {is : List Nat} {one : Bool} {it : I} {cond : T} {pos : Pos} (xo : XOk c Φ γ X sc) (l : LC Φ γ X W elt tg iter ifs scope own ie is one it cond) :
    SE Φ γ X W (.ListComp elt [⟨tg, iter, ifs, 0⟩] scope pos) (.comp ie is one (own.map (·.2)) it cond) :=
  se_comp xo.cal.calm (by rw [xo.N]; exact xo.nd) l.si l.blk l.pg l.sc l.se l.fs l.own
theorem Cal.u64 {X : Cx} (c : Cal X) : X.A.units + 64 < cLine := by have := c.hu; omega
theorem e_ok {n : Nat} (ih : POk c Φ γ n) {sc : Scope} {e : Expr} {ir : E} (h : compE c (n + 1) sc e = some ir) {X : Cx} {W : WX} (xo : XOk c Φ γ X sc) (tk : Takes X W) : SE Φ γ X W e ir := by
  have rcE : ∀ e ir, compE c n sc e = some ir → SE Φ γ X W e ir := fun e ir h => ih.1 _ _ _ h _ _ xo tk
  have hu := xo.cal.u64
  unfold compE at h
  split at h
  · -- a name
    rename_i x p
    split at h
    · rename_i hp
      have pn := plainName_ok hp
      split at h
      · rename_i hv
        cases e2 : idxIn c.N x with
        | none => rw [e2] at h; cases h
        | some i =>
          rw [e2] at h; cases h
          exact se_var (by rw [xo.N]; exact idxIn_get e2) (by rw [xo.sc]; exact vis_ok hv) pn.1 pn.2
      · split at h
        · rename_i hg
          cases e2 : idxIn c.gls x with
          | none => rw [e2] at h; cases h
          | some i =>
            rw [e2] at h; cases h
            obtain ⟨v, u, d, h1, h2, h3, h4⟩ := xo.gl i x (idxIn_get e2)
            exact se_gl (gl_of xo hg) h2 h3 h1 h4 pn.1
        · cases h
    · cases h
  · cases h; exact se_int
  · cases h; exact se_str
  · cases h; exact se_bl
  · cases h; exact se_non
  · rename_i es k p
    cases ea : compEs (compE c n sc) es with
    | none => rw [ea] at h; cases h
    | some ies => rw [ea] at h; cases h; exact se_tup (es_ok rcE ea).1
  · rename_i es p
    cases ea : compEs (compE c n sc) es with
    | none => rw [ea] at h; cases h
    | some ies => rw [ea] at h; cases h; exact se_lst (es_ok rcE ea).1
  · rename_i ks vs p
    split at h
    · rename_i h15
      cases ea : compPs (compE c n sc) ks vs with
      | none => rw [ea] at h; cases h
      | some ies =>
        rw [ea] at h; cases h
        obtain ⟨h1, h2, h3⟩ := ps_ok (pos := p) rcE ea
        cases ks with
        | nil =>
          cases vs with
          | nil => cases ea; exact se_dct0
          | cons _ _ => simp at h3
        | cons k ks => exact se_dct h1 h2 h3 h15
    · cases h
  · split at h
    · rename_i a b ha hb; cases h; exact se_bin (rcE _ _ ha) (rcE _ _ hb)
    · cases h
  · rename_i a p
    cases e2 : compE c n sc a with
    | none => rw [e2] at h; cases h
    | some ia => rw [e2] at h; cases h; exact se_neg (rcE _ _ e2)
  · rename_i a p
    cases e2 : compE c n sc a with
    | none => rw [e2] at h; cases h
    | some ia => rw [e2] at h; cases h; exact se_not (rcE _ _ e2)
  · split at h
    · rename_i hs
      split at h
      · rename_i a b ha hb; cases h; exact se_cmp hu (rcE _ _ ha) (rcE _ _ hb) (marks_ok hs _)
      · cases h
    · cases h
  · split at h
    · rename_i hs
      split at h
      · rename_i a b d ha hb hd; cases h; exact se_chain hu (rcE _ _ ha) (rcE _ _ hb) (rcE _ _ hd) (marks_ok hs _)
      · cases h
    · cases h
  · exact se_one (rcE _ _ h)
  · split at h
    · rename_i a b ha hb; cases h; exact se_and (rcE _ _ ha) (rcE _ _ hb)
    · cases h
  · split at h
    · rename_i a b ha hb; cases h; exact se_or (rcE _ _ ha) (rcE _ _ hb)
    · cases h
  · split at h
    · rename_i t a b ht ha hb; cases h; exact se_ife (ih.2.1 _ _ _ ht _ _ xo tk).1 (rcE _ _ ha) (rcE _ _ hb)
    · cases h
  · split at h
    · rename_i a l hh ha hl hhi; cases h; exact se_slc (rcE _ _ ha) (o_ok rcE hl) (o_ok rcE hhi)
    · cases h
  · split at h
    · rename_i hs
      split at h
      · rename_i a b ha hb; cases h; exact se_idx (rcE _ _ ha) (rcE _ _ hb) (plainIx_ok hs)
      · cases h
    · cases h
  · exact call_ok xo tk rcE h
  · split at h
    · rename_i m o' a' hm ho ha
      split at h
      · rename_i hc
        cases h
        have em := mtOf_ok hm
        subst em
        exact se_mt (rcE _ _ ho) (rcE _ _ ha) (star_cons hc.2.1 _ _) (base_ok hc.1 _ _ _) hc.2.2
      · cases h
    · cases h
  · obtain ⟨ie, is, one, it, cond, rfl, l⟩ := ih.2.2 _ _ _ _ _ _ _ h _ _ xo tk
    exact l.sexp xo
  · cases h
theorem t_ok {n : Nat} (ih : POk c Φ γ n) {sc : Scope} {e : Expr} {ir : T} (h : compT c (n + 1) sc e = some ir) {X : Cx} {W : WX} (xo : XOk c Φ γ X sc) (tk : Takes X W) :
    ST Φ γ X W e ir ∧ ∀ op v vs p, e = .BoolOp op (v :: vs) p → SW Φ γ X W e ir := by
  have rcE : ∀ e ir, compE c n sc e = some ir → SE Φ γ X W e ir := fun e ir h => ih.1 _ _ _ h _ _ xo tk
  have rct : ∀ e ir, compT c n sc e = some ir → ST Φ γ X W e ir ∧ ∀ op v vs p, e = .BoolOp op (v :: vs) p → SW Φ γ X W e ir := fun e ir h => ih.2.1 _ _ _ h _ _ xo tk
  have hu := xo.cal.u64
  unfold compT at h
  split at h
  · rename_i a p
    cases e2 : compT c n sc a with
    | none => rw [e2] at h; cases h
    | some ia => rw [e2] at h; cases h; exact ⟨st_not (rct _ _ e2).1, fun _ _ _ _ z => by cases z⟩
  · rename_i op a p
    have sw : SW Φ γ X W (.BoolOp op [a] p) ir := by
      cases op with
      | And => exact sw_and1 (rct _ _ h).1
      | Or => exact sw_or1 (rct _ _ h).1
    exact ⟨sw.st, fun _ _ _ _ _ => sw⟩
  · split at h
    · rename_i a b ha hb
      cases h
      have sw := sw_and (rct _ _ ha).1 ((rct _ _ hb).2 _ _ _ _ rfl)
      exact ⟨sw.st, fun _ _ _ _ _ => sw⟩
    · cases h
  · split at h
    · rename_i a b ha hb
      cases h
      have sw := sw_or (rct _ _ ha).1 ((rct _ _ hb).2 _ _ _ _ rfl)
      exact ⟨sw.st, fun _ _ _ _ _ => sw⟩
    · cases h
  · split at h
    · rename_i hs
      split at h
      · rename_i a b ha hb; cases h; exact ⟨st_cmp hu (rcE _ _ ha) (rcE _ _ hb) (marks_ok hs _), fun _ _ _ _ z => by cases z⟩
      · cases h
    · cases h
  · split at h
    · rename_i hs
      split at h
      · rename_i a b d ha hb hd; cases h; exact ⟨st_chain hu (rcE _ _ ha) (rcE _ _ hb) (rcE _ _ hd) (marks_ok hs _), fun _ _ _ _ z => by cases z⟩
      · cases h
    · cases h
  · split at h
    · rename_i hp
      cases e2 : compE c n sc e with
      | none => rw [e2] at h; cases h
      | some ia =>
        rw [e2] at h; cases h
        exact ⟨st_plain (rcE _ _ e2) (plainTest_ok hp _), fun _ _ _ _ z => by subst z; cases hp⟩
    · cases h
theorem all_ok : ∀ n : Nat, POk c Φ γ n
  | 0 => ⟨fun _ _ _ h => (by unfold compE at h; cases h), fun _ _ _ h => (by unfold compT at h; cases h), fun _ _ _ _ _ _ _ h => (by unfold compLC at h; cases h)⟩
  | n + 1 => ⟨fun _ _ _ h X W xo tk => e_ok (all_ok n) h xo tk, fun _ _ _ h X W xo tk => t_ok (all_ok n) h xo tk, fun _ _ _ _ _ _ _ h X W xo tk => lc_ok (all_ok n) h xo tk⟩
end
end DL
set_option linter.all false
set_option maxRecDepth 100000
set_option maxHeartbeats 8000000
namespace DL
open PySem L2
/-! ### a, b = x, y -/
section
variable {Φ : Fns} {γ : List D} {X : Cx} {W : WX} {pos : Pos}
theorem ss_par2 {i j : Nat} {x y : Str} {a b : Expr} {px py pt : Pos} {kt k2 pt2} {ies : Es} (hc : X.calm = true) (hN : X.N.Nodup) (hi : X.N[i]? = some x) (hj : X.N[j]? = some y) (hij : i ≠ j)
    (hx : X.env.scope.names.lookup x = some .local) (hy : X.env.scope.names.lookup y = some .local) (ha : SA Φ γ X W [a, b] ies)
    (hw : swappedStores [.Tuple [.Name x px, .Name y py] kt pt] (.Tuple [a, b] k2 pt2) X.env = pure (some [x, y])) :
    SS Φ γ X W (.Assign [.Tuple [.Name x px, .Name y py] kt pt] (.Tuple [a, b] k2 pt2) pos) (.par [i, j] ies) := by
  obtain ⟨ta, pa, ra⟩ := ha
  refine ⟨_, ps_par hc hN hi hj hij hx hy pa hw rfl, fun σ δ G M H N F ok er sim h => ?_⟩
  unfold execS at h
  refine ra σ δ G M H _ _ _ ok er (fun ds M1 q vs G1 H1 s1 t => ?_) (sim.pz er) h
  obtain ⟨_, hl, q⟩ := q
  match ds, vs, t, hl with
  | [d1, d2], _, .cons (v := v1) h1 (.cons (v := v2) h2 .nil), _ =>
    exact ⟨v1, v2, rfl, sim.nx _ _ q _ G1 H1 s1 (((er.mono s1.sub).set i h1).set j h2)⟩
theorem ss_par3 {i j l : Nat} {x y z : Str} {a b c : Expr} {px py pz pt : Pos} {kt k2 pt2} {ies : Es} (hc : X.calm = true) (hN : X.N.Nodup) (hi : X.N[i]? = some x) (hj : X.N[j]? = some y) (hl : X.N[l]? = some z) (hij : i ≠ j) (hil : i ≠ l) (hjl : j ≠ l)
    (hx : X.env.scope.names.lookup x = some .local) (hy : X.env.scope.names.lookup y = some .local) (hz : X.env.scope.names.lookup z = some .local) (ha : SA Φ γ X W [a, b, c] ies)
    (hw : swappedStores [.Tuple [.Name x px, .Name y py, .Name z pz] kt pt] (.Tuple [a, b, c] k2 pt2) X.env = pure (some [x, y, z])) :
    SS Φ γ X W (.Assign [.Tuple [.Name x px, .Name y py, .Name z pz] kt pt] (.Tuple [a, b, c] k2 pt2) pos) (.par [i, j, l] ies) := by
  obtain ⟨ta, pa, ra⟩ := ha
  refine ⟨_, ps_par3 hc hN hi hj hl hij hil hjl hx hy hz pa hw rfl, fun σ δ G M H N F ok er sim h => ?_⟩
  unfold execS at h
  refine ra σ δ G M H _ _ _ ok er (fun ds M1 q vs G1 H1 s1 t => ?_) (sim.pz er) h
  obtain ⟨_, hl, q⟩ := q
  match ds, vs, t, hl with
  | [d1, d2, d3], _, .cons (v := v1) h1 (.cons (v := v2) h2 (.cons (v := v3) h3 .nil)), _ =>
    exact ⟨v1, v2, v3, rfl, sim.nx _ _ q _ G1 H1 s1 ((((er.mono s1.sub).set i h1).set j h2).set l h3)⟩
/-- the tuple is made, then taken apart -/
theorem ss_parN {ts es : List Expr} {kt k2 : Nat} {pt pt2 : Pos} {is : List Nat} {ies : Es} (hg : PG X (.Tuple ts kt pt) (gT X.K is false)) (ha : SA Φ γ X W es ies) (hw : swappedStores [.Tuple ts kt pt] (.Tuple es k2 pt2) X.env = pure none) :
    SS Φ γ X W (.Assign [.Tuple ts kt pt] (.Tuple es k2 pt2) pos) (.par is ies) := by
  obtain ⟨ta, pa, ra⟩ := ha
  refine ⟨_, ps_asg (pe_tup pa) hg rfl hw rfl, fun σ δ G M H N F ok er sim h => ?_⟩
  unfold execS at h
  refine ra σ δ G M H _ _ _ ok er (fun ds M1 q vs G1 H1 s1 t => ?_) (sim.pz er) h
  obtain ⟨hsz, hl, q⟩ := q
  refine ⟨by rw [t.length]; exact hsz, fun p hp => ?_⟩
  have s2 := s1.allocG (o := HO.tup vs) hp
  have e := sub_upd (o := HO.tup vs) (s1.ok.noG hp)
  refine gT_ok (δ' := (is.zip ds).foldl (fun δ p => δ.set p.1 (some p.2)) δ) s2.ok (er.mono s2.sub) (.tup (SqT.of upd_same) (t.mono e)) (by unfold bindT; simp [hl]) fun σ' er' _ => ?_
  exact sim.nx _ _ q σ' _ _ s2 er'
/-- a, b = e, e any tuple -/
theorem ss_unp {ts : List Expr} {kt : Nat} {pt : Pos} {is : List Nat} {e : Expr} {ie : E} (hg : PG X (.Tuple ts kt pt) (gT X.K is false)) (he : SE Φ γ X W e ie) (hs : swapsWithSole [.Tuple ts kt pt] e pos.line X.env = pure false) (hw : swappedStores [.Tuple ts kt pt] e X.env = pure none) :
    SS Φ γ X W (.Assign [.Tuple ts kt pt] e pos) (.unp is ie) := by
  obtain ⟨t1, p1, r1⟩ := he
  refine ⟨_, ps_asg p1 hg hs hw rfl, fun σ δ G M H N F ok er sim h => ?_⟩
  unfold execS at h
  show t1 σ H _
  refine run_e r1 ok er (sim.pz er) h fun r M1 v G1 H1 q s1 dv => ?_
  obtain ⟨δ', hb, q⟩ := q
  exact gT_ok s1.ok (er.mono s1.sub) dv hb fun σ' er' _ => sim.nx _ _ q σ' G1 H1 s1 er'
end
/-! ### which stores are exchanged -/
def isStar : Expr → Bool
  | .Starred .. => true
  | _ => false
def swapP (sc : Scope) (ts vs : List Expr) : Option (Option (List Str)) :=
  if (!(ts.length == 2 || ts.length == 3) || vs.length != ts.length) = true then some none
  else if vs.any isStar = true then some none
  else
    let line := (ts.head?.map (·.pos.line)).getD 0
    let names := ts.filterMap fun
      | .Name id pos => if sc.names.lookup id == some .local && pos.line == line then some id else none
      | _ => none
    if (names.length != ts.length || names.eraseDups.length != names.length) = true then some none
    else if vs.all (foldedForSure 8) = true then some none
    else if vs.all (constantsAlone 8) = true then none
    else some (some names)
theorem swapP_ok {sc : Scope} {env : Env} {ts vs : List Expr} {k k2 : Nat} {p p2 : Pos} {r : Option (List Str)} (hs : env.scope = sc) (hk : sc.kind = .function) (h : swapP sc ts vs = some r) : swappedStores [.Tuple ts k p] (.Tuple vs k2 p2) env = pure r := by
  have hb : env.blockKind = .function := by
    unfold Env.blockKind
    rw [hs, hk]; rfl
  have hkind : ∀ id, env.kindOf id = sc.names.lookup id := fun id => by unfold Env.kindOf; rw [hs]
  unfold swappedStores
  unfold swapP at h
  simp only [hb, hkind, bne_self_eq_false, Bool.or_false]
  split at h
  · rename_i h1
    cases h
    rw [if_pos h1]
  · rename_i h1
    rw [if_neg h1]
    split at h
    · rename_i h2
      cases h
      exact if_pos h2
    · rename_i h2
      refine (if_neg h2).trans ?_
      simp only at h
      split at h
      · rename_i h3
        cases h
        exact if_pos h3
      · rename_i h3
        refine (if_neg h3).trans ?_
        split at h
        · rename_i h4
          cases h
          exact if_pos h4
        · rename_i h4
          refine (if_neg h4).trans ?_
          split at h
          · cases h
          · rename_i h5
            cases h
            exact if_neg h5
end DL
set_option linter.all false
set_option maxRecDepth 100000
set_option maxHeartbeats 8000000
namespace DL
open PySem L2
/-! ### statements compiled -/
def swB (sc : Scope) (x : Str) (px : Pos) (s : Scope) (cp : Pos) : Bool := sc.names.lookup x == some .local && px.line == cp.line && !(s.names.any fun (n, k) => n == x && (k == .local || k == .cell))
theorem swB_ok {sc : Scope} {env : Env} {x : Str} {px cp : Pos} {s : Scope} {elt : Expr} {gs : List Comprehension} {l : Nat} (hs : env.scope = sc) (hk : sc.kind = .function) : swapsWith (.ListComp elt gs s cp) (some (.Name x px)) l env = pure (swB sc x px s cp) := by
  have hb : env.blockKind = .function := by
    unfold Env.blockKind
    rw [hs, hk]; rfl
  have hkd : env.kindOf x = sc.names.lookup x := by unfold Env.kindOf; rw [hs]
  unfold swapsWith swB
  simp only [hb, hkd, Expr.pos]
  rfl
/-- a name that may be stored -/
def stoN (c : CE) (sc : Scope) (x : Str) : Option Nat := if (isLocal sc x || isCell sc x) = true then idxIn c.N x else none
def isAppend (m : Str) : Bool := decide (m = "append")
def isInsert (m : Str) : Bool := decide (m = "insert")
def mkSet (c : CE) (i : Nat) (e : E) : S := if i ∈ c.mu then .setM i e else .set i e
def isTuple : Expr → Bool
  | .Tuple .. => true
  | _ => false
def compPar (c : CE) (sc : Scope) (f : Expr → Option E) (ts es : List Expr) : Option S := match swapP sc ts es, compEs f es with
  | some (some _), some ies => match ts with
    | [.Name x _, .Name y _] => if isLocal sc x = true ∧ isLocal sc y = true then match idxIn c.N x, idxIn c.N y, es with
      | some i, some j, [_, _] => if i ≠ j ∧ swapP sc ts es = some (some [x, y]) then some (.par [i, j] ies) else none
      | _, _, _ => none else none
    | [.Name x _, .Name y _, .Name z _] => if isLocal sc x = true ∧ isLocal sc y = true ∧ isLocal sc z = true then match idxIn c.N x, idxIn c.N y, idxIn c.N z, es with
      | some i, some j, some l, [_, _, _] => if i ≠ j ∧ i ≠ l ∧ j ≠ l ∧ swapP sc ts es = some (some [x, y, z]) then some (.par [i, j, l] ies) else none
      | _, _, _, _ => none else none
    | _ => none
  | some none, some ies => match compTg.go c (fun x => isLocal sc x || isCell sc x) ts with
    | some is => some (.par is ies)
    | none => none
  | _, _ => none
mutual
def compS (c : CE) : Nat → Scope → Stmt → Option S
  | 0, _, _ => none
  | n + 1, sc, st => match st with
    | .Pass _ => some .pass
    | .Break _ => some .brk
    | .Continue _ => some .cnt
    | .Return none _ => some .retN
    | .Return (some e) _ => (compE c n sc e).map S.ret
    | .Expr (.Constant (.str _) _ _) _ => some .pass
    | .Expr (.Call (.Attribute o m ap) [a] [] cp) _ => if m = "append" then
        (match compE c n sc o, compE c n sc a with
        | some io, some ia => if noCall0 o = true ∧ noStar a = true ∧ (ap.endLine == cp.line) = true then some (.app io ia) else none
        | _, _ => none) else (compE c n sc (.Call (.Attribute o m ap) [a] [] cp)).map S.exp
    | .Expr (.Call (.Attribute o m ap) [i, a] [] cp) _ => if m = "insert" then
        (match compE c n sc o, compE c n sc i, compE c n sc a with
        | some io, some ii, some ia => if noCall0 o = true ∧ noStar i = true ∧ noStar a = true ∧ (ap.endLine == cp.line) = true then some (.ins io ii ia) else none
        | _, _, _ => none) else (compE c n sc (.Call (.Attribute o m ap) [i, a] [] cp)).map S.exp
    | .Expr e _ => if noComp e = true then (compE c n sc e).map S.exp else none
    | .Assign [.Name x px] (.ListComp elt [⟨tg, iter, ifs, 0⟩] scope cp) _ => match stoN c sc x, compLC c n sc elt tg iter ifs scope with
      | some i, some e => some (mkSet c i e)
      | _, _ => none
    | .Assign [.Name x px] e _ => if noComp e = true then (match stoN c sc x, compE c n sc e with
      | some i, some e => some (mkSet c i e)
      | _, _ => none) else none
    | .Assign [.Tuple ts _ _] (.Tuple es _ _) _ => compPar c sc (compE c n sc) ts es
    | .Assign [.Tuple ts _ _] e _ => if noComp e = true ∧ isTuple e = false then (match compTg.go c (fun x => isLocal sc x || isCell sc x) ts, compE c n sc e with
      | some is, some ie => some (.unp is ie)
      | _, _ => none) else none
    | .Assign [.Subscript o i _] e _ => if noComp e = true ∧ noSlice i = true then (match compE c n sc o, compE c n sc i, compE c n sc e with
      | some io, some ii, some ie => some (.sto io ii ie)
      | _, _, _ => none) else none
    | .AugAssign (.Name x _) op e _ => match stoN c sc x, compE c n sc e with
      | some i, some ie => some (.aug i op ie)
      | _, _ => none
    | .AugAssign (.Subscript o i _) op e _ => if noSlice i = true then (match compE c n sc o, compE c n sc i, compE c n sc e with
      | some io, some ii, some ie => some (.augS io ii op ie)
      | _, _, _ => none) else none
    | .If t a b _ => match compT c n sc t, compSs c n sc a, compSs c n sc b with
      | some t, some a, some b => some (.iff t a b)
      | _, _, _ => none
    | .For tg iter body [] _ => if noSet iter = true then (match compTg c sc (fun x => isLocal sc x || isCell sc x) tg, compI c sc (compE c n sc) iter, compSs c n sc body with
      | some (is, one), some it, some b => some (.for_ is one it b)
      | _, _, _ => none) else none
    | _ => none
def compSs (c : CE) : Nat → Scope → List Stmt → Option Ss
  | 0, _, _ => none
  | _ + 1, _, [] => some .nil
  | n + 1, sc, s :: ss => match compS c n sc s, compSs c n sc ss with
    | some a, some b => some (.cons a b)
    | _, _ => none
end
section
variable {c : CE} {Φ : Fns} {γ : List D}
/-- a def's own context -/
structure BOk (c : CE) (Φ : Fns) (γ : List D) (X : Cx) (W : WX) (scp : Scope) : Prop where
  x : XOk c Φ γ X scp
  tk : Takes X W
  own : PassesOwn (model X.prog X.w) X.A X.env X.xe
  fnT : ∀ y, X.fn y = true
def QOk (c : CE) (Φ : Fns) (γ : List D) (n : Nat) : Prop :=
  (∀ (sc : Scope) (st : Stmt) (ir : S), compS c n sc st = some ir → ∀ (X : Cx) (W : WX), BOk c Φ γ X W sc → SS Φ γ X W st ir) ∧
  (∀ (sc : Scope) (st : List Stmt) (ir : Ss), compSs c n sc st = some ir → ∀ (X : Cx) (W : WX), BOk c Φ γ X W sc → SSs Φ γ X W st ir)
theorem BOk.nd {X : Cx} {W : WX} {sc : Scope} (b : BOk c Φ γ X W sc) : X.N.Nodup := by rw [b.x.N]; exact b.x.nd
theorem BOk.sto {X : Cx} {W : WX} {sc : Scope} (b : BOk c Φ γ X W sc) {x : Str} {i : Nat} (h : stoN c sc x = some i) : X.N[i]? = some x ∧ Loc X.env.scope x := by
  unfold stoN at h
  split at h
  · rename_i hc
    simp only [Bool.or_eq_true] at hc
    refine ⟨by rw [b.x.N]; exact idxIn_get h, ?_⟩
    rw [b.x.sc]
    rcases hc with hc | hc
    · exact .inl (isLocal_ok hc)
    · exact .inr (isCell_ok hc)
  · cases h
theorem BOk.tgN {X : Cx} {W : WX} {sc : Scope} (b : BOk c Φ γ X W sc) : ∀ x, (isLocal sc x || isCell sc x) = true → Loc X.env.scope x ∧ (X.fn x = true ∨ X.env.scope.names.lookup x = some .local) := fun x hx => by
  simp only [Bool.or_eq_true] at hx
  refine ⟨?_, .inl (b.fnT x)⟩
  rw [b.x.sc]
  rcases hx with hx | hx
  · exact .inl (isLocal_ok hx)
  · exact .inr (isCell_ok hx)
theorem BOk.tup {X : Cx} {W : WX} {sc : Scope} (b : BOk c Φ γ X W sc) {ts : List Expr} {k : Nat} {p : Pos} {is : List Nat} (h : compTg.go c (fun x => isLocal sc x || isCell sc x) ts = some is) : PG X (.Tuple ts k p) (gT X.K is false) :=
  tg_ok (sc := sc) (ok := fun x => isLocal sc x || isCell sc x) b.x.N b.x.nd b.x.cal.calm b.tgN (by show (compTg.go c (fun x => isLocal sc x || isCell sc x) ts).map (fun is => (is, false)) = _; rw [h]; rfl)
theorem par_ok {X : Cx} {W : WX} {sc : Scope} (b : BOk c Φ γ X W sc) {f : Expr → Option E} (hf : ∀ e ir, f e = some ir → SE Φ γ X W e ir) {ts es : List Expr} {kt k2 : Nat} {pt p2 pos : Pos} {ir : S} (h : compPar c sc f ts es = some ir) :
    SS Φ γ X W (.Assign [.Tuple ts kt pt] (.Tuple es k2 p2) pos) ir := by
  have loc : ∀ {x}, isLocal sc x = true → X.env.scope.names.lookup x = some .local := fun h => by rw [b.x.sc]; exact isLocal_ok h
  have ix : ∀ {x i}, idxIn c.N x = some i → X.N[i]? = some x := fun h => by rw [b.x.N]; exact idxIn_get h
  unfold compPar at h
  split at h
  · rename_i nm ies h1 h2
    split at h
    · split at h
      · rename_i hl
        split at h
        · split at h
          · rename_i i j _ _ hi hj hc
            cases h
            exact ss_par2 b.x.cal.calm b.nd (ix hi) (ix hj) hc.1 (loc hl.1) (loc hl.2) (es_ok hf h2).1 (swapP_ok b.x.sc b.x.kind hc.2)
          · cases h
        · cases h
      · cases h
    · split at h
      · rename_i hl
        split at h
        · split at h
          · rename_i i j l _ _ _ hi hj hk hc
            cases h
            exact ss_par3 b.x.cal.calm b.nd (ix hi) (ix hj) (ix hk) hc.1 hc.2.1 hc.2.2.1 (loc hl.1) (loc hl.2.1) (loc hl.2.2) (es_ok hf h2).1 (swapP_ok b.x.sc b.x.kind hc.2.2.2)
          · cases h
        · cases h
      · cases h
    · cases h
  · rename_i ies h1 h2
    split at h
    · rename_i is hi
      cases h
      exact ss_parN (b.tup hi) (es_ok hf h2).1 (swapP_ok b.x.sc b.x.kind h1)
    · cases h
  · cases h
theorem asg_sub {o i : Expr} {p : Pos} {env : Env} (h : noSlice i = true) (v : Value) : assign (.Subscript o i p) env v = (do
      let ov ← holding [v] (eval o env)
      let iv ← holding [v, ov] (eval i env)
      standAt p
      holding [v, ov, iv] (setItem ov iv v)
      release [v, ov, iv] []) := by
  cases i <;> first | rfl | cases h
theorem sole_ok {e t : Expr} (h : noComp e = true) (l : Nat) (env : Env) : swapsWithSole [t] e l env = pure false := swaps_ok h (some t) l env
theorem sws_sub {o i e : Expr} {p : Pos} (env : Env) : swappedStores [.Subscript o i p] e env = pure none := by
  unfold swappedStores
  rfl
theorem sws_tup {ts : List Expr} {k : Nat} {p : Pos} {e : Expr} (h : isTuple e = false) (env : Env) : swappedStores [.Tuple ts k p] e env = pure none := by
  unfold swappedStores
  cases e <;> first | rfl | cases h
theorem s_ok {n : Nat} (ih : QOk c Φ γ n) {sc : Scope} {st : Stmt} {ir : S} (h : compS c (n + 1) sc st = some ir) {X : Cx} {W : WX} (b : BOk c Φ γ X W sc) : SS Φ γ X W st ir := by
  have rcE : ∀ e ir, compE c n sc e = some ir → SE Φ γ X W e ir := fun e ir h => (all_ok n).1 _ _ _ h _ _ b.x b.tk
  have one : ∀ {e : Expr}, noStar e = true → starEach [e] X.env = [(false, eval e X.env)] := fun h => star_cons h [] _
  unfold compS at h
  split at h
  · cases h; exact ss_pass
  · cases h; exact ss_brk
  · cases h; exact ss_cnt
  · cases h; exact ss_retN
  · rename_i e p
    cases e2 : compE c n sc e with
    | none => rw [e2] at h; cases h
    | some ie => rw [e2] at h; cases h; exact ss_ret (rcE _ _ e2)
  · cases h; exact ss_doc
  · rename_i o m ap a cp p
    split at h
    · rename_i hm
      subst hm
      split at h
      · rename_i io ia ho ha
        split at h
        · rename_i hc
          cases h
          exact ss_app (rcE _ _ ho) (rcE _ _ ha) (base_ok hc.1 _ _ _) (by rw [one hc.2.1]; rfl) hc.2.2 (star_cons hc.2.1 _ _)
        · cases h
      · cases h
    · cases e2 : compE c n sc (.Call (.Attribute o m ap) [a] [] cp) with
      | none => rw [e2] at h; cases h
      | some ie => rw [e2] at h; cases h; exact ss_exp (rcE _ _ e2) (swaps_ok rfl _ _ _)
  · rename_i o m ap i a cp p
    split at h
    · rename_i hm
      subst hm
      split at h
      · rename_i io ii ia ho hi ha
        split at h
        · rename_i hc
          cases h
          refine ss_ins (rcE _ _ ho) (rcE _ _ hi) (rcE _ _ ha) (base_ok hc.1 _ _ _) (by rw [star_cons hc.2.1, one hc.2.2.1]; rfl) hc.2.2.2 (star_cons hc.2.1 _ _) (star_cons hc.2.2.1 _ _) (by rw [one hc.2.2.1]; rfl)
        · cases h
      · cases h
    · cases e2 : compE c n sc (.Call (.Attribute o m ap) [i, a] [] cp) with
      | none => rw [e2] at h; cases h
      | some ie => rw [e2] at h; cases h; exact ss_exp (rcE _ _ e2) (swaps_ok rfl _ _ _)
  · rename_i e p _ _ _
    split at h
    · rename_i hn
      cases e2 : compE c n sc e with
      | none => rw [e2] at h; cases h
      | some ie => rw [e2] at h; cases h; exact ss_exp (rcE _ _ e2) (swaps_ok hn _ _ _)
    · cases h
  · -- name = [..]
    rename_i x px elt tg iter ifs scope cp p
    split at h
    · rename_i i e hi he
      obtain ⟨ie, is, on, it, cond, rfl, l⟩ := (all_ok n).2.2 _ _ _ _ _ _ _ he _ _ b.x b.tk
      obtain ⟨h1, h2⟩ := b.sto hi
      cases hsw : swB sc x px scope cp with
      | true =>
        have hx : X.env.scope.names.lookup x = some .local := by
          unfold swB at hsw
          simp only [Bool.and_eq_true, beq_iff_eq] at hsw
          rw [b.x.sc]; exact hsw.1.1
        have z := ss_setLc (pos := cp) (py := px) (spos := p) b.x.cal.calm b.nd h1 hx (by rw [swB_ok b.x.sc b.x.kind, hsw]) l.si l.blk l.pg l.sc l.se l.fs l.own
        cases h
        unfold mkSet
        split
        · exact z.2
        · exact z.1
      | false =>
        have sx := l.sexp (pos := cp) b.x
        have hs : swapsWith (.ListComp elt [⟨tg, iter, ifs, 0⟩] scope cp) (some (.Name x px)) p.line X.env = pure false := by rw [swB_ok b.x.sc b.x.kind, hsw]
        cases h
        unfold mkSet
        split
        · exact ss_setM b.nd h1 h2 sx hs (.inl (b.fnT x))
        · exact ss_set b.nd h1 h2 sx hs (.inl (b.fnT x))
    · cases h
  · rename_i x px e p _
    split at h
    · rename_i hn
      split at h
      · rename_i i ie hi he
        obtain ⟨h1, h2⟩ := b.sto hi
        cases h
        unfold mkSet
        split
        · exact ss_setM b.nd h1 h2 (rcE _ _ he) (swaps_ok hn _ _ _) (.inl (b.fnT x))
        · exact ss_set b.nd h1 h2 (rcE _ _ he) (swaps_ok hn _ _ _) (.inl (b.fnT x))
      · cases h
    · cases h
  · exact par_ok b rcE h
  · split at h
    · rename_i hn
      split at h
      · rename_i is ie hi he
        cases h
        exact ss_unp (b.tup hi) (rcE _ _ he) (sole_ok hn.1 _ _) (sws_tup hn.2 _)
      · cases h
    · cases h
  · split at h
    · rename_i hn
      split at h
      · rename_i io ii ie ho hi he
        cases h
        exact ss_sto (rcE _ _ ho) (rcE _ _ hi) (rcE _ _ he) (asg_sub hn.2) (sole_ok hn.1 _ _) (sws_sub _) rfl
      · cases h
    · cases h
  · split at h
    · rename_i i ie hi he
      obtain ⟨h1, h2⟩ := b.sto hi
      cases h
      exact ss_aug b.nd h1 h2 (rcE _ _ he) (.inl (b.fnT _))
    · cases h
  · split at h
    · rename_i hn
      split at h
      · rename_i io ii ie ho hi he
        cases h
        exact ss_augS (rcE _ _ ho) (rcE _ _ hi) (rcE _ _ he) hn
      · cases h
    · cases h
  · split at h
    · rename_i t a b' ht ha hb
      cases h
      exact ss_iff ((all_ok n).2.1 _ _ _ ht _ _ b.x b.tk).1 (ih.2 _ _ _ ha _ _ b) (ih.2 _ _ _ hb _ _ b)
    · cases h
  · split at h
    · rename_i hn
      split at h
      · rename_i is on it bd hg hi hb
        cases h
        exact ss_for b.own b.x.cal.calm (i_ok b.x rcE hi) (tg_ok b.x.N b.x.nd b.x.cal.calm b.tgN hg) (ih.2 _ _ _ hb _ _ b) (folded_ok hn _)
      · cases h
    · cases h
  · cases h
theorem stmts_ok : ∀ n : Nat, QOk c Φ γ n
  | 0 => ⟨fun _ _ _ h => (by unfold compS at h; cases h), fun _ _ _ h => (by unfold compSs at h; cases h)⟩
  | n + 1 => ⟨fun _ _ _ h X W b => s_ok (stmts_ok n) h b, fun sc st ir h X W b => by
      cases st with
      | nil => unfold compSs at h; cases h; exact sss_nil
      | cons s ss =>
        unfold compSs at h
        split at h
        · rename_i ia ib ha hb
          cases h
          exact sss_cons ((stmts_ok n).1 _ _ _ ha _ _ b) ((stmts_ok n).2 _ _ _ hb _ _ b)
        · cases h⟩
end
end DL
set_option linter.all false
set_option maxRecDepth 100000
set_option maxHeartbeats 8000000
namespace DL
open PySem L2
/-! ### defs -/
section
variable {K : PySem.W.Frag} {G G1 : Hp} {M M1 : MS} {H H1 : Hp}
theorem restrict_some {a : Addr} {mo : MO} (h : restrict M M1 a = some mo) : M1 a = some mo := by
  unfold restrict at h
  split at h
  · rename_i ds e
    split at h
    · rw [e]; exact h
    · cases h
  · exact h
theorem restrict_none {a : Addr} (h : M1 a = none) : restrict M M1 a = none := by unfold restrict; rw [h]
theorem Step.restrict (s : Step K G M H G1 M1 H1) : Step K G M H G1 (restrict M M1) H1 where
  ok := ⟨s.ok.sub, fun a mo e => s.ok.dis a mo (restrict_some e), fun a mo e => s.ok.mok a mo (restrict_some e)⟩
  sub := s.sub
  keep := s.keep
  newM := fun a mo hm e => s.newM a mo hm (restrict_some e)
  dom := s.dom
  newG := s.newG
theorem Rv.restrict {v : V} {r : R} (h : Rv K H G1 M1 H1 v r) : Rv K H G1 (DL.restrict M M1) H1 v r := by
  cases r with
  | val d => exact h
  | new ds => obtain ⟨p, vs, e1, e2, e3, e4, e5, e6⟩ := h; exact ⟨p, vs, e1, e2, e3, e4, restrict_none e5, e6⟩
theorem ret_ok {Q : VK} {Qd : KR} {v : V} {r : R} (hq : ∀ r M', Qd r M' → PostV K G M H Q r M') (s : Step K G M H G1 M1 H1) (rv : Rv K H G1 M1 H1 v r) (h : retR M Qd r M1) : Q v H1 := by
  have plain : Qd r (DL.restrict M M1) → Q v H1 := fun q => hq _ _ q v G1 H1 s.restrict rv.restrict
  unfold retR at h
  split at h
  · rename_i p
    split at h
    · rename_i ds h1 h2
      have rv' : Dv K G1 v (.obj p) := rv
      cases rv'
      obtain ⟨vs, hv, t⟩ := s.ok.mok p _ h2
      refine hq _ _ h _ G1 H1 s.restrict ⟨p, vs, rfl, s.newM p _ h1 h2, hv, s.ok.dis p _ h2, ?_, t⟩
      unfold DL.restrict
      rw [h2, h1]; rfl
    · exact plain h
  · exact plain h
end
/-- the names of a def -/
def scopeB (N ps : List Str) (sc : Scope) : Bool :=
  (match sc.kind with | .function => true | _ => false) && !sc.isCoroutine && !sc.isGenerator && decide N.Nodup && decide (N.take ps.length = ps) &&
    (ps.all fun x => match sc.names.lookup x with | some .local => true | some .cell => true | _ => false) && (sc.names.all fun y => decide (y.2 ≠ .free))
theorem scopeB_ok {N ps : List Str} {sc : Scope} (h : scopeB N ps sc = true) : FnScope N ps sc := by
  unfold scopeB at h
  simp only [Bool.and_eq_true, Bool.not_eq_true', decide_eq_true_eq, List.all_eq_true] at h
  obtain ⟨⟨⟨⟨⟨⟨h1, h2⟩, h3⟩, h4⟩, h5⟩, h6⟩, h7⟩ := h
  refine ⟨?_, h2, h3, h4, h5, fun x hx => ?_, h7⟩
  · split at h1
    · assumption
    · cases h1
  · have z := h6 x hx
    split at z
    · exact .inl (by assumption)
    · exact .inr (by assumption)
    · cases z
section
variable {P : Program} {w : World} {K : PySem.W.Frag} {mg : Str → Option Value} {base : Heap}
/-- a def of the text, by its body's rules -/
theorem fn_g {k : Nat} {x qual : Str} {st : Stmt} {f : Addr} {fd : FuncData} {N ps : List Str} {sp : Sp} (F : Fun K x qual st f fd) (S : FnScope N ps (defScope st)) (len : ∀ vs H Q E, sp vs H Q E → vs.length = ps.length)
    (body : ∀ (cdv : Value) (A : Around) (outer : List Env) (s : Shared) (H : Hp) (vs : List V) (Q : VK) (E : XK), Rm k (A.deeper (PyProof.Rows.envOfC qual (defScope st) s.heap.objs.size f cdv)) → sp vs H Q E →
      ∃ t, PSs (cxOf (L2.CX P w) P w K mg base N qual (defScope st) f cdv A outer s H E) (defBody st) t ∧ t { nx := fun _ H' => Q .non H', rt := Q } (L2.start N vs) H) : FnG P w K mg base (k + 1) f fd ps sp := by
  obtain ⟨oc, od, kV, doc, pm, an, cdv, ct, osl, rfl, lk, hcd⟩ := F.ex
  refine ⟨len, ?_⟩
  intro A outer s H args us vs Q E hr e0 hb r hsp
  have kin : K.In s.heap := e0.mod.kin.keeps fun b o e => (e0.bs b o e).1
  have nol : s.heap.NoLimit := e0.mod.nolimit.keeps fun b o e => (e0.bs b o e).1
  have kinds : ∀ y ∈ ps.zip us, (defScope st).names.lookup y.1 = some .local ∨ ((defScope st).names.lookup y.1 = some .cell ∧ ((cellsFrom (s.heap.objs.size + 1) (defScope st).names []).lookup y.1).isSome = true) := by
    rintro ⟨n, v⟩ hy
    exact (S.par n (List.of_mem_zip hy).1).imp (fun q => q) fun q => ⟨q, PySem.W.cellsFrom_some _ _ _ (.inl q)⟩
  refine codeAny_call_function hr.room.depth (kin _ _ lk) rfl S.co S.gen rfl (PySem.W.codeRec_of kin hcd) (hb _ _ _ _ ?_)
  refine wpAny_newFunctionEnv_cells S.kind kinds ?_
  rintro env rfl s1 x
  refine ⟨nol.keeps x.toInCall.keep, codeAny_func ?_⟩
  obtain ⟨t, ht, hq⟩ := body cdv A outer s H vs Q E (hr.deeper _) hsp
  have inv : Inv (cxOf (L2.CX P w) P w K mg base N qual (defScope st) f cdv A outer s H E) [] (L2.start N vs) H s1 := inv_start S hr.room.hd e0 (len _ _ _ _ hsp) r x
  refine wpAny_mono (ht.run [] s1 (L2.start N vs) H _ inv hq) ?_ fun _ _ z => z
  intro fl s' hs
  match fl, hs with
  | .ret u, ⟨v, σ', H', J, rv, q⟩ => exact ⟨v, H', J.os, J.bare, J.base, J.hok, rv, q⟩
  | .next, ⟨σ', H', J, q⟩ => exact ⟨V.non, H', J.os, J.bare, J.base, J.hok, rfl, q⟩
  | .brk, ⟨_, _, _, q⟩ => exact q.elim
  | .cont, ⟨_, _, _, q⟩ => exact q.elim
/-- what a compiled def does is what its small form tells -/
theorem fn_comp {c : CE} {Φ : Fns} {γ : List D} {k n : Nat} {x qual : Str} {st : Stmt} {f : Addr} {fd : FuncData} {ps : List Str} {b : Ss} (F : Fun K x qual st f fd) (hS : scopeB c.N ps (defScope st) = true) (hb : compSs c n (defScope st) (defBody st) = some b)
    (hfn : ∀ (i : Nat) (y : Str), c.fns[i]? = some y → ∃ f fd ps, mg y = some (.ref f) ∧ PySem.W.keepIn K (.ref f) = true ∧ FnG P w K mg base k f fd ps (spD K (Φ i)) ∧ Binds K fd ps [])
    (hgl : ∀ (i : Nat) (y : Str), c.gls[i]? = some y → ∃ v u d, γ[i]? = some d ∧ mg y = some u ∧ RelV v u ∧ ∀ G, Dv K G v d) (hbl : ∀ y, y ∈ c.bls → mg y = none) (hsm : ∃ o, base.get? sysModules = some o) :
    FnG P w K mg base (k + 1) f fd ps (spD K (callDef Φ γ ⟨ps.length, c.N.length, b⟩)) := by
  have S := scopeB_ok hS
  refine fn_g F S (fun vs H Q E h => ?_) (fun cdv A outer s H vs Q E hr h => ?_)
  · obtain ⟨G, M, ds, Qd, Zd, _, t, _, _, h, _⟩ := h
    exact t.length.trans h
  · obtain ⟨G, M, ds, Qd, Zd, ok, t, hq, hz, hl, h⟩ := h
    have bo : BOk c Φ γ (cxOf (L2.CX P w) P w K mg base c.N qual (defScope st) f cdv A outer s H E) (fun cls d _ H' => E cls d H') (defScope st) :=
      ⟨⟨rfl, S.nd, ⟨rfl, hr.gd, by have := hr.room.un; show (A.deeper _).units + 70 < cLine; omega, hsm⟩, rfl, S.kind,
        fun i y e => let ⟨f, fd, ps, h1, h2, h3, h4⟩ := hfn i y e; ⟨f, fd, ps, k, h1, h2, hr, h3, h4⟩, hgl, hbl⟩, takes_of rfl rfl rfl rfl, passes_of rfl, fun _ => rfl⟩
    obtain ⟨t', pt, rt⟩ := (stmts_ok n).2 _ _ _ hb _ _ bo
    refine ⟨t', pt, rt (L2.start c.N vs) (ds.map some ++ List.replicate (c.N.length - ps.length) none) G M H _ _ ok ?_ ⟨?_, ?_, ?_, ?_, ?_⟩ h⟩
    · have tl := t.length
      have hl' : ds.length = ps.length := hl
      refine ⟨?_, fun i d e => ?_⟩
      · unfold L2.start
        simp only [List.length_append, List.length_map, List.length_replicate]
        omega
      · unfold L2.start
        by_cases hi : i < ds.length
        · rw [List.getElem?_append_left (by simpa using hi), List.getElem?_map] at e
          cases e2 : ds[i]? with
          | none => rw [e2] at e; cases e
          | some d' =>
            rw [e2] at e
            cases e
            obtain ⟨v, h1, h2⟩ := t.get e2
            refine ⟨v, ?_, h2⟩
            rw [List.getElem?_append_left (by simp; omega), List.getElem?_map, h1]; rfl
        · rw [List.getElem?_append_right (by simpa using hi), List.getElem?_replicate] at e
          split at e <;> cases e
    · intro δ' M' q σ' G' H' s' er
      exact hq _ _ q .non G' H' s'.restrict .non
    · intro r M' q v G' H' s' rv
      exact ret_ok hq s' rv q
    · intro δ' M' q
      exact q.elim
    · intro δ' M' q
      exact q.elim
    · intro x δ' M' q dA σ' G' H' s' xr er
      exact hz _ _ q dA G' H' s'.restrict xr
end
/-! ### the whole table, by the depth of calls -/
inductive Ent where
  | comp (d : Def) | prim (φ : List D → MS → KR → KX → Prop)
def callN (tab : List Ent) (γ : List D) : Nat → Fns
  | 0, _ => fun _ _ _ _ => False
  | n + 1, i => match tab[i]? with
    | some (.comp d) => callDef (callN tab γ n) γ d
    | some (.prim φ) => φ
    | none => fun _ _ _ _ => False
/-- what the top has left of a def, and how it was compiled -/
structure EntOk (P : Program) (w : World) (K : PySem.W.Frag) (mg : Str → Option Value) (base : Heap) (fns gls : List Str) (γ : List D) (L : Nat) (y : Str) (e : Ent) (f : Addr) (fd : FuncData) (ps : List Str) : Prop where
  gm : mg y = some (.ref f)
  kp : PySem.W.keepIn K (.ref f) = true
  bd : Binds K fd ps []
  ok : match e with
    | .comp d => ∃ (c : CE) (n : Nat) (x qual : Str) (st : Stmt), c.fns = fns ∧ c.gls = gls ∧ (∀ z ∈ c.bls, mg z = none) ∧ Fun K x qual st f fd ∧ scopeB c.N ps (defScope st) = true ∧ compSs c n (defScope st) (defBody st) = some d.body ∧ d.arity = ps.length ∧ d.slots = c.N.length
    | .prim φ => FnG P w K mg base L f fd ps (spD K φ)
theorem FnG.never {P : Program} {w : World} {K : PySem.W.Frag} {mg : Str → Option Value} {base : Heap} {k : Nat} {f : Addr} {fd : FuncData} {ps : List Str} {sp : Sp} (h : ∀ vs H Q E, ¬ sp vs H Q E) : FnG P w K mg base k f fd ps sp :=
  ⟨fun vs H Q E z => (h vs H Q E z).elim, fun _ _ _ H _ _ vs Q E _ _ _ _ z => (h vs H Q E z).elim⟩
theorem spD_never {K : PySem.W.Frag} : ∀ vs H Q E, ¬ spD K (fun _ _ _ _ => False) vs H Q E := fun vs H Q E ⟨_, _, _, _, _, _, _, _, _, z⟩ => z
theorem table_ok {P : Program} {w : World} {K : PySem.W.Frag} {mg : Str → Option Value} {base : Heap} {fns gls : List Str} {tab : List Ent} {γ : List D} {L : Nat}
    (hsm : ∃ o, base.get? sysModules = some o) (hgl : ∀ (i : Nat) (y : Str), gls[i]? = some y → ∃ v u d, γ[i]? = some d ∧ mg y = some u ∧ RelV v u ∧ ∀ G, Dv K G v d)
    (hlen : fns.length = tab.length) (hent : ∀ (i : Nat) (y : Str) (e : Ent), fns[i]? = some y → tab[i]? = some e → ∃ f fd ps, EntOk P w K mg base fns gls γ L y e f fd ps) :
    ∀ (n i : Nat) (y : Str) (e : Ent) (f : Addr) (fd : FuncData) (ps : List Str), fns[i]? = some y → tab[i]? = some e → EntOk P w K mg base fns gls γ L y e f fd ps → FnG P w K mg base (L + n) f fd ps (spD K (callN tab γ n i)) := by
  intro n
  induction n with
  | zero =>
    intro i y e f fd ps _ _ _
    exact FnG.never fun vs H Q E h => spD_never vs H Q E h
  | succ n ih =>
    intro i y e f fd ps hy he eo
    unfold callN
    rw [he]
    have ok := eo.ok
    cases e with
    | prim φ =>
      have ok : FnG P w K mg base L f fd ps (spD K φ) := ok
      exact ok.mono (by omega)
    | comp d =>
      obtain ⟨c, m, x, qual, st, h1, h2, h3, F, h4, h5, h6, h7⟩ := ok
      have z := fn_comp (P := P) (w := w) (mg := mg) (base := base) (Φ := callN tab γ n) (γ := γ) (k := L + n) F h4 h5 (fun j yj ej => by
        rw [h1] at ej
        have hj : j < tab.length := by
          have := (List.getElem?_eq_some_iff.mp ej).1
          omega
        obtain ⟨fj, fdj, psj, eoj⟩ := hent j yj _ ej (List.getElem?_eq_getElem hj)
        exact ⟨fj, fdj, psj, eoj.gm, eoj.kp, ih j yj _ fj fdj psj ej (List.getElem?_eq_getElem hj) eoj, eoj.bd⟩) (by rw [h2]; exact hgl) h3 hsm
      obtain ⟨ar, sl, bd⟩ := d
      simp only at h5 h6 h7
      subst h6 h7
      exact z
end DL
set_option linter.all false
set_option maxRecDepth 100000
set_option maxHeartbeats 8000000
namespace DL
open PySem L2 PyProof.Rows
/-! ### the law's own call -/
/-- the heap without what is tracked is a ground to stand on -/
theorem ground {P : Program} {w : World} {K : PySem.W.Frag} {mg mb : Str → Option Value} {s : Shared} {a : Addr} {vs : List Value} {H : Hp} (kin : K.In s.heap) (gl : s.heap.Ns mainGlobals mg) (bl : s.heap.Ns builtinsNs mb)
    (bb : ∀ x : Str, x ≠ "__name__" → mb x = bootBuiltins x) (lim : s.heap.NoLimit) (sys : ∃ mm, s.heap.Ns sysModules mm) (gen : s.gens = #[]) (ha : s.heap.get? a = some { cls := .type "list", data := .seq vs.toArray })
    (hok : HOk P w H s.heap) (alone : ∀ b, H b ≠ none → b = a) (hk : H a ≠ none → K.lookup a = none) :
    K.In (hidT s.heap H) ∧ (hidT s.heap H).Ns mainGlobals mg ∧ (∃ o, (hidT s.heap H).get? sysModules = some o) ∧ Env0 P w K mg (hidT s.heap H) callerA [] s H := by
  have dic : ∀ {b : Addr} {m : Str → Option Value}, s.heap.Ns b m → (hidT s.heap H).Ns b m := by
    rintro b m ⟨o, es, ep, e, d, r⟩
    refine ⟨o, es, ep, hidT_get e ?_, d, r⟩
    cases hb : H b with
    | none => rfl
    | some u =>
      have eb := alone b (by rw [hb]; simp)
      subst eb
      rw [ha] at e
      cases e
      cases d
  have kin' : K.In (hidT s.heap H) := fun b o e => hidT_get (kin b o e) (by
    cases hb : H b with
    | none => rfl
    | some u =>
      have eb := alone b (by rw [hb]; simp)
      subst eb
      rw [hk (by rw [hb]; simp)] at e
      cases e)
  obtain ⟨mc, l1, l2⟩ := lim
  obtain ⟨mm, y⟩ := sys
  obtain ⟨o, _, _, yo, _⟩ := dic y
  exact ⟨kin', dic gl, ⟨o, yo⟩, ⟨rfl, ⟨kin', dic gl, ⟨mb, dic bl, bb⟩, ⟨mc, dic l1, l2⟩⟩, fun b o e => of_hidT e, Nat.le_of_eq (hidT_size _ _), trivial, fun b hb => absurd (show b ∈ ([] : List Addr) from hb) (by simp), hok, .of_eq gen⟩⟩
theorem cx_none {P : Program} {w : World} {H : Hp} {s s' : Shared} {e : Value} (h : L2.CX P w [] H s (fun _ _ _ => False) e s') : False := by
  obtain ⟨_, _, _, _, _, _, _, _, _, _, _, _, z⟩ := h
  exact z
theorem law_g {P : Program} {w : World} {K : PySem.W.Frag} {mg mb : Str → Option Value} {k : Nat} {fa a : Addr} {fd : FuncData} {x : Str} {sp : Sp} {s : Shared} {vs : List Value} {ns : List Int} (kin : K.In s.heap) (gl : s.heap.Ns mainGlobals mg)
    (bl : s.heap.Ns builtinsNs mb) (bb : ∀ x : Str, x ≠ "__name__" → mb x = bootBuiltins x) (lim : s.heap.NoLimit) (sys : ∃ mm, s.heap.Ns sysModules mm) (gen : s.gens = #[]) (ha : s.heap.get? a = some { cls := .type "list", data := .seq vs.toArray })
    (hi : IntsAre vs ns) (hl : ns.length ≤ sizeLine) (hr : Room k callerA)
    (F : ∀ base : Heap, K.In base → base.Ns mainGlobals mg → (∃ o, base.get? sysModules = some o) → FnG P w K mg base k fa fd [x] sp) (hb : ∀ (s : Shared) (u : Value), BindsTo s fd ⟨[u], []⟩ [(x, u)])
    (hsp : ∀ H : Hp, Only H → SqL K H a (ns.map V.int) → sp [.ref a] H (fun v _ => v = .bl true) fun _ _ _ => False) :
    codeAny (model P w) callerA (.call (.ref fa) ⟨[.ref a], []⟩) (fun r s' => r = .ok (.ret (.bool true)) ∧ OldK s.heap s'.heap ∧ s'.os = s.os ∧ AllBare s'.gens) s := by
  have main : ∀ H : Hp, Only H → SqL K H a (ns.map V.int) → HOk P w H s.heap → (∀ b, H b ≠ none → b = a) → (H a ≠ none → K.lookup a = none) →
      codeAny (model P w) callerA (.call (.ref fa) ⟨[.ref a], []⟩) (fun r s' => r = .ok (.ret (.bool true)) ∧ OldK s.heap s'.heap ∧ s'.os = s.os ∧ AllBare s'.gens) s := fun H only sq hok alone hk => by
    obtain ⟨g1, g2, g3, e0⟩ := ground (P := P) (w := w) kin gl bl bb lim sys gen ha hok alone hk
    have run := (F _ g1 g2 g3).run callerA [] s H ⟨[.ref a], []⟩ [.ref a] [.ref a] _ _ ⟨hr, rfl⟩ e0 (hb s (.ref a)) (.cons rfl .nil) (hsp H only sq)
    refine codeAny_mono run fun r s' h => ?_
    match r, h with
    | .error e, h => exact (cx_none h).elim
    | .ok .next, h => exact h.elim
    | .ok .brk, h => exact h.elim
    | .ok .cont, h => exact h.elim
    | .ok (.ret u), ⟨v, H', os, bare, un, hok', rv, q⟩ =>
      have q' : v = .bl true := q
      subst q'
      obtain rfl : u = Value.bool true := rv
      refine ⟨rfl, OldK.of_keep fun b o e => ?_, os, bare⟩
      rcases only b with z | ⟨ob, xs, z⟩
      · exact un.keep b o e z (fun y => absurd (show b ∈ ([] : List Addr) from y) (by simp)) (by simp)
      · have e1 := (hok b _ z).1
        have e2 := (hok' b _ (un.frzs b ob _ z)).1
        rw [e] at e1
        cases e1
        exact e2
  have rv := vals_ints hi
  cases hk : K.lookup a with
  | some o =>
    have e := kin a o hk
    rw [ha] at e
    cases e
    refine main (fun _ => none) (fun _ => .inl rfl) (.inr ⟨_, vs.toArray, _, hk, rfl, rfl, rfl, ?_, by simpa using rv⟩) (fun b u z => ?_) (fun b z => absurd rfl z) fun z => absurd rfl z
    · rw [List.size_toArray, hi.length]; exact hl
    · exact absurd (show (none : Option HO) = some u from z) (by simp)
  | none =>
    have only1 : ∀ b, (fun b => if b = a then some (HO.frz { cls := .type "list", data := .seq vs.toArray } (.lst (ns.map V.int))) else none : Hp) b ≠ none → b = a := fun b z => by
      by_cases e : b = a
      · exact e
      · exact absurd (if_neg e) z
    refine main (fun b => if b = a then some (.frz { cls := .type "list", data := .seq vs.toArray } (.lst (ns.map V.int))) else none) (fun b => ?_) (.inl (.inr ⟨_, if_pos rfl⟩)) (fun b u z => ?_) only1 fun _ => hk
    · by_cases e : b = a
      · exact .inr ⟨_, _, if_pos e⟩
      · exact .inl (if_neg e)
    · have e := only1 b (by rw [z]; simp)
      subst e
      have z' := (if_pos rfl).symm.trans z
      cases z'
      exact ⟨ha, by rw [List.length_map]; exact hl, vs, _, rv, ha⟩
theorem walk_g {l : PySem.W.OpenLaw} {n k : Nat} {q : Program} {loose : List Str} {XP : (Str → Option Value) → Heap → Prop} {YP : World → Heap → Prop} {d : DefRec} {K : Params → PySem.W.Frag} {sp : World → Sp} {x : Str}
    (hn : l.most = some n) (hn2 : n ≤ sizeLine) (hdf : d.params.defaults = []) (hr : Room k callerA) (himp : importsNone q = true) (hY : ∀ (w : World) (h : Heap), YP w h → (K w.params).In h)
    (F : ∀ (w : World) (mg : Str → Option Value) (fa : Addr) (h : Heap), (K w.params).In h → h.Ns mainGlobals mg → mg d.name = some (.ref fa) →
      ∃ fd : FuncData, (∀ (s : Shared) (u : Value), BindsTo s fd ⟨[u], []⟩ [(x, u)]) ∧
        ∀ base : Heap, (K w.params).In base → base.Ns mainGlobals mg → (∃ o, base.get? sysModules = some o) → FnG l.prog w (K w.params) mg base k fa fd [x] (sp w))
    (hsp : ∀ (w : World) (H : Hp) (a : Addr) (ns : List Int), ns.length ≤ n → Only H → SqL (K w.params) H a (ns.map V.int) → sp w [.ref a] H (fun v _ => v = .bl true) fun _ _ _ => False) :
    PySem.W.WalkO q loose XP YP l.row.toRowW d [] (fun f vs => PySem.call f vs) := by
  refine Att.attach_call hn hdf ?_
  intro w s₀ s₁ mg mb fa o pm cd doc a vs ns G Y _ _ _ hmg hobj hints hlen hg
  obtain ⟨fd, b1, b2⟩ := F w mg fa _ (hY w _ Y) G.T.g hmg
  obtain ⟨mm, y, _⟩ := (G.T.seer himp).mods
  exact law_g (hY w _ Y) G.T.g G.T.b G.T.builtins G.T.nolimit ⟨mm, y⟩ hg hobj hints (Nat.le_trans hlen hn2) hr b2 b1 fun H o s => hsp w H a ns hlen o s
end DL
set_option linter.all false
set_option maxRecDepth 100000
set_option maxHeartbeats 8000000
namespace DL
open PySem L2
/-! ### steps: the small language's meaning, one construct at a time -/
section
variable {Φ : Fns} {γ : List D} {δ : DEnv} {M : MS} {Q : KR} {Z : KX} {F : DE}
theorem v_var {i : Nat} {d : D} (hd : δ[i]? = some (some d)) (h : Q (.val d) M) : evalE Φ γ (.var i) δ M Q Z := by unfold evalE; exact ⟨d, hd, h⟩
theorem v_cst {d : D} (h : Q (.val d) M) : evalE Φ γ (.cst d) δ M Q Z := by unfold evalE; exact h
theorem v_gl {i : Nat} {d : D} (hd : γ[i]? = some d) (h : Q (.val d) M) : evalE Φ γ (.gl i) δ M Q Z := by unfold evalE; exact ⟨d, hd, h⟩
theorem v_tup {es : Es} (h : evalEs Φ γ es δ M (fun ds M' => ds.length ≤ sizeLine ∧ Q (.val (.tup ds)) M') Z) : evalE Φ γ (.tup es) δ M Q Z := by unfold evalE; exact h
theorem v_lst {es : Es} (h : evalEs Φ γ es δ M (fun ds M' => ds.length ≤ sizeLine ∧ Q (.new ds) M') Z) : evalE Φ γ (.lst es) δ M Q Z := by unfold evalE; exact h
theorem v_dct {es : Es} (h : evalEs Φ γ es δ M (fun ds M' => ∃ kvs, pairsD ds = some kvs ∧ kvs.length ≤ 15 ∧ (kvs.map (·.1)).Nodup ∧ Q (.val (.dct kvs)) M') Z) : evalE Φ γ (.dct es) δ M Q Z := by unfold evalE; exact h
theorem v_bin {o : Operator} {a b : E} (h : evalE Φ γ a δ M (fun x M1 => evalE Φ γ b δ M1 (fun y M2 => ∃ r, op2 o (view M2 x.toD) (view M2 y.toD) = some r ∧ Q r M2) Z) Z) : evalE Φ γ (.bin o a b) δ M Q Z := by unfold evalE; exact h
theorem v_neg {a : E} (h : evalE Φ γ a δ M (fun x M1 => ∃ i, x.toD = .int i ∧ Q (.val (.int (-i))) M1) Z) : evalE Φ γ (.neg a) δ M Q Z := by unfold evalE; exact h
theorem v_cmp {o : CmpOp} {a b : E} (h : evalE Φ γ a δ M (fun x M1 => evalE Φ γ b δ M1 (fun y M2 => ∃ k, cmp2 o (view M2 x.toD) (view M2 y.toD) = some k ∧ Q (.val (.bl k)) M2) Z) Z) : evalE Φ γ (.cmp o a b) δ M Q Z := by unfold evalE; exact h
theorem v_chain {o o' : CmpOp} {a b c : E} (h : evalE Φ γ a δ M (fun x M1 => evalE Φ γ b δ M1 (fun y M2 => ∃ k, cmp2 o (view M2 x.toD) (view M2 y.toD) = some k ∧
      if k = true then evalE Φ γ c δ M2 (fun z M3 => ∃ k', cmp2 o' (view M3 y.toD) (view M3 z.toD) = some k' ∧ Q (.val (.bl k')) M3) Z else Q (.val (.bl false)) M2) Z) Z) : evalE Φ γ (.chain o o' a b c) δ M Q Z := by unfold evalE; exact h
theorem v_not {a : E} (h : evalE Φ γ a δ M (fun x M1 => ∃ k, truthD (view M1 x.toD) = some k ∧ Q (.val (.bl (!k))) M1) Z) : evalE Φ γ (.not a) δ M Q Z := by unfold evalE; exact h
theorem v_and {a b : E} (h : evalE Φ γ a δ M (fun x M1 => ∃ k, truthD (view M1 x.toD) = some k ∧ if k = true then evalE Φ γ b δ M1 Q Z else Q (.val x.toD) M1) Z) : evalE Φ γ (.and a b) δ M Q Z := by unfold evalE; exact h
theorem v_or {a b : E} (h : evalE Φ γ a δ M (fun x M1 => ∃ k, truthD (view M1 x.toD) = some k ∧ if k = true then Q (.val x.toD) M1 else evalE Φ γ b δ M1 Q Z) Z) : evalE Φ γ (.or a b) δ M Q Z := by unfold evalE; exact h
theorem v_ife {t : T} {a b : E} (h : evalT Φ γ t δ M (fun k M1 => if k = true then evalE Φ γ a δ M1 Q Z else evalE Φ γ b δ M1 Q Z) Z) : evalE Φ γ (.ife t a b) δ M Q Z := by unfold evalE; exact h
theorem v_idx {a i : E} (h : evalE Φ γ a δ M (fun x M1 => evalE Φ γ i δ M1 (fun y M2 => ∃ d, idxD (view M2 x.toD) y.toD = some d ∧ Q (.val d) M2) Z) Z) : evalE Φ γ (.idx a i) δ M Q Z := by unfold evalE; exact h
theorem v_slc {a : E} {lo hi : O} (h : evalE Φ γ a δ M (fun x M1 => evalO Φ γ lo δ M1 (fun l M2 => evalO Φ γ hi δ M2 (fun h M3 => ∃ r, slcD (view M3 x.toD) l h = some r ∧ Q r M3) Z) Z) Z) : evalE Φ γ (.slc a lo hi) δ M Q Z := by unfold evalE; exact h
theorem v_call {f : Nat} {es : Es} (h : evalEs Φ γ es δ M (fun ds M1 => Φ f ds M1 Q Z) Z) : evalE Φ γ (.call f es) δ M Q Z := by unfold evalE; exact h
theorem v_bi {b : BI} {es : Es} (h : evalEs Φ γ es δ M (fun ds M1 => ∃ r, biD b (ds.map (view M1)) = some r ∧ Q r M1) Z) : evalE Φ γ (.bi b es) δ M Q Z := by unfold evalE; exact h
theorem v_isi {a : E} {ts : List String} (h : evalE Φ γ a δ M (fun x M1 => ∃ k, isiD (view M1 x.toD) ts = some k ∧ Q (.val (.bl k)) M1) Z) : evalE Φ γ (.isi a ts) δ M Q Z := by unfold evalE; exact h
theorem v_mt {m : MT} {a : E} {es : Es} (h : evalE Φ γ a δ M (fun x M1 => ∃ z, x.toD = .str z ∧ evalEs Φ γ es δ M1 (fun ds M2 => ∃ r, mtD m (.str z) (ds.map (view M2)) = some r ∧ Q r M2) Z) Z) : evalE Φ γ (.mt m a es) δ M Q Z := by unfold evalE; exact h
theorem v_comp {elt : E} {tg : List Nat} {one : Bool} {own : List Nat} {it : I} {cond : T} (h : evalI Φ γ it δ M (fun src items M1 =>
      compLoop src (fun d acc M2 k => ∃ δ', bindT (wipeD δ own) tg one d = some δ' ∧ evalT Φ γ cond δ' M2 (fun b M3 =>
        if b = true then evalE Φ γ elt δ' M3 (fun r M4 => k (acc ++ [r.toD]) M4) (fun _ _ => False) else k acc M3) (fun _ _ => False)) items [] M1 fun acc M5 => Q (.new acc) M5) Z) : evalE Φ γ (.comp elt tg one own it cond) δ M Q Z := by unfold evalE; exact h
theorem va_nil {Q : List D → MS → Prop} (h : Q [] M) : evalEs Φ γ .nil δ M Q Z := by unfold evalEs; exact h
theorem va_cons {e : E} {es : Es} {Q : List D → MS → Prop} (h : evalE Φ γ e δ M (fun r M1 => evalEs Φ γ es δ M1 (fun ds M2 => Q (r.toD :: ds) M2) Z) Z) : evalEs Φ γ (.cons e es) δ M Q Z := by unfold evalEs; exact h
theorem vo_none {Q : Option Int → MS → Prop} (h : Q none M) : evalO Φ γ .none δ M Q Z := by unfold evalO; exact h
theorem vo_some {e : E} {Q : Option Int → MS → Prop} (h : evalE Φ γ e δ M (fun r M1 => ∃ i, r.toD = .int i ∧ Q (some i) M1) Z) : evalO Φ γ (.some e) δ M Q Z := by unfold evalO; exact h
theorem vt_yes {Q : Bool → MS → Prop} (h : Q true M) : evalT Φ γ .yes δ M Q Z := by unfold evalT; exact h
theorem vt_e {e : E} {Q : Bool → MS → Prop} (h : evalE Φ γ e δ M (fun r M1 => ∃ k, truthD (view M1 r.toD) = some k ∧ Q k M1) Z) : evalT Φ γ (.e e) δ M Q Z := by unfold evalT; exact h
theorem vt_and {a b : T} {Q : Bool → MS → Prop} (h : evalT Φ γ a δ M (fun k M1 => if k = true then evalT Φ γ b δ M1 Q Z else Q false M1) Z) : evalT Φ γ (.and a b) δ M Q Z := by unfold evalT; exact h
theorem vt_or {a b : T} {Q : Bool → MS → Prop} (h : evalT Φ γ a δ M (fun k M1 => if k = true then Q true M1 else evalT Φ γ b δ M1 Q Z) Z) : evalT Φ γ (.or a b) δ M Q Z := by unfold evalT; exact h
theorem vt_not {a : T} {Q : Bool → MS → Prop} (h : evalT Φ γ a δ M (fun k M1 => Q (!k) M1) Z) : evalT Φ γ (.not a) δ M Q Z := by unfold evalT; exact h
theorem vi_seq {e : E} {Q : (MS → Prop) → List D → MS → Prop} (h : evalE Φ γ e δ M (fun r M1 => ∃ items, itemsD (view M1 r.toD) = some items ∧ Q (fun M2 => itemsD (view M2 r.toD) = some items) items M1) Z) : evalI Φ γ (.seq e) δ M Q Z := by unfold evalI; exact h
theorem vi_rng1 {e : E} {Q : (MS → Prop) → List D → MS → Prop} (h : evalE Φ γ e δ M (fun r M1 => ∃ i, r.toD = .int i ∧ i < 2 ^ 62 ∧ -(2 ^ 62) ≤ i ∧ Q (fun _ => True) ((List.range i.toNat).map fun (k : Nat) => D.int (k : Int)) M1) Z) : evalI Φ γ (.rng1 e) δ M Q Z := by unfold evalI; exact h
theorem x_nil (h : F.nx δ M) : execSs Φ γ .nil F δ M := by unfold execSs; exact h
theorem x_cons {s : S} {ss : Ss} (h : execS Φ γ s { nx := fun δ' M' => execSs Φ γ ss F δ' M', rt := F.rt, bk := F.bk, ct := F.ct, xc := F.xc } δ M) : execSs Φ γ (.cons s ss) F δ M := by unfold execSs; exact h
theorem x_set {i : Nat} {e : E} (h : evalE Φ γ e δ M (fun r M1 => F.nx (δ.set i (some r.toD)) M1) fun x M1 => F.xc x δ M1) : execS Φ γ (.set i e) F δ M := by unfold execS; exact h
theorem x_setM {i : Nat} {e : E} (h : evalE Φ γ e δ M (fun r M1 => ∃ ds, r = .new ds ∧ ∀ p, M1 p = none → F.nx (δ.set i (some (.obj p))) (updM M1 p (.lst ds))) fun x M1 => F.xc x δ M1) : execS Φ γ (.setM i e) F δ M := by unfold execS; exact h
theorem x_par {is : List Nat} {es : Es} (h : evalEs Φ γ es δ M (fun ds M1 => ds.length ≤ sizeLine ∧ is.length = ds.length ∧ F.nx ((is.zip ds).foldl (fun δ p => δ.set p.1 (some p.2)) δ) M1) fun x M1 => F.xc x δ M1) : execS Φ γ (.par is es) F δ M := by unfold execS; exact h
theorem x_unp {is : List Nat} {e : E} (h : evalE Φ γ e δ M (fun r M1 => ∃ δ', bindT δ is false r.toD = some δ' ∧ F.nx δ' M1) fun x M1 => F.xc x δ M1) : execS Φ γ (.unp is e) F δ M := by unfold execS; exact h
theorem x_sto {o i e : E} (h : evalE Φ γ e δ M (fun y M1 => evalE Φ γ o δ M1 (fun x M2 => evalE Φ γ i δ M2 (fun z M3 => ∃ p ds k j, x.toD = .obj p ∧ M3 p = some (.lst ds) ∧ z.toD = .int k ∧ ixN ds.length k = some j ∧
      F.nx δ (updM M3 p (.lst (ds.set j y.toD)))) fun x M1 => F.xc x δ M1) fun x M1 => F.xc x δ M1) fun x M1 => F.xc x δ M1) : execS Φ γ (.sto o i e) F δ M := by unfold execS; exact h
theorem x_exp {e : E} (h : evalE Φ γ e δ M (fun _ M1 => F.nx δ M1) fun x M1 => F.xc x δ M1) : execS Φ γ (.exp e) F δ M := by unfold execS; exact h
theorem x_ret {e : E} (h : evalE Φ γ e δ M F.rt fun x M1 => F.xc x δ M1) : execS Φ γ (.ret e) F δ M := by unfold execS; exact h
theorem x_retN (h : F.rt (.val .non) M) : execS Φ γ .retN F δ M := by unfold execS; exact h
theorem x_iff {t : T} {a b : Ss} (h : evalT Φ γ t δ M (fun k M1 => if k = true then execSs Φ γ a F δ M1 else execSs Φ γ b F δ M1) fun x M1 => F.xc x δ M1) : execS Φ γ (.iff t a b) F δ M := by unfold execS; exact h
theorem x_pass (h : F.nx δ M) : execS Φ γ .pass F δ M := by unfold execS; exact h
theorem x_app {o e : E} (h : evalE Φ γ o δ M (fun x M1 => ∃ p, x.toD = .obj p ∧ (∃ ds, M1 p = some (.lst ds)) ∧ evalE Φ γ e δ M1 (fun y M2 => ∃ ds, M2 p = some (.lst ds) ∧ ds.length < sizeLine ∧ F.nx δ (updM M2 p (.lst (ds ++ [y.toD])))) fun x M1 => F.xc x δ M1) fun x M1 => F.xc x δ M1) : execS Φ γ (.app o e) F δ M := by unfold execS; exact h
theorem x_aug {i : Nat} {o : Operator} {e : E} {d : D} (hd : δ[i]? = some (some d)) (h : evalE Φ γ e δ M (fun y M1 =>
      (∃ p xs ys, d = .obj p ∧ o = .Add ∧ M1 p = some (.lst xs) ∧ view M1 y.toD = .lst ys ∧ xs.length + ys.length ≤ sizeLine ∧ F.nx δ (updM M1 p (.lst (xs ++ ys)))) ∨
      ∃ z, augD o d y.toD = some z ∧ F.nx (δ.set i (some z)) M1) fun x M1 => F.xc x δ M1) : execS Φ γ (.aug i o e) F δ M := by unfold execS; exact ⟨d, hd, h⟩
theorem x_augS {o i e : E} {op : Operator} (h : evalE Φ γ o δ M (fun x M1 => evalE Φ γ i δ M1 (fun z M2 => ∃ p k, x.toD = .obj p ∧ z.toD = .int k ∧ ∃ ds d, M2 p = some (.lst ds) ∧ atI ds k = some d ∧ evalE Φ γ e δ M2 (fun y M3 => ∃ w ds' j, augD op d y.toD = some w ∧ M3 p = some (.lst ds') ∧ ixN ds'.length k = some j ∧
      F.nx δ (updM M3 p (.lst (ds'.set j w)))) fun x M1 => F.xc x δ M1) fun x M1 => F.xc x δ M1) fun x M1 => F.xc x δ M1) : execS Φ γ (.augS o i op e) F δ M := by unfold execS; exact h
theorem x_for {tg : List Nat} {one : Bool} {it : I} {body : Ss} (h : evalI Φ γ it δ M (fun src items M1 => forLoop src (fun d δ' M' next => ∃ δ2, bindT δ' tg one d = some δ2 ∧ execSs Φ γ body { nx := next, rt := F.rt, bk := F.nx, ct := next, xc := F.xc } δ2 M') F.nx items δ M1) fun x M1 => F.xc x δ M1) : execS Φ γ (.for_ tg one it body) F δ M := by unfold execS; exact h
end
/-- an if whose test is a decision -/
theorem if_dec {c : Prop} [Decidable c] {A B : Prop} (h1 : c → A) (h2 : ¬ c → B) : if (decide c) = true then A else B := by
  by_cases h : c
  · rw [if_pos (decide_eq_true h)]; exact h1 h
  · rw [if_neg (by rw [decide_eq_false h]; exact Bool.false_ne_true)]; exact h2 h
theorem if_bl {k : Bool} {A B : Prop} (h1 : k = true → A) (h2 : k = false → B) : if k = true then A else B := by
  cases k
  · rw [if_neg Bool.false_ne_true]; exact h2 rfl
  · rw [if_pos rfl]; exact h1 rfl
theorem if_t {A B : Prop} (h : A) : if true = true then A else B := by rw [if_pos rfl]; exact h
theorem if_f {A B : Prop} (h : B) : if false = true then A else B := by rw [if_neg Bool.false_ne_true]; exact h
/-- a list with an identity, seen -/
theorem view_obj {M : MS} {p : Addr} {ds : List D} (h : M p = some (.lst ds)) : view M (.obj p) = .lst ds := by unfold view; simp only [h]
theorem idx_obj {M : MS} {p : Addr} {ds : List D} {k : Int} {d : D} (hM : M p = some (.lst ds)) (h : atI ds k = some d) : idxD (view M (R.toD (.val (.obj p)))) (R.toD (.val (.int k))) = some d := by
  show idxD (view M (.obj p)) (.int k) = some d
  rw [view_obj hM]; exact h
end DL
set_option linter.all false
set_option maxRecDepth 100000
set_option maxHeartbeats 8000000
namespace DL
open PySem L2
theorem c_def {Φ : Fns} {γ : List D} {ar sl : Nat} {b : Ss} {ds : List D} {M : MS} {Q : KR} {Z : KX} (δ0 : DEnv) (hl : ds.length = ar) (hδ : ds.map some ++ List.replicate (sl - ar) none = δ0)
    (h : execSs Φ γ b { nx := fun _ M' => Q (.val .non) (restrict M M'), rt := retR M Q, xc := fun x _ M' => Z x (restrict M M') } δ0 M) : callDef Φ γ ⟨ar, sl, b⟩ ds M Q Z := by
  subst hδ
  exact ⟨hl, h⟩
/-! ### decisions -/
theorem shaped_int (i : Int) : SeqAt.shaped (toP (.int i)) = true := by simp [SeqAt.shaped, toP, PyData.canLay0, PyData.depth]
theorem shaped_bl (i : Bool) : SeqAt.shaped (toP (.bl i)) = true := by simp [SeqAt.shaped, toP, PyData.canLay0, PyData.depth]
theorem eqS_of {x y : D} (h1 : isP x = true) (h2 : isP y = true) (h3 : SeqAt.shaped (toP x) = true) (h4 : SeqAt.shaped (toP y) = true) : eqS x y = some (PyData.eqv (toP x) (toP y)) := by
  unfold eqS
  rw [if_pos ⟨h1, h2, h3, h4⟩]
theorem eqv_int (i j : Int) : PyData.eqv (toP (.int i)) (toP (.int j)) = decide (i = j) := by
  simp only [toP, PyData.eqv]
  exact Bool.beq_eq_decide_eq i j
theorem eq_int (i j : Int) : cmp2 .Eq (.int i) (.int j) = some (decide (i = j)) := by
  show eqS (.int i) (.int j) = _
  rw [eqS_of rfl rfl (shaped_int i) (shaped_int j), eqv_int]
theorem ne_int (i j : Int) : cmp2 .NotEq (.int i) (.int j) = some (!decide (i = j)) := by
  show (eqS (.int i) (.int j)).map (!·) = _
  rw [eqS_of rfl rfl (shaped_int i) (shaped_int j), eqv_int]; rfl
theorem mul_ok {i j : Int} (h : (-(2 ^ 64) < i ∧ i < 2 ^ 64) ∨ (-(2 ^ 64) < j ∧ j < 2 ^ 64)) : op2 .Mult (.int i) (.int j) = some (.val (.int (i * j))) := if_pos h
theorem mod_ok {i j : Int} (h : 0 < j) : op2 .Mod (.int i) (.int j) = some (.val (.int (i % j))) := if_pos h
theorem div_ok {i j : Int} (h : 0 < j ∧ j < 1073741824) : op2 .FloorDiv (.int i) (.int j) = some (.val (.int (i / j))) := if_pos h
/-! ### the law's draws -/
def TAKE : Ss :=
  (.cons (.iff (.e (.cmp .Eq (.idx (.var 0) (.cst (.int 0))) (.cst (.int 0)))) (.cons (.set 2 (.cst (.int 0))) (.cons (.iff (.e (.cmp .Lt (.idx (.var 0) (.cst (.int 2))) (.bi .len (.cons (.idx (.var 0) (.cst (.int 3))) .nil)))) (.cons (.set 2 (.idx (.idx (.var 0) (.cst (.int 3))) (.idx (.var 0) (.cst (.int 2))))) .nil) .nil) (.cons (.augS (.var 0) (.cst (.int 2)) .Add (.cst (.int 1))) (.cons (.iff (.e (.cmp .GtE (.var 2) (.cst (.int 1000000000000000000)))) (.cons (.sto (.var 0) (.cst (.int 0)) (.var 2)) .nil) .nil) (.cons (.set 3 (.bin .Add (.bin .Add (.bin .Mult (.idx (.var 0) (.cst (.int 1))) (.cst (.int 48271))) (.bin .Mod (.bi .int (.cons (.var 2) .nil)) (.cst (.int 2147483647)))) (.bin .Mult (.cst (.int 7919)) (.idx (.var 0) (.cst (.int 2)))))) (.cons (.sto (.var 0) (.cst (.int 1)) (.bin .Mod (.bi .int (.cons (.var 3) .nil)) (.cst (.int 2147483647)))) .nil)))))) .nil) (.cons (.iff (.e (.cmp .Gt (.idx (.var 0) (.cst (.int 0))) (.cst (.int 0)))) (.cons (.set 4 (.bin .Mod (.bi .int (.cons (.idx (.var 0) (.cst (.int 0))) .nil)) (.var 1))) (.cons (.sto (.var 0) (.cst (.int 0)) (.bin .FloorDiv (.idx (.var 0) (.cst (.int 0))) (.var 1))) (.cons (.ret (.var 4)) .nil))) .nil) (.cons (.set 5 (.bin .Mod (.bi .int (.cons (.bin .Mult (.bin .Add (.idx (.var 0) (.cst (.int 1))) (.cst (.int 1))) (.cst (.int 39373))) .nil)) (.cst (.int 1000000007)))) (.cons (.set 6 (.bin .Mod (.bi .int (.cons (.bin .Mult (.bin .Mod (.bi .int (.cons (.bin .Mult (.var 5) (.var 5)) .nil)) (.cst (.int 998244353))) (.cst (.int 30011))) .nil)) (.cst (.int 998244353)))) (.cons (.iff (.e (.cmp .Gt (.var 1) (.cst (.int 1000000)))) (.cons (.ret (.bin .Mod (.bi .int (.cons (.bin .Add (.bin .Mult (.var 6) (.cst (.int 1000000007))) (.var 5)) .nil)) (.var 1))) .nil) .nil) (.cons (.ret (.bin .Mod (.bi .int (.cons (.bin .FloorDiv (.var 6) (.cst (.int 7))) .nil)) (.var 1))) .nil))))))
local macro_rules | `(tactic| walk_at "s") => `(tactic| with_reducible first | refine x_cons ?_ | refine x_nil ?_ | refine x_set ?_ | refine x_setM ?_ | refine x_par ?_ | refine x_unp ?_ | refine x_sto ?_ | refine x_augS ?_ | refine x_exp ?_ | refine x_ret ?_ | refine x_retN ?_ | refine x_iff ?_ | refine x_pass ?_ | refine x_app ?_ | refine x_for ?_ | refine v_cst ?_ | refine v_tup ?_ | refine v_lst ?_ | refine v_dct ?_ | refine v_bin ?_ | refine v_neg ?_ | refine v_cmp ?_ | refine v_chain ?_ | refine v_not ?_ | refine v_and ?_ | refine v_or ?_ | refine v_ife ?_ | refine v_idx ?_ | refine v_slc ?_ | refine v_call ?_ | refine v_bi ?_ | refine v_isi ?_ | refine v_mt ?_ | refine v_comp ?_ | refine va_nil ?_ | refine va_cons ?_ | refine vo_none ?_ | refine vo_some ?_ | refine vt_yes ?_ | refine vt_e ?_ | refine vt_and ?_ | refine vt_or ?_ | refine vt_not ?_ | refine vi_seq ?_ | refine vi_rng1 ?_)
local macro_rules | `(tactic| walk_at "d") => `(tactic| repeat (first | walk_at "s" | ((with_reducible refine' v_var ?k1 ?_); (case k1 => exact rfl)) | ((with_reducible refine' v_gl ?k1 ?_); (case k1 => exact rfl))))
/-- the last part: from the bag's numbers to the drawn one -/
theorem take_end {Φ : Fns} {γ : List D} {M0 M : MS} {b : Addr} {y0 y1 y2 many : Int} {c : Option D} {m : Option D} {ns : List Int} {F : DE} (hM : M b = some (.lst [.int y0, .int y1, .int y2, .lst (ns.map D.int)])) (h0 : 0 ≤ y0) (h1 : 0 ≤ y1) (h1' : y1 < 2147483647) (hm : 0 < many) (hm' : many < 1073741824)
    (k : ∀ v z0, 0 ≤ v → v < many → 0 ≤ z0 → F.rt (.val (.int v)) (updM M b (.lst [.int z0, .int y1, .int y2, .lst (ns.map D.int)]))) (k2 : ∀ v, 0 ≤ v → v < many → F.rt (.val (.int v)) M) :
    execSs Φ γ (.cons (.iff (.e (.cmp .Gt (.idx (.var 0) (.cst (.int 0))) (.cst (.int 0)))) (.cons (.set 4 (.bin .Mod (.bi .int (.cons (.idx (.var 0) (.cst (.int 0))) .nil)) (.var 1))) (.cons (.sto (.var 0) (.cst (.int 0)) (.bin .FloorDiv (.idx (.var 0) (.cst (.int 0))) (.var 1))) (.cons (.ret (.var 4)) .nil))) .nil) (.cons (.set 5 (.bin .Mod (.bi .int (.cons (.bin .Mult (.bin .Add (.idx (.var 0) (.cst (.int 1))) (.cst (.int 1))) (.cst (.int 39373))) .nil)) (.cst (.int 1000000007)))) (.cons (.set 6 (.bin .Mod (.bi .int (.cons (.bin .Mult (.bin .Mod (.bi .int (.cons (.bin .Mult (.var 5) (.var 5)) .nil)) (.cst (.int 998244353))) (.cst (.int 30011))) .nil)) (.cst (.int 998244353)))) (.cons (.iff (.e (.cmp .Gt (.var 1) (.cst (.int 1000000)))) (.cons (.ret (.bin .Mod (.bi .int (.cons (.bin .Add (.bin .Mult (.var 6) (.cst (.int 1000000007))) (.var 5)) .nil)) (.var 1))) .nil) .nil) (.cons (.ret (.bin .Mod (.bi .int (.cons (.bin .FloorDiv (.var 6) (.cst (.int 7))) .nil)) (.var 1))) .nil)))))
      F [some (.obj b), some (.int many), c, m, none, none, none] M := by
  walk_at "d"
  refine ⟨_, idx_obj hM rfl, ?_⟩
  walk_at "d"
  refine ⟨_, rfl, _, rfl, ?_⟩
  refine if_dec (fun hp => ?_) (fun hp => ?_)
  · walk_at "d"
    refine ⟨_, idx_obj hM rfl, ?_⟩
    walk_at "d"
    refine ⟨_, rfl, ?_⟩
    walk_at "d"
    refine ⟨_, mod_ok hm, ?_⟩
    walk_at "d"
    refine ⟨_, idx_obj hM rfl, ?_⟩
    walk_at "d"
    refine ⟨_, div_ok ⟨hm, hm'⟩, ?_⟩
    walk_at "d"
    refine ⟨b, _, 0, 0, rfl, hM, rfl, rfl, ?_⟩
    walk_at "d"
    exact k _ _ (Int.emod_nonneg _ (by omega)) (Int.emod_lt_of_pos _ hm) (Int.ediv_nonneg h0 (by omega))
  · have e1 : (0 : Int) < 1000000007 := by decide
    have e2 : (0 : Int) < 998244353 := by decide
    walk_at "d"
    refine ⟨_, idx_obj hM rfl, ?_⟩
    walk_at "d"
    refine ⟨_, rfl, ?_⟩
    walk_at "d"
    refine ⟨_, mul_ok (.inr (by decide)), ?_⟩
    walk_at "d"
    refine ⟨_, rfl, ?_⟩
    walk_at "d"
    refine ⟨_, mod_ok e1, ?_⟩
    generalize hg : (y1 + 1) * 39373 % 1000000007 = g
    have g1 : 0 ≤ g := by rw [← hg]; exact Int.emod_nonneg _ (by omega)
    have g2 : g < 1000000007 := by rw [← hg]; exact Int.emod_lt_of_pos _ e1
    walk_at "d"
    refine ⟨_, mul_ok (.inl (by omega)), ?_⟩
    walk_at "d"
    refine ⟨_, rfl, ?_⟩
    walk_at "d"
    refine ⟨_, mod_ok e2, ?_⟩
    walk_at "d"
    refine ⟨_, mul_ok (.inr (by decide)), ?_⟩
    walk_at "d"
    refine ⟨_, rfl, ?_⟩
    walk_at "d"
    refine ⟨_, mod_ok e2, ?_⟩
    generalize hf : g * g % 998244353 * 30011 % 998244353 = f
    have f1 : 0 ≤ f := by rw [← hf]; exact Int.emod_nonneg _ (by omega)
    walk_at "d"
    refine ⟨_, rfl, _, rfl, ?_⟩
    refine if_dec (fun _ => ?_) (fun _ => ?_)
    · walk_at "d"
      refine ⟨_, mul_ok (.inr (by decide)), ?_⟩
      walk_at "d"
      refine ⟨_, rfl, ?_⟩
      walk_at "d"
      refine ⟨_, rfl, ?_⟩
      walk_at "d"
      refine ⟨_, mod_ok hm, ?_⟩
      exact k2 _ (Int.emod_nonneg _ (by omega)) (Int.emod_lt_of_pos _ hm)
    · walk_at "d"
      refine ⟨_, div_ok (by decide), ?_⟩
      walk_at "d"
      refine ⟨_, rfl, ?_⟩
      walk_at "d"
      refine ⟨_, mod_ok hm, ?_⟩
      exact k2 _ (Int.emod_nonneg _ (by omega)) (Int.emod_lt_of_pos _ hm)
end DL
set_option linter.all false
set_option maxRecDepth 100000
set_option maxHeartbeats 8000000
namespace DL
open PySem L2
local macro_rules | `(tactic| walk_at "s") => `(tactic| with_reducible first | refine x_cons ?_ | refine x_nil ?_ | refine x_set ?_ | refine x_setM ?_ | refine x_par ?_ | refine x_unp ?_ | refine x_sto ?_ | refine x_augS ?_ | refine x_exp ?_ | refine x_ret ?_ | refine x_retN ?_ | refine x_iff ?_ | refine x_pass ?_ | refine x_app ?_ | refine x_for ?_ | refine v_cst ?_ | refine v_tup ?_ | refine v_lst ?_ | refine v_dct ?_ | refine v_bin ?_ | refine v_neg ?_ | refine v_cmp ?_ | refine v_chain ?_ | refine v_not ?_ | refine v_and ?_ | refine v_or ?_ | refine v_ife ?_ | refine v_idx ?_ | refine v_slc ?_ | refine v_call ?_ | refine v_bi ?_ | refine v_isi ?_ | refine v_mt ?_ | refine v_comp ?_ | refine va_nil ?_ | refine va_cons ?_ | refine vo_none ?_ | refine vo_some ?_ | refine vt_yes ?_ | refine vt_e ?_ | refine vt_and ?_ | refine vt_or ?_ | refine vt_not ?_ | refine vi_seq ?_ | refine vi_rng1 ?_)
local macro_rules | `(tactic| walk_at "d") => `(tactic| repeat (first | walk_at "s" | ((with_reducible refine' v_var ?k1 ?_); (case k1 => exact rfl)) | ((with_reducible refine' v_gl ?k1 ?_); (case k1 => exact rfl))))
theorem updM_updM {M : MS} {a : Addr} {o u : MO} : updM (updM M a o) a u = updM M a u := by
  funext b; unfold updM; split <;> rfl
theorem atI_map {ns : List Int} {i : Int} (h0 : 0 ≤ i) (h : i < ns.length) : ∃ n, n ∈ ns ∧ atI (ns.map D.int) i = some (.int n) := by
  have hl : i.toNat < ns.length := by omega
  refine ⟨ns[i.toNat], List.getElem_mem hl, ?_⟩
  unfold atI ixN
  rw [List.length_map, if_pos h0, if_pos h]
  show (ns.map D.int)[i.toNat]? = _
  rw [List.getElem?_map, List.getElem?_eq_getElem hl]; rfl
section
variable {Φ : Fns} {γ : List D} {b : Addr} {many : Int} {ns : List Int}
theorem take_mix {M : MS} {F : DE} {c w0 x1 x2 : Int} (hM : M b = some (.lst [.int w0, .int x1, .int x2, .lst (ns.map D.int)]))
    (k : ∀ m z, 0 ≤ z → z < 2147483647 → F.nx [some (.obj b), some (.int many), some (.int c), some (.int m), none, none, none] (updM M b (.lst [.int w0, .int z, .int x2, .lst (ns.map D.int)]))) :
    execSs Φ γ (.cons (.set 3 (.bin .Add (.bin .Add (.bin .Mult (.idx (.var 0) (.cst (.int 1))) (.cst (.int 48271))) (.bin .Mod (.bi .int (.cons (.var 2) .nil)) (.cst (.int 2147483647)))) (.bin .Mult (.cst (.int 7919)) (.idx (.var 0) (.cst (.int 2)))))) (.cons (.sto (.var 0) (.cst (.int 1)) (.bin .Mod (.bi .int (.cons (.var 3) .nil)) (.cst (.int 2147483647)))) .nil)) F
      [some (.obj b), some (.int many), some (.int c), none, none, none, none] M := by
  walk_at "d"
  refine ⟨_, idx_obj hM rfl, ?_⟩
  walk_at "d"
  refine ⟨_, mul_ok (.inr (by decide)), ?_⟩
  walk_at "d"
  refine ⟨_, rfl, ?_⟩
  walk_at "d"
  refine ⟨_, mod_ok (by decide), ?_⟩
  refine ⟨_, rfl, ?_⟩
  walk_at "d"
  refine ⟨_, idx_obj hM rfl, ?_⟩
  refine ⟨_, mul_ok (.inl (by decide)), ?_⟩
  refine ⟨_, rfl, ?_⟩
  walk_at "d"
  refine ⟨_, rfl, ?_⟩
  walk_at "d"
  refine ⟨_, mod_ok (by decide), ?_⟩
  walk_at "d"
  refine ⟨b, _, 1, 1, rfl, hM, rfl, rfl, ?_⟩
  walk_at "s"
  exact k _ _ (Int.emod_nonneg _ (by decide)) (Int.emod_lt_of_pos _ (by decide))
theorem take_rest {M : MS} {F : DE} {c x0 x1 x2 : Int} (hM : M b = some (.lst [.int x0, .int x1, .int x2, .lst (ns.map D.int)])) (h0 : 0 ≤ x0) (hc : 0 ≤ c)
    (k : ∀ m w z M', 0 ≤ w → 0 ≤ z → z < 2147483647 → M' b = some (.lst [.int w, .int z, .int (x2 + 1), .lst (ns.map D.int)]) → F.nx [some (.obj b), some (.int many), some (.int c), some (.int m), none, none, none] M') :
    execSs Φ γ (.cons (.augS (.var 0) (.cst (.int 2)) .Add (.cst (.int 1))) (.cons (.iff (.e (.cmp .GtE (.var 2) (.cst (.int 1000000000000000000)))) (.cons (.sto (.var 0) (.cst (.int 0)) (.var 2)) .nil) .nil) (.cons (.set 3 (.bin .Add (.bin .Add (.bin .Mult (.idx (.var 0) (.cst (.int 1))) (.cst (.int 48271))) (.bin .Mod (.bi .int (.cons (.var 2) .nil)) (.cst (.int 2147483647)))) (.bin .Mult (.cst (.int 7919)) (.idx (.var 0) (.cst (.int 2)))))) (.cons (.sto (.var 0) (.cst (.int 1)) (.bin .Mod (.bi .int (.cons (.var 3) .nil)) (.cst (.int 2147483647)))) .nil)))) F
      [some (.obj b), some (.int many), some (.int c), none, none, none, none] M := by
  walk_at "d"
  refine ⟨b, 2, rfl, rfl, _, _, hM, rfl, ?_⟩
  walk_at "d"
  refine ⟨_, _, 2, rfl, hM, rfl, ?_⟩
  walk_at "s"
  walk_at "s"
  walk_at "s"
  walk_at "d"
  refine ⟨_, rfl, _, rfl, ?_⟩
  refine if_dec (fun _ => ?_) (fun _ => ?_)
  · walk_at "s"
    walk_at "d"
    refine ⟨b, _, 0, 0, rfl, updM_same, rfl, rfl, ?_⟩
    walk_at "s"
    exact take_mix (w0 := c) updM_same fun m z p q => k m c z _ hc p q updM_same
  · walk_at "s"
    exact take_mix (w0 := x0) updM_same fun m z p q => k m x0 z _ h0 p q updM_same
theorem take_spec {M : MS} {x0 x1 x2 : Int} {Q : KR} {Z : KX} (hM : M b = some (.lst [.int x0, .int x1, .int x2, .lst (ns.map D.int)])) (h0 : 0 ≤ x0) (h1 : 0 ≤ x1) (h1' : x1 < 2147483647) (h2 : 0 ≤ x2) (hn : ∀ n ∈ ns, 0 ≤ n)
    (hm : 0 < many) (hm' : many < 1073741824)
    (k : ∀ v y0 y1 y2 M', 0 ≤ v → v < many → 0 ≤ y0 → 0 ≤ y1 → y1 < 2147483647 → 0 ≤ y2 → M' b = some (.lst [.int y0, .int y1, .int y2, .lst (ns.map D.int)]) → Q (.val (.int v)) M') : callDef Φ γ ⟨2, 7, TAKE⟩ [.obj b, .int many] M Q Z := by
  refine c_def [some (.obj b), some (.int many), none, none, none, none, none] rfl rfl ?_
  unfold TAKE
  have bs : (M b).isSome = true := by rw [hM]; rfl
  have fin : ∀ {v y0 y1 y2 : Int} {M' : MS}, 0 ≤ v → v < many → 0 ≤ y0 → 0 ≤ y1 → y1 < 2147483647 → 0 ≤ y2 → M' b = some (.lst [.int y0, .int y1, .int y2, .lst (ns.map D.int)]) → retR M Q (.val (.int v)) M' := fun a1 a2 a3 a4 a5 a6 a7 => by
    refine k _ _ _ _ _ a1 a2 a3 a4 a5 a6 ?_
    unfold restrict
    simp only [a7, bs, if_true]
  walk_at "s"
  walk_at "s"
  walk_at "d"
  refine ⟨_, idx_obj hM rfl, ?_⟩
  walk_at "d"
  refine ⟨_, eq_int _ _, _, rfl, ?_⟩
  refine if_dec (fun hz => ?_) (fun hz => ?_)
  · walk_at "s"
    walk_at "s"
    walk_at "s"
    walk_at "s"
    walk_at "s"
    walk_at "d"
    refine ⟨_, idx_obj hM rfl, ?_⟩
    walk_at "d"
    refine ⟨_, idx_obj hM rfl, ?_⟩
    walk_at "d"
    refine ⟨_, rfl, ?_⟩
    refine ⟨_, rfl, _, rfl, ?_⟩
    refine if_dec (fun hlt => ?_) (fun hlt => ?_)
    · obtain ⟨n, hn1, hn2⟩ := atI_map (ns := ns) h2 (by simpa using hlt)
      walk_at "s"
      walk_at "s"
      walk_at "d"
      refine ⟨_, idx_obj hM rfl, ?_⟩
      walk_at "d"
      refine ⟨_, idx_obj hM rfl, ?_⟩
      refine ⟨_, hn2, ?_⟩
      walk_at "s"
      refine take_rest hM h0 (hn n hn1) fun m w z M' p1 p2 p3 p4 => ?_
      exact take_end (M0 := M) p4 p1 p2 p3 hm hm' (fun v z0 q1 q2 q3 => fin q1 q2 q3 p2 p3 (by omega) updM_same) fun v q1 q2 => fin q1 q2 p1 p2 p3 (by omega) p4
    · walk_at "s"
      refine take_rest hM h0 (Int.le_refl 0) fun m w z M' p1 p2 p3 p4 => ?_
      exact take_end (M0 := M) p4 p1 p2 p3 hm hm' (fun v z0 q1 q2 q3 => fin q1 q2 q3 p2 p3 (by omega) updM_same) fun v q1 q2 => fin q1 q2 p1 p2 p3 (by omega) p4
  · walk_at "s"
    exact take_end (M0 := M) hM h0 h1 h1' hm hm' (fun v z0 q1 q2 q3 => fin q1 q2 q3 h1 h1' h2 updM_same) fun v q1 q2 => fin q1 q2 h0 h1 h1' h2 hM
end
end DL
set_option linter.all false
set_option maxRecDepth 100000
set_option maxHeartbeats 8000000
namespace DL
open PySem L2
local macro_rules | `(tactic| walk_at "s") => `(tactic| with_reducible first | refine x_cons ?_ | refine x_nil ?_ | refine x_set ?_ | refine x_setM ?_ | refine x_par ?_ | refine x_unp ?_ | refine x_sto ?_ | refine x_augS ?_ | refine x_exp ?_ | refine x_ret ?_ | refine x_retN ?_ | refine x_iff ?_ | refine x_pass ?_ | refine x_app ?_ | refine x_for ?_ | refine v_cst ?_ | refine v_tup ?_ | refine v_lst ?_ | refine v_dct ?_ | refine v_bin ?_ | refine v_neg ?_ | refine v_cmp ?_ | refine v_chain ?_ | refine v_not ?_ | refine v_and ?_ | refine v_or ?_ | refine v_ife ?_ | refine v_idx ?_ | refine v_slc ?_ | refine v_call ?_ | refine v_bi ?_ | refine v_isi ?_ | refine v_mt ?_ | refine v_comp ?_ | refine va_nil ?_ | refine va_cons ?_ | refine vo_none ?_ | refine vo_some ?_ | refine vt_yes ?_ | refine vt_e ?_ | refine vt_and ?_ | refine vt_or ?_ | refine vt_not ?_ | refine vi_seq ?_ | refine vi_rng1 ?_)
local macro_rules | `(tactic| walk_at "d") => `(tactic| repeat (first | walk_at "s" | ((with_reducible refine' v_var ?k1 ?_); (case k1 => exact rfl)) | ((with_reducible refine' v_gl ?k1 ?_); (case k1 => exact rfl))))
/-! ### loops -/
/-- a comprehension, by what holds ahead of each item -/
theorem comp_ind {src : MS → Prop} {step : D → List D → MS → (List D → MS → Prop) → Prop} {Q : List D → MS → Prop} (J : List D → List D → MS → Prop) :
    ∀ {items acc : List D} {M : MS}, J items acc M → (∀ d r acc M, (∃ u, items = u ++ d :: r) → J (d :: r) acc M → src M ∧ acc.length < sizeLine ∧ ∀ k, (∀ acc' M', J r acc' M' → k acc' M') → step d acc M k) →
      (∀ acc M, J [] acc M → src M ∧ Q acc M) → compLoop src step items acc M Q
  | [], acc, M, j, _, e => e acc M j
  | d :: r, acc, M, j, h, e => by
    obtain ⟨h1, h2, h3⟩ := h d r acc M ⟨[], rfl⟩ j
    refine ⟨h1, h2, h3 _ fun acc' M' j' => ?_⟩
    exact comp_ind J j' (fun d' r' a' m' ⟨u, hu⟩ q => h d' r' a' m' ⟨d :: u, by rw [hu]; rfl⟩ q) e
/-- each item gives one value with P; the store stays -/
theorem comp_all {src : MS → Prop} {step : D → List D → MS → (List D → MS → Prop) → Prop} {Q : List D → MS → Prop} {items : List D} {M : MS} (P : D → Prop) (hs : src M) (hl : items.length ≤ sizeLine)
    (h : ∀ d ∈ items, ∀ acc k, (∀ r, P r → k (acc ++ [r]) M) → step d acc M k) (e : ∀ acc, acc.length = items.length → (∀ r ∈ acc, P r) → Q acc M) : compLoop src step items [] M Q := by
  refine comp_ind (fun r acc M' => M' = M ∧ acc.length + r.length = items.length ∧ ∀ x ∈ acc, P x) ⟨rfl, by simp, by simp⟩ ?_ ?_
  · rintro d r acc M' ⟨u, hu⟩ ⟨rfl, h1, h2⟩
    refine ⟨hs, by simp at h1; omega, fun k hk => h d (by rw [hu]; simp) acc k fun x hx => hk _ _ ⟨rfl, by simp at h1 ⊢; omega, fun y hy => ?_⟩⟩
    simp at hy
    rcases hy with hy | rfl
    · exact h2 y hy
    · exact hx
  · rintro acc M' ⟨rfl, h1, h2⟩
    exact ⟨hs, e acc (by simpa using h1) h2⟩
/-- each item gives f of it -/
theorem comp_map {src : MS → Prop} {step : D → List D → MS → (List D → MS → Prop) → Prop} {Q : List D → MS → Prop} {items : List D} {M : MS} (f : D → D) (hs : src M) (hl : items.length ≤ sizeLine)
    (h : ∀ d ∈ items, ∀ acc k, k (acc ++ [f d]) M → step d acc M k) (e : Q (items.map f) M) : compLoop src step items [] M Q := by
  refine comp_ind (fun r acc M' => M' = M ∧ acc ++ r.map f = items.map f) ⟨rfl, by simp⟩ ?_ ?_
  · rintro d r acc M' ⟨u, hu⟩ ⟨rfl, h1⟩
    have hl2 := congrArg List.length h1
    simp at hl2
    refine ⟨hs, by omega, fun k hk => h d (by rw [hu]; simp) acc k (hk _ _ ⟨rfl, by rw [← h1]; simp⟩)⟩
  · rintro acc M' ⟨rfl, h1⟩
    simp at h1
    exact ⟨hs, by rw [h1]; exact e⟩
/-- items are kept by a test -/
theorem comp_filter {src : MS → Prop} {step : D → List D → MS → (List D → MS → Prop) → Prop} {Q : List D → MS → Prop} {items : List D} {M : MS} (p : D → Bool) (f : D → D) (hs : src M) (hl : items.length ≤ sizeLine)
    (h : ∀ d ∈ items, ∀ acc k, k (if p d = true then acc ++ [f d] else acc) M → step d acc M k) (e : Q ((items.filter p).map f) M) : compLoop src step items [] M Q := by
  refine comp_ind (fun r acc M' => M' = M ∧ acc.length + r.length ≤ items.length ∧ acc ++ (r.filter p).map f = (items.filter p).map f) ⟨rfl, by simp, by simp⟩ ?_ ?_
  · rintro d r acc M' ⟨u, hu⟩ ⟨rfl, h0, h1⟩
    refine ⟨hs, by simp at h0; omega, fun k hk => h d (by rw [hu]; simp) acc k (hk _ _ ⟨rfl, ?_, ?_⟩)⟩
    · simp at h0
      split
      · simp; omega
      · omega
    · rw [← h1]
      cases hp : p d <;> simp [hp]
  · rintro acc M' ⟨rfl, h0, h1⟩
    simp at h1
    exact ⟨hs, by rw [h1]; exact e⟩
/-- a for loop, by what holds ahead of each item -/
theorem for_ind {src : MS → Prop} {step : D → DEnv → MS → (DEnv → MS → Prop) → Prop} {nx : DEnv → MS → Prop} (J : List D → DEnv → MS → Prop) :
    ∀ {items : List D} {δ : DEnv} {M : MS}, J items δ M → (∀ d r δ M, (∃ u, items = u ++ d :: r) → J (d :: r) δ M → src M ∧ ∀ k, (∀ δ' M', J r δ' M' → k δ' M') → step d δ M k) →
      (∀ δ M, J [] δ M → src M ∧ nx δ M) → forLoop src step nx items δ M
  | [], δ, M, j, _, e => e δ M j
  | d :: r, δ, M, j, h, e => by
    obtain ⟨h1, h3⟩ := h d r δ M ⟨[], rfl⟩ j
    refine ⟨h1, h3 _ fun acc' M' j' => ?_⟩
    exact for_ind J j' (fun d' r' a' m' ⟨u, hu⟩ q => h d' r' a' m' ⟨d :: u, by rw [hu]; rfl⟩ q) e
/-! ### the bag, as a thing of its own -/
def phTake : List D → MS → KR → KX → Prop := fun ds M Q _ => ∃ b many, ds = [.obj b, .int many] ∧ M b = some .bag ∧ 0 < many ∧ many < 1073741824 ∧ ∀ v, 0 ≤ v → v < many → Q (.val (.int v)) M
def phBag : List D → MS → KR → KX → Prop := fun ds M Q _ => ∃ ns, ds = [.scr ns] ∧ ∀ b, M b = none → Q (.val (.obj b)) (updM M b .bag)
def BAG : Ss :=
  (.cons (.ret (.lst (.cons (.cst (.int 0)) (.cons (.cst (.int 1234567891)) (.cons (.cst (.int 0)) (.cons (.comp (.bi .abs (.cons (.var 1) .nil)) [1] true [1] (.seq (.slc (.var 0) .none (.some (.cst (.int 63))))) .yes) .nil)))))) .nil)
theorem FnG.imp {P : Program} {w : World} {K : PySem.W.Frag} {mg : Str → Option Value} {base : Heap} {k : Nat} {f : Addr} {fd : FuncData} {ps : List Str} {sp sp' : Sp} (h : ∀ vs H Q E, sp vs H Q E → sp' vs H Q E) (F : FnG P w K mg base k f fd ps sp') : FnG P w K mg base k f fd ps sp :=
  ⟨fun vs H Q E z => F.len _ _ _ _ (h _ _ _ _ z), fun A outer s H args us vs Q E a1 a2 a3 a4 z => F.run A outer s H args us vs Q E a1 a2 a3 a4 (h _ _ _ _ z)⟩
theorem take_imp {K : PySem.W.Frag} {Φ : Fns} {γ : List D} : ∀ vs H Q E, spD K phTake vs H Q E → spD K (callDef Φ γ ⟨2, 7, TAKE⟩) vs H Q E := by
  rintro vs H Q E ⟨G, M, ds, Qd, Zd, ok, t, hq, hz, b, many, rfl, hb, hm, hm', k⟩
  obtain ⟨x0, x1, x2, ns, us, hu, tu, h0, h1, h1', h2, hn⟩ := ok.mok b _ hb
  refine ⟨G, (fun a => if a = b then some (.lst [.int x0, .int x1, .int x2, .lst (ns.map D.int)]) else none), _, fun r M' => ∃ v y0 y1 y2, r = .val (.int v) ∧ 0 ≤ v ∧ v < many ∧ 0 ≤ y0 ∧ 0 ≤ y1 ∧ y1 < 2147483647 ∧ 0 ≤ y2 ∧ M' b = some (.lst [.int y0, .int y1, .int y2, .lst (ns.map D.int)]), fun _ _ => False, ⟨ok.sub, fun a mo e => ?_, fun a mo e => ?_⟩, t, ?_, fun _ _ z => z.elim, ?_⟩
  · have ha : a = b := by
      by_cases ha : a = b
      · exact ha
      · have e' : (none : Option MO) = some mo := (if_neg ha).symm.trans e
        cases e'
    subst ha; exact ok.dis _ _ hb
  · have ha : a = b := by
      by_cases ha : a = b
      · exact ha
      · have e' : (none : Option MO) = some mo := (if_neg ha).symm.trans e
        cases e'
    subst ha
    have e' := (if_pos rfl).symm.trans e
    cases e'
    exact ⟨us, hu, tu⟩
  · rintro r M' ⟨v, y0, y1, y2, rfl, p1, p2, p3, p4, p5, p6, p7⟩ v' G' H' s rv
    have nb : ∀ {a}, a ≠ b → (fun a => if a = b then some (MO.lst [.int x0, .int x1, .int x2, .lst (ns.map D.int)]) else none : MS) a = none := fun h => if_neg h
    have hne : ∀ {a}, M a = none → a ≠ b := fun h z => by rw [z, hb] at h; cases h
    refine hq _ _ (k v p1 p2) v' G' H' ⟨⟨s.ok.sub, fun a mo e => ?_, fun a mo e => ?_⟩, s.sub, fun a o e hM => s.keep a o e (nb (hne hM)), fun a mo e e2 => ?_, s.dom, fun a o e1 e2 e3 => s.newG a o e1 e2 (nb (hne e3))⟩ rv
    · by_cases ha : a = b
      · subst ha; exact s.ok.dis _ _ p7
      · cases hg : G' a with
        | none => rfl
        | some o =>
          have z := s.newG a o (ok.dis a mo e) hg (nb ha)
          obtain ⟨o', h'⟩ := (ok.mok a mo e).there
          rw [z] at h'; cases h'
    · by_cases ha : a = b
      · subst ha
        rw [hb] at e
        cases e
        obtain ⟨ws, hw, tw⟩ := s.ok.mok _ _ p7
        exact ⟨y0, y1, y2, ns, ws, hw, tw, p3, p4, p5, p6, hn⟩
      · have m := ok.mok a mo e
        obtain ⟨o', h'⟩ := m.there
        exact (m.mono s.sub).at_ ((s.keep a o' h' (nb ha)).trans h'.symm)
    · rw [e] at e2; cases e2
  · exact take_spec (if_pos rfl) h0 h1 h1' h2 hn hm hm' fun v y0 y1 y2 M' q1 q2 q3 q4 q5 q6 q7 => ⟨v, y0, y1, y2, rfl, q1, q2, q3, q4, q5, q6, q7⟩
theorem cut_take {xs : List D} {k : Int} (h : 0 ≤ k) : cutD xs none (some k) = xs.take k.toNat := by
  have e : HT.sIx xs.length xs.length (some k) = min k.toNat xs.length := if_neg (by omega)
  unfold cutD
  rw [e]
  show (xs.drop 0).take (min k.toNat xs.length - 0) = _
  rw [List.drop_zero, Nat.sub_zero, ← List.take_eq_take_min]
theorem cut_drop {xs : List D} {k : Int} (h : 0 ≤ k) : cutD xs (some k) none = xs.drop k.toNat := by
  have e : HT.sIx xs.length 0 (some k) = min k.toNat xs.length := if_neg (by omega)
  unfold cutD
  rw [e]
  show (xs.drop (min k.toNat xs.length)).take (xs.length - min k.toNat xs.length) = _
  rw [List.take_of_length_le (by rw [List.length_drop]; omega)]
  by_cases e : k.toNat ≤ xs.length
  · rw [Nat.min_eq_left e]
  · rw [Nat.min_eq_right (by omega), List.drop_eq_nil_of_le (Nat.le_refl _), List.drop_eq_nil_of_le (by omega)]
theorem bag_spec {Φ : Fns} {γ : List D} {ns : List Int} {Q : KR} {Z : KX} (k : ∀ ms : List Int, (∀ m ∈ ms, 0 ≤ m) → Q (.new [.int 0, .int 1234567891, .int 0, .lst (ms.map D.int)]) fun _ => none) : callDef Φ γ ⟨1, 2, BAG⟩ [.scr ns] (fun _ => none) Q Z := by
  refine c_def [some (.scr ns), none] rfl rfl ?_
  unfold BAG
  walk_at "d"
  refine ⟨63, rfl, _, rfl, ?_⟩
  refine ⟨_, rfl, ?_⟩
  have hc : cutD (ns.map D.int) none (some 63) = (ns.take 63).map D.int := by
    rw [cut_take (by decide), List.map_take]; rfl
  show compLoop _ _ (cutD (ns.map D.int) none (some 63)) _ _ _
  rw [hc]
  refine comp_map (fun d => match d with | .int i => .int (if i < 0 then -i else i) | d => d) ?_ ?_ (fun d hd acc k => ?_) ?_
  · exact rfl
  · simp only [List.length_map, List.length_take]
    exact Nat.le_trans (Nat.min_le_left _ _) (by decide)
  · obtain ⟨n, hn, rfl⟩ := List.mem_map.mp hd
    intro hk
    refine ⟨_, rfl, ?_⟩
    walk_at "s"
    refine if_t ?_
    walk_at "d"
    exact ⟨_, rfl, hk⟩
  · walk_at "d"
    refine ⟨by show 4 ≤ sizeLine; decide, ?_⟩
    show retR (fun _ => none) Q (.new [.int 0, .int 1234567891, .int 0, .lst _]) _
    have e : ((ns.take 63).map D.int).map (fun d => match d with | .int i => .int (if i < 0 then -i else i) | d => d) = ((ns.take 63).map fun i => if i < 0 then -i else i).map D.int := by
      rw [List.map_map, List.map_map]; rfl
    rw [e]
    have z := k ((ns.take 63).map fun i => if i < 0 then -i else i) fun m hm => by
      obtain ⟨n, _, rfl⟩ := List.mem_map.mp hm
      split <;> omega
    exact z
theorem bag_imp {K : PySem.W.Frag} {Φ : Fns} {γ : List D} : ∀ vs H Q E, spD K phBag vs H Q E → spD K (callDef Φ γ ⟨1, 2, BAG⟩) vs H Q E := by
  rintro vs H Q E ⟨G, M, ds, Qd, Zd, ok, t, hq, hz, ns, rfl, k⟩
  refine ⟨G, (fun _ => none), _, fun r M' => M' = (fun _ => none) ∧ ∃ ms : List Int, (∀ m ∈ ms, 0 ≤ m) ∧ r = (.new [.int 0, .int 1234567891, .int 0, .lst (ms.map D.int)]), fun _ _ => False, ⟨ok.sub, fun a mo e => ?_, fun a mo e => ?_⟩, t, ?_, fun _ _ z => z.elim, ?_⟩
  · have e' : (none : Option MO) = some mo := e
    cases e'
  · have e' : (none : Option MO) = some mo := e
    cases e'
  · rintro r M' ⟨rfl, ms, hms, rfl⟩ v' G' H' s ⟨p, us, rfl, hp0, hp1, hp2, hp3, tu⟩
    have hMp : M p = none := ok.noM hp0
    refine hq _ _ (k p hMp) _ G' H' ⟨⟨s.ok.sub, fun a mo e => ?_, fun a mo e => ?_⟩, s.sub, fun a o e hM => s.keep a o e rfl, fun a mo e e2 => ?_, s.dom, fun a o e1 e2 e3 => s.newG a o e1 e2 rfl⟩ (.obj p)
    · by_cases ha : a = p
      · subst ha; exact hp2
      · rw [updM_ne ha] at e
        cases hg : G' a with
        | none => rfl
        | some o =>
          have z := s.newG a o (ok.dis a mo e) hg rfl
          obtain ⟨o', h'⟩ := (ok.mok a mo e).there
          rw [z] at h'; cases h'
    · by_cases ha : a = p
      · subst ha
        rw [updM_same] at e
        cases e
        exact ⟨0, 1234567891, 0, ms, us, hp1, tu, by decide, by decide, by decide, by decide, hms⟩
      · rw [updM_ne ha] at e
        have m := ok.mok a mo e
        obtain ⟨o', h'⟩ := m.there
        exact (m.mono s.sub).at_ ((s.keep a o' h' rfl).trans h'.symm)
    · by_cases ha : a = p
      · subst ha; exact hp0
      · rw [updM_ne ha, e] at e2; cases e2
  · exact bag_spec fun ms hms => ⟨rfl, ms, hms, rfl⟩
end DL
set_option linter.all false
set_option maxRecDepth 100000
set_option maxHeartbeats 8000000
namespace DL
open PySem L2
/-! ### what the top has written, in the table's words -/
def FnIn (K : PySem.W.Frag) (y : Str) (st : Stmt) (ps : List Str) : Prop :=
  ∃ (f : Addr) (fd : FuncData), PySem.W.nsIn K mainGlobals y = some (some (.ref f)) ∧ Fun K y y st f fd ∧ Binds K fd ps [] ∧ ∀ x, ps = [x] → ∀ (s : Shared) (u : Value), BindsTo s fd ⟨[u], []⟩ [(x, u)]
theorem fnIn_mk {K : PySem.W.Frag} {y : Str} {st : Stmt} {ps : List Str} {f : Addr} {oc : Value} {od an : Option Addr} {osl : Array (Option Value)} {kV doc pm cdv ct : Value}
    (hb : ∀ (kV doc pm : Value) (an : Option Addr) (cdv ct : Value) (us : List Value), us.length = ps.length → bindArgs (PySem.W.fnOf y y (defArgs st) (defBody st) (defScope st) .none kV doc pm an cdv ct) ⟨us, []⟩ = pure (ps.zip us))
    (a : PySem.W.nsIn K mainGlobals y = some (some (.ref f))) (l : K.lookup f = some ⟨oc, od, .func (PySem.W.fnOf y y (defArgs st) (defBody st) (defScope st) .none kV doc pm an cdv ct), osl⟩)
    (c : PySem.W.codeIn K cdv y = true) (k : PySem.W.keepIn K (.ref f) = true) : FnIn K y st ps := by
  have F := fun_mk (st := st) l c k
  refine ⟨f, _, a, F, F.binds hb, fun x e s u => ?_⟩
  subst e
  exact .of_eq (hb kV doc pm an cdv ct [u] rfl)
def GlIn (K : PySem.W.Frag) (y : Str) (d : D) : Prop := ∃ (v : V) (u : Value), PySem.W.nsIn K mainGlobals y = some (some u) ∧ RelV v u ∧ ∀ G, Dv K G v d
theorem glIn_str {K : PySem.W.Frag} {y x : Str} {t : Tok} (h : PySem.W.nsIn K mainGlobals y = some (some (.str x t))) : GlIn K y (.str x) := ⟨.str x, _, h, ⟨t, rfl⟩, fun _ => .str x⟩
theorem glIn_int {K : PySem.W.Frag} {y : Str} {i : Int} {t : Tok} (h : PySem.W.nsIn K mainGlobals y = some (some (.int i t))) : GlIn K y (.int i) := ⟨.int i, _, h, ⟨t, rfl⟩, fun _ => .int i⟩
def strsV : List Value → Option (List Str)
  | [] => some []
  | .str x _ :: r => (strsV r).map (x :: ·)
  | _ :: _ => none
theorem strsV_ok : ∀ {its : List Value} {xs : List Str}, strsV its = some xs → Vals (xs.map V.str) its
  | [], _, h => by cases h; exact .nil
  | v :: r, xs, h => by
    cases v with
    | str x t =>
      simp only [strsV] at h
      cases e : strsV r with
      | none => rw [e] at h; cases h
      | some ys => rw [e] at h; cases h; exact .cons ⟨t, rfl⟩ (strsV_ok e)
    | _ => simp [strsV] at h
theorem dva_strs {K : PySem.W.Frag} {G : Hp} : ∀ xs : List Str, DvAll K G (xs.map V.str) (xs.map D.str)
  | [] => .nil
  | x :: xs => .cons (.str x) (dva_strs xs)
/-- a tuple of texts -/
theorem glIn_strs {K : PySem.W.Frag} {y : Str} {a : Addr} {xs : List Str} {its : Array Value} {od : Option Addr} {n : Nat} {sl : Array (Option Value)} (h : PySem.W.nsIn K mainGlobals y = some (some (.ref a)))
    (l : K.lookup a = some ⟨.type "tuple", od, .seq its n, sl⟩) (hl : its.size ≤ sizeLine) (r : strsV its.toList = some xs) : GlIn K y (.tup (xs.map D.str)) :=
  ⟨.ref a, _, h, rfl, fun G => .tup (xs := xs.map V.str) (.inr ⟨_, its, n, l, rfl, rfl, hl, strsV_ok r⟩) (dva_strs xs)⟩
def EntC (fns gls bls : List Str) (e : Ent) (st : Stmt) (ps : List Str) : Prop :=
  ∃ (c : CE) (n : Nat) (b : Ss), c.fns = fns ∧ c.gls = gls ∧ c.bls = bls ∧ scopeB c.N ps (defScope st) = true ∧ compSs c n (defScope st) (defBody st) = some b ∧
    match e with
    | .comp d => d = ⟨ps.length, c.N.length, b⟩
    | .prim φ => ∀ (K : PySem.W.Frag) (Φ : Fns) (γ : List D) vs H Q E, spD K φ vs H Q E → spD K (callDef Φ γ ⟨ps.length, c.N.length, b⟩) vs H Q E
def AllE (K : PySem.W.Frag) (fns gls bls : List Str) : List Str → List Ent → Prop
  | [], [] => True
  | y :: ys, e :: es => (∃ st ps, FnIn K y st ps ∧ EntC fns gls bls e st ps) ∧ AllE K fns gls bls ys es
  | _, _ => False
def AllG (K : PySem.W.Frag) : List Str → List D → Prop
  | [], [] => True
  | y :: ys, d :: ds => GlIn K y d ∧ AllG K ys ds
  | _, _ => False
def AllB (K : PySem.W.Frag) : List Str → Prop
  | [] => True
  | y :: ys => PySem.W.nsIn K mainGlobals y = some none ∧ AllB K ys
theorem ae_nil {K : PySem.W.Frag} {fns gls bls : List Str} : AllE K fns gls bls [] [] := trivial
theorem ae_cons {K : PySem.W.Frag} {fns gls bls ys : List Str} {y : Str} {e : Ent} {es : List Ent} {st : Stmt} {ps : List Str} (h : FnIn K y st ps) (c : EntC fns gls bls e st ps) (r : AllE K fns gls bls ys es) : AllE K fns gls bls (y :: ys) (e :: es) := ⟨⟨st, ps, h, c⟩, r⟩
theorem ag_nil {K : PySem.W.Frag} : AllG K [] [] := trivial
theorem ag_cons {K : PySem.W.Frag} {y : Str} {ys : List Str} {d : D} {ds : List D} (h : GlIn K y d) (r : AllG K ys ds) : AllG K (y :: ys) (d :: ds) := ⟨h, r⟩
theorem ab_nil {K : PySem.W.Frag} : AllB K [] := trivial
theorem ab_cons {K : PySem.W.Frag} {y : Str} {ys : List Str} (h : PySem.W.nsIn K mainGlobals y = some none) (r : AllB K ys) : AllB K (y :: ys) := ⟨h, r⟩
theorem AllE.at_ {K : PySem.W.Frag} {fns gls bls : List Str} : ∀ {ys : List Str} {es : List Ent} {i : Nat} {y : Str} {e : Ent}, AllE K fns gls bls ys es → ys[i]? = some y → es[i]? = some e → ∃ st ps, FnIn K y st ps ∧ EntC fns gls bls e st ps
  | [], [], _, _, _, _, h, _ => by simp at h
  | _ :: _, _ :: _, 0, _, _, h, h1, h2 => by simp at h1 h2; subst h1 h2; exact h.1
  | _ :: _, _ :: _, i + 1, _, _, h, h1, h2 => AllE.at_ (i := i) h.2 (by simpa using h1) (by simpa using h2)
  | [], _ :: _, _, _, _, h, _, _ => h.elim
  | _ :: _, [], _, _, _, h, _, _ => h.elim
theorem AllE.len {K : PySem.W.Frag} {fns gls bls : List Str} : ∀ {ys : List Str} {es : List Ent}, AllE K fns gls bls ys es → ys.length = es.length
  | [], [], _ => rfl
  | _ :: _, _ :: _, h => congrArg (· + 1) (AllE.len h.2)
  | [], _ :: _, h => h.elim
  | _ :: _, [], h => h.elim
theorem AllG.at_ {K : PySem.W.Frag} : ∀ {ys : List Str} {es : List D} {i : Nat} {y : Str}, AllG K ys es → ys[i]? = some y → ∃ d, es[i]? = some d ∧ GlIn K y d
  | [], [], _, _, _, h => by simp at h
  | _ :: _, d :: _, 0, _, h, h1 => by simp at h1; subst h1; exact ⟨d, rfl, h.1⟩
  | _ :: _, _ :: _, i + 1, _, h, h1 => AllG.at_ (i := i) h.2 (by simpa using h1)
  | [], _ :: _, _, _, h, _ => h.elim
  | _ :: _, [], _, _, h, _ => h.elim
theorem AllB.at_ {K : PySem.W.Frag} : ∀ {ys : List Str} {y : Str}, AllB K ys → y ∈ ys → PySem.W.nsIn K mainGlobals y = some none
  | [], _, _, h => by simp at h
  | z :: ys, y, h, h1 => by
    rcases List.mem_cons.mp h1 with rfl | h2
    · exact h.1
    · exact AllB.at_ h.2 h2
theorem end_mk {P : Program} {w : World} {K : PySem.W.Frag} {h : Heap} {mg : Str → Option Value} {fa : Addr} {fns gls bls : List Str} {tab : List Ent} {γ : List D} {i : Nat} {x : Str} {e0 : Ent} (n : Nat) (X : K.In h) (G : h.Ns mainGlobals mg) (hfa : mg "law" = some (.ref fa))
    (hi : fns[i]? = some "law") (ht : tab[i]? = some e0) {st : Stmt} (hl : FnIn K "law" st [x]) (hc : EntC fns gls bls e0 st [x]) (hE : AllE K fns gls bls fns tab) (hG : AllG K gls γ) (hB : AllB K bls) :
    ∃ fd : FuncData, (∀ (s : Shared) (u : Value), BindsTo s fd ⟨[u], []⟩ [(x, u)]) ∧
      ∀ base : Heap, K.In base → base.Ns mainGlobals mg → (∃ o, base.get? sysModules = some o) → FnG P w K mg base (1 + n) fa fd [x] (spD K (callN tab γ n i)) := by
  have hbl : ∀ y ∈ bls, mg y = none := fun y hy => PySem.W.mg_none_of X G (hB.at_ hy)
  have hgl : ∀ (i : Nat) (y : Str), gls[i]? = some y → ∃ v u d, γ[i]? = some d ∧ mg y = some u ∧ RelV v u ∧ ∀ G, Dv K G v d := fun i y hy => by
    obtain ⟨d, h1, v, u, h2, h3, h4⟩ := hG.at_ hy
    exact ⟨v, u, d, h1, PySem.W.mg_of X G h2, h3, h4⟩
  have ent : ∀ (base : Heap), (∃ o, base.get? sysModules = some o) → ∀ {y : Str} {e : Ent} {st : Stmt} {ps : List Str} {f : Addr} {fd : FuncData}, PySem.W.nsIn K mainGlobals y = some (some (.ref f)) → Fun K y y st f fd → Binds K fd ps [] → EntC fns gls bls e st ps → EntOk P w K mg base fns gls γ 1 y e f fd ps := by
    rintro base hsm y e st ps f fd a F b ⟨c, m, bd, c1, c2, c3, c4, c5, c6⟩
    refine ⟨PySem.W.mg_of X G a, F.kp, b, ?_⟩
    cases e with
    | comp d =>
      have c6 : d = ⟨ps.length, c.N.length, bd⟩ := c6
      subst c6
      exact ⟨c, m, y, y, st, c1, c2, by rw [c3]; exact hbl, F, c4, c5, rfl, rfl⟩
    | prim φ =>
      refine FnG.imp (c6 K (fun _ _ _ _ _ => False) γ) (fn_comp (k := 0) F c4 c5 (fun j yj ej => ?_) (by rw [c2]; exact hgl) (by rw [c3]; exact hbl) hsm)
      rw [c1] at ej
      have hj : j < tab.length := by
        have := (List.getElem?_eq_some_iff.mp ej).1
        have := hE.len
        omega
      obtain ⟨stj, psj, ⟨fj, fdj, aj, Fj, bj, _⟩, _⟩ := hE.at_ ej (List.getElem?_eq_getElem hj)
      exact ⟨fj, fdj, psj, PySem.W.mg_of X G aj, Fj.kp, FnG.never fun vs H Q E h => spD_never vs H Q E h, bj⟩
  obtain ⟨f, fd, a, F, b, bt⟩ := hl
  have e := hfa.symm.trans (PySem.W.mg_of X G a)
  cases e
  refine ⟨fd, bt x rfl, fun base kb gb hsm => ?_⟩
  refine table_ok hsm hgl hE.len (fun j yj ej h1 h2 => ?_) n i "law" e0 fa fd [x] hi ht (ent base hsm a F b hc)
  obtain ⟨stj, psj, ⟨fj, fdj, aj, Fj, bj, _⟩, cj⟩ := hE.at_ h1 h2
  exact ⟨fj, fdj, psj, ent base hsm aj Fj bj cj⟩
/-- the law: what its small form tells is True -/
theorem law_true {K : PySem.W.Frag} {φ : List D → MS → KR → KX → Prop} (h : ∀ ns : List Int, φ [.scr ns] (fun _ => none) (fun r _ => r = .val (.bl true)) fun _ _ => False) :
    ∀ (H : Hp) (a : Addr) (ns : List Int), ns.length ≤ 63 → Only H → SqL K H a (ns.map V.int) → spD K φ [.ref a] H (fun v _ => v = .bl true) fun _ _ _ => False := by
  intro H a ns hl _ hs
  refine ⟨H, (fun _ => none), [.scr ns], fun r _ => r = .val (.bl true), fun _ _ => False, ⟨Sub.refl H, fun a mo e => ?_, fun a mo e => ?_⟩, .one (.scr hs hl), ?_, fun _ _ z => z.elim, h ns⟩
  · have e' : (none : Option MO) = some mo := e
    cases e'
  · have e' : (none : Option MO) = some mo := e
    cases e'
  · rintro r M' rfl v G' H' s rv
    have rv' : Dv K G' v (.bl true) := rv
    cases rv'
    rfl
end DL
set_option linter.all false
set_option maxRecDepth 100000
set_option maxHeartbeats 8000000
namespace DL
open PySem L2 PyProof.Rows
/-! ### how long a value's text is -/
def strB (x : Str) : Bool := decide (x.length ≤ 190) && x.cps.all (· < 0x110000)
def intB (i : Int) : Bool := decide (i.natAbs.log2 < 1920)
mutual
def leafB : D → Bool
  | .int i => intB i
  | .str x => strB x
  | .lst xs | .tup xs => leafBs xs
  | .dct kvs => leafBk kvs
  | _ => true
def leafBs : List D → Bool
  | [] => true
  | x :: xs => leafB x && leafBs xs
def leafBk : List (Key × D) → Bool
  | [] => true
  | (k, x) :: xs => (match k with | .inl i => intB i | .inr s => strB s) && leafB x && leafBk xs
end
mutual
def cntD : D → Nat
  | .lst xs | .tup xs => cntDs xs + 1
  | .dct kvs => cntDk kvs + 1
  | _ => 1
def cntDs : List D → Nat
  | [] => 0
  | x :: xs => cntD x + cntDs xs
def cntDk : List (Key × D) → Nat
  | [] => 0
  | (_, x) :: xs => cntD x + 1 + cntDk xs
end
theorem textFrom_le : ∀ (ts : List Str) (k : Nat) (acc : Str), (textFrom k acc ts).length ≤ acc.length + piled ts
  | [], k, acc => by show acc.length ≤ _; omega
  | t :: r, k, acc => by
    have h := textFrom_le r (k + 1) (acc ++ (if k > 0 then ", " else "" : String) ++ t)
    have e : (acc ++ (if k > 0 then ", " else "" : String) ++ t).length = acc.length + (if k > 0 then 2 else 0) + t.length := by
      rw [strLen_append, strLen_append]
      split <;> rfl
    rw [e] at h
    rw [piled_cons]
    show (textFrom (k + 1) _ r).length ≤ _
    have : (if k > 0 then 2 else 0 : Nat) ≤ 2 := by split <;> omega
    omega
theorem listText_le (ts : List Str) : (listText ts).length ≤ 2 + piled ts := by
  unfold listText
  rw [strLen_append]
  have h := textFrom_le ts 0 "["
  have e1 : ((("[" : String) : Str)).length = 1 := rfl
  have e2 : ((("]" : String) : Str)).length = 1 := rfl
  omega
theorem join_le (ts : List Str) : (Str.join ", " ts).length ≤ piled ts := by
  by_cases h : ts = []
  · subst h; exact Nat.le_refl _
  · have := join_length_add ts h
    omega
theorem tupleText_le (ts : List Str) : (tupleText ts).length ≤ 3 + piled ts := by
  unfold tupleText
  rw [strLen_append, strLen_append]
  have e1 : ((("(" : String) : Str)).length = 1 := rfl
  have e3 : (((if ts.length == 1 then ",)" else ")" : String) : Str)).length ≤ 2 := by split <;> decide
  have := join_le ts
  omega
theorem dictText_le (ts : List Str) : (dictText ts).length ≤ 2 + piled ts := by
  unfold dictText
  rw [strLen_append, strLen_append]
  have e1 : ((("{" : String) : Str)).length = 1 := rfl
  have e2 : ((("}" : String) : Str)).length = 1 := rfl
  have := join_le ts
  omega
theorem strB_repr {x : Str} (h : strB x = true) : (reprText x).length ≤ 2000 := by
  unfold strB at h
  simp only [Bool.and_eq_true, decide_eq_true_eq] at h
  have := PySem.StrLaws.reprText_len x fun c hc => by
    have h2 := h.2
    rw [Array.all_eq_true_iff_forall_mem] at h2
    have := h2 c (by simpa using hc)
    simp at this
    exact Nat.lt_trans this (by decide)
  omega
theorem intB_len {i : Int} (h : intB i = true) : (Str.ofString (toString i)).length ≤ 2000 := by
  have := PyProof.Rows.int_text_len_1921 (of_decide_eq_true h)
  omega
mutual
theorem shown_le : ∀ d : D, leafB d = true → isP d = true → (toP d).showable = true ∧ (toP d).shown.length + 2 ≤ 2010 * cntD d ∧ (toP d).depth ≤ cntD d
  | .non, _, _ => ⟨rfl, by decide, by decide⟩
  | .bl b, _, _ => ⟨rfl, by cases b <;> decide, by cases b <;> decide⟩
  | .int i, h, _ => by
    have h : intB i = true := by simpa [leafB] using h
    refine ⟨by simpa [toP, PyData.showable, intB] using h, ?_, by simp [toP, PyData.depth]⟩
    have := intB_len h
    show ((PyData.int i).shown).length + 2 ≤ 2010 * cntD (.int i)
    simp only [PyData.shown, cntD]
    show (Str.ofString (toString i)).length + 2 ≤ 2010 * 1
    omega
  | .str x, h, _ => by
    have h : strB x = true := by simpa [leafB] using h
    refine ⟨by simp [toP, PyData.showable], ?_, by simp [toP, PyData.depth]⟩
    have := strB_repr h
    show ((PyData.str x).shown).length + 2 ≤ 2010 * cntD (.str x)
    simp only [PyData.shown, cntD]
    omega
  | .lst xs, h, p => by
    obtain ⟨h1, h2, h3⟩ := shown_les xs (by simpa [leafB] using h) (by simpa [isP] using p)
    refine ⟨by simpa [toP, PyData.showable] using h1, ?_, by simp only [toP, PyData.depth, cntD]; omega⟩
    have := listText_le (PyData.shownAll (toPs xs))
    simp only [toP, PyData.shown, cntD]
    omega
  | .tup xs, h, p => by
    obtain ⟨h1, h2, h3⟩ := shown_les xs (by simpa [leafB] using h) (by simpa [isP] using p)
    refine ⟨by simpa [toP, PyData.showable] using h1, ?_, by simp only [toP, PyData.depth, cntD]; omega⟩
    have := tupleText_le (PyData.shownAll (toPs xs))
    simp only [toP, PyData.shown, cntD]
    omega
  | .dct xs, h, p => by
    obtain ⟨h1, h2, h3⟩ := shown_lek xs (by simpa [leafB] using h) (by simpa [isP] using p)
    refine ⟨by simpa [toP, PyData.showable] using h1, ?_, by simp only [toP, PyData.depth, cntD]; omega⟩
    have := dictText_le (PyData.shownKv (toPk xs))
    simp only [toP, PyData.shown, cntD]
    omega
  | .obj _, _, p => by simp [isP] at p
  | .ty _, _, p => by simp [isP] at p
  | .scr _, _, p => by simp [isP] at p
theorem shown_les : ∀ ds : List D, leafBs ds = true → isPs ds = true → PyData.showableAll (toPs ds) = true ∧ piled (PyData.shownAll (toPs ds)) ≤ 2010 * cntDs ds ∧ PyData.depthAll (toPs ds) ≤ cntDs ds
  | [], _, _ => ⟨rfl, by decide, by decide⟩
  | x :: xs, h, p => by
    simp only [leafBs, Bool.and_eq_true] at h
    simp only [isPs, Bool.and_eq_true] at p
    obtain ⟨a1, a2, a3⟩ := shown_le x h.1 p.1
    obtain ⟨b1, b2, b3⟩ := shown_les xs h.2 p.2
    refine ⟨by simp only [toPs, PyData.showableAll, a1, b1, Bool.and_self], ?_, ?_⟩
    · simp only [toPs, PyData.shownAll, piled_cons, cntDs]
      omega
    · simp only [toPs, PyData.depthAll, cntDs]
      omega
theorem shown_lek : ∀ ds : List (Key × D), leafBk ds = true → isPk ds = true → PyData.showableKv (toPk ds) = true ∧ piled (PyData.shownKv (toPk ds)) ≤ 2010 * cntDk ds ∧ PyData.depthKv (toPk ds) ≤ cntDk ds
  | [], _, _ => ⟨rfl, by decide, by decide⟩
  | (k, x) :: xs, h, p => by
    simp only [leafBk, Bool.and_eq_true] at h
    simp only [isPk, Bool.and_eq_true] at p
    obtain ⟨a1, a2, a3⟩ := shown_le x h.1.2 p.1
    obtain ⟨b1, b2, b3⟩ := shown_lek xs h.2 p.2
    have e2 : (((": " : String) : Str)).length = 2 := rfl
    cases k with
    | inl i =>
      have hk : intB i = true := h.1.1
      refine ⟨by simp only [toPk, PyData.showableKv, a1, b1, PyData.showable, Bool.and_self, Bool.and_true]; exact hk, ?_, ?_⟩
      · have := intB_len hk
        simp only [toPk, PyData.shownKv, piled_cons, cntDk, strLen_append, PyData.shown, e2]
        show (Str.ofString (toString i)).length + 2 + _ + 2 + _ ≤ _
        omega
      · simp only [toPk, PyData.depthKv, cntDk, PyData.depth]
        omega
    | inr t =>
      have hk : strB t = true := h.1.1
      refine ⟨by simp only [toPk, PyData.showableKv, a1, b1, PyData.showable, Bool.and_self, Bool.and_true], ?_, ?_⟩
      · have := strB_repr hk
        simp only [toPk, PyData.shownKv, piled_cons, cntDk, strLen_append, PyData.shown, e2]
        omega
      · simp only [toPk, PyData.depthKv, cntDk, PyData.depth]
        omega
end
/-- a value that may be looked at: its text is short -/
structure Th (n : Nat) (d : D) : Prop where
  p : isP d = true
  l : leafB d = true
  c : cntD d ≤ n
theorem reprD_ok {n : Nat} {d : D} (h : Th n d) (hn : n ≤ 60) : biD .repr [d] = some (.val (.str (toP d).shown)) := by
  obtain ⟨h1, h2, h3⟩ := shown_le d h.l h.p
  have := h.c
  exact if_pos ⟨h.p, h1, Nat.le_trans (by omega : _ ≤ 200000) (by decide), by omega⟩
theorem eq_str (a b : Str) : cmp2 .Eq (.str a) (.str b) = some (decide (a = b)) := rfl
theorem ne_str (a b : Str) : cmp2 .NotEq (.str a) (.str b) = some (!decide (a = b)) := rfl
theorem Th.view {n : Nat} {d : D} (h : Th n d) (M : MS) : view M d = d := by
  cases d with
  | obj a => have := h.p; simp [isP] at this
  | _ => rfl
end DL
set_option linter.all false
set_option maxRecDepth 100000
set_option maxHeartbeats 8000000
namespace DL
open PySem L2
local macro_rules | `(tactic| walk_at "s") => `(tactic| with_reducible first | refine x_cons ?_ | refine x_nil ?_ | refine x_set ?_ | refine x_setM ?_ | refine x_par ?_ | refine x_unp ?_ | refine x_sto ?_ | refine x_augS ?_ | refine x_exp ?_ | refine x_ret ?_ | refine x_retN ?_ | refine x_iff ?_ | refine x_pass ?_ | refine x_app ?_ | refine x_for ?_ | refine v_cst ?_ | refine v_tup ?_ | refine v_lst ?_ | refine v_dct ?_ | refine v_bin ?_ | refine v_neg ?_ | refine v_cmp ?_ | refine v_chain ?_ | refine v_not ?_ | refine v_and ?_ | refine v_or ?_ | refine v_ife ?_ | refine v_idx ?_ | refine v_slc ?_ | refine v_call ?_ | refine v_bi ?_ | refine v_isi ?_ | refine v_mt ?_ | refine v_comp ?_ | refine va_nil ?_ | refine va_cons ?_ | refine vo_none ?_ | refine vo_some ?_ | refine vt_yes ?_ | refine vt_e ?_ | refine vt_and ?_ | refine vt_or ?_ | refine vt_not ?_ | refine vi_seq ?_ | refine vi_rng1 ?_)
local macro_rules | `(tactic| walk_at "d") => `(tactic| repeat (first | walk_at "s" | ((with_reducible refine' v_var ?k1 ?_); (case k1 => exact rfl)) | ((with_reducible refine' v_gl ?k1 ?_); (case k1 => exact rfl))))
/-! ### texts -/
theorem restrict_self (M : MS) : restrict M M = M := by
  funext a
  unfold restrict
  cases h : M a with
  | none => rfl
  | some mo => cases mo <;> simp [h]
theorem mem_app {x y : Str} {c : Nat} : c ∈ (x ++ y).cps.toList ↔ c ∈ x.cps.toList ∨ c ∈ y.cps.toList := by
  show c ∈ (x.cps ++ y.cps).toList ↔ _
  simp
theorem len_cps (x : Str) : x.cps.toList.length = x.length := by simp [Str.length]
theorem mem_cut {z : Str} {lo hi : Option Int} {c : Nat} (h : c ∈ (cutS z lo hi).cps.toList) : c ∈ z.cps.toList := by
  unfold cutS at h
  exact List.mem_of_mem_drop (List.mem_of_mem_take (by simpa using h))
theorem len_cut {z : Str} {lo hi : Option Int} : (cutS z lo hi).length ≤ z.length := by
  rw [← len_cps, ← len_cps]
  unfold cutS
  simp
  omega
theorem len_cut2 {z : Str} {k : Int} (h0 : 0 ≤ k) : (cutS z none (some k)).length + (cutS z (some k) none).length = z.length := by
  have e1 : HT.sIx z.length z.length (some k) = min k.toNat z.length := if_neg (by omega)
  have e2 : HT.sIx z.length 0 (some k) = min k.toNat z.length := if_neg (by omega)
  have e3 : ∀ d, HT.sIx z.length d none = d := fun _ => rfl
  rw [← len_cps, ← len_cps]
  unfold cutS
  simp only [e1, e2, e3, List.length_take, List.length_drop, len_cps]
  omega
theorem idx_str {z : Str} {i : Int} (hz : z.length ≤ sizeLine) (h0 : 0 ≤ i) (h : i < z.length) : ∃ c, c ∈ z.cps.toList ∧ idxD (.str z) (.int i) = some (.str ⟨#[c]⟩) := by
  have hl : i.toNat < z.cps.toList.length := by rw [len_cps]; omega
  refine ⟨z.cps.toList[i.toNat], List.getElem_mem hl, ?_⟩
  show (if z.length ≤ sizeLine then (atI z.cps.toList i).map fun c => D.str ⟨#[c]⟩ else none) = _
  rw [if_pos hz]
  unfold atI ixN
  rw [if_pos h0, if_pos (by rw [len_cps]; exact h)]
  show (z.cps.toList[i.toNat]?).map _ = _
  rw [List.getElem?_eq_getElem hl]; rfl
theorem idx_at {xs : List D} {i : Int} (h0 : 0 ≤ i) (h : i < xs.length) : ∃ d, d ∈ xs ∧ atI xs i = some d := by
  have hl : i.toNat < xs.length := by omega
  refine ⟨xs[i.toNat], List.getElem_mem hl, ?_⟩
  unfold atI ixN
  rw [if_pos h0, if_pos h]
  exact List.getElem?_eq_getElem hl
theorem strsD_map : ∀ xs : List Str, strsD (xs.map D.str) = some xs
  | [] => rfl
  | x :: xs => by
    show (strsD (xs.map D.str)).map (x :: ·) = _
    rw [strsD_map xs]; rfl
theorem sum_one : ∀ {xs : List Str}, (∀ x ∈ xs, x.length = 1) → (xs.map fun x => x.length).sum = xs.length
  | [], _ => rfl
  | x :: xs, h => by
    have := sum_one (xs := xs) fun y hy => h y (List.mem_cons_of_mem _ hy)
    have := h x (by simp)
    simp only [List.map_cons, List.sum_cons, List.length_cons]
    omega
theorem join0 : ∀ xs : List Str, (∀ x ∈ xs, x.length = 1) → (PySem.Txt.join "" xs).length = xs.length ∧ ∀ c ∈ (PySem.Txt.join "" xs).cps.toList, ∃ x ∈ xs, c ∈ x.cps.toList
  | xs, h => by
    have e0 : (("" : String) : Str).length = 0 := rfl
    constructor
    · show (PySem.Builtin.Str.glued _ xs).length = _
      rw [PySem.size_glued, e0, Nat.mul_zero, Nat.add_zero]
      exact sum_one h
    · intro c hc
      rw [show PySem.Txt.join "" xs = Str.join "" xs from PySem.StrLaws.glued_eq_join _ _] at hc
      clear h
      induction xs with
      | nil => simp [Str.join, Str.empty] at hc
      | cons x r ih =>
        cases r with
        | nil => exact ⟨x, by simp, hc⟩
        | cons y r =>
          have hc : c ∈ (x ++ "" ++ Str.join "" (y :: r)).cps.toList := hc
          rcases mem_app.mp hc with hc | hc
          · rcases mem_app.mp hc with hc | hc
            · exact ⟨x, by simp, hc⟩
            · have : c ∈ ([] : List Nat) := hc
              simp at this
          · obtain ⟨z, hz, h2⟩ := ih hc
            exact ⟨z, List.mem_cons_of_mem _ hz, h2⟩
/-- a name: one to eight small letters -/
structure Nm (x : Str) : Prop where
  ge : 1 ≤ x.length
  le : x.length ≤ 8
  ch : ∀ c ∈ x.cps.toList, 97 ≤ c ∧ c ≤ 122
def nmB (x : Str) : Bool := decide (1 ≤ x.length) && decide (x.length ≤ 8) && x.cps.toList.all fun c => decide (97 ≤ c) && decide (c ≤ 122)
theorem nmB_ok {x : Str} (h : nmB x = true) : Nm x := by
  unfold nmB at h
  simp only [Bool.and_eq_true, decide_eq_true_eq, List.all_eq_true] at h
  exact ⟨h.1.1, h.1.2, h.2⟩
theorem Nm.leaf {x : Str} (h : Nm x) : strB x = true := by
  unfold strB
  have := h.le
  simp only [Bool.and_eq_true, decide_eq_true_eq]
  refine ⟨by omega, ?_⟩
  rw [Array.all_eq_true_iff_forall_mem]
  intro c hc
  have := h.ch c (by simpa using hc)
  simp only [decide_eq_true_eq]
  omega
def LET : Str := "abcdefghijklmnopqrstuvwxyz"
theorem let_ch : ∀ c ∈ LET.cps.toList, 97 ≤ c ∧ c ≤ 122 := by decide +kernel
theorem let_len : LET.length = 26 := by decide +kernel
def MENU : Str := "do set answer break next raise again if loop close try rest always end catch in got a b z ab ba"
theorem menu_all : ((PySem.Txt.split MENU " ").all nmB && decide ((PySem.Txt.split MENU " ").length = 22)) = true := by decide +kernel
theorem k_take {Φ : Fns} {t : Nat} {b : Addr} {many : Int} {M : MS} {Q : KR} {Z : KX} (hT : Φ t = phTake) (hb : M b = some .bag) (h0 : 0 < many) (h1 : many < 1073741824) (k : ∀ v, 0 ≤ v → v < many → Q (.val (.int v)) M) : Φ t [.obj b, .int many] M Q Z := by
  rw [hT]; exact ⟨b, many, rfl, hb, h0, h1, k⟩
def NAMES (t : Nat) : Ss :=
  (.cons (.set 2 (.cst (.str LET))) (.cons (.set 3 (.cst (.str MENU))) (.cons (.par [3, 4, 5] (.cons (.mt .split (.var 3) (.cons (.cst (.str " ")) .nil)) (.cons (.call t (.cons (.var 0) (.cons (.cst (.int 4)) .nil))) (.cons (.call t (.cons (.var 0) (.cons (.cst (.int 20)) .nil))) .nil)))) (.cons (.set 6 (.mt .join (.cst (.str "")) (.cons (.comp (.idx (.var 2) (.call t (.cons (.var 0) (.cons (.cst (.int 26)) .nil)))) [7] true [7] (.rng1 (.bin .Add (.cst (.int 1)) (.call t (.cons (.var 0) (.cons (.cst (.int 7)) .nil))))) .yes) .nil))) (.cons (.set 8 (.call t (.cons (.var 0) (.cons (.bin .Add (.bi .len (.cons (.var 6) .nil)) (.cst (.int 1))) .nil)))) (.cons (.iff (.e (.cmp .Eq (.var 4) (.cst (.int 0)))) (.cons (.ret (.slc (.bin .Add (.slc (.var 3) (.some (.var 5)) .none) (.slc (.var 3) .none (.some (.var 5)))) .none (.some (.var 1)))) .nil) .nil) (.cons (.iff (.e (.cmp .Eq (.var 4) (.cst (.int 1)))) (.cons (.ret (.comp (.idx (.var 2) (.bin .Mod (.bi .int (.cons (.bin .Add (.var 5) (.bin .Mult (.cst (.int 3)) (.var 7))) .nil)) (.cst (.int 26)))) [7] true [7] (.rng1 (.var 1)) .yes)) .nil) .nil) (.cons (.ret (.comp (.bin .Add (.bin .Add (.slc (.var 6) .none (.some (.var 8))) (.idx (.var 2) (.bin .Mod (.bi .int (.cons (.bin .Add (.var 5) (.bin .Mult (.cst (.int 3)) (.var 7))) .nil)) (.cst (.int 26))))) (.slc (.var 6) (.some (.var 8)) .none)) [7] true [7] (.rng1 (.var 1)) .yes)) .nil))))))))
theorem strs_ex {P : Str → Prop} : ∀ {ds : List D}, (∀ d ∈ ds, ∃ x, d = .str x ∧ P x) → ∃ xs : List Str, ds = xs.map D.str ∧ ∀ x ∈ xs, P x
  | [], _ => ⟨[], rfl, by simp⟩
  | d :: ds, h => by
    obtain ⟨xs, rfl, h3⟩ := strs_ex (P := P) (ds := ds) fun d hd => h d (List.mem_cons_of_mem _ hd)
    obtain ⟨x, rfl, hx⟩ := h d (by simp)
    exact ⟨x :: xs, rfl, fun y hy => (List.mem_cons.mp hy).elim (fun e => e ▸ hx) (h3 y)⟩
theorem join_ok {a : Str} {xs : List Str} (h : (xs.map (·.length)).sum + xs.length * a.length ≤ 16777216) : mtD .join (.str a) [.lst (xs.map D.str)] = some (.val (.str (PySem.Txt.join a xs))) := by
  unfold mtD
  simp only [strsD_map]
  exact if_pos h
theorem add_str {a b : Str} (h : a.length + b.length ≤ sizeLine) : op2 .Add (.str a) (.str b) = some (.val (.str (a ++ b))) := if_pos h
theorem slc_str {z : Str} {lo hi : Option Int} (h : z.length ≤ sizeLine) : slcD (.str z) lo hi = some (.val (.str (cutS z lo hi))) := if_pos h
theorem len_str {z : Str} (h : z.length ≤ sizeLine) : biD .len [.str z] = some (.val (.int z.length)) := by
  unfold biD lenD
  simp only [if_pos h]
  rfl
theorem split_ok {a b : Str} (h1 : b.length ≠ 0) (h2 : a.length + 2 ≤ sizeLine) : mtD .split (.str a) [.str b] = some (.new ((PySem.Txt.split a b).map D.str)) := if_pos ⟨h1, h2⟩
theorem small_le {n : Nat} (h : n ≤ 16777216) : n ≤ sizeLine := Nat.le_trans h (by decide)
theorem names_spec {Φ : Fns} {γ : List D} {t : Nat} {b : Addr} {many : Int} {M : MS} {Q : KR} {Z : KX} (hT : Φ t = phTake) (hb : M b = some .bag) (hm0 : 0 ≤ many) (hm1 : many ≤ 20)
    (k : ∀ xs : List Str, xs.length = many.toNat → (∀ x ∈ xs, Nm x) → Q (.new (xs.map D.str)) M) : callDef Φ γ ⟨2, 9, NAMES t⟩ [.obj b, .int many] M Q Z := by
  refine c_def [some (.obj b), some (.int many), none, none, none, none, none, none, none] rfl rfl ?_
  have fin : ∀ ds : List D, ds.length = many.toNat → (∀ d ∈ ds, ∃ x, d = .str x ∧ Nm x) → retR M Q (.new ds) M := fun ds h1 h2 => by
    obtain ⟨xs, rfl, h3⟩ := strs_ex h2
    show Q (.new _) (restrict M M)
    rw [restrict_self]
    exact k xs (by simpa using h1) h3
  have ml := menu_all
  simp only [Bool.and_eq_true, decide_eq_true_eq, List.all_eq_true] at ml
  obtain ⟨ml1, ml2⟩ := ml
  have lz : LET.length ≤ sizeLine := by rw [let_len]; decide
  unfold NAMES
  walk_at "d"
  refine ⟨_, rfl, ?_⟩
  walk_at "d"
  refine ⟨_, split_ok (by decide) (by decide), ?_⟩
  walk_at "d"
  refine k_take hT hb (by decide) (by decide) fun v4 _ _ => ?_
  walk_at "d"
  refine k_take hT hb (by decide) (by decide) fun v5 h50 h51 => ?_
  walk_at "d"
  refine ⟨by show 3 ≤ sizeLine; decide, rfl, ?_⟩
  walk_at "d"
  refine ⟨_, rfl, ?_⟩
  walk_at "d"
  refine k_take hT hb (by decide) (by decide) fun v7 h70 h71 => ?_
  refine ⟨_, rfl, ?_⟩
  refine ⟨_, rfl, by omega, by omega, ?_⟩
  refine comp_all (fun d => ∃ x : Str, d = .str x ∧ x.length = 1 ∧ ∀ c ∈ x.cps.toList, 97 ≤ c ∧ c ≤ 122) trivial ?_ (fun d hd acc kk hk => ?_) fun acc hl hacc => ?_
  · simp only [List.length_map, List.length_range]
    exact small_le (by omega)
  · refine ⟨_, rfl, ?_⟩
    walk_at "d"
    refine if_t ?_
    walk_at "d"
    refine k_take hT hb (by decide) (by decide) fun v h0 h1 => ?_
    obtain ⟨c, hc, he⟩ := idx_str lz h0 (by rw [let_len]; exact h1)
    refine ⟨_, he, ?_⟩
    refine hk _ ⟨⟨#[c]⟩, rfl, rfl, fun c' hc' => ?_⟩
    have e : c' = c := by simpa using hc'
    subst e
    exact let_ch _ hc
  obtain ⟨xs, rfl, hxs⟩ := strs_ex hacc
  have hx1 := fun x hx => (hxs x hx).1
  obtain ⟨j1, j2⟩ := join0 xs hx1
  have hxl : xs.length = (1 + v7).toNat := by simpa using hl
  walk_at "d"
  refine ⟨_, join_ok ?_, ?_⟩
  · rw [sum_one hx1]
    show xs.length + xs.length * 0 ≤ _
    omega
  walk_at "d"
  generalize PySem.Txt.join "" xs = stem at j1 j2
  have js : stem.length ≤ sizeLine := small_le (by omega)
  refine ⟨_, len_str js, ?_⟩
  walk_at "d"
  refine ⟨_, rfl, ?_⟩
  walk_at "d"
  refine k_take hT hb (by show (0 : Int) < (stem.length : Int) + 1; omega) (by show (stem.length : Int) + 1 < 1073741824; omega) fun v8 h80 h81 => ?_
  walk_at "d"
  refine ⟨_, eq_int _ _, _, rfl, ?_⟩
  refine if_dec (fun _ => ?_) (fun _ => ?_)
  · walk_at "d"
    refine ⟨_, rfl, ?_⟩
    walk_at "d"
    refine ⟨_, rfl, ?_⟩
    walk_at "d"
    refine ⟨_, rfl, ?_⟩
    refine ⟨_, rfl, ?_⟩
    have e1 : cutD ((PySem.Txt.split MENU " ").map D.str) (some v5) none = ((PySem.Txt.split MENU " ").drop v5.toNat).map D.str := by rw [cut_drop h50, List.map_drop]
    have e2 : cutD ((PySem.Txt.split MENU " ").map D.str) none (some v5) = ((PySem.Txt.split MENU " ").take v5.toNat).map D.str := by rw [cut_take h50, List.map_take]
    refine ⟨.new (cutD ((PySem.Txt.split MENU " ").map D.str) (some v5) none ++ cutD ((PySem.Txt.split MENU " ").map D.str) none (some v5)), if_pos ?_, ?_⟩
    · rw [e1, e2]
      simp only [List.length_map, List.length_drop, List.length_take, ml2]
      exact small_le (by omega)
    walk_at "d"
    refine ⟨_, rfl, ?_⟩
    refine ⟨_, rfl, ?_⟩
    show retR M Q (.new (cutD (cutD ((PySem.Txt.split MENU " ").map D.str) (some v5) none ++ cutD ((PySem.Txt.split MENU " ").map D.str) none (some v5)) none (some many))) M
    rw [cut_take hm0, e1, e2, ← List.map_append, ← List.map_take]
    refine fin _ ?_ fun d hd => ?_
    · simp only [List.length_map, List.length_take, List.length_append, List.length_drop, ml2]
      omega
    · obtain ⟨x, hx, rfl⟩ := List.mem_map.mp hd
      refine ⟨x, rfl, nmB_ok (ml1 x ?_)⟩
      rcases List.mem_append.mp (List.mem_of_mem_take hx) with h | h
      · exact List.mem_of_mem_drop h
      · exact List.mem_of_mem_take h
  have sgn : ∀ i : Int, ∃ c, (97 ≤ c ∧ c ≤ 122) ∧ idxD (.str LET) (.int (i % 26)) = some (.str ⟨#[c]⟩) := fun i => by
    obtain ⟨c, hc, he⟩ := idx_str (i := i % 26) lz (Int.emod_nonneg _ (by decide)) (by rw [let_len]; exact Int.emod_lt_of_pos _ (by decide))
    exact ⟨c, let_ch _ hc, he⟩
  walk_at "d"
  refine ⟨_, eq_int _ _, _, rfl, ?_⟩
  refine if_dec (fun _ => ?_) (fun _ => ?_)
  · walk_at "d"
    refine ⟨_, rfl, by omega, by omega, ?_⟩
    refine comp_all (fun d => ∃ x : Str, d = .str x ∧ Nm x) trivial ?_ (fun d hd acc kk hk => ?_) fun acc hl hacc => ?_
    · simp only [List.length_map, List.length_range]
      exact small_le (by omega)
    · obtain ⟨j, hj, rfl⟩ := List.mem_map.mp hd
      refine ⟨_, rfl, ?_⟩
      walk_at "d"
      refine if_t ?_
      walk_at "d"
      refine ⟨_, mul_ok (.inl (by decide)), ?_⟩
      refine ⟨_, rfl, ?_⟩
      walk_at "d"
      refine ⟨_, rfl, ?_⟩
      walk_at "d"
      refine ⟨_, mod_ok (by decide), ?_⟩
      obtain ⟨c, hc, he⟩ := sgn (v5 + 3 * (j : Int))
      refine ⟨_, he, ?_⟩
      refine hk _ ⟨⟨#[c]⟩, rfl, Nat.le_refl 1, (by show 1 ≤ 8; decide), fun c' hc' => ?_⟩
      have e : c' = c := by simpa using hc'
      rw [e]; exact hc
    · exact fin acc (by simpa using hl) hacc
  walk_at "d"
  refine ⟨_, rfl, by omega, by omega, ?_⟩
  refine comp_all (fun d => ∃ x : Str, d = .str x ∧ Nm x) trivial ?_ (fun d hd acc kk hk => ?_) fun acc hl hacc => ?_
  · simp only [List.length_map, List.length_range]
    exact small_le (by omega)
  · obtain ⟨j, hj, rfl⟩ := List.mem_map.mp hd
    refine ⟨_, rfl, ?_⟩
    walk_at "d"
    refine if_t ?_
    walk_at "d"
    refine ⟨_, rfl, ?_⟩
    refine ⟨_, slc_str js, ?_⟩
    walk_at "d"
    refine ⟨_, mul_ok (.inl (by decide)), ?_⟩
    refine ⟨_, rfl, ?_⟩
    walk_at "d"
    refine ⟨_, rfl, ?_⟩
    walk_at "d"
    refine ⟨_, mod_ok (by decide), ?_⟩
    obtain ⟨c, hc, he⟩ := sgn (v5 + 3 * (j : Int))
    refine ⟨_, he, ?_⟩
    have l1 : (cutS stem none (some v8)).length ≤ stem.length := len_cut
    have l2 : (cutS stem (some v8) none).length ≤ stem.length := len_cut
    have l3 : (cutS stem none (some v8) ++ (⟨#[c]⟩ : Str)).length = (cutS stem none (some v8)).length + 1 := strLen_append _ _
    have l4 : (cutS stem none (some v8)).length + (cutS stem (some v8) none).length = stem.length := len_cut2 h80
    refine ⟨_, add_str (small_le ?_), ?_⟩
    · show (cutS stem none (some v8)).length + 1 ≤ _
      omega
    walk_at "d"
    refine ⟨_, rfl, ?_⟩
    walk_at "d"
    refine ⟨_, slc_str js, ?_⟩
    refine ⟨_, add_str (small_le (by omega)), ?_⟩
    refine hk _ ⟨_, rfl, ?_, ?_, fun c' hc' => ?_⟩
    · rw [strLen_append]; omega
    · rw [strLen_append]; omega
    · rcases mem_app.mp hc' with h | h
      · rcases mem_app.mp h with h | h
        · obtain ⟨x, hx, hx2⟩ := j2 _ (mem_cut h)
          exact (hxs x hx).2 _ hx2
        · have e : c' = c := by simpa using h
          rw [e]; exact hc
      · obtain ⟨x, hx, hx2⟩ := j2 _ (mem_cut h)
        exact (hxs x hx).2 _ hx2
  · exact fin acc (by simpa using hl) hacc
end DL
set_option linter.all false
set_option maxRecDepth 100000
set_option maxHeartbeats 8000000
namespace DL
open PySem L2
local macro_rules | `(tactic| walk_at "s") => `(tactic| with_reducible first | refine x_cons ?_ | refine x_nil ?_ | refine x_set ?_ | refine x_setM ?_ | refine x_par ?_ | refine x_unp ?_ | refine x_sto ?_ | refine x_augS ?_ | refine x_exp ?_ | refine x_ret ?_ | refine x_retN ?_ | refine x_iff ?_ | refine x_pass ?_ | refine x_app ?_ | refine x_for ?_ | refine v_cst ?_ | refine v_tup ?_ | refine v_lst ?_ | refine v_dct ?_ | refine v_bin ?_ | refine v_neg ?_ | refine v_cmp ?_ | refine v_chain ?_ | refine v_not ?_ | refine v_and ?_ | refine v_or ?_ | refine v_ife ?_ | refine v_idx ?_ | refine v_slc ?_ | refine v_call ?_ | refine v_bi ?_ | refine v_isi ?_ | refine v_mt ?_ | refine v_comp ?_ | refine va_nil ?_ | refine va_cons ?_ | refine vo_none ?_ | refine vo_some ?_ | refine vt_yes ?_ | refine vt_e ?_ | refine vt_and ?_ | refine vt_or ?_ | refine vt_not ?_ | refine vi_seq ?_ | refine vi_rng1 ?_)
local macro_rules | `(tactic| walk_at "d") => `(tactic| repeat (first | walk_at "s" | ((with_reducible refine' v_var ?k1 ?_); (case k1 => exact rfl)) | ((with_reducible refine' v_gl ?k1 ?_); (case k1 => exact rfl))))
/-! ### kinds of values -/
def intQ : D → Bool
  | .int _ => true
  | _ => false
def blQ : D → Bool
  | .bl _ => true
  | _ => false
def strQ : D → Bool
  | .str _ => true
  | _ => false
def tupQ : D → Bool
  | .tup _ => true
  | _ => false
def lstQ : D → Bool
  | .lst _ => true
  | _ => false
theorem isi_int {d : D} (h : isP d = true) : isiD d ["int"] = some (intQ d || blQ d) := by cases d <;> first | rfl | (simp [isP] at h)
theorem isi_bool {d : D} (h : isP d = true) : isiD d ["bool"] = some (blQ d) := by cases d <;> first | rfl | (simp [isP] at h)
theorem isi_str {d : D} (h : isP d = true) : isiD d ["str"] = some (strQ d) := by cases d <;> first | rfl | (simp [isP] at h)
theorem isi_tup {d : D} (h : isP d = true) : isiD d ["tuple"] = some (tupQ d) := by cases d <;> first | rfl | (simp [isP] at h)
theorem isi_lst {d : D} (h : isP d = true) : isiD d ["list"] = some (lstQ d) := by cases d <;> first | rfl | (simp [isP] at h)
theorem view_p {d : D} (h : isP d = true) (M : MS) : view M d = d := by
  cases d with
  | obj a => simp [isP] at h
  | _ => rfl
theorem boolsD_map : ∀ bs : List Bool, boolsD (bs.map D.bl) = some bs
  | [] => rfl
  | b :: bs => by
    show (boolsD (bs.map D.bl)).map (b :: ·) = _
    rw [boolsD_map bs]; rfl
theorem all_bls (bs : List Bool) : biD .all [.lst (bs.map D.bl)] = some (.val (.bl (bs.all id))) := by
  unfold biD
  simp only [boolsD_map]
  rfl
theorem any_bls (bs : List Bool) : biD .any [.lst (bs.map D.bl)] = some (.val (.bl (bs.any id))) := by
  unfold biD
  simp only [boolsD_map]
  rfl
theorem comp_mapA {α : Type} {src : MS → Prop} {step : D → List D → MS → (List D → MS → Prop) → Prop} {Q : List D → MS → Prop} {xs : List α} {M : MS} (g f : α → D) (hs : src M) (hl : xs.length ≤ sizeLine)
    (h : ∀ a ∈ xs, ∀ acc k, k (acc ++ [f a]) M → step (g a) acc M k) (e : Q (xs.map f) M) : compLoop src step (xs.map g) [] M Q := by
  refine comp_ind (fun r acc M' => M' = M ∧ ∃ u v, xs = u ++ v ∧ r = v.map g ∧ acc = u.map f) ⟨rfl, [], xs, rfl, rfl, rfl⟩ ?_ ?_
  · rintro d r acc M' _ ⟨rfl, u, v, rfl, h1, rfl⟩
    cases v with
    | nil => simp at h1
    | cons a v =>
      simp at h1
      obtain ⟨rfl, rfl⟩ := h1
      simp at hl
      refine ⟨hs, by simp; omega, fun k hk => h a (by simp) _ k (hk _ _ ⟨rfl, u ++ [a], v, by simp, rfl, by simp⟩)⟩
  · rintro acc M' ⟨rfl, u, v, rfl, h1, rfl⟩
    cases v with
    | nil => simp at e; exact ⟨hs, e⟩
    | cons a v => simp at h1
theorem comp_filtA {α : Type} {src : MS → Prop} {step : D → List D → MS → (List D → MS → Prop) → Prop} {Q : List D → MS → Prop} {xs : List α} {M : MS} (g f : α → D) (p : α → Bool) (hs : src M) (hl : xs.length ≤ sizeLine)
    (h : ∀ a ∈ xs, ∀ acc k, k (if p a = true then acc ++ [f a] else acc) M → step (g a) acc M k) (e : Q ((xs.filter p).map f) M) : compLoop src step (xs.map g) [] M Q := by
  refine comp_ind (fun r acc M' => M' = M ∧ ∃ u v, xs = u ++ v ∧ r = v.map g ∧ acc = (u.filter p).map f) ⟨rfl, [], xs, rfl, rfl, rfl⟩ ?_ ?_
  · rintro d r acc M' _ ⟨rfl, u, v, rfl, h1, rfl⟩
    cases v with
    | nil => simp at h1
    | cons a v =>
      simp at h1
      obtain ⟨rfl, rfl⟩ := h1
      simp at hl
      have : (u.filter p).length ≤ u.length := List.length_filter_le _ _
      refine ⟨hs, by simp; omega, fun k hk => h a (by simp) _ k (hk _ _ ⟨rfl, u ++ [a], v, by simp, rfl, ?_⟩)⟩
      cases hp : p a <;> simp [hp]
  · rintro acc M' ⟨rfl, u, v, rfl, h1, rfl⟩
    cases v with
    | nil => simp at e; exact ⟨hs, by simpa using e⟩
    | cons a v => simp at h1
/-! ### alike -/
def ALIKE : Ss := (.cons (.ret (.and (.cmp .Eq (.var 0) (.var 1)) (.cmp .Eq (.bi .repr (.cons (.var 0) .nil)) (.bi .repr (.cons (.var 1) .nil))))) .nil)
mutual
theorem eqv_refl : ∀ d : PyData, d.canLay0 = true → PyData.eqv d d = true
  | .none, _ => rfl
  | .bool b, _ => by simp [PyData.eqv]
  | .int i, _ => by simp [PyData.eqv]
  | .str x, _ => by simp [PyData.eqv]
  | .list xs, h => by
    simp only [PyData.eqv]
    exact eqvs_refl xs (by simpa [PyData.canLay0] using h)
  | .tuple xs, h => by
    simp only [PyData.eqv]
    exact eqvs_refl xs (by simpa [PyData.canLay0] using h)
  | .dict _, h => by simp [PyData.canLay0] at h
theorem eqvs_refl : ∀ ds : List PyData, PyData.canLayAll0 ds = true → PyData.eqvAll ds ds = true
  | [], _ => rfl
  | d :: ds, h => by
    simp only [PyData.canLayAll0, Bool.and_eq_true] at h
    simp only [PyData.eqvAll, eqv_refl d h.1, eqvs_refl ds h.2, Bool.and_self]
end
/-- a value is alike to itself -/
theorem alike_same {Φ : Fns} {γ : List D} {d : D} {n : Nat} {M : MS} {Q : KR} {Z : KX} (h : Th n d) (hn : n ≤ 60) (he : cmp2 .Eq d d = some true) (k : Q (.val (.bl true)) M) : callDef Φ γ ⟨2, 2, ALIKE⟩ [d, d] M Q Z := by
  refine c_def [some d, some d] rfl rfl ?_
  have vw : ∀ M, view M d = d := h.view
  unfold ALIKE
  walk_at "d"
  refine ⟨true, ?_, true, rfl, ?_⟩
  · show cmp2 .Eq (view M d) (view M d) = _
    rw [vw]; exact he
  refine if_t ?_
  walk_at "d"
  refine ⟨.val (.str (toP d).shown), ?_, ?_⟩
  · show biD .repr [view M d] = _
    rw [vw]; exact reprD_ok h hn
  walk_at "d"
  refine ⟨.val (.str (toP d).shown), ?_, ?_⟩
  · show biD .repr [view M d] = _
    rw [vw]; exact reprD_ok h hn
  refine ⟨true, ?_, ?_⟩
  · show cmp2 .Eq (.str (toP d).shown) (.str (toP d).shown) = _
    rw [eq_str]; simp
  show Q (.val (.bl true)) (restrict M M)
  rw [restrict_self]; exact k
/-! ### a whole number of many figures -/
theorem wide_all : ((List.range 40).all fun v => match PySem.intText? (("1" : Str) ++ PySem.Txt.mul "0" (v : Int)) with
    | some n => decide (0 < n) && intB n && intB (-n) && decide ((("1" : Str) ++ PySem.Txt.mul "0" (v : Int)).length ≤ 640)
    | none => false) = true := by decide +kernel
theorem wide_ok {v : Int} (h0 : 0 ≤ v) (h1 : v < 40) : ∃ n, 0 < n ∧ intB n = true ∧ intB (-n) = true ∧ (("1" : Str) ++ PySem.Txt.mul "0" v).length ≤ 640 ∧ biD .int [.str (("1" : Str) ++ PySem.Txt.mul "0" v)] = some (.val (.int n)) := by
  have h := List.all_eq_true.mp wide_all v.toNat (List.mem_range.mpr (by omega))
  rw [Int.toNat_of_nonneg h0] at h
  split at h
  · rename_i n e
    simp only [Bool.and_eq_true, decide_eq_true_eq] at h
    obtain ⟨⟨⟨a, b⟩, c⟩, d⟩ := h
    refine ⟨n, a, b, c, d, ?_⟩
    show (if _ then _ else _) = _
    rw [if_pos d, e]; rfl
  · cases h
theorem mul0_ok {v : Int} (h0 : 0 ≤ v) (h1 : v < 40) : op2 .Mult (.str "0") (.int v) = some (.val (.str (PySem.Txt.mul "0" v))) := if_pos ⟨by omega, by omega, by decide⟩
/-! ### things -/
theorem th_closed {d : D} (h : (isP d && leafB d && decide (cntD d ≤ 60)) = true) : Th 60 d := by
  simp only [Bool.and_eq_true, decide_eq_true_eq] at h
  exact ⟨h.1.1, h.1.2, h.2⟩
theorem th_nil : ∀ d ∈ ([] : List D), Th 60 d := by simp
theorem th_cons {d : D} {ds : List D} (h : Th 60 d) (t : ∀ d ∈ ds, Th 60 d) : ∀ x ∈ d :: ds, Th 60 x := fun x hx => (List.mem_cons.mp hx).elim (fun e => e ▸ h) (t x)
theorem th_str {x : Str} (h : strB x = true) : Th 60 (.str x) := ⟨rfl, by simpa [leafB] using h, by simp [cntD]⟩
theorem th_int {x : Int} (h : intB x = true) : Th 60 (.int x) := ⟨rfl, by simpa [leafB] using h, by simp [cntD]⟩
end DL
set_option linter.all false
set_option maxRecDepth 100000
set_option maxHeartbeats 8000000
namespace K12
open PySem L2 DL
def top (i : Nat) : Stmt := PySem.Challenge.pw_exitswin_k12_kinds_known.main.body.getD i (.Pass ⟨0, 0, 0, 0⟩)
def FNS : List Str := ["is_integer", "is_name", "is_error", "is_address", "_law_bag", "_law_take", "_law_alike", "_law_names", "_law_odd", "_law_is_name", "_law_text", "_law_tuple", "_law_right", "law"]
def GLS : List Str := ["LETTERS", "LONGEST", "OUTCOMES"]
def BLS : List Str := ["abs", "all", "bool", "int", "isinstance", "len", "range", "repr", "str", "tuple"]
/-! is_integer -/
abbrev st_is_integer : Stmt := top 4
def ce_is_integer : CE := { N := ["thing"], fns := FNS, gls := GLS, bls := BLS, mu := [] }
def b_is_integer : Ss :=
  (.cons (.ret (.and (.isi (.var 0) ["int"]) (.not (.isi (.var 0) ["bool"])))) .nil)
def d_is_integer : Def := ⟨1, 1, b_is_integer⟩
theorem cb_is_integer : compSs ce_is_integer 60 (defScope st_is_integer) (defBody st_is_integer) = some b_is_integer := by kernel_rfl
theorem sb_is_integer : scopeB ce_is_integer.N ["thing"] (defScope st_is_integer) = true := by decide +kernel
/-! is_name -/
abbrev st_is_name : Stmt := top 5
def ce_is_name : CE := { N := ["thing", "sign"], fns := FNS, gls := GLS, bls := BLS, mu := [] }
def b_is_name : Ss :=
  (.cons (.iff (.or (.not (.e (.isi (.var 0) ["str"]))) (.not (.e (.chain .LtE .LtE (.cst (.int 1)) (.bi .len (.cons (.var 0) .nil)) (.gl 1))))) (.cons (.ret (.cst (.bl false))) .nil) .nil) (.cons (.ret (.bi .all (.cons (.comp (.cmp .In (.var 1) (.gl 0)) [1] true [1] (.seq (.var 0)) .yes) .nil))) .nil))
def d_is_name : Def := ⟨1, 2, b_is_name⟩
theorem cb_is_name : compSs ce_is_name 60 (defScope st_is_name) (defBody st_is_name) = some b_is_name := by kernel_rfl
theorem sb_is_name : scopeB ce_is_name.N ["thing"] (defScope st_is_name) = true := by decide +kernel
/-! is_error -/
abbrev st_is_error : Stmt := top 6
def ce_is_error : CE := { N := ["thing"], fns := FNS, gls := GLS, bls := BLS, mu := [] }
def b_is_error : Ss :=
  (.cons (.ret (.and (.call 1 (.cons (.var 0) .nil)) (.cmp .NotIn (.var 0) (.gl 2)))) .nil)
def d_is_error : Def := ⟨1, 1, b_is_error⟩
theorem cb_is_error : compSs ce_is_error 60 (defScope st_is_error) (defBody st_is_error) = some b_is_error := by kernel_rfl
theorem sb_is_error : scopeB ce_is_error.N ["thing"] (defScope st_is_error) = true := by decide +kernel
/-! is_address -/
abbrev st_is_address : Stmt := top 7
def ce_is_address : CE := { N := ["thing", "part"], fns := FNS, gls := GLS, bls := BLS, mu := [] }
def b_is_address : Ss :=
  (.cons (.iff (.or (.not (.e (.isi (.var 0) ["tuple"]))) (.e (.cmp .NotEq (.bin .Mod (.bi .int (.cons (.bi .len (.cons (.var 0) .nil)) .nil)) (.cst (.int 2))) (.cst (.int 1))))) (.cons (.ret (.cst (.bl false))) .nil) .nil) (.cons (.ret (.bi .all (.cons (.comp (.and (.call 0 (.cons (.var 1) .nil)) (.cmp .GtE (.var 1) (.cst (.int 0)))) [1] true [1] (.seq (.var 0)) .yes) .nil))) .nil))
def d_is_address : Def := ⟨1, 2, b_is_address⟩
theorem cb_is_address : compSs ce_is_address 60 (defScope st_is_address) (defBody st_is_address) = some b_is_address := by kernel_rfl
theorem sb_is_address : scopeB ce_is_address.N ["thing"] (defScope st_is_address) = true := by decide +kernel
/-! _law_bag -/
abbrev st_law_bag : Stmt := top 9
def ce_law_bag : CE := { N := ["_law_script", "_law_cell"], fns := FNS, gls := GLS, bls := BLS, mu := [] }
def b_law_bag : Ss :=
  (.cons (.ret (.lst (.cons (.cst (.int 0)) (.cons (.cst (.int 1234567891)) (.cons (.cst (.int 0)) (.cons (.comp (.bi .abs (.cons (.var 1) .nil)) [1] true [1] (.seq (.slc (.var 0) .none (.some (.cst (.int 63))))) .yes) .nil)))))) .nil)
def d_law_bag : Def := ⟨1, 2, b_law_bag⟩
theorem cb_law_bag : compSs ce_law_bag 60 (defScope st_law_bag) (defBody st_law_bag) = some b_law_bag := by kernel_rfl
theorem sb_law_bag : scopeB ce_law_bag.N ["_law_script"] (defScope st_law_bag) = true := by decide +kernel
/-! _law_take -/
abbrev st_law_take : Stmt := top 10
def ce_law_take : CE := { N := ["_law_bag_here", "_law_many", "_law_cell", "_law_mixed", "_law_value", "_law_begin", "_law_second"], fns := FNS, gls := GLS, bls := BLS, mu := [] }
def b_law_take : Ss :=
  (.cons (.iff (.e (.cmp .Eq (.idx (.var 0) (.cst (.int 0))) (.cst (.int 0)))) (.cons (.set 2 (.cst (.int 0))) (.cons (.iff (.e (.cmp .Lt (.idx (.var 0) (.cst (.int 2))) (.bi .len (.cons (.idx (.var 0) (.cst (.int 3))) .nil)))) (.cons (.set 2 (.idx (.idx (.var 0) (.cst (.int 3))) (.idx (.var 0) (.cst (.int 2))))) .nil) .nil) (.cons (.augS (.var 0) (.cst (.int 2)) .Add (.cst (.int 1))) (.cons (.iff (.e (.cmp .GtE (.var 2) (.cst (.int 1000000000000000000)))) (.cons (.sto (.var 0) (.cst (.int 0)) (.var 2)) .nil) .nil) (.cons (.set 3 (.bin .Add (.bin .Add (.bin .Mult (.idx (.var 0) (.cst (.int 1))) (.cst (.int 48271))) (.bin .Mod (.bi .int (.cons (.var 2) .nil)) (.cst (.int 2147483647)))) (.bin .Mult (.cst (.int 7919)) (.idx (.var 0) (.cst (.int 2)))))) (.cons (.sto (.var 0) (.cst (.int 1)) (.bin .Mod (.bi .int (.cons (.var 3) .nil)) (.cst (.int 2147483647)))) .nil)))))) .nil) (.cons (.iff (.e (.cmp .Gt (.idx (.var 0) (.cst (.int 0))) (.cst (.int 0)))) (.cons (.set 4 (.bin .Mod (.bi .int (.cons (.idx (.var 0) (.cst (.int 0))) .nil)) (.var 1))) (.cons (.sto (.var 0) (.cst (.int 0)) (.bin .FloorDiv (.idx (.var 0) (.cst (.int 0))) (.var 1))) (.cons (.ret (.var 4)) .nil))) .nil) (.cons (.set 5 (.bin .Mod (.bi .int (.cons (.bin .Mult (.bin .Add (.idx (.var 0) (.cst (.int 1))) (.cst (.int 1))) (.cst (.int 39373))) .nil)) (.cst (.int 1000000007)))) (.cons (.set 6 (.bin .Mod (.bi .int (.cons (.bin .Mult (.bin .Mod (.bi .int (.cons (.bin .Mult (.var 5) (.var 5)) .nil)) (.cst (.int 998244353))) (.cst (.int 30011))) .nil)) (.cst (.int 998244353)))) (.cons (.iff (.e (.cmp .Gt (.var 1) (.cst (.int 1000000)))) (.cons (.ret (.bin .Mod (.bi .int (.cons (.bin .Add (.bin .Mult (.var 6) (.cst (.int 1000000007))) (.var 5)) .nil)) (.var 1))) .nil) .nil) (.cons (.ret (.bin .Mod (.bi .int (.cons (.bin .FloorDiv (.var 6) (.cst (.int 7))) .nil)) (.var 1))) .nil))))))
def d_law_take : Def := ⟨2, 7, b_law_take⟩
theorem cb_law_take : compSs ce_law_take 60 (defScope st_law_take) (defBody st_law_take) = some b_law_take := by kernel_rfl
theorem sb_law_take : scopeB ce_law_take.N ["_law_bag_here", "_law_many"] (defScope st_law_take) = true := by decide +kernel
/-! _law_alike -/
abbrev st_law_alike : Stmt := top 11
def ce_law_alike : CE := { N := ["_law_found", "_law_due"], fns := FNS, gls := GLS, bls := BLS, mu := [] }
def b_law_alike : Ss :=
  (.cons (.ret (.and (.cmp .Eq (.var 0) (.var 1)) (.cmp .Eq (.bi .repr (.cons (.var 0) .nil)) (.bi .repr (.cons (.var 1) .nil))))) .nil)
def d_law_alike : Def := ⟨2, 2, b_law_alike⟩
theorem cb_law_alike : compSs ce_law_alike 60 (defScope st_law_alike) (defBody st_law_alike) = some b_law_alike := by kernel_rfl
theorem sb_law_alike : scopeB ce_law_alike.N ["_law_found", "_law_due"] (defScope st_law_alike) = true := by decide +kernel
/-! _law_names -/
abbrev st_law_names : Stmt := top 12
def ce_law_names : CE := { N := ["_law_bag_here", "_law_many", "_law_letters", "_law_menu", "_law_style", "_law_turn", "_law_stem", "_law_k", "_law_at"], fns := FNS, gls := GLS, bls := BLS, mu := [] }
def b_law_names : Ss :=
  (.cons (.set 2 (.cst (.str "abcdefghijklmnopqrstuvwxyz"))) (.cons (.set 3 (.cst (.str "do set answer break next raise again if loop close try rest always end catch in got a b z ab ba"))) (.cons (.par [3, 4, 5] (.cons (.mt .split (.var 3) (.cons (.cst (.str " ")) .nil)) (.cons (.call 5 (.cons (.var 0) (.cons (.cst (.int 4)) .nil))) (.cons (.call 5 (.cons (.var 0) (.cons (.cst (.int 20)) .nil))) .nil)))) (.cons (.set 6 (.mt .join (.cst (.str "")) (.cons (.comp (.idx (.var 2) (.call 5 (.cons (.var 0) (.cons (.cst (.int 26)) .nil)))) [7] true [7] (.rng1 (.bin .Add (.cst (.int 1)) (.call 5 (.cons (.var 0) (.cons (.cst (.int 7)) .nil))))) .yes) .nil))) (.cons (.set 8 (.call 5 (.cons (.var 0) (.cons (.bin .Add (.bi .len (.cons (.var 6) .nil)) (.cst (.int 1))) .nil)))) (.cons (.iff (.e (.cmp .Eq (.var 4) (.cst (.int 0)))) (.cons (.ret (.slc (.bin .Add (.slc (.var 3) (.some (.var 5)) .none) (.slc (.var 3) .none (.some (.var 5)))) .none (.some (.var 1)))) .nil) .nil) (.cons (.iff (.e (.cmp .Eq (.var 4) (.cst (.int 1)))) (.cons (.ret (.comp (.idx (.var 2) (.bin .Mod (.bi .int (.cons (.bin .Add (.var 5) (.bin .Mult (.cst (.int 3)) (.var 7))) .nil)) (.cst (.int 26)))) [7] true [7] (.rng1 (.var 1)) .yes)) .nil) .nil) (.cons (.ret (.comp (.bin .Add (.bin .Add (.slc (.var 6) .none (.some (.var 8))) (.idx (.var 2) (.bin .Mod (.bi .int (.cons (.bin .Add (.var 5) (.bin .Mult (.cst (.int 3)) (.var 7))) .nil)) (.cst (.int 26))))) (.slc (.var 6) (.some (.var 8)) .none)) [7] true [7] (.rng1 (.var 1)) .yes)) .nil))))))))
def d_law_names : Def := ⟨2, 9, b_law_names⟩
theorem cb_law_names : compSs ce_law_names 60 (defScope st_law_names) (defBody st_law_names) = some b_law_names := by kernel_rfl
theorem sb_law_names : scopeB ce_law_names.N ["_law_bag_here", "_law_many"] (defScope st_law_names) = true := by decide +kernel
/-! _law_odd -/
abbrev st_law_odd : Stmt := top 13
def ce_law_odd : CE := { N := ["_law_bag_here", "_law_name", "_law_wide", "_law_plain"], fns := FNS, gls := GLS, bls := BLS, mu := [3] }
def b_law_odd : Ss :=
  (.cons (.set 2 (.bi .int (.cons (.bin .Add (.cst (.str "1")) (.bin .Mult (.cst (.str "0")) (.call 5 (.cons (.var 0) (.cons (.cst (.int 40)) .nil))))) .nil))) (.cons (.setM 3 (.lst (.cons (.cst (.int 0)) (.cons (.cst (.int 1)) (.cons (.neg (.cst (.int 1))) (.cons (.var 2) (.cons (.neg (.var 2)) (.cons (.cst (.bl true)) (.cons (.cst (.bl false)) (.cons (.cst .non) (.cons (.cst (.str "")) (.cons (.cst (.str "a")) (.cons (.var 1) (.cons (.bin .Add (.var 1) (.cst (.str "z"))) (.cons (.cst (.str "abcdefgh")) (.cons (.cst (.str "abcdefghi")) (.cons (.cst (.str "A")) .nil))))))))))))))))) (.cons (.aug 3 .Add (.lst (.cons (.cst (.str "a1")) (.cons (.cst (.str "a b")) (.cons (.cst (.str "well")) (.cons (.cst (.str "hush")) (.cons (.cst (.str "no")) (.cons (.cst (.str "out")) (.cons (.cst (.str "round")) (.cons (.cst (.str "yes")) (.cons (.cst (.str "do")) (.cons (.lst .nil) (.cons (.tup .nil) (.cons (.dct .nil) (.cons (.lst (.cons (.cst (.int 1)) .nil)) (.cons (.tup (.cons (.cst (.int 0)) .nil)) (.cons (.tup (.cons (.cst (.int 0)) (.cons (.cst (.int 0)) .nil))) (.cons (.tup (.cons (.var 1) .nil)) .nil)))))))))))))))))) (.cons (.aug 3 .Add (.lst (.cons (.dct (.cons (.var 1) (.cons (.cst (.int 1)) .nil))) (.cons (.lst (.cons (.var 1) .nil)) (.cons (.tup (.cons (.cst (.str "")) (.cons (.cst (.str "")) (.cons (.cst (.int 0)) .nil)))) (.cons (.tup (.cons (.cst (.str "break")) .nil)) (.cons (.lst (.cons (.tup (.cons (.cst (.str "break")) .nil)) .nil)) (.cons (.tup (.cons (.cst (.str "answer")) (.cons (.cst (.str "")) .nil))) (.cons (.tup (.cons (.cst (.str "ended")) .nil)) (.cons (.tup (.cons (.cst (.int 1)) (.cons (.cst (.int 0)) (.cons (.cst (.int 2)) .nil)))) .nil)))))))))) (.cons (.aug 3 .Add (.lst (.cons (.tup (.cons (.lst .nil) .nil)) (.cons (.tup (.cons (.cst (.str "error")) (.cons (.dct .nil) (.cons (.cst (.str "")) .nil)))) .nil)))) (.cons (.ret (.idx (.var 3) (.call 5 (.cons (.var 0) (.cons (.bi .len (.cons (.var 3) .nil)) .nil))))) .nil))))))
def d_law_odd : Def := ⟨2, 4, b_law_odd⟩
theorem cb_law_odd : compSs ce_law_odd 60 (defScope st_law_odd) (defBody st_law_odd) = some b_law_odd := by kernel_rfl
theorem sb_law_odd : scopeB ce_law_odd.N ["_law_bag_here", "_law_name"] (defScope st_law_odd) = true := by decide +kernel
/-! _law_is_name -/
abbrev st_law_is_name : Stmt := top 14
def ce_law_is_name : CE := { N := ["_law_thing", "_law_sign"], fns := FNS, gls := GLS, bls := BLS, mu := [] }
def b_law_is_name : Ss :=
  (.cons (.iff (.or (.not (.e (.isi (.var 0) ["str"]))) (.or (.e (.cmp .Lt (.bi .len (.cons (.var 0) .nil)) (.cst (.int 1)))) (.e (.cmp .Gt (.bi .len (.cons (.var 0) .nil)) (.cst (.int 8)))))) (.cons (.ret (.cst (.bl false))) .nil) .nil) (.cons (.ret (.cmp .Eq (.comp (.var 1) [1] true [1] (.seq (.var 0)) (.e (.cmp .NotIn (.var 1) (.cst (.str "abcdefghijklmnopqrstuvwxyz"))))) (.lst .nil))) .nil))
def d_law_is_name : Def := ⟨1, 2, b_law_is_name⟩
theorem cb_law_is_name : compSs ce_law_is_name 60 (defScope st_law_is_name) (defBody st_law_is_name) = some b_law_is_name := by kernel_rfl
theorem sb_law_is_name : scopeB ce_law_is_name.N ["_law_thing"] (defScope st_law_is_name) = true := by decide +kernel
/-! _law_text -/
abbrev st_law_text : Stmt := top 15
def ce_law_text : CE := { N := ["_law_bag_here", "_law_small", "_law_great", "_law_signs", "_law_pool", "_law_found", "_law_k", "_law_at"], fns := FNS, gls := GLS, bls := BLS, mu := [] }
def b_law_text : Ss :=
  (.cons (.par [1, 2] (.cons (.cst (.str "abcdefghijklmnopqrstuvwxyz")) (.cons (.cst (.str "ABCDEFGHIJKLMNOPQRSTUVWXYZ")) .nil))) (.cons (.set 3 (.bin .Add (.bin .Add (.bin .Add (.var 1) (.var 2)) (.cst (.str (Str.ofString ("0123456789 !#$&'()*+,-./:;<=>?@" ++ "[]^_`{|}~\n"))))) (.cst (.str "\"")))) (.cons (.par [4, 5] (.cons (.idx (.lst (.cons (.var 1) (.cons (.var 3) .nil))) (.call 5 (.cons (.var 0) (.cons (.cst (.int 2)) .nil)))) (.cons (.cst (.str "")) .nil))) (.cons (.for_ [6] true (.rng1 (.call 5 (.cons (.var 0) (.cons (.cst (.int 10)) .nil)))) (.cons (.set 5 (.bin .Add (.var 5) (.idx (.var 4) (.call 5 (.cons (.var 0) (.cons (.bi .len (.cons (.var 4) .nil)) .nil)))))) .nil)) (.cons (.set 7 (.call 5 (.cons (.var 0) (.cons (.bin .Add (.bi .len (.cons (.var 5) .nil)) (.cst (.int 1))) .nil)))) (.cons (.ret (.ife (.e (.cmp .Eq (.call 5 (.cons (.var 0) (.cons (.cst (.int 3)) .nil))) (.cst (.int 0)))) (.bin .Add (.bin .Add (.slc (.var 5) .none (.some (.var 7))) (.idx (.var 3) (.call 5 (.cons (.var 0) (.cons (.bi .len (.cons (.var 3) .nil)) .nil))))) (.slc (.var 5) (.some (.var 7)) .none)) (.var 5))) .nil))))))
def d_law_text : Def := ⟨1, 8, b_law_text⟩
theorem cb_law_text : compSs ce_law_text 60 (defScope st_law_text) (defBody st_law_text) = some b_law_text := by kernel_rfl
theorem sb_law_text : scopeB ce_law_text.N ["_law_bag_here"] (defScope st_law_text) = true := by decide +kernel
/-! _law_tuple -/
abbrev st_law_tuple : Stmt := top 16
def ce_law_tuple : CE := { N := ["_law_bag_here", "_law_wide", "_law_parts", "_law_k"], fns := FNS, gls := GLS, bls := BLS, mu := [2] }
def b_law_tuple : Ss :=
  (.cons (.set 1 (.bi .int (.cons (.bin .Add (.cst (.str "1")) (.bin .Mult (.cst (.str "0")) (.call 5 (.cons (.var 0) (.cons (.cst (.int 40)) .nil))))) .nil))) (.cons (.setM 2 (.comp (.idx (.lst (.cons (.cst (.int 0)) (.cons (.cst (.int 1)) (.cons (.cst (.int 2)) (.cons (.var 1) .nil))))) (.call 5 (.cons (.var 0) (.cons (.cst (.int 4)) .nil)))) [3] true [3] (.rng1 (.call 5 (.cons (.var 0) (.cons (.cst (.int 8)) .nil)))) .yes)) (.cons (.iff (.and (.e (.cmp .NotEq (.var 2) (.lst .nil))) (.e (.cmp .Eq (.call 5 (.cons (.var 0) (.cons (.cst (.int 2)) .nil))) (.cst (.int 0))))) (.cons (.sto (.var 2) (.call 5 (.cons (.var 0) (.cons (.bi .len (.cons (.var 2) .nil)) .nil))) (.idx (.lst (.cons (.neg (.cst (.int 1))) (.cons (.cst (.bl true)) (.cons (.cst .non) (.cons (.cst (.str "a")) (.cons (.tup (.cons (.cst (.int 0)) .nil)) (.cons (.lst (.cons (.cst (.int 0)) .nil)) .nil))))))) (.call 5 (.cons (.var 0) (.cons (.cst (.int 6)) .nil))))) .nil) .nil) (.cons (.ret (.bi .tuple (.cons (.var 2) .nil))) .nil))))
def d_law_tuple : Def := ⟨1, 4, b_law_tuple⟩
theorem cb_law_tuple : compSs ce_law_tuple 60 (defScope st_law_tuple) (defBody st_law_tuple) = some b_law_tuple := by kernel_rfl
theorem sb_law_tuple : scopeB ce_law_tuple.N ["_law_bag_here"] (defScope st_law_tuple) = true := by decide +kernel
/-! _law_right -/
abbrev st_law_right : Stmt := top 17
def ce_law_right : CE := { N := ["_law_thing", "_law_whole", "_law_name", "_law_place", "_law_bad", "_law_part", "_law_error", "_law_told"], fns := FNS, gls := GLS, bls := BLS, mu := [] }
def b_law_right : Ss :=
  (.cons (.set 1 (.and (.isi (.var 0) ["int"]) (.not (.isi (.var 0) ["bool"])))) (.cons (.par [2, 3] (.cons (.call 9 (.cons (.var 0) .nil)) (.cons (.cst (.bl false)) .nil))) (.cons (.iff (.e (.isi (.var 0) ["tuple"])) (.cons (.set 4 (.comp (.var 5) [5] true [5] (.seq (.var 0)) (.or (.not (.e (.isi (.var 5) ["int"]))) (.or (.e (.isi (.var 5) ["bool"])) (.e (.cmp .Lt (.var 5) (.cst (.int 0)))))))) (.cons (.set 3 (.and (.cmp .Eq (.bin .Mod (.bi .int (.cons (.bi .len (.cons (.var 0) .nil)) .nil)) (.cst (.int 2))) (.cst (.int 1))) (.cmp .Eq (.var 4) (.lst .nil)))) .nil)) .nil) (.cons (.set 6 (.and (.var 2) (.cmp .NotIn (.var 0) (.tup (.cons (.cst (.str "hush")) (.cons (.cst (.str "no")) (.cons (.cst (.str "out")) (.cons (.cst (.str "round")) (.cons (.cst (.str "well")) (.cons (.cst (.str "yes")) .nil)))))))))) (.cons (.set 7 (.tup (.cons (.call 0 (.cons (.var 0) .nil)) (.cons (.call 1 (.cons (.var 0) .nil)) (.cons (.call 2 (.cons (.var 0) .nil)) (.cons (.call 3 (.cons (.var 0) .nil)) .nil)))))) (.cons (.ret (.call 6 (.cons (.var 7) (.cons (.tup (.cons (.var 1) (.cons (.var 2) (.cons (.var 6) (.cons (.var 3) .nil))))) .nil)))) .nil))))))
def d_law_right : Def := ⟨1, 8, b_law_right⟩
theorem cb_law_right : compSs ce_law_right 60 (defScope st_law_right) (defBody st_law_right) = some b_law_right := by kernel_rfl
theorem sb_law_right : scopeB ce_law_right.N ["_law_thing"] (defScope st_law_right) = true := by decide +kernel
/-! law -/
abbrev st_law : Stmt := top 18
def ce_law : CE := { N := ["_law_script", "_law_bag_here", "_law_turn", "_law_name", "_law_thing", "_law_looked"], fns := FNS, gls := GLS, bls := BLS, mu := [] }
def b_law : Ss :=
  (.cons (.set 1 (.call 4 (.cons (.var 0) .nil))) (.cons (.for_ [2] true (.rng1 (.cst (.int 40))) (.cons (.set 3 (.idx (.call 7 (.cons (.var 1) (.cons (.cst (.int 1)) .nil))) (.cst (.int 0)))) (.cons (.set 4 (.idx (.lst (.cons (.call 8 (.cons (.var 1) (.cons (.var 3) .nil))) (.cons (.call 10 (.cons (.var 1) .nil)) (.cons (.slc (.call 10 (.cons (.var 1) .nil)) .none (.some (.cst (.int 2)))) (.cons (.var 3) (.cons (.call 11 (.cons (.var 1) .nil)) .nil)))))) (.call 5 (.cons (.var 1) (.cons (.cst (.int 5)) .nil))))) (.cons (.set 5 (.bi .repr (.cons (.var 4) .nil))) (.cons (.iff (.or (.not (.e (.call 12 (.cons (.var 4) .nil)))) (.or (.not (.e (.call 12 (.cons (.lst (.cons (.var 4) .nil)) .nil)))) (.or (.not (.e (.call 12 (.cons (.var 4) .nil)))) (.e (.cmp .NotEq (.bi .repr (.cons (.var 4) .nil)) (.var 5)))))) (.cons (.ret (.cst (.bl false))) .nil) .nil) .nil))))) (.cons (.ret (.cst (.bl true))) .nil)))
def d_law : Def := ⟨1, 6, b_law⟩
theorem cb_law : compSs ce_law 60 (defScope st_law) (defBody st_law) = some b_law := by kernel_rfl
theorem sb_law : scopeB ce_law.N ["_law_script"] (defScope st_law) = true := by decide +kernel
theorem bd_is_integer (kV doc pm : Value) (an : Option Addr) (cdv ct : Value) (us : List Value) (h : us.length = (["thing"] : List Str).length) : bindArgs (PySem.W.fnOf "is_integer" "is_integer" (defArgs st_is_integer) (defBody st_is_integer) (defScope st_is_integer) .none kV doc pm an cdv ct) ⟨us, []⟩ = pure ((["thing"] : List Str).zip us) := match us, h with | [_], _ => rfl
theorem ec_is_integer : EntC FNS GLS BLS (.comp d_is_integer) st_is_integer ["thing"] := ⟨ce_is_integer, 60, b_is_integer, rfl, rfl, rfl, sb_is_integer, cb_is_integer, rfl⟩
theorem bd_is_name (kV doc pm : Value) (an : Option Addr) (cdv ct : Value) (us : List Value) (h : us.length = (["thing"] : List Str).length) : bindArgs (PySem.W.fnOf "is_name" "is_name" (defArgs st_is_name) (defBody st_is_name) (defScope st_is_name) .none kV doc pm an cdv ct) ⟨us, []⟩ = pure ((["thing"] : List Str).zip us) := match us, h with | [_], _ => rfl
theorem ec_is_name : EntC FNS GLS BLS (.comp d_is_name) st_is_name ["thing"] := ⟨ce_is_name, 60, b_is_name, rfl, rfl, rfl, sb_is_name, cb_is_name, rfl⟩
theorem bd_is_error (kV doc pm : Value) (an : Option Addr) (cdv ct : Value) (us : List Value) (h : us.length = (["thing"] : List Str).length) : bindArgs (PySem.W.fnOf "is_error" "is_error" (defArgs st_is_error) (defBody st_is_error) (defScope st_is_error) .none kV doc pm an cdv ct) ⟨us, []⟩ = pure ((["thing"] : List Str).zip us) := match us, h with | [_], _ => rfl
theorem ec_is_error : EntC FNS GLS BLS (.comp d_is_error) st_is_error ["thing"] := ⟨ce_is_error, 60, b_is_error, rfl, rfl, rfl, sb_is_error, cb_is_error, rfl⟩
theorem bd_is_address (kV doc pm : Value) (an : Option Addr) (cdv ct : Value) (us : List Value) (h : us.length = (["thing"] : List Str).length) : bindArgs (PySem.W.fnOf "is_address" "is_address" (defArgs st_is_address) (defBody st_is_address) (defScope st_is_address) .none kV doc pm an cdv ct) ⟨us, []⟩ = pure ((["thing"] : List Str).zip us) := match us, h with | [_], _ => rfl
theorem ec_is_address : EntC FNS GLS BLS (.comp d_is_address) st_is_address ["thing"] := ⟨ce_is_address, 60, b_is_address, rfl, rfl, rfl, sb_is_address, cb_is_address, rfl⟩
theorem bd_law_bag (kV doc pm : Value) (an : Option Addr) (cdv ct : Value) (us : List Value) (h : us.length = (["_law_script"] : List Str).length) : bindArgs (PySem.W.fnOf "_law_bag" "_law_bag" (defArgs st_law_bag) (defBody st_law_bag) (defScope st_law_bag) .none kV doc pm an cdv ct) ⟨us, []⟩ = pure ((["_law_script"] : List Str).zip us) := match us, h with | [_], _ => rfl
theorem ec_law_bag : EntC FNS GLS BLS (.prim phBag) st_law_bag ["_law_script"] := ⟨ce_law_bag, 60, b_law_bag, rfl, rfl, rfl, sb_law_bag, cb_law_bag, fun K Φ γ => bag_imp⟩
theorem bd_law_take (kV doc pm : Value) (an : Option Addr) (cdv ct : Value) (us : List Value) (h : us.length = (["_law_bag_here", "_law_many"] : List Str).length) : bindArgs (PySem.W.fnOf "_law_take" "_law_take" (defArgs st_law_take) (defBody st_law_take) (defScope st_law_take) .none kV doc pm an cdv ct) ⟨us, []⟩ = pure ((["_law_bag_here", "_law_many"] : List Str).zip us) := match us, h with | [_, _], _ => rfl
theorem ec_law_take : EntC FNS GLS BLS (.prim phTake) st_law_take ["_law_bag_here", "_law_many"] := ⟨ce_law_take, 60, b_law_take, rfl, rfl, rfl, sb_law_take, cb_law_take, fun K Φ γ => take_imp⟩
theorem bd_law_alike (kV doc pm : Value) (an : Option Addr) (cdv ct : Value) (us : List Value) (h : us.length = (["_law_found", "_law_due"] : List Str).length) : bindArgs (PySem.W.fnOf "_law_alike" "_law_alike" (defArgs st_law_alike) (defBody st_law_alike) (defScope st_law_alike) .none kV doc pm an cdv ct) ⟨us, []⟩ = pure ((["_law_found", "_law_due"] : List Str).zip us) := match us, h with | [_, _], _ => rfl
theorem ec_law_alike : EntC FNS GLS BLS (.comp d_law_alike) st_law_alike ["_law_found", "_law_due"] := ⟨ce_law_alike, 60, b_law_alike, rfl, rfl, rfl, sb_law_alike, cb_law_alike, rfl⟩
theorem bd_law_names (kV doc pm : Value) (an : Option Addr) (cdv ct : Value) (us : List Value) (h : us.length = (["_law_bag_here", "_law_many"] : List Str).length) : bindArgs (PySem.W.fnOf "_law_names" "_law_names" (defArgs st_law_names) (defBody st_law_names) (defScope st_law_names) .none kV doc pm an cdv ct) ⟨us, []⟩ = pure ((["_law_bag_here", "_law_many"] : List Str).zip us) := match us, h with | [_, _], _ => rfl
theorem ec_law_names : EntC FNS GLS BLS (.comp d_law_names) st_law_names ["_law_bag_here", "_law_many"] := ⟨ce_law_names, 60, b_law_names, rfl, rfl, rfl, sb_law_names, cb_law_names, rfl⟩
theorem bd_law_odd (kV doc pm : Value) (an : Option Addr) (cdv ct : Value) (us : List Value) (h : us.length = (["_law_bag_here", "_law_name"] : List Str).length) : bindArgs (PySem.W.fnOf "_law_odd" "_law_odd" (defArgs st_law_odd) (defBody st_law_odd) (defScope st_law_odd) .none kV doc pm an cdv ct) ⟨us, []⟩ = pure ((["_law_bag_here", "_law_name"] : List Str).zip us) := match us, h with | [_, _], _ => rfl
theorem ec_law_odd : EntC FNS GLS BLS (.comp d_law_odd) st_law_odd ["_law_bag_here", "_law_name"] := ⟨ce_law_odd, 60, b_law_odd, rfl, rfl, rfl, sb_law_odd, cb_law_odd, rfl⟩
theorem bd_law_is_name (kV doc pm : Value) (an : Option Addr) (cdv ct : Value) (us : List Value) (h : us.length = (["_law_thing"] : List Str).length) : bindArgs (PySem.W.fnOf "_law_is_name" "_law_is_name" (defArgs st_law_is_name) (defBody st_law_is_name) (defScope st_law_is_name) .none kV doc pm an cdv ct) ⟨us, []⟩ = pure ((["_law_thing"] : List Str).zip us) := match us, h with | [_], _ => rfl
theorem ec_law_is_name : EntC FNS GLS BLS (.comp d_law_is_name) st_law_is_name ["_law_thing"] := ⟨ce_law_is_name, 60, b_law_is_name, rfl, rfl, rfl, sb_law_is_name, cb_law_is_name, rfl⟩
theorem bd_law_text (kV doc pm : Value) (an : Option Addr) (cdv ct : Value) (us : List Value) (h : us.length = (["_law_bag_here"] : List Str).length) : bindArgs (PySem.W.fnOf "_law_text" "_law_text" (defArgs st_law_text) (defBody st_law_text) (defScope st_law_text) .none kV doc pm an cdv ct) ⟨us, []⟩ = pure ((["_law_bag_here"] : List Str).zip us) := match us, h with | [_], _ => rfl
theorem ec_law_text : EntC FNS GLS BLS (.comp d_law_text) st_law_text ["_law_bag_here"] := ⟨ce_law_text, 60, b_law_text, rfl, rfl, rfl, sb_law_text, cb_law_text, rfl⟩
theorem bd_law_tuple (kV doc pm : Value) (an : Option Addr) (cdv ct : Value) (us : List Value) (h : us.length = (["_law_bag_here"] : List Str).length) : bindArgs (PySem.W.fnOf "_law_tuple" "_law_tuple" (defArgs st_law_tuple) (defBody st_law_tuple) (defScope st_law_tuple) .none kV doc pm an cdv ct) ⟨us, []⟩ = pure ((["_law_bag_here"] : List Str).zip us) := match us, h with | [_], _ => rfl
theorem ec_law_tuple : EntC FNS GLS BLS (.comp d_law_tuple) st_law_tuple ["_law_bag_here"] := ⟨ce_law_tuple, 60, b_law_tuple, rfl, rfl, rfl, sb_law_tuple, cb_law_tuple, rfl⟩
theorem bd_law_right (kV doc pm : Value) (an : Option Addr) (cdv ct : Value) (us : List Value) (h : us.length = (["_law_thing"] : List Str).length) : bindArgs (PySem.W.fnOf "_law_right" "_law_right" (defArgs st_law_right) (defBody st_law_right) (defScope st_law_right) .none kV doc pm an cdv ct) ⟨us, []⟩ = pure ((["_law_thing"] : List Str).zip us) := match us, h with | [_], _ => rfl
theorem ec_law_right : EntC FNS GLS BLS (.comp d_law_right) st_law_right ["_law_thing"] := ⟨ce_law_right, 60, b_law_right, rfl, rfl, rfl, sb_law_right, cb_law_right, rfl⟩
theorem bd_law (kV doc pm : Value) (an : Option Addr) (cdv ct : Value) (us : List Value) (h : us.length = (["_law_script"] : List Str).length) : bindArgs (PySem.W.fnOf "law" "law" (defArgs st_law) (defBody st_law) (defScope st_law) .none kV doc pm an cdv ct) ⟨us, []⟩ = pure ((["_law_script"] : List Str).zip us) := match us, h with | [_], _ => rfl
theorem ec_law : EntC FNS GLS BLS (.comp d_law) st_law ["_law_script"] := ⟨ce_law, 60, b_law, rfl, rfl, rfl, sb_law, cb_law, rfl⟩
def TAB : List Ent := [.comp d_is_integer, .comp d_is_name, .comp d_is_error, .comp d_is_address, .prim phBag, .prim phTake, .comp d_law_alike, .comp d_law_names, .comp d_law_odd, .comp d_law_is_name, .comp d_law_text, .comp d_law_tuple, .comp d_law_right, .comp d_law]
def GAM : List D := [.str "abcdefghijklmnopqrstuvwxyz", .int 8, .tup ([("hush" : Str), ("no" : Str), ("out" : Str), ("round" : Str), ("well" : Str), ("yes" : Str)].map D.str)]
theorem all_mk {P : Program} {w : World} {K : PySem.W.Frag} {h : Heap} {mg : Str → Option Value} {fa : Addr} (n : Nat) (X : K.In h) (G : h.Ns mainGlobals mg) (hfa : mg "law" = some (.ref fa))
    (h0 : FnIn K "is_integer" st_is_integer ["thing"])
    (h1 : FnIn K "is_name" st_is_name ["thing"])
    (h2 : FnIn K "is_error" st_is_error ["thing"])
    (h3 : FnIn K "is_address" st_is_address ["thing"])
    (h4 : FnIn K "_law_bag" st_law_bag ["_law_script"])
    (h5 : FnIn K "_law_take" st_law_take ["_law_bag_here", "_law_many"])
    (h6 : FnIn K "_law_alike" st_law_alike ["_law_found", "_law_due"])
    (h7 : FnIn K "_law_names" st_law_names ["_law_bag_here", "_law_many"])
    (h8 : FnIn K "_law_odd" st_law_odd ["_law_bag_here", "_law_name"])
    (h9 : FnIn K "_law_is_name" st_law_is_name ["_law_thing"])
    (h10 : FnIn K "_law_text" st_law_text ["_law_bag_here"])
    (h11 : FnIn K "_law_tuple" st_law_tuple ["_law_bag_here"])
    (h12 : FnIn K "_law_right" st_law_right ["_law_thing"])
    (h13 : FnIn K "law" st_law ["_law_script"])
    (g0 : GlIn K "LETTERS" (.str "abcdefghijklmnopqrstuvwxyz"))
    (g1 : GlIn K "LONGEST" (.int 8))
    (g2 : GlIn K "OUTCOMES" (.tup ([("hush" : Str), ("no" : Str), ("out" : Str), ("round" : Str), ("well" : Str), ("yes" : Str)].map D.str)))
    (z0 : PySem.W.nsIn K mainGlobals "abs" = some none)
    (z1 : PySem.W.nsIn K mainGlobals "all" = some none)
    (z2 : PySem.W.nsIn K mainGlobals "bool" = some none)
    (z3 : PySem.W.nsIn K mainGlobals "int" = some none)
    (z4 : PySem.W.nsIn K mainGlobals "isinstance" = some none)
    (z5 : PySem.W.nsIn K mainGlobals "len" = some none)
    (z6 : PySem.W.nsIn K mainGlobals "range" = some none)
    (z7 : PySem.W.nsIn K mainGlobals "repr" = some none)
    (z8 : PySem.W.nsIn K mainGlobals "str" = some none)
    (z9 : PySem.W.nsIn K mainGlobals "tuple" = some none) :
    ∃ fd : FuncData, (∀ (s : Shared) (u : Value), BindsTo s fd ⟨[u], []⟩ [("_law_script", u)]) ∧
      ∀ base : Heap, K.In base → base.Ns mainGlobals mg → (∃ o, base.get? sysModules = some o) → FnG P w K mg base (1 + n) fa fd ["_law_script"] (spD K (callN TAB GAM n 13)) :=
  end_mk n X G hfa rfl rfl h13 ec_law (ae_cons h0 ec_is_integer (ae_cons h1 ec_is_name (ae_cons h2 ec_is_error (ae_cons h3 ec_is_address (ae_cons h4 ec_law_bag (ae_cons h5 ec_law_take (ae_cons h6 ec_law_alike (ae_cons h7 ec_law_names (ae_cons h8 ec_law_odd (ae_cons h9 ec_law_is_name (ae_cons h10 ec_law_text (ae_cons h11 ec_law_tuple (ae_cons h12 ec_law_right (ae_cons h13 ec_law (ae_nil))))))))))))))) (ag_cons g0 (ag_cons g1 (ag_cons g2 (ag_nil)))) (ab_cons z0 (ab_cons z1 (ab_cons z2 (ab_cons z3 (ab_cons z4 (ab_cons z5 (ab_cons z6 (ab_cons z7 (ab_cons z8 (ab_cons z9 (ab_nil)))))))))))
end K12
set_option linter.all false
set_option maxRecDepth 100000
set_option maxHeartbeats 8000000
namespace K12
open PySem L2 DL
local macro_rules | `(tactic| walk_at "s") => `(tactic| with_reducible first | refine x_cons ?_ | refine x_nil ?_ | refine x_set ?_ | refine x_setM ?_ | refine x_par ?_ | refine x_unp ?_ | refine x_sto ?_ | refine x_augS ?_ | refine x_exp ?_ | refine x_ret ?_ | refine x_retN ?_ | refine x_iff ?_ | refine x_pass ?_ | refine x_app ?_ | refine x_for ?_ | refine v_cst ?_ | refine v_tup ?_ | refine v_lst ?_ | refine v_dct ?_ | refine v_bin ?_ | refine v_neg ?_ | refine v_cmp ?_ | refine v_chain ?_ | refine v_not ?_ | refine v_and ?_ | refine v_or ?_ | refine v_ife ?_ | refine v_idx ?_ | refine v_slc ?_ | refine v_call ?_ | refine v_bi ?_ | refine v_isi ?_ | refine v_mt ?_ | refine v_comp ?_ | refine va_nil ?_ | refine va_cons ?_ | refine vo_none ?_ | refine vo_some ?_ | refine vt_yes ?_ | refine vt_e ?_ | refine vt_and ?_ | refine vt_or ?_ | refine vt_not ?_ | refine vi_seq ?_ | refine vi_rng1 ?_)
local macro_rules | `(tactic| walk_at "d") => `(tactic| repeat (first | walk_at "s" | ((with_reducible refine' v_var ?k1 ?_); (case k1 => exact rfl)) | ((with_reducible refine' v_gl ?k1 ?_); (case k1 => exact rfl))))
/-! ### the four questions, as the program asks them -/
def okN (c : Nat) : Bool := decide (c ∈ ("abcdefghijklmnopqrstuvwxyz" : Str).cps.toList)
def nameQ : D → Bool
  | .str s => decide (1 ≤ (s.length : Int)) && decide ((s.length : Int) ≤ 8) && s.cps.toList.all okN
  | _ => false
def OUTS : List Str := ["hush", "no", "out", "round", "well", "yes"]
def outQ (d : D) : Bool := (OUTS.map D.str).any fun z => PyData.eqv (toP z) (toP d)
def errQ (d : D) : Bool := nameQ d && !outQ d
def partQ : D → Bool
  | .int i => decide (0 ≤ i)
  | _ => false
def placeQ : D → Bool
  | .tup ps => decide ((ps.length : Int) % 2 = 1) && ps.all partQ
  | _ => false
section
variable {n : Nat} {d : D} {M : MS} {Q : KR} {Z : KX}
theorem ret_bl {b : Bool} (k : Q (.val (.bl b)) M) : retR M Q (.val (.bl b)) M := by
  show Q (.val (.bl b)) (restrict M M)
  rw [restrict_self]; exact k
theorem integer_spec (hp : isP d = true) (k : Q (.val (.bl (intQ d))) M) : callN TAB GAM (n + 1) 0 [d] M Q Z := by
  show callDef _ _ d_is_integer _ _ _ _
  refine c_def [some d] rfl rfl ?_
  unfold b_is_integer
  walk_at "d"
  refine ⟨intQ d || blQ d, ?_, _, rfl, ?_⟩
  · show isiD (view M d) _ = _
    rw [view_p hp]; exact isi_int hp
  refine if_bl (fun h => ?_) fun h => ?_
  · walk_at "d"
    refine ⟨blQ d, ?_, _, rfl, ?_⟩
    · show isiD (view M d) _ = _
      rw [view_p hp]; exact isi_bool hp
    have e : (!blQ d) = intQ d := by cases d <;> simp [intQ, blQ] at h ⊢
    rw [e]
    exact ret_bl k
  · have e : intQ d = false := by
      cases h2 : intQ d
      · rfl
      · rw [h2] at h; simp at h
    rw [h]
    rw [e] at k
    exact ret_bl k
theorem name_spec (h : Th 61 d) (k : Q (.val (.bl (nameQ d))) M) : callN TAB GAM (n + 1) 1 [d] M Q Z := by
  show callDef _ _ d_is_name _ _ _ _
  refine c_def [some d, none] rfl rfl ?_
  unfold b_is_name
  walk_at "d"
  refine ⟨strQ d, ?_, _, rfl, ?_⟩
  · show isiD (view M d) _ = _
    rw [view_p h.p]; exact isi_str h.p
  cases d with
  | str s =>
    have hs : s.length ≤ 190 := by
      have := h.l
      simp only [leafB, strB, Bool.and_eq_true, decide_eq_true_eq] at this
      exact this.1
    refine if_f ?_
    walk_at "d"
    refine ⟨_, len_str (small_le (by omega)), ?_⟩
    refine ⟨_, rfl, ?_⟩
    refine if_dec (fun h1 => ?_) fun h1 => ?_
    · walk_at "d"
      refine ⟨_, rfl, _, rfl, ?_⟩
      show if (!decide ((s.length : Int) ≤ 8)) = true then _ else _
      by_cases h2 : (s.length : Int) ≤ 8
      · rw [decide_eq_true h2]
        refine if_f ?_
        walk_at "d"
        refine ⟨_, rfl, ?_⟩
        refine comp_mapA (fun c => D.str ⟨#[c]⟩) (fun c => D.bl (okN c)) rfl (by rw [len_cps]; exact small_le (by omega)) (fun c hc acc kk hk => ?_) ?_
        · refine ⟨_, rfl, ?_⟩
          walk_at "d"
          refine if_t ?_
          walk_at "d"
          exact ⟨_, rfl, hk⟩
        · walk_at "d"
          have e : s.cps.toList.map (fun c => D.bl (okN c)) = (s.cps.toList.map okN).map D.bl := by rw [List.map_map]; rfl
          refine ⟨.val (.bl (s.cps.toList.all okN)), ?_, ?_⟩
          · show biD .all [.lst (s.cps.toList.map fun c => D.bl (okN c))] = _
            rw [e, all_bls, List.all_map]; rfl
          · have e2 : nameQ (.str s) = s.cps.toList.all okN := by
              simp only [nameQ, decide_eq_true h1, decide_eq_true h2, Bool.true_and]
            rw [← e2]; exact ret_bl k
      · rw [decide_eq_false h2]
        refine if_t ?_
        walk_at "d"
        have e2 : nameQ (.str s) = false := by
          simp only [nameQ, decide_eq_false h2, Bool.and_false, Bool.false_and]
        rw [e2] at k; exact ret_bl k
    · refine ⟨_, rfl, ?_⟩
      refine if_t ?_
      walk_at "d"
      have e2 : nameQ (.str s) = false := by
        simp only [nameQ, decide_eq_false h1, Bool.false_and]
      rw [e2] at k; exact ret_bl k
  | obj a => have := h.p; simp [isP] at this
  | ty a => have := h.p; simp [isP] at this
  | scr a => have := h.p; simp [isP] at this
  | _ =>
    refine if_t ?_
    walk_at "d"
    exact ret_bl k
theorem not_in_outs {s : Str} (hg : True) : cmp2 .NotIn (.str s) (.tup (OUTS.map D.str)) = some (!outQ (.str s)) := rfl
theorem error_spec (h : Th 61 d) (k : Q (.val (.bl (errQ d))) M) : callN TAB GAM (n + 2) 2 [d] M Q Z := by
  show callDef _ _ d_is_error _ _ _ _
  refine c_def [some d] rfl rfl ?_
  unfold b_is_error
  walk_at "d"
  refine name_spec h ?_
  refine ⟨_, rfl, ?_⟩
  refine if_bl (fun h1 => ?_) fun h1 => ?_
  · cases d with
    | str s =>
      walk_at "d"
      refine ⟨_, rfl, ?_⟩
      have e : errQ (.str s) = !outQ (.str s) := by unfold errQ; rw [show nameQ (.str s) = true from h1]; rfl
      rw [e] at k
      exact ret_bl k
    | _ => cases h1
  · have e : errQ d = false := by unfold errQ; rw [show nameQ d = false from h1]; rfl
    rw [show nameQ (R.val d).toD = false from h1]
    rw [e] at k
    exact ret_bl k
theorem partQ_eq (x : D) : (intQ x && (match x with | .int i => decide (0 ≤ i) | _ => false)) = partQ x := by cases x <;> simp [intQ, partQ]
theorem isPs_mem : ∀ {xs : List D}, isPs xs = true → ∀ x ∈ xs, isP x = true
  | [], _, x, hx => by simp at hx
  | y :: ys, h, x, hx => by
    simp only [isPs, Bool.and_eq_true] at h
    rcases List.mem_cons.mp hx with rfl | hx
    · exact h.1
    · exact isPs_mem h.2 x hx
theorem cnt_len : ∀ xs : List D, xs.length ≤ cntDs xs
  | [] => Nat.le_refl _
  | x :: xs => by
    have := cnt_len xs
    have h1 : 1 ≤ cntD x := by cases x <;> simp [cntD]
    simp only [List.length_cons, cntDs]
    omega
theorem th_tup {n : Nat} {ps : List D} (h : Th n (.tup ps)) : ps.length ≤ n ∧ ∀ x ∈ ps, isP x = true := by
  have h1 := h.c
  have h2 := h.p
  have h3 := cnt_len ps
  simp only [cntD] at h1
  simp only [isP] at h2
  exact ⟨by omega, isPs_mem h2⟩
theorem address_spec (h : Th 61 d) (k : Q (.val (.bl (placeQ d))) M) : callN TAB GAM (n + 2) 3 [d] M Q Z := by
  show callDef _ _ d_is_address _ _ _ _
  refine c_def [some d, none] rfl rfl ?_
  unfold b_is_address
  walk_at "d"
  refine ⟨tupQ d, ?_, _, rfl, ?_⟩
  · show isiD (view M d) _ = _
    rw [view_p h.p]; exact isi_tup h.p
  cases d with
  | tup ps =>
    obtain ⟨hl, hp⟩ := th_tup h
    refine if_f ?_
    walk_at "d"
    refine ⟨_, rfl, ?_⟩
    walk_at "d"
    refine ⟨_, rfl, ?_⟩
    walk_at "d"
    refine ⟨_, mod_ok (by decide), ?_⟩
    refine ⟨_, ne_int _ _, _, rfl, ?_⟩
    by_cases h1 : (ps.length : Int) % 2 = 1
    · rw [decide_eq_true h1]
      refine if_f ?_
      walk_at "d"
      refine ⟨_, rfl, ?_⟩
      have e0 : ps = ps.map id := by simp
      show compLoop _ _ ps _ _ _
      rw [e0]
      refine comp_mapA id (fun x => D.bl (partQ x)) ?_ (small_le (by omega)) (fun x hx acc kk hk => ?_) ?_
      · simp [itemsD]; rfl
      · refine ⟨_, rfl, ?_⟩
        walk_at "d"
        refine if_t ?_
        walk_at "d"
        refine integer_spec (hp x hx) ?_
        refine ⟨_, rfl, ?_⟩
        refine if_bl (fun h2 => ?_) fun h2 => ?_
        · cases x with
          | int i =>
            walk_at "d"
            exact ⟨_, rfl, hk⟩
          | _ => cases h2
        · have h2' : intQ x = false := h2
          have e : partQ x = false := by cases x <;> simp [intQ, partQ] at h2' ⊢
          rw [h2]
          rw [e] at hk
          exact hk
      · walk_at "d"
        refine ⟨.val (.bl (ps.all partQ)), ?_, ?_⟩
        · have e : ps.map (fun x => D.bl (partQ x)) = (ps.map partQ).map D.bl := by rw [List.map_map]; rfl
          show biD .all [.lst (ps.map fun x => D.bl (partQ x))] = _
          rw [e, all_bls, List.all_map]; rfl
        · have e2 : placeQ (.tup ps) = ps.all partQ := by simp only [placeQ, decide_eq_true h1, Bool.true_and]
          rw [← e2]; exact ret_bl k
    · rw [decide_eq_false h1]
      refine if_t ?_
      walk_at "d"
      have e2 : placeQ (.tup ps) = false := by simp only [placeQ, decide_eq_false h1, Bool.false_and]
      rw [e2] at k; exact ret_bl k
  | obj a => have := h.p; simp [isP] at this
  | ty a => have := h.p; simp [isP] at this
  | scr a => have := h.p; simp [isP] at this
  | _ =>
    refine if_t ?_
    walk_at "d"
    exact ret_bl k
/-! ### the same as the law asks them -/
theorem lawname_spec (h : Th 61 d) (k : Q (.val (.bl (nameQ d))) M) : callN TAB GAM (n + 1) 9 [d] M Q Z := by
  show callDef _ _ d_law_is_name _ _ _ _
  refine c_def [some d, none] rfl rfl ?_
  unfold b_law_is_name
  walk_at "d"
  refine ⟨strQ d, ?_, _, rfl, ?_⟩
  · show isiD (view M d) _ = _
    rw [view_p h.p]; exact isi_str h.p
  cases d with
  | str s =>
    have hs : s.length ≤ 190 := by
      have := h.l
      simp only [leafB, strB, Bool.and_eq_true, decide_eq_true_eq] at this
      exact this.1
    refine if_f ?_
    walk_at "d"
    refine ⟨_, len_str (small_le (by omega)), ?_⟩
    walk_at "d"
    refine ⟨_, rfl, _, rfl, ?_⟩
    refine if_dec (fun h1 => ?_) fun h1 => ?_
    · refine if_t ?_
      walk_at "d"
      have e2 : nameQ (.str s) = false := by
        simp only [nameQ, decide_eq_false (show ¬ (1 ≤ (s.length : Int)) by omega), Bool.false_and]
      rw [e2] at k; exact ret_bl k
    walk_at "d"
    refine ⟨_, len_str (small_le (by omega)), ?_⟩
    walk_at "d"
    refine ⟨_, rfl, _, rfl, ?_⟩
    refine if_dec (fun h2 => ?_) fun h2 => ?_
    · walk_at "d"
      have e2 : nameQ (.str s) = false := by
        simp only [nameQ, decide_eq_false (show ¬ ((s.length : Int) ≤ 8) by omega), Bool.and_false, Bool.false_and]
      rw [e2] at k; exact ret_bl k
    walk_at "d"
    refine ⟨_, rfl, ?_⟩
    refine comp_filtA (fun c => D.str ⟨#[c]⟩) (fun c => D.str ⟨#[c]⟩) (fun c => !okN c) rfl (by rw [len_cps]; exact small_le (by omega)) (fun c hc acc kk hk => ?_) ?_
    · refine ⟨_, rfl, ?_⟩
      walk_at "d"
      refine ⟨_, rfl, _, rfl, ?_⟩
      show if (!okN c) = true then _ else _
      refine if_bl (fun h3 => ?_) fun h3 => ?_
      · rw [h3] at hk
        walk_at "d"
        exact hk
      · rw [h3] at hk
        exact hk
    · walk_at "d"
      refine ⟨by decide, ?_⟩
      refine ⟨s.cps.toList.all okN, ?_, ?_⟩
      · show eqD (.lst ((s.cps.toList.filter fun c => !okN c).map fun c => D.str ⟨#[c]⟩)) (.lst []) = _
        unfold eqD
        simp only [List.length_map, List.length_nil]
        cases e : s.cps.toList.filter fun c => !okN c with
        | nil =>
          rw [if_neg (by simp)]
          have : s.cps.toList.all okN = true := by
            rw [List.filter_eq_nil_iff] at e
            rw [List.all_eq_true]
            intro c hc
            have := e c hc
            simpa using this
          rw [this]
          rfl
        | cons c r =>
          rw [if_pos (by simp)]
          have hc : c ∈ s.cps.toList.filter fun c => !okN c := by rw [e]; simp
          rw [List.mem_filter] at hc
          have : s.cps.toList.all okN = false := by
            rw [Bool.eq_false_iff]
            intro h4
            have := List.all_eq_true.mp h4 c hc.1
            rw [this] at hc
            simp at hc
          rw [this]
      · have e2 : nameQ (.str s) = s.cps.toList.all okN := by
          simp only [nameQ, decide_eq_true (show 1 ≤ (s.length : Int) by omega), decide_eq_true (show (s.length : Int) ≤ 8 by omega), Bool.true_and]
        rw [← e2]; exact ret_bl k
  | obj a => have := h.p; simp [isP] at this
  | ty a => have := h.p; simp [isP] at this
  | scr a => have := h.p; simp [isP] at this
  | _ =>
    refine if_t ?_
    walk_at "d"
    exact ret_bl k
end
end K12
set_option linter.all false
set_option maxRecDepth 100000
set_option maxHeartbeats 800000
namespace K12
open PySem L2 DL
local macro_rules | `(tactic| walk_at "s") => `(tactic| with_reducible first | refine x_cons ?_ | refine x_nil ?_ | refine x_set ?_ | refine x_setM ?_ | refine x_par ?_ | refine x_unp ?_ | refine x_sto ?_ | refine x_augS ?_ | refine x_exp ?_ | refine x_ret ?_ | refine x_retN ?_ | refine x_iff ?_ | refine x_pass ?_ | refine x_app ?_ | refine x_for ?_ | refine v_cst ?_ | refine v_tup ?_ | refine v_lst ?_ | refine v_dct ?_ | refine v_bin ?_ | refine v_neg ?_ | refine v_cmp ?_ | refine v_chain ?_ | refine v_not ?_ | refine v_and ?_ | refine v_or ?_ | refine v_ife ?_ | refine v_idx ?_ | refine v_slc ?_ | refine v_call ?_ | refine v_bi ?_ | refine v_isi ?_ | refine v_mt ?_ | refine v_comp ?_ | refine va_nil ?_ | refine va_cons ?_ | refine vo_none ?_ | refine vo_some ?_ | refine vt_yes ?_ | refine vt_e ?_ | refine vt_and ?_ | refine vt_or ?_ | refine vt_not ?_ | refine vi_seq ?_ | refine vi_rng1 ?_)
local macro_rules | `(tactic| walk_at "d") => `(tactic| repeat (first | walk_at "s" | ((with_reducible refine' v_var ?k1 ?_); (case k1 => exact rfl)) | ((with_reducible refine' v_gl ?k1 ?_); (case k1 => exact rfl))))
section
variable {n : Nat} {d : D} {M : MS} {Q : KR} {Z : KX}
theorem alike4 {a b c e : Bool} (k : Q (.val (.bl true)) M) : callN TAB GAM (n + 1) 6 [.tup [.bl a, .bl b, .bl c, .bl e], .tup [.bl a, .bl b, .bl c, .bl e]] M Q Z := by
  show callDef _ _ d_law_alike _ _ _ _
  refine alike_same (n := 60) (th_closed ?_) (Nat.le_refl _) ?_ k
  · cases a <;> cases b <;> cases c <;> cases e <;> decide +kernel
  · cases a <;> cases b <;> cases c <;> cases e <;> decide +kernel
theorem ps_bad (ps : List D) : ((ps.filter fun x => !partQ x).length = 0) ↔ ps.all partQ = true := by
  rw [List.length_eq_zero_iff, List.filter_eq_nil_iff, List.all_eq_true]
  constructor
  · intro h x hx; simpa using h x hx
  · intro h x hx; simpa using h x hx
theorem right_spec (h : Th 61 d) (k : Q (.val (.bl true)) M) : callN TAB GAM (n + 3) 12 [d] M Q Z := by
  show callDef _ _ d_law_right _ _ _ _
  refine c_def [some d, none, none, none, none, none, none, none] rfl rfl ?_
  unfold b_law_right
  have vw : ∀ M, view M d = d := view_p h.p
  walk_at "d"
  refine ⟨intQ d || blQ d, ?_, _, rfl, ?_⟩
  · show isiD (view M d) _ = _
    rw [vw]; exact isi_int h.p
  -- what is told of d, from the place's truth on
  have rest : ∀ {w : Bool} {x4 x5 : Option D} {F : DE}, w = intQ d → F.rt (.val (.bl true)) M → execSs (callN TAB GAM (n + 2)) GAM
      (.cons (.set 6 (.and (.var 2) (.cmp .NotIn (.var 0) (.tup (.cons (.cst (.str "hush")) (.cons (.cst (.str "no")) (.cons (.cst (.str "out")) (.cons (.cst (.str "round")) (.cons (.cst (.str "well")) (.cons (.cst (.str "yes")) .nil)))))))))) (.cons (.set 7 (.tup (.cons (.call 0 (.cons (.var 0) .nil)) (.cons (.call 1 (.cons (.var 0) .nil)) (.cons (.call 2 (.cons (.var 0) .nil)) (.cons (.call 3 (.cons (.var 0) .nil)) .nil)))))) (.cons (.ret (.call 6 (.cons (.var 7) (.cons (.tup (.cons (.var 1) (.cons (.var 2) (.cons (.var 6) (.cons (.var 3) .nil))))) .nil)))) .nil)))
      F [some d, some (.bl w), some (.bl (nameQ d)), some (.bl (placeQ d)), x4, x5, none, none] M := fun {w x4 x5 F} hw hF => by
    subst hw
    have tail : execSs (callN TAB GAM (n + 2)) GAM (.cons (.set 7 (.tup (.cons (.call 0 (.cons (.var 0) .nil)) (.cons (.call 1 (.cons (.var 0) .nil)) (.cons (.call 2 (.cons (.var 0) .nil)) (.cons (.call 3 (.cons (.var 0) .nil)) .nil)))))) (.cons (.ret (.call 6 (.cons (.var 7) (.cons (.tup (.cons (.var 1) (.cons (.var 2) (.cons (.var 6) (.cons (.var 3) .nil))))) .nil)))) .nil))
        F [some d, some (.bl (intQ d)), some (.bl (nameQ d)), some (.bl (placeQ d)), x4, x5, some (.bl (errQ d)), none] M := by
      walk_at "d"
      refine integer_spec h.p ?_
      walk_at "d"
      refine name_spec h ?_
      walk_at "d"
      refine error_spec h ?_
      walk_at "d"
      refine address_spec h ?_
      walk_at "d"
      refine ⟨by show 4 ≤ sizeLine; decide, ?_⟩
      walk_at "d"
      refine ⟨by show 4 ≤ sizeLine; decide, ?_⟩
      walk_at "d"
      exact alike4 hF
    walk_at "d"
    refine ⟨_, rfl, ?_⟩
    refine if_bl (fun h1 => ?_) fun h1 => ?_
    · have h1 : nameQ d = true := h1
      cases d with
      | str s =>
        walk_at "d"
        refine ⟨by show 6 ≤ sizeLine; decide, ?_⟩
        refine ⟨_, rfl, ?_⟩
        have e : errQ (.str s) = !outQ (.str s) := by unfold errQ; rw [h1]; rfl
        rw [e] at tail
        exact tail
      | _ => cases h1
    · have h1 : nameQ d = false := h1
      have e : errQ d = false := by unfold errQ; rw [h1]; rfl
      rw [e] at tail
      rw [h1] at tail ⊢
      exact tail
  have more : ∀ {w : Bool} {F : DE}, w = intQ d → F.rt (.val (.bl true)) M → execSs (callN TAB GAM (n + 2)) GAM
      (.cons (.par [2, 3] (.cons (.call 9 (.cons (.var 0) .nil)) (.cons (.cst (.bl false)) .nil))) (.cons (.iff (.e (.isi (.var 0) ["tuple"])) (.cons (.set 4 (.comp (.var 5) [5] true [5] (.seq (.var 0)) (.or (.not (.e (.isi (.var 5) ["int"]))) (.or (.e (.isi (.var 5) ["bool"])) (.e (.cmp .Lt (.var 5) (.cst (.int 0)))))))) (.cons (.set 3 (.and (.cmp .Eq (.bin .Mod (.bi .int (.cons (.bi .len (.cons (.var 0) .nil)) .nil)) (.cst (.int 2))) (.cst (.int 1))) (.cmp .Eq (.var 4) (.lst .nil)))) .nil)) .nil) (.cons (.set 6 (.and (.var 2) (.cmp .NotIn (.var 0) (.tup (.cons (.cst (.str "hush")) (.cons (.cst (.str "no")) (.cons (.cst (.str "out")) (.cons (.cst (.str "round")) (.cons (.cst (.str "well")) (.cons (.cst (.str "yes")) .nil)))))))))) (.cons (.set 7 (.tup (.cons (.call 0 (.cons (.var 0) .nil)) (.cons (.call 1 (.cons (.var 0) .nil)) (.cons (.call 2 (.cons (.var 0) .nil)) (.cons (.call 3 (.cons (.var 0) .nil)) .nil)))))) (.cons (.ret (.call 6 (.cons (.var 7) (.cons (.tup (.cons (.var 1) (.cons (.var 2) (.cons (.var 6) (.cons (.var 3) .nil))))) .nil)))) .nil)))))
      F [some d, some (.bl w), none, none, none, none, none, none] M := fun {w F} hw hF => by
    walk_at "d"
    refine lawname_spec h ?_
    walk_at "d"
    refine ⟨by show 2 ≤ sizeLine; decide, rfl, ?_⟩
    walk_at "s"
    walk_at "s"
    walk_at "d"
    refine ⟨tupQ d, ?_, _, rfl, ?_⟩
    · show isiD (view M d) _ = _
      rw [vw]; exact isi_tup h.p
    cases d with
    | tup ps =>
      obtain ⟨hl, hp⟩ := th_tup h
      refine if_t ?_
      walk_at "d"
      refine ⟨_, rfl, ?_⟩
      refine comp_filter (fun x => !partQ x) id rfl (small_le (by omega)) (fun x hx acc kk hk => ?_) ?_
      · have hx' := hp x hx
        refine ⟨_, rfl, ?_⟩
        walk_at "d"
        refine ⟨intQ x || blQ x, ?_, _, rfl, ?_⟩
        · show isiD (view M x) _ = _
          rw [view_p hx']; exact isi_int hx'
        cases x with
        | int i =>
          refine if_f ?_
          walk_at "d"
          refine ⟨false, rfl, _, rfl, ?_⟩
          refine if_f ?_
          walk_at "d"
          refine ⟨_, rfl, _, rfl, ?_⟩
          refine if_dec (fun hi => ?_) fun hi => ?_
          · walk_at "d"
            have e : (!partQ (.int i)) = true := by simp [partQ]; omega
            rw [e] at hk
            exact hk
          · have e : (!partQ (.int i)) = false := by simp [partQ]; omega
            rw [e] at hk
            exact hk
        | bl i =>
          refine if_f ?_
          walk_at "d"
          refine ⟨true, rfl, _, rfl, ?_⟩
          refine if_t ?_
          refine if_t ?_
          walk_at "d"
          exact hk
        | obj a => simp [isP] at hx'
        | ty a => simp [isP] at hx'
        | scr a => simp [isP] at hx'
        | _ =>
          refine if_t ?_
          refine if_t ?_
          walk_at "d"
          exact hk
      · walk_at "d"
        refine ⟨_, rfl, ?_⟩
        walk_at "d"
        refine ⟨_, rfl, ?_⟩
        walk_at "d"
        refine ⟨_, mod_ok (by decide), ?_⟩
        by_cases h1 : (ps.length : Int) % 2 = 1
        · refine ⟨true, (eq_int _ _).trans (congrArg some (decide_eq_true h1)), true, rfl, ?_⟩
          refine if_t ?_
          walk_at "d"
          refine ⟨by decide, ?_⟩
          refine ⟨ps.all partQ, ?_, ?_⟩
          · have pb := ps_bad ps
            show eqD (.lst ((ps.filter fun x => !partQ x).map id)) (.lst []) = _
            unfold eqD
            simp only [List.length_map, List.length_nil]
            by_cases e : (ps.filter fun x => !partQ x).length = 0
            · rw [if_neg (by simpa using e), pb.mp e, List.length_eq_zero_iff.mp e]
              rfl
            · rw [if_pos e]
              have : ps.all partQ = false := by
                rw [Bool.eq_false_iff]; exact fun h => e (pb.mpr h)
              rw [this]
          · walk_at "s"
            have e2 : placeQ (.tup ps) = ps.all partQ := by simp only [placeQ, decide_eq_true h1, Bool.true_and]
            have := rest (x4 := some (.lst ((ps.filter fun x => !partQ x).map id))) (x5 := none) hw hF
            rw [e2] at this
            exact this
        · refine ⟨false, (eq_int _ _).trans (congrArg some (decide_eq_false h1)), false, rfl, ?_⟩
          refine if_f ?_
          walk_at "s"
          have e2 : placeQ (.tup ps) = false := by simp only [placeQ, decide_eq_false h1, Bool.false_and]
          have := rest (x4 := some (.lst ((ps.filter fun x => !partQ x).map id))) (x5 := none) hw hF
          rw [e2] at this
          exact this
    | obj a => have := h.p; simp [isP] at this
    | ty a => have := h.p; simp [isP] at this
    | scr a => have := h.p; simp [isP] at this
    | _ =>
      refine if_f ?_
      walk_at "s"
      exact rest hw hF
  refine if_bl (fun h1 => ?_) fun h1 => ?_
  · walk_at "d"
    refine ⟨blQ d, ?_, _, rfl, ?_⟩
    · show isiD (view M d) _ = _
      rw [vw]; exact isi_bool h.p
    refine more ?_ (ret_bl k)
    cases d <;> simp [intQ, blQ] at h1 ⊢
  · refine more ?_ (ret_bl k)
    cases d <;> simp [intQ, blQ, R.toD] at h1 ⊢
end
end K12
set_option linter.all false
set_option maxRecDepth 100000
set_option maxHeartbeats 800000
namespace K12
open PySem L2 DL
local macro_rules | `(tactic| walk_at "s") => `(tactic| with_reducible first | refine x_cons ?_ | refine x_nil ?_ | refine x_set ?_ | refine x_setM ?_ | refine x_par ?_ | refine x_unp ?_ | refine x_sto ?_ | refine x_augS ?_ | refine x_exp ?_ | refine x_ret ?_ | refine x_retN ?_ | refine x_iff ?_ | refine x_pass ?_ | refine x_app ?_ | refine x_for ?_ | refine v_cst ?_ | refine v_tup ?_ | refine v_lst ?_ | refine v_dct ?_ | refine v_bin ?_ | refine v_neg ?_ | refine v_cmp ?_ | refine v_chain ?_ | refine v_not ?_ | refine v_and ?_ | refine v_or ?_ | refine v_ife ?_ | refine v_idx ?_ | refine v_slc ?_ | refine v_call ?_ | refine v_bi ?_ | refine v_isi ?_ | refine v_mt ?_ | refine v_comp ?_ | refine va_nil ?_ | refine va_cons ?_ | refine vo_none ?_ | refine vo_some ?_ | refine vt_yes ?_ | refine vt_e ?_ | refine vt_and ?_ | refine vt_or ?_ | refine vt_not ?_ | refine vi_seq ?_ | refine vi_rng1 ?_)
local macro_rules | `(tactic| walk_at "d") => `(tactic| repeat (first | walk_at "s" | ((with_reducible refine' v_var ?k1 ?_); (case k1 => exact rfl)) | ((with_reducible refine' v_gl ?k1 ?_); (case k1 => exact rfl))))
section
variable {n : Nat} {b : Addr} {M : MS} {Q : KR} {Z : KX}
theorem hTk (n : Nat) : callN TAB GAM (n + 1) 5 = phTake := rfl
theorem ret_th {d : D} (h : Th 60 d) (k : Q (.val d) M) : retR M Q (.val d) M := by
  have e : retR M Q (.val d) M = Q (.val d) (restrict M M) := by
    unfold retR
    cases d with
    | obj a => have := h.p; simp [isP] at this
    | _ => rfl
  rw [e, restrict_self]; exact k
theorem tuple_spec (hb : M b = some .bag) (k : ∀ d, Th 60 d → Q (.val d) M) : callN TAB GAM (n + 2) 11 [.obj b] M Q Z := by
  show callDef _ _ d_law_tuple _ _ _ _
  refine c_def [some (.obj b), none, none, none] rfl rfl ?_
  unfold b_law_tuple
  walk_at "d"
  refine k_take (hTk n) hb (by decide) (by decide) fun v h0 h1 => ?_
  refine ⟨_, mul0_ok h0 h1, ?_⟩
  obtain ⟨w, w1, w2, w3, w4, w5⟩ := wide_ok h0 h1
  rw [strLen_append] at w4
  refine ⟨_, add_str (small_le (by omega)), ?_⟩
  walk_at "d"
  refine ⟨_, w5, ?_⟩
  walk_at "d"
  refine k_take (hTk n) hb (by decide) (by decide) fun v7 h70 h71 => ?_
  refine ⟨_, rfl, by omega, by omega, ?_⟩
  refine comp_all (fun d => ∃ i : Int, d = .int i ∧ intB i = true) trivial ?_ (fun d hd acc kk hk => ?_) fun acc hl hacc => ?_
  · simp only [List.length_map, List.length_range]
    exact small_le (by omega)
  · refine ⟨_, rfl, ?_⟩
    walk_at "d"
    refine if_t ?_
    walk_at "d"
    refine ⟨by show 4 ≤ sizeLine; decide, ?_⟩
    walk_at "d"
    refine k_take (hTk n) hb (by decide) (by decide) fun v4 h40 h41 => ?_
    obtain ⟨d4, hd4, he⟩ := idx_at (xs := [.int 0, .int 1, .int 2, .int w]) h40 h41
    refine ⟨_, he, ?_⟩
    refine hk _ ?_
    simp only [List.mem_cons, List.not_mem_nil, or_false] at hd4
    rcases hd4 with rfl | rfl | rfl | rfl
    · exact ⟨_, rfl, by decide⟩
    · exact ⟨_, rfl, by decide⟩
    · exact ⟨_, rfl, by decide⟩
    · exact ⟨_, rfl, w2⟩
  have hl' : acc.length = v7.toNat := by simpa using hl
  refine ⟨_, rfl, fun p hp => ?_⟩
  have hbp : b ≠ p := fun e => by rw [e, hp] at hb; cases hb
  have hb' : ∀ {o : MO}, updM M p o b = some .bag := fun {o} => by rw [updM_ne hbp]; exact hb
  have fin : ∀ {δ : DEnv} {ds : List D} {x : Option D}, δ = [some (.obj b), some (.int w), some (.obj p), x] → ds.length ≤ 8 → (∀ d ∈ ds, isP d = true ∧ leafB d = true ∧ cntD d ≤ 2) →
      execSs (callN TAB GAM (n + 1)) GAM (.cons (.ret (.bi .tuple (.cons (.var 2) .nil))) .nil) { nx := fun x M' => Q (R.val D.non) (restrict M M'), rt := retR M Q, xc := fun x x_1 M' => Z x (restrict M M') } δ (updM M p (.lst ds)) := fun {δ ds x} hδ hl hds => by
    subst hδ
    walk_at "d"
    refine ⟨.val (.tup ds), ?_, ?_⟩
    · show biD .tuple [view _ (.obj p)] = _
      rw [view_obj updM_same]; rfl
    · have e : restrict M (updM M p (.lst ds)) = M := by
        funext a
        unfold DL.restrict
        by_cases ha : a = p
        · subst ha; rw [updM_same, hp]; rfl
        · rw [updM_ne ha]
          cases h : M a with
          | none => rfl
          | some mo => cases mo <;> simp [h]
      show Q (.val (.tup ds)) (restrict M (updM M p (.lst ds)))
      rw [e]
      refine k _ ⟨?_, ?_, ?_⟩
      · show isPs ds = true
        clear hl e
        induction ds with
        | nil => rfl
        | cons d ds ih =>
          simp only [isPs, Bool.and_eq_true]
          exact ⟨(hds d (by simp)).1, ih fun d' h' => hds d' (List.mem_cons_of_mem _ h')⟩
      · show leafBs ds = true
        clear hl e
        induction ds with
        | nil => rfl
        | cons d ds ih =>
          simp only [leafBs, Bool.and_eq_true]
          exact ⟨(hds d (by simp)).2.1, ih fun d' h' => hds d' (List.mem_cons_of_mem _ h')⟩
      · have hc : cntDs ds ≤ 2 * ds.length := by
          clear hl e
          induction ds with
          | nil => simp [cntDs]
          | cons d ds ih =>
            have := ih fun d' h' => hds d' (List.mem_cons_of_mem _ h')
            have := (hds d (by simp)).2.2
            simp only [cntDs, List.length_cons]
            omega
        show cntD (.tup ds) ≤ 60
        simp only [cntD]
        omega
  have hacc' : ∀ d ∈ acc, isP d = true ∧ leafB d = true ∧ cntD d ≤ 2 := fun d hd => by
    obtain ⟨i, rfl, hi⟩ := hacc d hd
    exact ⟨rfl, by simpa [leafB] using hi, by simp [cntD]⟩
  have sh : isP (.lst acc) = true ∧ SeqAt.shaped (toP (.lst acc)) = true := by
    have hi : ∀ d ∈ acc, ∃ i : Int, d = .int i := fun d hd => by obtain ⟨i, rfl, _⟩ := hacc d hd; exact ⟨i, rfl⟩
    have : isPs acc = true ∧ PyData.canLayAll0 (toPs acc) = true ∧ PyData.depthAll (toPs acc) = 0 := by
      clear hl hl' hacc hacc' fin
      induction acc with
      | nil => exact ⟨rfl, rfl, rfl⟩
      | cons d ds ih =>
        obtain ⟨a1, a2, a3⟩ := ih fun d' h' => hi d' (List.mem_cons_of_mem _ h')
        obtain ⟨i, rfl⟩ := hi d (by simp)
        exact ⟨by simpa [isPs, isP] using a1, by simpa [toPs, toP, PyData.canLayAll0, PyData.canLay0] using a2, by simpa [toPs, toP, PyData.depthAll, PyData.depth] using a3⟩
    exact ⟨this.1, by simp [SeqAt.shaped, toP, PyData.canLay0, PyData.depth, this.2.1, this.2.2]⟩
  walk_at "s"
  walk_at "s"
  walk_at "d"
  refine ⟨by decide, ?_⟩
  refine ⟨!PyData.eqv (toP (.lst acc)) (toP (.lst [])), ?_, _, rfl, ?_⟩
  · show cmp2 .NotEq (view _ (.obj p)) (.lst []) = _
    rw [view_obj updM_same]
    show (eqS (.lst acc) (.lst [])).map _ = _
    rw [eqS_of sh.1 rfl sh.2 (by decide)]; rfl
  refine if_bl (fun hne => ?_) fun _ => ?_
  · have hne : acc ≠ [] := fun e => by subst e; revert hne; decide
    have hpos : 0 < acc.length := List.length_pos_iff.mpr hne
    walk_at "d"
    refine k_take (hTk n) hb' (by decide) (by decide) fun v2 _ _ => ?_
    walk_at "d"
    refine ⟨_, eq_int _ _, _, rfl, ?_⟩
    refine if_dec (fun _ => ?_) fun _ => ?_
    · walk_at "d"
      refine ⟨1, rfl, ?_⟩
      walk_at "d"
      refine ⟨by show 1 ≤ sizeLine; decide, ?_⟩
      walk_at "d"
      refine ⟨by show 1 ≤ sizeLine; decide, ?_⟩
      walk_at "d"
      refine ⟨by show 6 ≤ sizeLine; decide, ?_⟩
      walk_at "d"
      refine k_take (hTk n) hb' (by decide) (by decide) fun v6 h60 h61 => ?_
      obtain ⟨d6, hd6, he⟩ := idx_at (xs := [.int (-1), .bl true, .non, .str "a", .tup [.int 0], .lst [.int 0]]) h60 h61
      refine ⟨_, he, ?_⟩
      walk_at "d"
      refine ⟨.val (.int acc.length), ?_, ?_⟩
      · show biD .len [view _ (.obj p)] = _
        rw [view_obj updM_same]; rfl
      refine k_take (hTk n) hb' (by omega) (by omega) fun vi hi0 hi1 => ?_
      refine ⟨p, acc, vi, vi.toNat, rfl, updM_same, rfl, ?_, ?_⟩
      · unfold ixN
        rw [if_pos hi0, if_pos hi1]
      walk_at "s"
      rw [updM_updM]
      refine fin (x := none) rfl (by rw [List.length_set]; omega) fun d hd => ?_
      rcases List.mem_or_eq_of_mem_set hd with h | rfl
      · exact hacc' d h
      · simp only [List.mem_cons, List.not_mem_nil, or_false] at hd6
        rcases hd6 with rfl | rfl | rfl | rfl | rfl | rfl <;> exact ⟨by decide +kernel, by decide +kernel, by decide +kernel⟩
    · walk_at "s"
      exact fin (x := none) rfl (by omega) hacc'
  · refine if_f ?_
    walk_at "s"
    exact fin (x := none) rfl (by omega) hacc'
end
end K12
set_option linter.all false
set_option maxRecDepth 100000
set_option maxHeartbeats 800000
namespace K12
open PySem L2 DL
local macro_rules | `(tactic| walk_at "s") => `(tactic| with_reducible first | refine x_cons ?_ | refine x_nil ?_ | refine x_set ?_ | refine x_setM ?_ | refine x_par ?_ | refine x_unp ?_ | refine x_sto ?_ | refine x_augS ?_ | refine x_exp ?_ | refine x_ret ?_ | refine x_retN ?_ | refine x_iff ?_ | refine x_pass ?_ | refine x_app ?_ | refine x_for ?_ | refine v_cst ?_ | refine v_tup ?_ | refine v_lst ?_ | refine v_dct ?_ | refine v_bin ?_ | refine v_neg ?_ | refine v_cmp ?_ | refine v_chain ?_ | refine v_not ?_ | refine v_and ?_ | refine v_or ?_ | refine v_ife ?_ | refine v_idx ?_ | refine v_slc ?_ | refine v_call ?_ | refine v_bi ?_ | refine v_isi ?_ | refine v_mt ?_ | refine v_comp ?_ | refine va_nil ?_ | refine va_cons ?_ | refine vo_none ?_ | refine vo_some ?_ | refine vt_yes ?_ | refine vt_e ?_ | refine vt_and ?_ | refine vt_or ?_ | refine vt_not ?_ | refine vi_seq ?_ | refine vi_rng1 ?_)
local macro_rules | `(tactic| walk_at "d") => `(tactic| repeat (first | walk_at "s" | ((with_reducible refine' v_var ?k1 ?_); (case k1 => exact rfl)) | ((with_reducible refine' v_gl ?k1 ?_); (case k1 => exact rfl))))
section
variable {n : Nat} {b : Addr} {M : MS} {Q : KR} {Z : KX}
def SG : Str := (((("abcdefghijklmnopqrstuvwxyz" : Str) ++ ("ABCDEFGHIJKLMNOPQRSTUVWXYZ" : Str)) ++ (Str.ofString ("0123456789 !#$&'()*+,-./:;<=>?@" ++ "[]^_`{|}~\n"))) ++ ("\"" : Str))
def chB (x : Str) : Prop := ∀ c ∈ x.cps.toList, c < 1114112
theorem strB_of {x : Str} (h1 : x.length ≤ 190) (h2 : chB x) : strB x = true := by
  unfold strB
  simp only [Bool.and_eq_true, decide_eq_true_eq]
  refine ⟨h1, ?_⟩
  rw [Array.all_eq_true_iff_forall_mem]
  intro c hc
  exact decide_eq_true (h2 c (by simpa using hc))
theorem chB_app {x y : Str} (h1 : chB x) (h2 : chB y) : chB (x ++ y) := fun c hc => (mem_app.mp hc).elim (h1 c) (h2 c)
theorem chB_cut {x : Str} {lo hi : Option Int} (h : chB x) : chB (cutS x lo hi) := fun c hc => h c (mem_cut hc)
theorem chB_one {x : Str} {c : Nat} (h : chB x) (hc : c ∈ x.cps.toList) : chB ⟨#[c]⟩ := fun c' hc' => by
  have e : c' = c := by simpa using hc'
  subst e; exact h _ hc
theorem sg_ch : chB SG := by unfold chB; decide +kernel
theorem sg_len : 0 < SG.length ∧ SG.length ≤ 190 := by decide +kernel
theorem sm_ch : chB ("abcdefghijklmnopqrstuvwxyz" : Str) := by unfold chB; decide +kernel
theorem text_spec (hb : M b = some .bag) (k : ∀ x : Str, x.length ≤ 10 → chB x → Q (.val (.str x)) M) : callN TAB GAM (n + 2) 10 [.obj b] M Q Z := by
  show callDef _ _ d_law_text _ _ _ _
  refine c_def [some (.obj b), none, none, none, none, none, none, none] rfl rfl ?_
  unfold b_law_text
  walk_at "d"
  refine ⟨by show 2 ≤ sizeLine; decide, rfl, ?_⟩
  walk_at "d"
  refine ⟨_, add_str (by decide), ?_⟩
  walk_at "d"
  refine ⟨_, add_str (by decide), ?_⟩
  walk_at "d"
  refine ⟨_, add_str (by decide), ?_⟩
  walk_at "d"
  refine ⟨by show 2 ≤ sizeLine; decide, ?_⟩
  walk_at "d"
  refine k_take (hTk n) hb (by decide) (by decide) fun v2 h20 h21 => ?_
  obtain ⟨dp, hdp, he⟩ := idx_at (xs := [.str "abcdefghijklmnopqrstuvwxyz", .str SG]) h20 h21
  refine ⟨_, he, ?_⟩
  obtain ⟨pool, rfl, hp0, hp1, hp2⟩ : ∃ pool : Str, dp = .str pool ∧ 0 < pool.length ∧ pool.length ≤ 190 ∧ chB pool := by
    simp only [List.mem_cons, List.not_mem_nil, or_false] at hdp
    rcases hdp with rfl | rfl
    · exact ⟨_, rfl, by decide +kernel, by decide +kernel, sm_ch⟩
    · exact ⟨_, rfl, sg_len.1, sg_len.2, sg_ch⟩
  walk_at "d"
  refine ⟨by show 2 ≤ sizeLine; decide, rfl, ?_⟩
  walk_at "s"
  walk_at "s"
  walk_at "d"
  refine k_take (hTk n) hb (by decide) (by decide) fun v10 h100 h101 => ?_
  refine ⟨_, rfl, by omega, by omega, ?_⟩
  have hps : pool.length ≤ sizeLine := small_le (by omega)
  refine for_ind (fun r δ M' => M' = M ∧ ∃ (f : Str) (x6 : Option D), δ = [some (.obj b), some (.str "abcdefghijklmnopqrstuvwxyz"), some (.str "ABCDEFGHIJKLMNOPQRSTUVWXYZ"), some (.str SG), some (.str pool), some (.str f), x6, none] ∧ f.length + r.length ≤ 9 ∧ chB f) ?_ ?_ ?_
  · refine ⟨rfl, "", none, rfl, ?_, fun c hc => absurd (show c ∈ ([] : List Nat) from hc) (by simp)⟩
    simp only [List.length_map, List.length_range]
    show 0 + _ ≤ 9
    omega
  · rintro d r δ M' _ ⟨rfl, f, x6, rfl, hf, hc⟩
    simp only [List.length_cons] at hf
    refine ⟨trivial, fun kk hk => ⟨_, rfl, ?_⟩⟩
    walk_at "d"
    refine ⟨_, len_str hps, ?_⟩
    refine k_take (hTk n) hb (by omega) (by omega) fun v h0 h1 => ?_
    obtain ⟨c, hc1, hc2⟩ := idx_str hps h0 h1
    refine ⟨_, hc2, ?_⟩
    refine ⟨_, add_str (small_le (by show f.length + 1 ≤ _; omega)), ?_⟩
    walk_at "s"
    refine hk _ _ ⟨rfl, f ++ ⟨#[c]⟩, _, rfl, ?_, chB_app hc (chB_one hp2 hc1)⟩
    rw [strLen_append]
    show f.length + 1 + r.length ≤ 9
    omega
  · rintro δ M' ⟨rfl, f, x6, rfl, hf, hc⟩
    simp only [List.length_nil] at hf
    refine ⟨trivial, ?_⟩
    have hfs : f.length ≤ sizeLine := small_le (by omega)
    walk_at "d"
    refine ⟨_, len_str hfs, ?_⟩
    walk_at "d"
    refine ⟨_, rfl, ?_⟩
    refine k_take (hTk n) hb (by omega) (by omega) fun v7 h70 h71 => ?_
    walk_at "d"
    refine k_take (hTk n) hb (by decide) (by decide) fun v3 h30 h31 => ?_
    walk_at "d"
    refine ⟨_, eq_int _ _, _, rfl, ?_⟩
    refine if_dec (fun _ => ?_) fun _ => ?_
    · walk_at "d"
      refine ⟨_, rfl, ?_⟩
      refine ⟨_, slc_str hfs, ?_⟩
      walk_at "d"
      have hss : SG.length ≤ sizeLine := small_le (by have := sg_len; omega)
      refine ⟨_, len_str hss, ?_⟩
      refine k_take (hTk n) hb (by have := sg_len; omega) (by have := sg_len; omega) fun v h0 h1 => ?_
      obtain ⟨c, hc1, hc2⟩ := idx_str hss h0 h1
      refine ⟨_, hc2, ?_⟩
      have l1 : (cutS f none (some v7)).length ≤ f.length := len_cut
      have l2 : (cutS f (some v7) none).length ≤ f.length := len_cut
      have l4 : (cutS f none (some v7)).length + (cutS f (some v7) none).length = f.length := len_cut2 h70
      have l3 : (cutS f none (some v7) ++ (⟨#[c]⟩ : Str)).length = (cutS f none (some v7)).length + 1 := strLen_append _ _
      refine ⟨_, add_str (small_le (by show (cutS f none (some v7)).length + 1 ≤ _; omega)), ?_⟩
      walk_at "d"
      refine ⟨_, rfl, ?_⟩
      walk_at "d"
      refine ⟨_, slc_str hfs, ?_⟩
      refine ⟨_, add_str (small_le (by omega)), ?_⟩
      show Q (.val (.str _)) (DL.restrict M' M')
      rw [restrict_self]
      refine k _ (by rw [strLen_append]; omega) (chB_app (chB_app (chB_cut hc) (chB_one sg_ch hc1)) (chB_cut hc))
    · walk_at "d"
      show Q (.val (.str _)) (DL.restrict M' M')
      rw [restrict_self]
      exact k _ (by omega) hc
end
end K12
set_option linter.all false
set_option maxRecDepth 100000
set_option maxHeartbeats 800000
namespace K12
open PySem L2 DL
local macro_rules | `(tactic| walk_at "s") => `(tactic| with_reducible first | refine x_cons ?_ | refine x_nil ?_ | refine x_set ?_ | refine x_setM ?_ | refine x_par ?_ | refine x_unp ?_ | refine x_sto ?_ | refine x_augS ?_ | refine x_exp ?_ | refine x_ret ?_ | refine x_retN ?_ | refine x_iff ?_ | refine x_pass ?_ | refine x_app ?_ | refine x_for ?_ | refine v_cst ?_ | refine v_tup ?_ | refine v_lst ?_ | refine v_dct ?_ | refine v_bin ?_ | refine v_neg ?_ | refine v_cmp ?_ | refine v_chain ?_ | refine v_not ?_ | refine v_and ?_ | refine v_or ?_ | refine v_ife ?_ | refine v_idx ?_ | refine v_slc ?_ | refine v_call ?_ | refine v_bi ?_ | refine v_isi ?_ | refine v_mt ?_ | refine v_comp ?_ | refine va_nil ?_ | refine va_cons ?_ | refine vo_none ?_ | refine vo_some ?_ | refine vt_yes ?_ | refine vt_e ?_ | refine vt_and ?_ | refine vt_or ?_ | refine vt_not ?_ | refine vi_seq ?_ | refine vi_rng1 ?_)
local macro_rules | `(tactic| walk_at "d") => `(tactic| repeat (first | walk_at "s" | ((with_reducible refine' v_var ?k1 ?_); (case k1 => exact rfl)) | ((with_reducible refine' v_gl ?k1 ?_); (case k1 => exact rfl))))
local macro_rules | `(tactic| walk_at "th") => `(tactic| first | exact th_nil | (refine th_cons (th_closed (by decide +kernel)) ?_))
local macro_rules | `(tactic| walk_at "z") => `(tactic| repeat (first | walk_at "s" | ((with_reducible refine' v_var ?k1 ?_); (case k1 => exact rfl)) | refine ⟨small_le (Nat.le_of_ble_eq_true rfl), ?_⟩))
section
variable {n : Nat} {b : Addr} {M : MS} {Q : KR} {Z : KX}
theorem th_list {x : D} (h : leafB x = true) (hp : isP x = true) (hc : cntD x = 1) : Th 60 (.lst [x]) ∧ Th 60 (.tup [x]) := by
  refine ⟨⟨?_, ?_, ?_⟩, ⟨?_, ?_, ?_⟩⟩
  · simp [isP, isPs, hp]
  · simp [leafB, leafBs, h]
  · simp [cntD, cntDs, hc]
  · simp [isP, isPs, hp]
  · simp [leafB, leafBs, h]
  · simp [cntD, cntDs, hc]
theorem odd_spec {x : Str} (hx : Nm x) (hb : M b = some .bag) (k : ∀ d, Th 60 d → Q (.val d) M) : callN TAB GAM (n + 2) 8 [.obj b, .str x] M Q Z := by
  show callDef _ _ d_law_odd _ _ _ _
  refine c_def [some (.obj b), some (.str x), none, none] rfl rfl ?_
  have hxl := hx.le
  unfold b_law_odd
  walk_at "d"
  refine k_take (hTk n) hb (by decide) (by decide) fun v h0 h1 => ?_
  refine ⟨_, mul0_ok h0 h1, ?_⟩
  obtain ⟨w, w1, w2, w3, w4, w5⟩ := wide_ok h0 h1
  rw [strLen_append] at w4
  refine ⟨_, add_str (small_le (by omega)), ?_⟩
  walk_at "d"
  refine ⟨_, w5, ?_⟩
  walk_at "d"
  refine ⟨1, rfl, ?_⟩
  walk_at "d"
  refine ⟨w, rfl, ?_⟩
  walk_at "d"
  refine ⟨_, add_str (small_le (by show x.length + 1 ≤ _; omega)), ?_⟩
  walk_at "d"
  refine ⟨by show 15 ≤ sizeLine; decide, ?_⟩
  refine ⟨_, rfl, fun p hp => ?_⟩
  have hbp : b ≠ p := fun e => by rw [e, hp] at hb; cases hb
  have hb' : ∀ {o : MO}, updM M p o b = some .bag := fun {o} => by rw [updM_ne hbp]; exact hb
  walk_at "s"
  refine x_aug rfl ?_
  walk_at "z"
  refine ⟨[], rfl, by decide, by simp, ?_⟩
  walk_at "z"
  refine .inl ⟨p, _, _, rfl, rfl, updM_same, rfl, small_le (Nat.le_of_ble_eq_true rfl), ?_⟩
  rw [updM_updM]
  walk_at "s"
  refine x_aug rfl ?_
  walk_at "z"
  refine ⟨[(.inr x, .int 1)], rfl, Nat.le_of_ble_eq_true rfl, by simp, ?_⟩
  walk_at "z"
  refine .inl ⟨p, _, _, rfl, rfl, updM_same, rfl, small_le (Nat.le_of_ble_eq_true rfl), ?_⟩
  rw [updM_updM]
  walk_at "s"
  refine x_aug rfl ?_
  walk_at "z"
  refine ⟨[], rfl, by decide, by simp, ?_⟩
  walk_at "z"
  refine .inl ⟨p, _, _, rfl, rfl, updM_same, rfl, small_le (Nat.le_of_ble_eq_true rfl), ?_⟩
  rw [updM_updM]
  walk_at "d"
  refine ⟨.val (.int 41), ?_, ?_⟩
  · show biD .len [view _ (.obj p)] = _
    rw [view_obj updM_same]; rfl
  refine k_take (hTk n) hb' (by decide) (by decide) fun vi hi0 hi1 => ?_
  have nl : leafB (.str x) = true := by simpa [leafB] using hx.leaf
  have zl : strB (x ++ ("z" : Str)) = true := strB_of (by rw [strLen_append]; show x.length + 1 ≤ 190; omega) (chB_app (fun c hc => by have := hx.ch c hc; omega) (by unfold chB; decide +kernel))
  obtain ⟨tl, tt⟩ := th_list (x := .str x) nl rfl (by simp [cntD])
  have td : Th 60 (.dct [(.inr x, .int 1)]) := by
    refine ⟨by simp [isP, isPk], ?_, by simp [cntD, cntDk]⟩
    have := hx.leaf
    simp [leafB, leafBk, this]
    decide +kernel
  have tn : Th 60 (.str x) := th_str hx.leaf
  obtain ⟨d, hd, he⟩ := idx_at (xs := [.int 0, .int 1, .int (-1), .int w, .int (-w), .bl true, .bl false, .non, .str "", .str "a", .str x, .str (x ++ ("z" : Str)), .str "abcdefgh", .str "abcdefghi", .str "A",
    .str "a1", .str "a b", .str "well", .str "hush", .str "no", .str "out", .str "round", .str "yes", .str "do", .lst [], .tup [], .dct [], .lst [.int 1], .tup [.int 0], .tup [.int 0, .int 0], .tup [.str x],
    .dct [(.inr x, .int 1)], .lst [.str x], .tup [.str "", .str "", .int 0], .tup [.str "break"], .lst [.tup [.str "break"]], .tup [.str "answer", .str ""], .tup [.str "ended"], .tup [.int 1, .int 0, .int 2],
    .tup [.lst []], .tup [.str "error", .dct [], .str ""]]) hi0 hi1
  refine ⟨d, ?_, ?_⟩
  · show idxD (view _ (.obj p)) (.int vi) = _
    rw [view_obj updM_same]; exact he
  have hall : Th 60 d := by
    refine (?_ : ∀ y ∈ _, Th 60 y) d hd
    walk_at "th"; walk_at "th"; walk_at "th"
    refine th_cons (th_int w2) (th_cons (th_int w3) ?_)
    walk_at "th"; walk_at "th"; walk_at "th"; walk_at "th"; walk_at "th"
    refine th_cons tn (th_cons (th_str zl) ?_)
    walk_at "th"; walk_at "th"; walk_at "th"; walk_at "th"; walk_at "th"; walk_at "th"; walk_at "th"; walk_at "th"; walk_at "th"; walk_at "th"; walk_at "th"; walk_at "th"; walk_at "th"; walk_at "th"; walk_at "th"; walk_at "th"; walk_at "th"; walk_at "th"
    refine th_cons tt (th_cons td (th_cons tl ?_))
    walk_at "th"; walk_at "th"; walk_at "th"; walk_at "th"; walk_at "th"; walk_at "th"; walk_at "th"; walk_at "th"; walk_at "th"
  have e : ∀ o, DL.restrict M (updM M p (.lst o)) = M := fun o => by
    funext a
    unfold DL.restrict
    by_cases ha : a = p
    · subst ha; rw [updM_same, hp]; rfl
    · rw [updM_ne ha]
      cases h : M a with
      | none => rfl
      | some mo => cases mo <;> simp [h]
  have fin : ∀ o, retR M Q (.val d) (updM M p (.lst o)) := fun o => by
    have e2 : retR M Q (.val d) (updM M p (.lst o)) = Q (.val d) (DL.restrict M (updM M p (.lst o))) := by
      unfold retR
      cases d with
      | obj a => have := hall.p; simp [isP] at this
      | _ => rfl
    rw [e2, e]; exact k d hall
  exact fin _
end
end K12
set_option linter.all false
set_option maxRecDepth 100000
set_option maxHeartbeats 800000
namespace K12
open PySem L2 DL
local macro_rules | `(tactic| walk_at "s") => `(tactic| with_reducible first | refine x_cons ?_ | refine x_nil ?_ | refine x_set ?_ | refine x_setM ?_ | refine x_par ?_ | refine x_unp ?_ | refine x_sto ?_ | refine x_augS ?_ | refine x_exp ?_ | refine x_ret ?_ | refine x_retN ?_ | refine x_iff ?_ | refine x_pass ?_ | refine x_app ?_ | refine x_for ?_ | refine v_cst ?_ | refine v_tup ?_ | refine v_lst ?_ | refine v_dct ?_ | refine v_bin ?_ | refine v_neg ?_ | refine v_cmp ?_ | refine v_chain ?_ | refine v_not ?_ | refine v_and ?_ | refine v_or ?_ | refine v_ife ?_ | refine v_idx ?_ | refine v_slc ?_ | refine v_call ?_ | refine v_bi ?_ | refine v_isi ?_ | refine v_mt ?_ | refine v_comp ?_ | refine va_nil ?_ | refine va_cons ?_ | refine vo_none ?_ | refine vo_some ?_ | refine vt_yes ?_ | refine vt_e ?_ | refine vt_and ?_ | refine vt_or ?_ | refine vt_not ?_ | refine vi_seq ?_ | refine vi_rng1 ?_)
local macro_rules | `(tactic| walk_at "d") => `(tactic| repeat (first | walk_at "s" | ((with_reducible refine' v_var ?k1 ?_); (case k1 => exact rfl)) | ((with_reducible refine' v_gl ?k1 ?_); (case k1 => exact rfl))))
theorem th_up {m n : Nat} {d : D} (h : Th m d) (e : m ≤ n) : Th n d := ⟨h.p, h.l, Nat.le_trans h.c e⟩
theorem th_in {d : D} (h : Th 60 d) : Th 61 (.lst [d]) := by
  have := h.c
  refine ⟨by simpa [isP, isPs] using h.p, by simpa [leafB, leafBs] using h.l, ?_⟩
  simp only [cntD, cntDs]
  omega
theorem plain_n (n : Nat) (ns : List Int) : callN TAB GAM (n + 4) 13 [.scr ns] (fun _ => none) (fun r _ => r = .val (.bl true)) (fun _ _ => False) := by
  rw [show callN TAB GAM (n + 4) 13 = callDef (callN TAB GAM (n + 3)) GAM d_law from rfl]
  refine c_def [some (.scr ns), none, none, none, none, none] rfl rfl ?_
  unfold b_law
  walk_at "d"
  refine ⟨ns, rfl, fun b hb0 => ?_⟩
  generalize hM : updM (fun _ => none) b .bag = M
  have hb : M b = some .bag := by rw [← hM]; exact updM_same
  walk_at "s"
  walk_at "s"
  walk_at "d"
  refine ⟨40, rfl, by decide, by decide, ?_⟩
  refine for_ind (fun _ δ M' => M' = M ∧ ∃ x2 x3 x4 x5 : Option D, δ = [some (.scr ns), some (.obj b), x2, x3, x4, x5]) ⟨rfl, none, none, none, none, rfl⟩ ?_ ?_
  · rintro d r δ M' _ ⟨rfl, x2, x3, x4, x5, rfl⟩
    refine ⟨trivial, fun kk hk => ⟨_, rfl, ?_⟩⟩
    walk_at "d"
    refine names_spec (hTk (n + 1)) hb (by decide) (by decide) fun xs hl hx => ?_
    obtain ⟨x, rfl⟩ : ∃ x, xs = [x] := by
      match xs, hl with
      | [x], _ => exact ⟨x, rfl⟩
    have nx : Nm x := hx x (by simp)
    walk_at "d"
    refine ⟨.str x, rfl, ?_⟩
    walk_at "d"
    refine odd_spec (n := n + 1) nx hb fun d0 h0 => ?_
    walk_at "d"
    refine text_spec (n := n + 1) hb fun x1 l1 c1 => ?_
    walk_at "d"
    refine text_spec (n := n + 1) hb fun x2 l2 c2 => ?_
    walk_at "d"
    refine ⟨2, rfl, ?_⟩
    refine ⟨_, slc_str (small_le (by omega)), ?_⟩
    walk_at "d"
    refine tuple_spec (n := n + 1) hb fun d4 h4 => ?_
    walk_at "d"
    refine ⟨by show 5 ≤ sizeLine; decide, ?_⟩
    walk_at "d"
    refine k_take (hTk (n + 2)) hb (by decide) (by decide) fun v5 h50 h51 => ?_
    have l3 : (cutS x2 none (some 2)).length ≤ x2.length := len_cut
    obtain ⟨d, hd, he⟩ := idx_at (xs := [d0, .str x1, .str (cutS x2 none (some 2)), .str x, d4]) h50 h51
    refine ⟨d, he, ?_⟩
    have th : Th 60 d := by
      simp only [List.mem_cons, List.not_mem_nil, or_false] at hd
      rcases hd with rfl | rfl | rfl | rfl | rfl
      · exact h0
      · exact th_str (strB_of (by omega) c1)
      · exact th_str (strB_of (by omega) (chB_cut c2))
      · exact th_str nx.leaf
      · exact h4
    clear hd he
    have vw : ∀ M, view M d = d := view_p th.p
    walk_at "d"
    refine ⟨.val (.str (toP d).shown), ?_, ?_⟩
    · show biD .repr [view M' d] = _
      rw [vw]; exact reprD_ok th (Nat.le_refl _)
    walk_at "d"
    refine right_spec (n := n) (th_up th (by decide)) ?_
    refine ⟨true, rfl, ?_⟩
    refine if_f ?_
    walk_at "d"
    refine ⟨by show 1 ≤ sizeLine; decide, ?_⟩
    walk_at "d"
    refine right_spec (n := n) (th_in th) ?_
    refine ⟨true, rfl, ?_⟩
    refine if_f ?_
    walk_at "d"
    refine right_spec (n := n) (th_up th (by decide)) ?_
    refine ⟨true, rfl, ?_⟩
    refine if_f ?_
    walk_at "d"
    refine ⟨.val (.str (toP d).shown), ?_, ?_⟩
    · show biD .repr [view M' d] = _
      rw [vw]; exact reprD_ok th (Nat.le_refl _)
    walk_at "d"
    refine ⟨false, ?_, false, rfl, ?_⟩
    · show cmp2 .NotEq (.str (toP d).shown) (.str (toP d).shown) = _
      rw [ne_str]; simp
    refine if_f ?_
    walk_at "s"
    walk_at "s"
    exact hk _ _ ⟨rfl, _, _, _, _, rfl⟩
  · rintro δ M' ⟨rfl, x2, x3, x4, x5, rfl⟩
    refine ⟨trivial, ?_⟩
    walk_at "d"
    rfl
theorem plain (ns : List Int) : callN TAB GAM 20 13 [.scr ns] (fun _ => none) (fun r _ => r = .val (.bl true)) (fun _ _ => False) := by
  have h := plain_n 16 ns
  rw [show 16 + 4 = 20 from rfl] at h
  exact h
end K12
open PySem PySem.W PyProof.Rows
set_option maxRecDepth 100000 in
set_option maxHeartbeats 0 in
theorem PySem.Challenge.cw_exitswin_k12_kinds_known_holds : PySem.Challenge.rw_exitswin_k12_kinds_known.Holds := by
  w_on; o_law; k_head; (case hw => w_witness2)
  k_fill
  refine DL.walk_g (l := PySem.Challenge.rw_exitswin_k12_kinds_known) (n := 63) (k := 1 + 20) (x := "_law_script") (sp := fun _ => DL.spD _ (DL.callN K12.TAB K12.GAM 20 13)) rfl (by decide) rfl ⟨rfl, by decide, by decide⟩ (by rfl) (fun w h Y => PySem.W.kIn_of Y) ?F (fun w H a ns hl o hs => DL.law_true K12.plain H a ns hl o hs)
  case F =>
    intro w mg fa h KX G hmg
    refine' K12.all_mk 20 KX G hmg ?fnh0 ?fnh1 ?fnh2 ?fnh3 ?fnh4 ?fnh5 ?fnh6 ?fnh7 ?fnh8 ?fnh9 ?fnh10 ?fnh11 ?fnh12 ?fnh13 ?glh0 ?glh1 ?glh2 ?bnh0 ?bnh1 ?bnh2 ?bnh3 ?bnh4 ?bnh5 ?bnh6 ?bnh7 ?bnh8 ?bnh9
    case fnh0 => (refine' DL.fnIn_mk K12.bd_is_integer ?a ?l ?c ?k); (case a => k_is); (case l => k_is); (case c => k_is); (case k => k_is)
    case fnh1 => (refine' DL.fnIn_mk K12.bd_is_name ?a ?l ?c ?k); (case a => k_is); (case l => k_is); (case c => k_is); (case k => k_is)
    case fnh2 => (refine' DL.fnIn_mk K12.bd_is_error ?a ?l ?c ?k); (case a => k_is); (case l => k_is); (case c => k_is); (case k => k_is)
    case fnh3 => (refine' DL.fnIn_mk K12.bd_is_address ?a ?l ?c ?k); (case a => k_is); (case l => k_is); (case c => k_is); (case k => k_is)
    case fnh4 => (refine' DL.fnIn_mk K12.bd_law_bag ?a ?l ?c ?k); (case a => k_is); (case l => k_is); (case c => k_is); (case k => k_is)
    case fnh5 => (refine' DL.fnIn_mk K12.bd_law_take ?a ?l ?c ?k); (case a => k_is); (case l => k_is); (case c => k_is); (case k => k_is)
    case fnh6 => (refine' DL.fnIn_mk K12.bd_law_alike ?a ?l ?c ?k); (case a => k_is); (case l => k_is); (case c => k_is); (case k => k_is)
    case fnh7 => (refine' DL.fnIn_mk K12.bd_law_names ?a ?l ?c ?k); (case a => k_is); (case l => k_is); (case c => k_is); (case k => k_is)
    case fnh8 => (refine' DL.fnIn_mk K12.bd_law_odd ?a ?l ?c ?k); (case a => k_is); (case l => k_is); (case c => k_is); (case k => k_is)
    case fnh9 => (refine' DL.fnIn_mk K12.bd_law_is_name ?a ?l ?c ?k); (case a => k_is); (case l => k_is); (case c => k_is); (case k => k_is)
    case fnh10 => (refine' DL.fnIn_mk K12.bd_law_text ?a ?l ?c ?k); (case a => k_is); (case l => k_is); (case c => k_is); (case k => k_is)
    case fnh11 => (refine' DL.fnIn_mk K12.bd_law_tuple ?a ?l ?c ?k); (case a => k_is); (case l => k_is); (case c => k_is); (case k => k_is)
    case fnh12 => (refine' DL.fnIn_mk K12.bd_law_right ?a ?l ?c ?k); (case a => k_is); (case l => k_is); (case c => k_is); (case k => k_is)
    case fnh13 => (refine' DL.fnIn_mk K12.bd_law ?a ?l ?c ?k); (case a => k_is); (case l => k_is); (case c => k_is); (case k => k_is)
    case glh0 => (refine' DL.glIn_str ?a); (case a => k_is)
    case glh1 => (refine' DL.glIn_int ?a); (case a => k_is)
    case glh2 => (refine' DL.glIn_strs ?a ?l ?s ?v); (case a => k_is); (case l => k_is); (case s => decide); (case v => rfl)
    (case bnh0 => k_is)
    (case bnh1 => k_is)
    (case bnh2 => k_is)
    (case bnh3 => k_is)
    (case bnh4 => k_is)
    (case bnh5 => k_is)
    (case bnh6 => k_is)
    (case bnh7 => k_is)
    (case bnh8 => k_is)
    (case bnh9 => k_is)
#print axioms PySem.Challenge.cw_exitswin_k12_kinds_known_holds
