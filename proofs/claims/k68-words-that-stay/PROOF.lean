import PyProof.Rows.All
import Wide.All
import OpenK.AllK
import Wide.FinOn
import KE.KStateDown
import HandS.ForMost
import HandS.Evl
import HandS.Wide
import HandS.Star
import HandS.Zip
import HandS.Deep
import HandS.IsInst
import HandS.Strs
import HandS.SetFor
import HandS.TupAny
import HandS.TupMul
import HandS.TupLe
import HandS.TupSets
import HandS.Defaults
import HandS.Property
import KE.GoesNew
import HandS.DictComp
import HandS.HeadHook2
import KE.KDictZip
import HandS.Zip0
import HandS.Style
import KE.KDictCopyH
import KE.KDictPairs
import HandS.Head0
import HandS.Head1
import HandS.Head2
import HandS.HeadEnd
import HandS.HeadHook1
import PySem.Challenge.RW_asmuchas_k68_whole_words_that_stay
set_option Elab.async false
set_option linter.all false
set_option maxRecDepth 100000
set_option maxHeartbeats 4000000
/-! the data layer: values as data, readings without a heap -/
namespace K8
open PySem PySem.Spec PyProof.Rows L2
open Evl (Ex ex_l ex_t ex_rd)

/-! ### data -/
inductive D where
  | non | bl (b : Bool) | int (i : Int) | str (x : Str)
  | tup (l : List D) | sol (l : List D) | lst (l : List D) | dic (ks : List Key) (l : List D) | ins (C : Addr) (ns : List Str) (l : List D)
  | ref (a : Addr)
  | dkt (ks : List (List Int)) (l : List D)
  | ty (n : String)
  | fls (ns : List Int)
/-- a list of ints in the written part -/
def FLst (F : PySem.W.Frag) (a : Addr) (ns : List Int) : Prop :=
  ∃ (o : Obj) (its : Array Value) (n : Nat), F.lookup a = some o ∧ o.cls = .type "list" ∧ o.dict = none ∧ o.data = .seq its n ∧ its.size ≤ sizeLine ∧ Vals (ns.map V.int) its.toList

mutual
/-- v stands for d, by what K knows -/
inductive Rep (F : PySem.W.Frag) (K : Hp) : V → D → Prop
  | non : Rep F K .non .non
  | bl (b : Bool) : Rep F K (.bl b) (.bl b)
  | int (i : Int) : Rep F K (.int i) (.int i)
  | str (x : Str) : Rep F K (.str x) (.str x)
  | ref (a : Addr) : Rep F K (.ref a) (.ref a)
  | ty (n : String) : Rep F K (.ty n) (.ty n)
  | fls (a : Addr) (ns : List Int) (h : (∃ o, K a = some (.frz o (.lst (ns.map V.int)))) ∨ FLst F a ns) : Rep F K (.ref a) (.fls ns)
  | tup (a : Addr) (vs : List V) (l : List D) (z : vs.length ≤ sizeLine) (h : K a = some (.tup vs)) (r : Reps F K vs l) : Rep F K (.ref a) (.tup l)
  | sol (a : Addr) (vs : List V) (l : List D) (o : Obj) (hd : o.dict = none) (z : vs.length ≤ sizeLine) (h : K a = some (.frz o (.tup vs))) (r : Reps F K vs l) : Rep F K (.ref a) (.sol l)
  | lst (a : Addr) (vs : List V) (l : List D) (z : vs.length ≤ sizeLine) (h : K a = some (.lst vs)) (r : Reps F K vs l) : Rep F K (.ref a) (.lst l)
  | dic (a : Addr) (vs : List V) (ks : List Key) (l : List D) (n : ks.length = vs.length) (h : K a = some (.dK (ks.zip vs))) (r : Reps F K vs l) : Rep F K (.ref a) (.dic ks l)
  | ins (a C dx : Addr) (vs : List V) (ns : List Str) (l : List D) (n : ns.length = vs.length) (h : K a = some (.ins C dx (ns.zip vs))) (r : Reps F K vs l) : Rep F K (.ref a) (.ins C ns l)
  | dkt (a : Addr) (vs : List V) (ks : List (List Int)) (l : List D) (o : Obj) (n : ks.length = vs.length) (h : K a = some (.frz o (.dT ((ks.map fun k => k.map Sum.inl).zip vs)))) (r : Reps F K vs l) : Rep F K (.ref a) (.dkt ks l)
inductive Reps (F : PySem.W.Frag) (K : Hp) : List V → List D → Prop
  | nil : Reps F K [] []
  | cons (v : V) (d : D) (vs : List V) (l : List D) (h : Rep F K v d) (r : Reps F K vs l) : Reps F K (v :: vs) (d :: l)
end

section
variable {F : PySem.W.Frag} {K K' : Hp}
mutual
theorem Rep.mono (e : Ex K K') : ∀ {v : V} {d : D}, Rep F K v d → Rep F K' v d
  | _, _, .non => .non
  | _, _, .bl b => .bl b
  | _, _, .int i => .int i
  | _, _, .str x => .str x
  | _, _, .ref a => .ref a
  | _, _, .ty n => .ty n
  | _, _, .fls a ns h => .fls a ns (h.imp (fun ⟨o, k⟩ => ⟨o, e _ _ k⟩) id)
  | _, _, .tup a vs l z h r => .tup a vs l z (e _ _ h) (Reps.mono e r)
  | _, _, .sol a vs l o hd z h r => .sol a vs l o hd z (e _ _ h) (Reps.mono e r)
  | _, _, .lst a vs l z h r => .lst a vs l z (e _ _ h) (Reps.mono e r)
  | _, _, .dic a vs ks l n h r => .dic a vs ks l n (e _ _ h) (Reps.mono e r)
  | _, _, .ins a C dx vs ns l n h r => .ins a C dx vs ns l n (e _ _ h) (Reps.mono e r)
  | _, _, .dkt a vs ks l o n h r => .dkt a vs ks l o n (e _ _ h) (Reps.mono e r)
theorem Reps.mono (e : Ex K K') : ∀ {vs : List V} {l : List D}, Reps F K vs l → Reps F K' vs l
  | _, _, .nil => .nil
  | _, _, .cons v d vs l h r => .cons v d vs l (Rep.mono e h) (Reps.mono e r)
end
theorem Reps.length : ∀ {vs : List V} {l : List D}, Reps F K vs l → vs.length = l.length
  | _, _, .nil => rfl
  | _, _, .cons _ _ _ _ _ r => congrArg (· + 1) (Reps.length r)
theorem Reps.get : ∀ {vs : List V} {l : List D} {i : Nat} {v : V}, Reps F K vs l → vs[i]? = some v → ∃ d, l[i]? = some d ∧ Rep F K v d
  | _, _, i, v, .nil, e => by simp at e
  | _, _, 0, v, .cons w d vs l h r, e => ⟨d, rfl, by simp at e; subst e; exact h⟩
  | _, _, i + 1, v, .cons w d vs l h r, e => by
    obtain ⟨d', e1, e2⟩ := Reps.get (i := i) (v := v) r (by simpa using e)
    exact ⟨d', by simpa using e1, e2⟩
theorem Reps.get' : ∀ {vs : List V} {l : List D} {i : Nat} {d : D}, Reps F K vs l → l[i]? = some d → ∃ v, vs[i]? = some v ∧ Rep F K v d
  | _, _, i, d, .nil, e => by simp at e
  | _, _, 0, d, .cons w d' vs l h r, e => ⟨w, rfl, by simp at e; subst e; exact h⟩
  | _, _, i + 1, d, .cons w d' vs l h r, e => by
    obtain ⟨v, e1, e2⟩ := Reps.get' (i := i) (d := d) r (by simpa using e)
    exact ⟨v, by simpa using e1, e2⟩
theorem Reps.append : ∀ {vs ws : List V} {l m : List D}, Reps F K vs l → Reps F K ws m → Reps F K (vs ++ ws) (l ++ m)
  | _, _, _, _, .nil, s => s
  | _, _, _, _, .cons v d vs l h r, s => .cons v d _ _ h (Reps.append r s)
theorem Reps.take : ∀ {vs : List V} {l : List D} (n : Nat), Reps F K vs l → Reps F K (vs.take n) (l.take n)
  | _, _, 0, _ => .nil
  | _, _, _ + 1, .nil => .nil
  | _, _, n + 1, .cons v d vs l h r => .cons v d _ _ h (Reps.take n r)
theorem Reps.drop : ∀ {vs : List V} {l : List D} (n : Nat), Reps F K vs l → Reps F K (vs.drop n) (l.drop n)
  | _, _, 0, r => r
  | _, _, _ + 1, .nil => .nil
  | _, _, n + 1, .cons v d vs l h r => Reps.drop n r
theorem Reps.set : ∀ {vs : List V} {l : List D} (i : Nat) {v : V} {d : D}, Rep F K v d → Reps F K vs l → Reps F K (vs.set i v) (l.set i d)
  | _, _, _, _, _, _, .nil => .nil
  | _, _, 0, v, d, h, .cons w e vs l _ r => .cons v d vs l h r
  | _, _, i + 1, v, d, h, .cons w e vs l h' r => .cons w e _ _ h' (Reps.set i h r)
theorem Reps.reverse : ∀ {vs : List V} {l : List D}, Reps F K vs l → Reps F K vs.reverse l.reverse
  | _, _, .nil => .nil
  | _, _, .cons v d vs l h r => by
    rw [List.reverse_cons, List.reverse_cons]
    exact (Reps.reverse r).append (.cons v d _ _ h .nil)
theorem Reps.ints : ∀ {ns : List Int} {vs : List V}, Reps F K vs (ns.map D.int) → vs = ns.map V.int
  | [], _, r => by cases r; rfl
  | n :: ns, _, r => by
    rw [List.map_cons] at r
    cases r with
    | cons v d vs l h r =>
      cases h
      rw [Reps.ints r]
      rfl
theorem Reps.of_ints : ∀ (ns : List Int), Reps F K (ns.map V.int) (ns.map D.int)
  | [] => .nil
  | n :: ns => .cons _ _ _ _ (.int n) (Reps.of_ints ns)
theorem Reps.strs : ∀ {ns : List Str} {vs : List V}, Reps F K vs (ns.map D.str) → vs = ns.map V.str
  | [], _, r => by cases r; rfl
  | n :: ns, _, r => by
    rw [List.map_cons] at r
    cases r with
    | cons v d vs l h r =>
      cases h
      rw [Reps.strs r]
      rfl
theorem Reps.of_strs : ∀ (ns : List Str), Reps F K (ns.map V.str) (ns.map D.str)
  | [] => .nil
  | n :: ns => .cons _ _ _ _ (.str n) (Reps.of_strs ns)
theorem Reps.bls : ∀ {ns : List Bool} {vs : List V}, Reps F K vs (ns.map D.bl) → vs = ns.map V.bl
  | [], _, r => by cases r; rfl
  | n :: ns, _, r => by
    rw [List.map_cons] at r
    cases r with
    | cons v d vs l h r =>
      cases h
      rw [Reps.bls r]
      rfl
end

/-- a tuple of these -/
@[simp] def IsT (x : D) (l : List D) : Prop := x = .tup l ∨ x = .sol l
section
variable {F : PySem.W.Frag} {K H : Hp}
theorem Rep.seqT {v : V} {x : D} {l : List D} (kh : Ex K H) (r : Rep F K v x) (h : IsT x l) : ∃ a vs, v = .ref a ∧ SqT F H a vs ∧ Reps F K vs l ∧ vs.length ≤ sizeLine := by
  rcases h with rfl | rfl
  · cases r with
    | tup a vs l z h r => exact ⟨a, vs, rfl, .inl (.inl (kh _ _ h)), r, z⟩
  · cases r with
    | sol a vs l o hd z h r => exact ⟨a, vs, rfl, .inl (.inr ⟨o, kh _ _ h⟩), r, z⟩
theorem Rep.seqL {v : V} {l : List D} (kh : Ex K H) (r : Rep F K v (.lst l)) : ∃ a vs, v = .ref a ∧ H a = some (.lst vs) ∧ Reps F K vs l ∧ vs.length ≤ sizeLine := by
  cases r with
  | lst a vs l z h r => exact ⟨a, vs, rfl, kh _ _ h, r, z⟩
end

/-! ### the world of a body: what a caller's bag is, what is known -/
/-- the law's bag at b: [a, c, i, cells], its cells known -/
def BagC (K H : Hp) (b c : Addr) : Prop := ∃ (x0 x1 i : Int) (cells : List Int), H b = some (.lst [.int x0, .int x1, .int i, .ref c]) ∧ K c = some (.lst (cells.map V.int)) ∧
  0 ≤ x0 ∧ (0 ≤ x1 ∧ x1 < 2147483647) ∧ 0 ≤ i ∧ cells.length ≤ 63 ∧ ∀ z ∈ cells, 0 ≤ z
def Bag (K H : Hp) (b : Addr) : Prop := ∃ c, BagC K H b c
abbrev BG := Option Addr
/-- what stands there and is no tuple -/
def Pin : Option HO → Prop
  | none => False
  | some (.tup _) => False
  | some _ => True
/-- from (K, H) to (K', H'): all but the bag stands, what is newly known is new -/
structure Nx (bg : BG) (K H K' H' : Hp) : Prop where
  le : ∀ a o, bg ≠ some a → H a = some o → H' a = some o
  bag : ∀ b c, bg = some b → BagC K H b c → BagC K' H' b c
  kk : Ex K K'
  fr : ∀ a, Pin (H a) → K' a = K a
  kh : Ex K' H'
theorem Nx.refl {bg : BG} {K H : Hp} (h : Ex K H) : Nx bg K H K H := ⟨fun _ _ _ e => e, fun _ _ _ e => e, Ex.refl K, fun _ _ => rfl, h⟩
theorem Nx.there {bg : BG} {K H K' H' : Hp} (n : Nx bg K H K' H') (hb : ∀ b, bg = some b → Bag K H b) {a : Addr} (h : H a ≠ none) : H' a ≠ none := by
  by_cases e : bg = some a
  · obtain ⟨c, hc⟩ := hb a e
    obtain ⟨x0, x1, i, cells, h1, _⟩ := n.bag a c e hc
    rw [h1]
    exact fun z => nomatch z
  · cases q : H a with
    | none => exact absurd q h
    | some o =>
      rw [n.le a o e q]
      exact fun z => nomatch z
theorem Nx.pin {bg : BG} {K H K' H' : Hp} (n : Nx bg K H K' H') (hb : ∀ b, bg = some b → Bag K H b) {a : Addr} (h : Pin (H a)) : Pin (H' a) := by
  by_cases e : bg = some a
  · obtain ⟨c, hc⟩ := hb a e
    obtain ⟨x0, x1, i, cells, h1, _⟩ := n.bag a c e hc
    rw [h1]; trivial
  · cases q : H a with
    | none => rw [q] at h; exact h.elim
    | some o => rw [n.le a o e q]; rw [q] at h; exact h
theorem Nx.trans {bg : BG} {K H K1 H1 K2 H2 : Hp} (hb : ∀ b, bg = some b → Bag K H b) (a : Nx bg K H K1 H1) (b : Nx bg K1 H1 K2 H2) : Nx bg K H K2 H2 where
  le := fun c o e h => b.le c o e (a.le c o e h)
  bag := fun d c e h => b.bag d c e (a.bag d c e h)
  kk := Ex.trans a.kk b.kk
  fr := fun c h => (b.fr c (a.pin hb h)).trans (a.fr c h)
  kh := b.kh
/-- what touches no bag is fine with one -/
theorem Nx.of0 {bg : BG} {K H K' H' : Hp} (n : Nx none K H K' H') : Nx bg K H K' H' where
  le := fun a o _ h => n.le a o (fun z => (nomatch z)) h
  bag := fun b c _ ⟨x0, x1, i, cells, h1, h2, h3⟩ => ⟨x0, x1, i, cells, n.le b _ (fun z => nomatch z) h1, n.kk _ _ h2, h3⟩
  kk := n.kk
  fr := n.fr
  kh := n.kh
theorem Nx.of_ex {bg : BG} {K H H' : Hp} (kh : Ex K H) (e : Ex H H') : Nx bg K H K H' :=
  Nx.of0 ⟨fun a o _ h => e a o h, fun _ _ z => (nomatch z), Ex.refl K, fun _ _ => rfl, Ex.trans kh e⟩
/-- a new object, known -/
theorem Nx.new {bg : BG} {K H : Hp} {p : Addr} {o : HO} (kh : Ex K H) (h : H p = none) : Nx bg K H (upd K p o) (upd H p o) := by
  have kp : K p = none := by
    cases q : K p with
    | none => rfl
    | some u => rw [kh p u q] at h; cases h
  refine Nx.of0 ⟨fun a u _ e => ?_, fun _ _ z => (nomatch z), Ex.new kp, fun a e => ?_, fun a u e => ?_⟩
  · rw [upd_ne (ne_of_none e h)]; exact e
  · rw [upd_ne (fun z => by rw [z, h] at e; exact e)]
  · by_cases z : a = p
    · subst z; rw [upd_same] at e ⊢; exact e
    · rw [upd_ne z] at e ⊢; exact kh a u e

/-! ### slots -/
inductive Sl where
  | no | val (d : D) | own (l : List D) | ownT (kvs : List (List Int × D))
def Sl.isOwn : Sl → Bool
  | .own _ => true
  | .ownT _ => true
  | _ => false
abbrev DS := List Sl
/-- the base: what stood at the entry, what was known, the bag -/
structure Bs where
  H0 : Hp
  K0 : Hp
  bg : BG
  c : Addr
def SlOk (F : PySem.W.Frag) (B : Bs) (K H : Hp) (x : Option (Option V)) : Sl → Prop
  | .no => True
  | .val d => ∃ v, x = some (some v) ∧ Rep F K v d
  | .own l => ∃ a vs, x = some (some (.ref a)) ∧ K a = none ∧ B.H0 a = none ∧ B.bg ≠ some a ∧ H a = some (.lst vs) ∧ Reps F K vs l ∧ vs.length ≤ sizeLine
  | .ownT kvs => ∃ a vs, x = some (some (.ref a)) ∧ K a = none ∧ B.H0 a = none ∧ B.bg ≠ some a ∧ H a = some (.dT ((kvs.map fun p => p.1.map Sum.inl).zip vs)) ∧ Reps F K vs (kvs.map (·.2))
structure SE (F : PySem.W.Frag) (B : Bs) (K : Hp) (σ : L2.St) (H : Hp) (ds : DS) : Prop where
  le : ∀ a o, B.bg ≠ some a → B.H0 a = some o → H a = some o
  kk : Ex B.K0 K
  fr : ∀ a, Pin (B.H0 a) → K a = B.K0 a
  kh : Ex K H
  kb : ∀ b, B.bg = some b → K b = none
  bagc : ∀ b, B.bg = some b → BagC K H b B.c
  len : σ.length = ds.length
  env : ∀ (i : Nat) (sl : Sl), ds[i]? = some sl → SlOk F B K H (σ[i]?) sl
  sep : ∀ (i j : Nat) (si sj : Sl) (a : Addr), i ≠ j → ds[i]? = some si → ds[j]? = some sj → si.isOwn = true → sj.isOwn = true → σ[i]? = some (some (.ref a)) → σ[j]? = some (some (.ref a)) → False
section
variable {F : PySem.W.Frag} {B : Bs} {K H K' H' : Hp} {σ : L2.St} {ds : DS}
theorem SE.bag (S : SE F B K σ H ds) : ∀ b, B.bg = some b → Bag K H b := fun b e => ⟨_, S.bagc b e⟩
theorem SE.next (S : SE F B K σ H ds) (n : Nx B.bg K H K' H') : SE F B K' σ H' ds where
  le := fun a o e h => n.le a o e (S.le a o e h)
  kk := Ex.trans S.kk n.kk
  fr := fun a h => by
    by_cases e : B.bg = some a
    · obtain ⟨_, _, _, _, _, h1, _⟩ := S.bag a e
      exact (n.fr a (by rw [h1]; trivial)).trans (S.fr a h)
    · cases q : B.H0 a with
      | none => rw [q] at h; exact h.elim
      | some o => exact (n.fr a (by rw [S.le a o e q]; rw [q] at h; exact h)).trans (S.fr a h)
  kh := n.kh
  kb := fun b e => by
    obtain ⟨_, _, _, _, _, h1, _⟩ := S.bag b e
    exact (n.fr b (by rw [h1]; trivial)).trans (S.kb b e)
  bagc := fun b e => n.bag b _ e (S.bagc b e)
  len := S.len
  env := fun i sl e => by
    have h := S.env i sl e
    cases sl with
    | no => trivial
    | val d =>
      obtain ⟨v, e1, r⟩ := h
      exact ⟨v, e1, r.mono n.kk⟩
    | own l =>
      obtain ⟨a, vs, e1, e2, e3, e4, e5, r, z⟩ := h
      exact ⟨a, vs, e1, (n.fr a (by rw [e5]; trivial)).trans e2, e3, e4, n.le a _ e4 e5, r.mono n.kk, z⟩
    | ownT kvs =>
      obtain ⟨a, vs, e1, e2, e3, e4, e5, r⟩ := h
      exact ⟨a, vs, e1, (n.fr a (by rw [e5]; trivial)).trans e2, e3, e4, n.le a _ e4 e5, r.mono n.kk⟩
  sep := S.sep
/-- a slot gets a value -/
theorem SE.set (S : SE F B K σ H ds) {i : Nat} {v : V} {d : D} (r : Rep F K v d) : SE F B K (σ.set i (some v)) H (ds.set i (.val d)) where
  le := S.le
  kk := S.kk
  fr := S.fr
  kh := S.kh
  kb := S.kb
  bagc := S.bagc
  len := by rw [List.length_set, List.length_set]; exact S.len
  env := fun j sl e => by
    by_cases hj : i = j
    · subst hj
      by_cases hl : i < ds.length
      · rw [List.getElem?_set_self hl] at e
        cases e
        rw [List.getElem?_set_self (by rw [S.len]; exact hl)]
        exact ⟨v, rfl, r⟩
      · rw [List.getElem?_eq_none (by rw [List.length_set]; omega)] at e
        cases e
    · rw [List.getElem?_set_ne hj] at e ⊢
      exact S.env j sl e
  sep := fun j k sj sk a h e1 e2 o1 o2 f1 f2 => by
    by_cases hj : i = j
    · subst hj
      by_cases hl : i < ds.length
      · rw [List.getElem?_set_self hl] at e1
        cases e1
        exact nomatch o1
      · rw [List.getElem?_eq_none (by rw [List.length_set]; omega)] at e1
        cases e1
    · by_cases hk : i = k
      · subst hk
        by_cases hl : i < ds.length
        · rw [List.getElem?_set_self hl] at e2
          cases e2
          exact nomatch o2
        · rw [List.getElem?_eq_none (by rw [List.length_set]; omega)] at e2
          cases e2
      · rw [List.getElem?_set_ne hj] at e1 f1
        rw [List.getElem?_set_ne hk] at e2 f2
        exact S.sep j k sj sk a h e1 e2 o1 o2 f1 f2
/-- what is not yet there was not there at the entry -/
theorem SE.nodom (S : SE F B K σ H ds) {a : Addr} (h : H a = none) : B.H0 a = none := by
  by_cases e : B.bg = some a
  · obtain ⟨_, _, _, _, h1, _⟩ := S.bagc a e
    rw [h] at h1; cases h1
  · cases q : B.H0 a with
    | none => rfl
    | some o => rw [S.le a o e q] at h; cases h
theorem SE.noown (S : SE F B K σ H ds) {a : Addr} (h : H a = none) {j : Nat} {sj : Sl} (e1 : ds[j]? = some sj) (e2 : sj.isOwn = true) (e3 : σ[j]? = some (some (.ref a))) : False := by
  have := S.env j sj e1
  cases sj with
  | no => cases e2
  | val d => cases e2
  | own l =>
    obtain ⟨a', vs, f1, _, _, _, f5, _⟩ := this
    rw [e3] at f1; cases f1
    rw [h] at f5; cases f5
  | ownT l =>
    obtain ⟨a', vs, f1, _, _, _, f5, _⟩ := this
    rw [e3] at f1; cases f1
    rw [h] at f5; cases f5
theorem SE.freshbag (S : SE F B K σ H ds) {a : Addr} (h : H a = none) : B.bg ≠ some a := fun e => by
  obtain ⟨_, _, _, _, h1, _⟩ := S.bagc a e
  rw [h] at h1; cases h1
/-- a slot gets an own object -/
theorem SE.setO (S : SE F B K σ H ds) {i : Nat} {a : Addr} {sl : Sl} (hsl : SlOk F B K H (some (some (.ref a))) sl)
    (no : ∀ (j : Nat) (sj : Sl), j ≠ i → ds[j]? = some sj → sj.isOwn = true → σ[j]? = some (some (.ref a)) → False) : SE F B K (σ.set i (some (.ref a))) H (ds.set i sl) where
  le := S.le
  kk := S.kk
  fr := S.fr
  kh := S.kh
  kb := S.kb
  bagc := S.bagc
  len := by rw [List.length_set, List.length_set]; exact S.len
  env := fun j sl' e => by
    by_cases hj : i = j
    · subst hj
      by_cases hl : i < ds.length
      · rw [List.getElem?_set_self hl] at e
        cases e
        rw [List.getElem?_set_self (by rw [S.len]; exact hl)]
        exact hsl
      · rw [List.getElem?_eq_none (by rw [List.length_set]; omega)] at e
        cases e
    · rw [List.getElem?_set_ne hj] at e ⊢
      exact S.env j sl' e
  sep := fun j k sj sk c h e1 e2 o1 o2 f1 f2 => by
    by_cases hj : i = j
    · subst hj
      have hl : i < σ.length := by
        have := (List.getElem?_eq_some_iff.mp e1).1
        rw [List.length_set] at this
        rw [S.len]; exact this
      rw [List.getElem?_set_self hl] at f1
      cases f1
      rw [List.getElem?_set_ne h] at e2 f2
      exact no k sk (Ne.symm h) e2 o2 f2
    · rw [List.getElem?_set_ne hj] at e1 f1
      by_cases hk : i = k
      · subst hk
        have hl : i < σ.length := by
          have := (List.getElem?_eq_some_iff.mp e2).1
          rw [List.length_set] at this
          rw [S.len]; exact this
        rw [List.getElem?_set_self hl] at f2
        cases f2
        exact no j sj h e1 o1 f1
      · rw [List.getElem?_set_ne hk] at e2 f2
        exact S.sep j k sj sk c h e1 e2 o1 o2 f1 f2
theorem SE.setOwn (S : SE F B K σ H ds) {i : Nat} {a : Addr} {vs : List V} {l : List D} (h1 : K a = none) (h2 : B.H0 a = none) (h3 : B.bg ≠ some a) (h4 : H a = some (.lst vs)) (r : Reps F K vs l) (z : vs.length ≤ sizeLine)
    (no : ∀ (j : Nat) (sj : Sl), j ≠ i → ds[j]? = some sj → sj.isOwn = true → σ[j]? = some (some (.ref a)) → False) : SE F B K (σ.set i (some (.ref a))) H (ds.set i (.own l)) :=
  S.setO ⟨a, vs, rfl, h1, h2, h3, h4, r, z⟩ no
/-- an own object is changed -/
theorem SE.updO (S : SE F B K σ H ds) {i : Nat} {a : Addr} {o : HO} {sl0 sl : Sl} (e : ds[i]? = some sl0) (eo : sl0.isOwn = true) (ea : σ[i]? = some (some (.ref a))) (h1 : K a = none) (h2 : B.H0 a = none) (h3 : B.bg ≠ some a)
    (hsl : SlOk F B K (upd H a o) (some (some (.ref a))) sl) : SE F B K σ (upd H a o) (ds.set i sl) where
  le := fun b u eb hb => by
    rw [upd_ne (fun z => by rw [z, h2] at hb; cases hb)]
    exact S.le b u eb hb
  kk := S.kk
  fr := S.fr
  kh := fun b u hb => by
    rw [upd_ne (fun z => by rw [z, h1] at hb; cases hb)]
    exact S.kh b u hb
  kb := S.kb
  bagc := fun b eb => by
    obtain ⟨x0, x1, i, cells, g1, g2⟩ := S.bagc b eb
    refine ⟨x0, x1, i, cells, ?_, g2⟩
    rw [upd_ne (fun z => h3 (by rw [← z]; exact eb))]
    exact g1
  len := by rw [List.length_set]; exact S.len
  env := fun j sl' e' => by
    by_cases hj : i = j
    · subst hj
      rw [List.getElem?_set_self (List.getElem?_eq_some_iff.mp e).1] at e'
      cases e'
      rw [ea]
      exact hsl
    · rw [List.getElem?_set_ne hj] at e'
      have h := S.env j sl' e'
      cases sl' with
      | no => trivial
      | val d => exact h
      | own l =>
        obtain ⟨a', vs, f1, f2, f3, f4, f5, r, z⟩ := h
        refine ⟨a', vs, f1, f2, f3, f4, ?_, r, z⟩
        rw [upd_ne (fun q => S.sep i j _ _ a hj e e' eo rfl ea (by rw [← q]; exact f1))]
        exact f5
      | ownT l =>
        obtain ⟨a', vs, f1, f2, f3, f4, f5, r⟩ := h
        refine ⟨a', vs, f1, f2, f3, f4, ?_, r⟩
        rw [upd_ne (fun q => S.sep i j _ _ a hj e e' eo rfl ea (by rw [← q]; exact f1))]
        exact f5
  sep := fun j k sj sk c h e1 e2 o1 o2 f1 f2 => by
    have go : ∀ (j : Nat) (sj : Sl), (ds.set i sl)[j]? = some sj → sj.isOwn = true → ∃ s', ds[j]? = some s' ∧ s'.isOwn = true := fun j sj e1 o1 => by
      by_cases hj : i = j
      · subst hj; exact ⟨_, e, eo⟩
      · rw [List.getElem?_set_ne hj] at e1; exact ⟨_, e1, o1⟩
    obtain ⟨s1, g1, p1⟩ := go j sj e1 o1
    obtain ⟨s2, g2, p2⟩ := go k sk e2 o2
    exact S.sep j k s1 s2 c h g1 g2 p1 p2 f1 f2
/-- an own list gets known -/
theorem SE.freeze (S : SE F B K σ H ds) {i : Nat} {l : List D} (e : ds[i]? = some (.own l)) : ∃ a vs, σ[i]? = some (some (.ref a)) ∧ K a = none ∧ B.H0 a = none ∧ B.bg ≠ some a ∧ H a = some (.lst vs) ∧ SE F B (upd K a (.lst vs)) σ H (ds.set i (.val (.lst l))) := by
  obtain ⟨a, vs, f1, f2, f3, f4, f5, r, z⟩ := S.env i _ e
  refine ⟨a, vs, f1, f2, f3, f4, f5, ⟨S.le, Ex.trans S.kk (Ex.new f2), fun b hb => ?_, fun b o eb => ?_, fun b eb => ?_, fun b eb => ?_, by rw [List.length_set]; exact S.len, fun j sl' e' => ?_, fun j k sj sk c h e1 e2 o1 o2 g1 g2 => ?_⟩⟩
  · rw [upd_ne (fun z => by rw [z, f3] at hb; exact hb)]
    exact S.fr b hb
  · by_cases z : b = a
    · subst z; rw [upd_same] at eb; cases eb; exact f5
    · rw [upd_ne z] at eb; exact S.kh b o eb
  · rw [upd_ne (fun z => f4 (by rw [← z]; exact eb))]
    exact S.kb b eb
  · obtain ⟨x0, x1, i, cells, g1, g2, g3⟩ := S.bagc b eb
    exact ⟨x0, x1, i, cells, g1, Ex.new f2 _ _ g2, g3⟩
  · by_cases hj : i = j
    · subst hj
      rw [List.getElem?_set_self (List.getElem?_eq_some_iff.mp e).1] at e'
      cases e'
      exact ⟨_, f1, .lst a vs l z upd_same (r.mono (Ex.new f2))⟩
    · rw [List.getElem?_set_ne hj] at e'
      have h := S.env j sl' e'
      cases sl' with
      | no => trivial
      | val d =>
        obtain ⟨v, e1, r⟩ := h
        exact ⟨v, e1, r.mono (Ex.new f2)⟩
      | own l =>
        obtain ⟨a', vs', k1, k2, k3, k4, k5, r, z⟩ := h
        refine ⟨a', vs', k1, ?_, k3, k4, k5, r.mono (Ex.new f2), z⟩
        rw [upd_ne (fun q => S.sep i j _ _ a hj e e' rfl rfl f1 (by rw [← q]; exact k1))]
        exact k2
      | ownT l =>
        obtain ⟨a', vs', k1, k2, k3, k4, k5, r⟩ := h
        refine ⟨a', vs', k1, ?_, k3, k4, k5, r.mono (Ex.new f2)⟩
        rw [upd_ne (fun q => S.sep i j _ _ a hj e e' rfl rfl f1 (by rw [← q]; exact k1))]
        exact k2
  · have go : ∀ (j : Nat) (sj : Sl), (ds.set i (.val (.lst l)))[j]? = some sj → sj.isOwn = true → ds[j]? = some sj := fun j sj e1 o1 => by
      by_cases hj : i = j
      · subst hj
        rw [List.getElem?_set_self (List.getElem?_eq_some_iff.mp e).1] at e1
        cases e1; cases o1
      · rwa [List.getElem?_set_ne hj] at e1
    exact S.sep j k sj sk c h (go j sj e1 o1) (go k sk e2 o2) o1 o2 g1 g2
end
end K8
set_option Elab.async false
set_option linter.all false
set_option maxRecDepth 100000
set_option maxHeartbeats 4000000
namespace K8
open PySem PySem.Spec PyProof.Rows L2
open Evl (Ex ex_l ex_t ex_rd)

/-! ### readings without a heap -/
abbrev DE := BG → DS → (D → Prop) → Prop
abbrev DT := BG → DS → (Bool → Prop) → Prop
abbrev DA := BG → DS → (List D → Prop) → Prop
abbrev DG := D → DS → (DS → Prop) → Prop
structure DEn where
  nx : DS → Prop
  rt : D → Prop
  bk : DS → Prop := fun _ => False
  ct : DS → Prop := fun _ => False
abbrev DSm := BG → DEn → DS → Prop
def up (F : PySem.W.Frag) (f : DE) : TE := fun σ H Q => ∃ B K ds, SE F B K σ H ds ∧ f B.bg ds fun d => ∀ v K' H', Nx B.bg K H K' H' → Rep F K' v d → Q v H'
def upT (F : PySem.W.Frag) (f : DT) : TT := fun σ H Q => ∃ B K ds, SE F B K σ H ds ∧ f B.bg ds fun b => ∀ K' H', Nx B.bg K H K' H' → Q b H'
def upA (F : PySem.W.Frag) (f : DA) : TA := fun σ H Q => ∃ B K ds, SE F B K σ H ds ∧ f B.bg ds fun l => ∀ vs K' H', Nx B.bg K H K' H' → Reps F K' vs l → Q vs H'
/-- J gives the items, one a turn -/
def Walks (F : PySem.W.Frag) (J : It) (K0 : Hp) (items : List D) : Prop := ∀ K H, Ex K0 K → Ex K H →
  (∀ (i : Nat) d, items[i]? = some d → J.go i H ∧ ∀ x H', J.yld i H x H' → ∃ K', Nx none K H K' H' ∧ Rep F K' x d) ∧ (∀ i : Nat, i = items.length → J.stop i H)
def upI (F : PySem.W.Frag) (f : DA) : TI := fun σ H R => ∃ B K ds, SE F B K σ H ds ∧ f B.bg ds fun l => ∀ J K' H', Nx B.bg K H K' H' → Walks F J K' l → l.length ≤ sizeLine → R J H'
def upG (F : PySem.W.Frag) (g : DG) (vs : List Nat) : TG := fun x σ H R => ∃ B K ds d, SE F B K σ H ds ∧ Rep F K x d ∧ g d ds fun ds' => ∀ σ', SE F B K σ' H ds' → σ'.length = σ.length → (∀ j : Nat, j ∉ vs → σ'[j]? = σ[j]?) → R σ' H
def enOf (F : PySem.W.Frag) (B : Bs) (D : Ends) : DEn where
  nx := fun ds' => ∀ σ' K' H', SE F B K' σ' H' ds' → D.nx σ' H'
  rt := fun d => ∀ v σ' K' H' ds', SE F B K' σ' H' ds' → Rep F K' v d → D.rt v H'
  bk := fun ds' => ∀ σ' K' H', SE F B K' σ' H' ds' → D.bk σ' H'
  ct := fun ds' => ∀ σ' K' H', SE F B K' σ' H' ds' → D.ct σ' H'
def upS (F : PySem.W.Frag) (f : DSm) : TS := fun D σ H => ∃ B K ds, SE F B K σ H ds ∧ f B.bg (enOf F B D) ds

structure PX (X : Cx) (e : Expr) (f : DE) : Prop where
  pe : PE X e (up X.K f)
  mono : ∀ bg ds P P', (∀ d, P d → P' d) → f bg ds P → f bg ds P'
structure PXT (X : Cx) (e : Expr) (f : DT) : Prop where
  pt : PT X e (upT X.K f)
  mono : ∀ bg ds P P', (∀ d, P d → P' d) → f bg ds P → f bg ds P'
structure PXW (X : Cx) (e : Expr) (f : DT) : Prop where
  pw : PW X e (upT X.K f)
  mono : ∀ bg ds P P', (∀ d, P d → P' d) → f bg ds P → f bg ds P'
structure PXA (X : Cx) (es : List Expr) (f : DA) : Prop where
  pa : PA X es (upA X.K f)
  mono : ∀ bg ds P P', (∀ d, P d → P' d) → f bg ds P → f bg ds P'
structure PXI (X : Cx) (tg it : Expr) (f : DA) : Prop where
  pi : PI X tg it (upI X.K f)
  mono : ∀ bg ds P P', (∀ d, P d → P' d) → f bg ds P → f bg ds P'
structure PXG (X : Cx) (tg : Expr) (g : DG) (vs : List Nat) : Prop where
  pg : PG X tg (upG X.K g vs)
  mono : ∀ d ds P P', (∀ d, P d → P' d) → g d ds P → g d ds P'
structure DEn.Le (E E' : DEn) : Prop where
  nx : ∀ ds, E.nx ds → E'.nx ds
  rt : ∀ d, E.rt d → E'.rt d
  bk : ∀ ds, E.bk ds → E'.bk ds
  ct : ∀ ds, E.ct ds → E'.ct ds
structure PXS (X : Cx) (st : Stmt) (f : DSm) : Prop where
  ps : PS X st (upS X.K f)
  mono : ∀ bg E E' ds, DEn.Le E E' → f bg E ds → f bg E' ds
structure PXSs (X : Cx) (st : List Stmt) (f : DSm) : Prop where
  pss : PSs X st (upS X.K f)
  mono : ∀ bg E E' ds, DEn.Le E E' → f bg E ds → f bg E' ds

theorem _root_.L2.PE.weak {X : Cx} {e : Expr} {t t' : TE} (h : PE X e t) (w : ∀ σ H Q, t' σ H Q → t σ H Q) : PE X e t' := ⟨fun pins s σ H Q I q => h.run pins s σ H Q I (w _ _ _ q)⟩
theorem _root_.L2.PT.weak {X : Cx} {e : Expr} {t t' : TT} (h : PT X e t) (w : ∀ σ H Q, t' σ H Q → t σ H Q) : PT X e t' := ⟨fun pins s σ H Q I q => h.run pins s σ H Q I (w _ _ _ q)⟩
theorem _root_.L2.PW.weak {X : Cx} {e : Expr} {t t' : TT} (h : PW X e t) (w : ∀ σ H Q, t' σ H Q → t σ H Q) : PW X e t' := ⟨fun wh pins s σ H Q I q => h.run wh pins s σ H Q I (w _ _ _ q)⟩
theorem _root_.L2.PA.weak {X : Cx} {e : List Expr} {t t' : TA} (h : PA X e t) (w : ∀ σ H Q, t' σ H Q → t σ H Q) : PA X e t' := ⟨fun pos pins s σ H Q I q => h.run pos pins s σ H Q I (w _ _ _ q)⟩
theorem _root_.L2.PI.weak {X : Cx} {tg e : Expr} {t t' : TI} (h : PI X tg e t) (w : ∀ σ H Q, t' σ H Q → t σ H Q) : PI X tg e t' := ⟨fun pins s σ H Q I q => h.run pins s σ H Q I (w _ _ _ q)⟩
theorem _root_.L2.PG.weak {X : Cx} {e : Expr} {t t' : TG} (h : PG X e t) (w : ∀ x σ H Q, t' x σ H Q → t x σ H Q) : PG X e t' := ⟨fun pins s σ H v u Q I r q => h.run pins s σ H v u Q I r (w _ _ _ _ q)⟩
theorem _root_.L2.PS.weak {X : Cx} {e : Stmt} {t t' : TS} (h : PS X e t) (w : ∀ D σ H, t' D σ H → t D σ H) : PS X e t' := ⟨fun pins s σ H D I q => h.run pins s σ H D I (w _ _ _ q)⟩
theorem _root_.L2.PSs.weak {X : Cx} {e : List Stmt} {t t' : TS} (h : PSs X e t) (w : ∀ D σ H, t' D σ H → t D σ H) : PSs X e t' := ⟨fun pins s σ H D I q => h.run pins s σ H D I (w _ _ _ q)⟩

section
variable {X : Cx} {a b c e : Expr} {fa fb fc fe : DE} {pos : Pos}
/-! ### names, constants -/
@[simp] def dV (i : Nat) : DE := fun _ ds P => ∃ d, ds[i]? = some (.val d) ∧ P d
@[simp] def dC (d : D) : DE := fun _ _ P => P d
theorem x_var {i : Nat} (h : PE X e (tVar i)) : PX X e (dV i) := by
  refine ⟨h.weak fun σ H Q q => ?_, fun _ _ _ _ m ⟨d, e, p⟩ => ⟨d, e, m d p⟩⟩
  obtain ⟨B, K, ds, S, d, e, p⟩ := q
  obtain ⟨v, e1, r⟩ := S.env i _ e
  exact ⟨v, e1, p v K H (Nx.refl S.kh) r⟩
theorem x_c {v : V} {d : D} (h : PE X e (tC v)) (r : ∀ K, Rep X.K K v d) : PX X e (dC d) := by
  refine ⟨h.weak fun σ H Q q => ?_, fun _ _ _ _ m p => m d p⟩
  obtain ⟨B, K, ds, S, p⟩ := q
  exact p v K H (Nx.refl S.kh) (r K)
theorem x_int {i : Int} {j : Nat} : PX X (.Constant (.int i) j pos) (dC (.int i)) := x_c pe_int fun _ => .int i
theorem x_str {x : Str} {j : Nat} : PX X (.Constant (.str x) j pos) (dC (.str x)) := x_c pe_str fun _ => .str x
theorem x_bl {k : Bool} {j : Nat} : PX X (.Constant (.bool k) j pos) (dC (.bl k)) := x_c pe_bl fun _ => .bl k
theorem x_non {j : Nat} : PX X (.Constant .none j pos) (dC .non) := x_c pe_non fun _ => .non

/-! ### two-place operations -/
/-- r of values is R of data -/
def R2d (F : PySem.W.Frag) (r : R2) (R : D → D → D → Prop) : Prop := ∀ K H x y dx dy z (Q : VK), Ex K H → Rep F K x dx → Rep F K y dy → R dx dy z → (∀ v K' H', Nx none K H K' H' → Rep F K' v z → Q v H') → r x y H Q
@[simp] def dOp (R : D → D → D → Prop) (fa fb : DE) : DE := fun bg ds P => fa bg ds fun x => fb bg ds fun y => ∃ z, R x y z ∧ P z
theorem op_up {r : R2} {R : D → D → D → Prop} (hr : R2d X.K r R) (ha : PX X a fa) (hb : PX X b fb) {σ : L2.St} {H : Hp} {Q : VK} (q : up X.K (dOp R fa fb) σ H Q) : tOp r (up X.K fa) (up X.K fb) σ H Q := by
  obtain ⟨B, K, ds, S, p⟩ := q
  refine ⟨B, K, ds, S, ha.mono _ _ _ _ (fun x px v K1 H1 n1 r1 => ?_) p⟩
  have S1 := S.next n1
  refine ⟨B, K1, ds, S1, hb.mono _ _ _ _ (fun y py w K2 H2 n2 r2 => ?_) px⟩
  obtain ⟨z, hz, pz⟩ := py
  exact hr K2 H2 v w x y z Q n2.kh (r1.mono n2.kk) r2 hz fun u K3 H3 n3 r3 => pz u K3 H3 (Nx.trans S.bag n1 (Nx.trans S1.bag n2 (Nx.of0 n3))) r3
theorem dOp_mono {R : D → D → D → Prop} (ha : PX X a fa) (hb : PX X b fb) : ∀ bg ds P P', (∀ d, P d → P' d) → dOp R fa fb bg ds P → dOp R fa fb bg ds P' := fun bg ds P P' m p =>
  ha.mono _ _ _ _ (fun x px => hb.mono _ _ _ _ (fun y py => let ⟨z, h, q⟩ := py; ⟨z, h, m z q⟩) px) p
theorem x_op {op : Operator} {r : R2} {R : D → D → D → Prop} (ho : OpR X (binaryOp op) r) (hr : R2d X.K r R) (ha : PX X a fa) (hb : PX X b fb) : PX X (.BinOp a op b pos) (dOp R fa fb) :=
  ⟨(pe_op ho ha.pe hb.pe).weak fun σ H Q q => op_up hr ha hb q, dOp_mono ha hb⟩
theorem x_cmp {op : CmpOp} {r : R2} {R : D → D → D → Prop} (ho : OpR X (compareOp op) r) (hr : R2d X.K r R) (ha : PX X a fa) (hb : PX X b fb) (hm : behindInMarks op b = false) : PX X (.Compare a [op] [b] pos) (dOp R fa fb) :=
  ⟨(pe_cmpR ho ha.pe hb.pe hm).weak fun σ H Q q => op_up hr ha hb q, dOp_mono ha hb⟩
/-- a value that is a bool, as a test -/
@[simp] def dTst (fa : DE) : DT := fun bg ds P => fa bg ds fun x => ∃ b, x = .bl b ∧ P b
theorem dTst_mono (ha : PX X a fa) : ∀ bg ds P P', (∀ d, P d → P' d) → dTst fa bg ds P → dTst fa bg ds P' := fun bg ds P P' m p =>
  ha.mono _ _ _ _ (fun x ⟨b, e, q⟩ => ⟨b, e, m b q⟩) p
theorem tst_up {t : TE} {σ : L2.St} {H : Hp} {Q : Bool → Hp → Prop} (ha : PX X a fa) (w : ∀ Q', up X.K fa σ H Q' → t σ H Q') (q : upT X.K (dTst fa) σ H Q) : t σ H fun x H' => ∃ k, x = .bl k ∧ Q k H' := by
  obtain ⟨B, K, ds, S, p⟩ := q
  refine w _ ⟨B, K, ds, S, ha.mono _ _ _ _ (fun x px v K1 H1 n1 r1 => ?_) p⟩
  obtain ⟨b, rfl, px⟩ := px
  cases r1
  exact ⟨b, rfl, px K1 H1 n1⟩
theorem xt_cmp {op : CmpOp} {r : R2} {R : D → D → D → Prop} (ho : OpR X (compareOp op) r) (hr : R2d X.K r R) (ha : PX X a fa) (hb : PX X b fb) (hm : behindInMarks op b = false) : PXT X (.Compare a [op] [b] pos) (dTst (dOp R fa fb)) :=
  ⟨(pt_cmpR ho ha.pe hb.pe hm).weak fun σ H Q q => tst_up (x_cmp (pos := pos) ho hr ha hb hm) (fun Q' z => op_up hr ha hb z) q, dTst_mono (x_cmp (pos := pos) ho hr ha hb hm)⟩
theorem xt_val (ha : PX X a fa) (he : ∀ whole, isTrue a X.env whole = (do let v ← whole; standAt a.pos; holding [v] (truthy v)) := by intro _; rfl) : PXT X a (dTst fa) :=
  ⟨(pt_val ha.pe he).weak fun σ H Q q => tst_up ha (fun _ z => z) q, dTst_mono ha⟩
/-- a unary operation -/
def U1d (F : PySem.W.Frag) (r : V → Hp → VK → Prop) (R : D → D → Prop) : Prop := ∀ K H x dx z (Q : VK), Ex K H → Rep F K x dx → R dx z → (∀ v K' H', Nx none K H K' H' → Rep F K' v z → Q v H') → r x H Q
@[simp] def dUn (R : D → D → Prop) (fa : DE) : DE := fun bg ds P => fa bg ds fun x => ∃ z, R x z ∧ P z
theorem dUn_mono {R : D → D → Prop} (ha : PX X a fa) : ∀ bg ds P P', (∀ d, P d → P' d) → dUn R fa bg ds P → dUn R fa bg ds P' := fun bg ds P P' m p =>
  ha.mono _ _ _ _ (fun x ⟨z, h, q⟩ => ⟨z, h, m z q⟩) p
theorem un_up {r : V → Hp → VK → Prop} {R : D → D → Prop} (hr : U1d X.K r R) (ha : PX X a fa) {σ : L2.St} {H : Hp} {Q : VK} (q : up X.K (dUn R fa) σ H Q) : (up X.K fa) σ H fun x H1 => r x H1 Q := by
  obtain ⟨B, K, ds, S, p⟩ := q
  refine ⟨B, K, ds, S, ha.mono _ _ _ _ (fun x px v K1 H1 n1 r1 => ?_) p⟩
  obtain ⟨z, hz, pz⟩ := px
  exact hr K1 H1 v x z Q n1.kh r1 hz fun u K3 H3 n3 r3 => pz u K3 H3 (Nx.trans S.bag n1 (Nx.of0 n3)) r3
theorem x_un {op : UnaryOp} {r : V → Hp → VK → Prop} {R : D → D → Prop} (ho : UnR X (unaryOp op) r) (hr : U1d X.K r R) (ha : PX X a fa) : PX X (.UnaryOp op a pos) (dUn R fa) :=
  ⟨(pe_un ho ha.pe).weak fun σ H Q q => un_up hr ha q, dUn_mono ha⟩

/-! ### and, or, not, if -/
variable {ta tb : DT} {rest : List Expr}
@[simp] def dAnd (ta tb : DT) : DT := fun bg ds P => ta bg ds fun c => if c = true then tb bg ds P else P false
@[simp] def dOr (ta tb : DT) : DT := fun bg ds P => ta bg ds fun c => if c = true then P true else tb bg ds P
@[simp] def dNot (ta : DT) : DT := fun bg ds P => ta bg ds fun c => P (!c)
theorem PXW.xt (h : PXW X a ta) : PXT X a ta := ⟨PW.pt h.pw, h.mono⟩
theorem xw_and1 (ha : PXT X a ta) : PXW X (.BoolOp .And [a] pos) ta := ⟨pw_and1 ha.pt, ha.mono⟩
theorem xw_or1 (ha : PXT X a ta) : PXW X (.BoolOp .Or [a] pos) ta := ⟨pw_or1 ha.pt, ha.mono⟩
theorem xw_and (ha : PXT X a ta) (hb : PXW X (.BoolOp .And (b :: rest) pos) tb) : PXW X (.BoolOp .And (a :: b :: rest) pos) (dAnd ta tb) := by
  refine ⟨(pw_and ha.pt hb.pw).weak fun σ H Q q => ?_, fun bg ds P P' m p => ha.mono _ _ _ _ (fun c pc => ?_) p⟩
  · obtain ⟨B, K, ds, S, p⟩ := q
    refine ⟨B, K, ds, S, ha.mono _ _ _ _ (fun c pc K1 H1 n1 => ?_) p⟩
    cases c with
    | false => exact pc K1 H1 n1
    | true => exact ⟨B, K1, ds, S.next n1, hb.mono _ _ _ _ (fun d pd K2 H2 n2 => pd K2 H2 (Nx.trans S.bag n1 n2)) pc⟩
  · cases c with
    | false => exact m _ pc
    | true => exact hb.mono _ _ _ _ m pc
theorem xw_or (ha : PXT X a ta) (hb : PXW X (.BoolOp .Or (b :: rest) pos) tb) : PXW X (.BoolOp .Or (a :: b :: rest) pos) (dOr ta tb) := by
  refine ⟨(pw_or ha.pt hb.pw).weak fun σ H Q q => ?_, fun bg ds P P' m p => ha.mono _ _ _ _ (fun c pc => ?_) p⟩
  · obtain ⟨B, K, ds, S, p⟩ := q
    refine ⟨B, K, ds, S, ha.mono _ _ _ _ (fun c pc K1 H1 n1 => ?_) p⟩
    cases c with
    | true => exact pc K1 H1 n1
    | false => exact ⟨B, K1, ds, S.next n1, hb.mono _ _ _ _ (fun d pd K2 H2 n2 => pd K2 H2 (Nx.trans S.bag n1 n2)) pc⟩
  · cases c with
    | true => exact m _ pc
    | false => exact hb.mono _ _ _ _ m pc
theorem xt_not (ha : PXT X a ta) : PXT X (.UnaryOp .Not a pos) (dNot ta) :=
  ⟨(pt_not ha.pt).weak fun σ H Q q => q, fun bg ds P P' m p => ha.mono _ _ _ _ (fun c pc => m _ pc) p⟩
/-- bools as values -/
@[simp] def dAndV (fa fb : DE) : DE := fun bg ds P => fa bg ds fun x => ∃ c, x = .bl c ∧ if c = true then fb bg ds P else P (.bl false)
@[simp] def dOrV (fa fb : DE) : DE := fun bg ds P => fa bg ds fun x => ∃ c, x = .bl c ∧ if c = true then P (.bl true) else fb bg ds P
@[simp] def dNotV (fa : DE) : DE := fun bg ds P => fa bg ds fun x => ∃ c, x = .bl c ∧ P (.bl (!c))
theorem x_one {op} (h : PX X a fa) : PX X (.BoolOp op [a] pos) fa := ⟨pe_one h.pe, h.mono⟩
theorem x_and (ha : PX X a fa) (hb : PX X (.BoolOp .And (b :: rest) pos) fb) : PX X (.BoolOp .And (a :: b :: rest) pos) (dAndV fa fb) := by
  refine ⟨(pe_and ha.pe hb.pe).weak fun σ H Q q => ?_, fun bg ds P P' m p => ha.mono _ _ _ _ (fun x ⟨c, e, pc⟩ => ⟨c, e, ?_⟩) p⟩
  · obtain ⟨B, K, ds, S, p⟩ := q
    refine ⟨B, K, ds, S, ha.mono _ _ _ _ (fun x pc v K1 H1 n1 r => ?_) p⟩
    obtain ⟨c, rfl, pc⟩ := pc
    cases r
    refine ⟨c, rfl, ?_⟩
    cases c with
    | false => exact pc _ K1 H1 n1 (.bl false)
    | true => exact ⟨B, K1, ds, S.next n1, hb.mono _ _ _ _ (fun d pd v K2 H2 n2 r2 => pd v K2 H2 (Nx.trans S.bag n1 n2) r2) pc⟩
  · cases c with
    | false => exact m _ pc
    | true => exact hb.mono _ _ _ _ m pc
theorem x_or (ha : PX X a fa) (hb : PX X (.BoolOp .Or (b :: rest) pos) fb) : PX X (.BoolOp .Or (a :: b :: rest) pos) (dOrV fa fb) := by
  refine ⟨(pe_or ha.pe hb.pe).weak fun σ H Q q => ?_, fun bg ds P P' m p => ha.mono _ _ _ _ (fun x ⟨c, e, pc⟩ => ⟨c, e, ?_⟩) p⟩
  · obtain ⟨B, K, ds, S, p⟩ := q
    refine ⟨B, K, ds, S, ha.mono _ _ _ _ (fun x pc v K1 H1 n1 r => ?_) p⟩
    obtain ⟨c, rfl, pc⟩ := pc
    cases r
    refine ⟨c, rfl, ?_⟩
    cases c with
    | true => exact pc _ K1 H1 n1 (.bl true)
    | false => exact ⟨B, K1, ds, S.next n1, hb.mono _ _ _ _ (fun d pd v K2 H2 n2 r2 => pd v K2 H2 (Nx.trans S.bag n1 n2) r2) pc⟩
  · cases c with
    | true => exact m _ pc
    | false => exact hb.mono _ _ _ _ m pc
theorem x_not (ha : PX X a fa) : PX X (.UnaryOp .Not a pos) (dNotV fa) := by
  refine ⟨(pe_not ha.pe).weak fun σ H Q q => ?_, fun bg ds P P' m p => ha.mono _ _ _ _ (fun x ⟨c, e, pc⟩ => ⟨c, e, m _ pc⟩) p⟩
  obtain ⟨B, K, ds, S, p⟩ := q
  refine ⟨B, K, ds, S, ha.mono _ _ _ _ (fun x pc v K1 H1 n1 r => ?_) p⟩
  obtain ⟨c, rfl, pc⟩ := pc
  cases r
  exact ⟨c, rfl, pc _ K1 H1 n1 (.bl _)⟩
@[simp] def dIf (t : DT) (fa fb : DE) : DE := fun bg ds P => t bg ds fun c => if c = true then fa bg ds P else fb bg ds P
theorem x_if {t : DT} (ht : PXT X c t) (ha : PX X a fa) (hb : PX X b fb) : PX X (.IfExp c a b pos) (dIf t fa fb) := by
  refine ⟨(pe_ifExp ht.pt ha.pe hb.pe).weak fun σ H Q q => ?_, fun bg ds P P' m p => ht.mono _ _ _ _ (fun c pc => ?_) p⟩
  · obtain ⟨B, K, ds, S, p⟩ := q
    refine ⟨B, K, ds, S, ht.mono _ _ _ _ (fun d pc K1 H1 n1 => ?_) p⟩
    cases d with
    | true => exact ⟨B, K1, ds, S.next n1, ha.mono _ _ _ _ (fun d pd v K2 H2 n2 r2 => pd v K2 H2 (Nx.trans S.bag n1 n2) r2) pc⟩
    | false => exact ⟨B, K1, ds, S.next n1, hb.mono _ _ _ _ (fun d pd v K2 H2 n2 r2 => pd v K2 H2 (Nx.trans S.bag n1 n2) r2) pc⟩
  · cases c with
    | true => exact ha.mono _ _ _ _ m pc
    | false => exact hb.mono _ _ _ _ m pc

/-! ### argument lists, displays -/
variable {es : List Expr} {f : DA}
@[simp] def dNil : DA := fun _ _ P => P []
@[simp] def dCons (fa : DE) (f : DA) : DA := fun bg ds P => fa bg ds fun x => f bg ds fun l => P (x :: l)
@[simp] def dStar (fa : DE) (f : DA) : DA := fun bg ds P => fa bg ds fun x => ∃ m, (x = .lst m ∨ IsT x m) ∧ f bg ds fun l => P (m ++ l)
theorem xa_nil : PXA X [] dNil := by
  refine ⟨pa_nil.weak fun σ H Q q => ?_, fun _ _ _ _ m p => m _ p⟩
  obtain ⟨B, K, ds, S, p⟩ := q
  exact p [] K H (Nx.refl S.kh) .nil
theorem xa_cons (ha : PX X e fe) (hr : PXA X es f) (hs : starEach (e :: es) X.env = (false, eval e X.env) :: starEach es X.env := by rfl) : PXA X (e :: es) (dCons fe f) := by
  refine ⟨(pa_cons ha.pe hr.pa hs).weak fun σ H Q q => ?_, fun bg ds P P' m p => ha.mono _ _ _ _ (fun x px => hr.mono _ _ _ _ (fun l pl => m _ pl) px) p⟩
  obtain ⟨B, K, ds, S, p⟩ := q
  refine ⟨B, K, ds, S, ha.mono _ _ _ _ (fun x px v K1 H1 n1 r1 => ?_) p⟩
  refine ⟨B, K1, ds, S.next n1, hr.mono _ _ _ _ (fun l pl vs K2 H2 n2 r2 => ?_) px⟩
  exact pl (v :: vs) K2 H2 (Nx.trans S.bag n1 n2) (.cons _ _ _ _ (r1.mono n2.kk) r2)
theorem xa_star {p' : Pos} (ha : PX X e fe) (hr : PXA X es f) (hs : starEach (.Starred e p' :: es) X.env = (true, eval e X.env) :: starEach es X.env := by rfl) : PXA X (.Starred e p' :: es) (dStar fe f) := by
  refine ⟨(StX.pa_star ha.pe hr.pa hs).weak fun σ H Q q => ?_, fun bg ds P P' m p => ha.mono _ _ _ _ (fun x ⟨k, e, px⟩ => ⟨k, e, hr.mono _ _ _ _ (fun l pl => m _ pl) px⟩) p⟩
  obtain ⟨B, K, ds, S, p⟩ := q
  refine ⟨B, K, ds, S, ha.mono _ _ _ _ (fun x px v K1 H1 n1 r1 => ?_) p⟩
  obtain ⟨k, e, px⟩ := px
  have go : ∀ (q : Addr) (xs : List V), v = V.ref q → (SqT X.K H1 q xs ∨ SqL X.K H1 q xs) → Reps X.K K1 xs k → ∃ p xs, v = V.ref p ∧ (SqT X.K H1 p xs ∨ SqL X.K H1 p xs) ∧ upA X.K f σ H1 fun ys H2 => Q (xs ++ ys) H2 := fun q xs ev hq rq =>
    ⟨q, xs, ev, hq, B, K1, ds, S.next n1, hr.mono _ _ _ _ (fun l pl vs K2 H2 n2 r2 => pl (xs ++ vs) K2 H2 (Nx.trans S.bag n1 n2) ((rq.mono n2.kk).append r2)) px⟩
  rcases e with rfl | e
  · obtain ⟨a, vs, ev, h, r, z⟩ := r1.seqL n1.kh
    exact go a vs ev (.inr (.inl (.inl h))) r
  · obtain ⟨a, vs, ev, h, r, z⟩ := r1.seqT n1.kh e
    exact go a vs ev (.inl h) r
@[simp] def dTup (f : DA) : DE := fun bg ds P => f bg ds fun l => l.length ≤ sizeLine ∧ P (.tup l)
@[simp] def dLst (f : DA) : DE := fun bg ds P => f bg ds fun l => l.length ≤ sizeLine ∧ P (.lst l)
theorem x_tup {x1} (h : PXA X es f) : PX X (.Tuple es x1 pos) (dTup f) := by
  refine ⟨(pe_tup h.pa).weak fun σ H Q q => ?_, fun bg ds P P' m p => h.mono _ _ _ _ (fun l ⟨z, q⟩ => ⟨z, m _ q⟩) p⟩
  obtain ⟨B, K, ds, S, p⟩ := q
  refine ⟨B, K, ds, S, h.mono _ _ _ _ (fun l ⟨z, q⟩ vs K1 H1 n1 r1 => ?_) p⟩
  refine ⟨by rw [r1.length]; exact z, fun p hp => ?_⟩
  have n2 : Nx B.bg K1 H1 (upd K1 p (.tup vs)) (upd H1 p (.tup vs)) := Nx.new n1.kh hp
  exact q _ _ _ (Nx.trans S.bag n1 n2) (.tup p vs l (by rw [r1.length]; exact z) upd_same (r1.mono n2.kk))
theorem x_lst (h : PXA X es f) : PX X (.List es pos) (dLst f) := by
  refine ⟨(pe_lst h.pa).weak fun σ H Q q => ?_, fun bg ds P P' m p => h.mono _ _ _ _ (fun l ⟨z, q⟩ => ⟨z, m _ q⟩) p⟩
  obtain ⟨B, K, ds, S, p⟩ := q
  refine ⟨B, K, ds, S, h.mono _ _ _ _ (fun l ⟨z, q⟩ vs K1 H1 n1 r1 => ?_) p⟩
  refine ⟨by rw [r1.length]; exact z, fun p hp => ?_⟩
  have n2 : Nx B.bg K1 H1 (upd K1 p (.lst vs)) (upd H1 p (.lst vs)) := Nx.new n1.kh hp
  exact q _ _ _ (Nx.trans S.bag n1 n2) (.lst p vs l (by rw [r1.length]; exact z) upd_same (r1.mono n2.kk))

/-! ### calls of what is known by values -/
def C1d (F : PySem.W.Frag) (r : List V → Hp → VK → Prop) (R : List D → D → Prop) : Prop := ∀ K H xs l z (Q : VK), Ex K H → Reps F K xs l → R l z → (∀ v K' H', Nx none K H K' H' → Rep F K' v z → Q v H') → r xs H Q
@[simp] def dCB (R : List D → D → Prop) (f : DA) : DE := fun bg ds P => f bg ds fun l => ∃ z, R l z ∧ P z
theorem cb_mono {R : List D → D → Prop} (h : PXA X es f) : ∀ bg ds P P', (∀ d, P d → P' d) → dCB R f bg ds P → dCB R f bg ds P' := fun bg ds P P' m p => h.mono _ _ _ _ (fun l ⟨z, e, q⟩ => ⟨z, e, m _ q⟩) p
theorem cb_up {r : List V → Hp → VK → Prop} {R : List D → D → Prop} (hr : C1d X.K r R) (h : PXA X es f) {σ : L2.St} {H : Hp} {Q : VK} (q : up X.K (dCB R f) σ H Q) : (upA X.K f) σ H fun xs H1 => r xs H1 Q := by
  obtain ⟨B, K, ds, S, p⟩ := q
  refine ⟨B, K, ds, S, h.mono _ _ _ _ (fun l px vs K1 H1 n1 r1 => ?_) p⟩
  obtain ⟨z, hz, pz⟩ := px
  exact hr K1 H1 vs l z Q n1.kh r1 hz fun u K3 H3 n3 r3 => pz u K3 H3 (Nx.trans S.bag n1 (Nx.of0 n3)) r3
end
end K8
set_option Elab.async false
set_option linter.all false
set_option maxRecDepth 100000
set_option maxHeartbeats 4000000
namespace K8
open PySem PySem.Spec PyProof.Rows L2
open Evl (Ex ex_l ex_t ex_rd)
section
variable {X : Cx} {a b c e o : Expr} {fa fb fc fe : DE} {pos : Pos} {es : List Expr} {f : DA} {x : Str} {p : Pos}
/-! ### calls of built-ins, truth -/
theorem x_callB {id : String} {r : List V → Hp → VK → Prop} {R : List D → D → Prop} (hc : CallR X (.builtin id) r) (hr : C1d X.K r R) (hg : Gl X x) (hm : X.mg x = none) (hv : bootBuiltins x = some (.builtin id)) (ha : PXA X (e :: es) f)
    (hn : x ≠ "__name__" := by decide) (hdb : (x == ("__debug__" : Str)) = false := by decide) (he : starEach (e :: es) X.env = (false, eval e X.env) :: starEach es X.env := by rfl) (hpl : (backTo pos (starEach es X.env)).any (·.1) = false := by rfl) :
    PX X (.Call (.Name x p) (e :: es) [] pos) (dCB R f) := ⟨(pe_callB hc hg hm hv ha.pa hn hdb he hpl).weak fun σ H Q q => cb_up hr ha q, cb_mono ha⟩
theorem x_callTy {T : String} {r : List V → Hp → VK → Prop} {R : List D → D → Prop} (hc : CallR X (.type T) r) (hr : C1d X.K r R) (hg : Gl X x) (hm : X.mg x = none) (hv : bootBuiltins x = some (.type T)) (ha : PXA X (e :: es) f)
    (hn : x ≠ "__name__" := by decide) (hdb : (x == ("__debug__" : Str)) = false := by decide) (he : starEach (e :: es) X.env = (false, eval e X.env) :: starEach es X.env := by rfl) (hpl : (backTo pos (starEach es X.env)).any (·.1) = false := by rfl) :
    PX X (.Call (.Name x p) (e :: es) [] pos) (dCB R f) := ⟨(pe_callTy hc hg hm hv ha.pa hn hdb he hpl).weak fun σ H Q q => cb_up hr ha q, cb_mono ha⟩
@[simp] def TruD (d : D) (k : Bool) : Prop := (∃ l, (d = .lst l ∨ IsT d l) ∧ k = !l.isEmpty) ∨ (∃ i, d = .int i ∧ k = (i != 0)) ∨ (d = .non ∧ k = false) ∨ d = .bl k
@[simp] def dTru (fa : DE) : DT := fun bg ds P => fa bg ds fun d => ∃ k, TruD d k ∧ P k
theorem xt_truth (ha : PX X a fa) (he : ∀ whole, isTrue a X.env whole = (do let v ← whole; standAt a.pos; holding [v] (truthy v)) := by intro _; rfl) : PXT X a (dTru fa) := by
  refine ⟨(pt_truth ha.pe he).weak fun σ H Q q => ?_, fun bg ds P P' m p => ha.mono _ _ _ _ (fun d ⟨k, h, q⟩ => ⟨k, h, m _ q⟩) p⟩
  obtain ⟨B, K, ds, S, p⟩ := q
  refine ⟨B, K, ds, S, ha.mono _ _ _ _ (fun d pd v K1 H1 n1 r1 => ?_) p⟩
  obtain ⟨k, h, q⟩ := pd
  refine ⟨k, ?_, q K1 H1 n1⟩
  rcases h with ⟨l, h | h, rfl⟩ | ⟨i, rfl, rfl⟩ | ⟨rfl, rfl⟩ | rfl
  · subst h
    obtain ⟨a, vs, rfl, h, r, z⟩ := r1.seqL n1.kh
    exact .inl ⟨vs, .inl (.inl h), by cases r <;> rfl⟩
  · obtain ⟨a, vs, rfl, h, r, z⟩ := r1.seqT n1.kh h
    exact .inr (.inl ⟨vs, h, by cases r <;> rfl⟩)
  · cases r1; rfl
  · cases r1; rfl
  · cases r1; rfl
/-! ### items, slices -/
theorem x_ix {r : R2} {R : D → D → D → Prop} (hx : IxR X r) (hr : R2d X.K r R) (ha : PX X a fa) (hb : PX X b fb) (hs : PlainIx b) : PX X (.Subscript a b pos) (dOp R fa fb) :=
  ⟨(pe_ix hx ha.pe hb.pe hs).weak fun σ H Q q => op_up hr ha hb q, dOp_mono ha hb⟩
abbrev DO := BG → DS → (Option Int → Prop) → Prop
def upO (F : PySem.W.Frag) (f : DO) : TO := fun σ H Q => ∃ B K ds, SE F B K σ H ds ∧ f B.bg ds fun l => ∀ K' H', Nx B.bg K H K' H' → Q l H'
structure PXO (X : Cx) (e : Option Expr) (f : DO) : Prop where
  po : PO X e (upO X.K f)
  mono : ∀ bg ds P P', (∀ d, P d → P' d) → f bg ds P → f bg ds P'
@[simp] def oNone : DO := fun _ _ P => P none
@[simp] def oSome (fa : DE) : DO := fun bg ds P => fa bg ds fun d => ∃ i, d = .int i ∧ P (some i)
theorem xo_none : PXO X none oNone := by
  refine ⟨⟨fun pins s σ H Q I q => po_none.run pins s σ H Q I ?_⟩, fun _ _ _ _ m p => m _ p⟩
  obtain ⟨B, K, ds, S, p⟩ := q
  exact p K H (Nx.refl S.kh)
theorem xo_some (ha : PX X e fe) : PXO X (some e) (oSome fe) := by
  refine ⟨⟨fun pins s σ H Q I q => (po_some ha.pe).run pins s σ H Q I ?_⟩, fun _ _ _ _ m p => ha.mono _ _ _ _ (fun d ⟨i, h, q⟩ => ⟨i, h, m _ q⟩) p⟩
  obtain ⟨B, K, ds, S, p⟩ := q
  refine ⟨B, K, ds, S, ha.mono _ _ _ _ (fun d ⟨i, h, q⟩ v K1 H1 n1 r1 => ?_) p⟩
  subst h
  cases r1
  exact ⟨i, rfl, q K1 H1 n1⟩
@[simp] def dSl (R : D → Option Int → Option Int → D → Prop) (fa : DE) (fl fh : DO) : DE := fun bg ds P => fa bg ds fun x => fl bg ds fun l => fh bg ds fun h => ∃ z, R x l h z ∧ P z
def S3d (F : PySem.W.Frag) (r : V → Option Int → Option Int → Hp → VK → Prop) (R : D → Option Int → Option Int → D → Prop) : Prop :=
  ∀ K H x dx l h z (Q : VK), Ex K H → Rep F K x dx → R dx l h z → (∀ v K' H', Nx none K H K' H' → Rep F K' v z → Q v H') → r x l h H Q
theorem x_slice {lo hi : Option Expr} {fl fh : DO} {p2 : Pos} {r : V → Option Int → Option Int → Hp → VK → Prop} {R : D → Option Int → Option Int → D → Prop} (hx : SlR X r) (hr : S3d X.K r R) (ha : PX X e fe) (hl : PXO X lo fl) (hh : PXO X hi fh) :
    PX X (.Subscript e (.Slice lo hi none p2) pos) (dSl R fe fl fh) := by
  refine ⟨(pe_slice hx ha.pe hl.po hh.po).weak fun σ H Q q => ?_, fun bg ds P P' m p => ha.mono _ _ _ _ (fun x px => hl.mono _ _ _ _ (fun l pl => hh.mono _ _ _ _ (fun h ⟨z, e, q⟩ => ⟨z, e, m _ q⟩) pl) px) p⟩
  obtain ⟨B, K, ds, S, p⟩ := q
  refine ⟨B, K, ds, S, ha.mono _ _ _ _ (fun x px v K1 H1 n1 r1 => ?_) p⟩
  have S1 := S.next n1
  refine ⟨B, K1, ds, S1, hl.mono _ _ _ _ (fun l pl K2 H2 n2 => ?_) px⟩
  have S2 := S1.next n2
  refine ⟨B, K2, ds, S2, hh.mono _ _ _ _ (fun h ⟨z, e, q⟩ K3 H3 n3 => ?_) pl⟩
  have n12 := Nx.trans S.bag n1 n2
  have n13 := Nx.trans S.bag n12 n3
  exact hr K3 H3 v x l h z Q n3.kh ((r1.mono n2.kk).mono n3.kk) e fun u K4 H4 n4 r4 => q u K4 H4 (Nx.trans S.bag n13 (Nx.of0 n4)) r4

/-! ### methods of built-in types -/
def M1d (F : PySem.W.Frag) (T : String) (r : V → List V → Hp → VK → Prop) (R : D → List D → D → Prop) : Prop :=
  ∀ K H x dx xs l z (Q : VK), Ex K H → Rep F K x dx → Reps F K xs l → R dx l z → (∀ v K' H', Nx none K H K' H' → Rep F K' v z → Q v H') → r x xs H Q
/-- the receiver's type by its data -/
@[simp] def TyD (T : String) (d : D) : Prop := (T = "str" ∧ ∃ s, d = .str s) ∨ (T = "list" ∧ ∃ l, d = .lst l)
@[simp] def dBM (T : String) (R : D → List D → D → Prop) (fo : DE) (f : DA) : DE := fun bg ds P => fo bg ds fun x => TyD T x ∧ f bg ds fun l => ∃ z, R x l z ∧ P z
theorem x_bm {fo : DE} {name : Str} {apos cpos : Pos} {T id : String} {r : V → List V → Hp → VK → Prop} {R : D → List D → D → Prop} (pa : PlainAttrs T) (slot : Slot T name id) (hty : typeOf (.builtin id) = pure (.type "method_descriptor")) (hm : MtR X id r) (hr : M1d X.K T r R)
    (ho : PX X o fo) (ha : PXA X (e :: es) f)
    (hbase : attributeBase o name X.env (eval o X.env) = eval o X.env := by rfl)
    (hfew : ((backTo cpos (starEach (e :: es) X.env)).all (fun x => !x.1) && (backToKw cpos (keywordEach [] X.env)).all (fun x => x.1.isSome)
      && decide ((e :: es).length + ([] : List Keyword).length + (if ([] : List Keyword).isEmpty then 0 else 1) < 30)) = true := by rfl)
    (hline : (apos.endLine == cpos.line) = true := by rfl) (hs : starEach (e :: es) X.env = (false, eval e X.env) :: starEach es X.env := by rfl) (hplain : (backTo cpos (starEach es X.env)).any (·.1) = false := by rfl) :
    PX X (.Call (.Attribute o name apos) (e :: es) [] cpos) (dBM T R fo f) := by
  refine ⟨(pe_bm pa slot hty hm ho.pe ha.pa hbase hfew hline hs hplain).weak fun σ H Q q => ?_, fun bg ds P P' m p => ho.mono _ _ _ _ (fun x ⟨t, px⟩ => ⟨t, ha.mono _ _ _ _ (fun l ⟨z, e, q⟩ => ⟨z, e, m _ q⟩) px⟩) p⟩
  obtain ⟨B, K, ds, S, p⟩ := q
  refine ⟨B, K, ds, S, ho.mono _ _ _ _ (fun x ⟨tx, px⟩ v K1 H1 n1 r1 => ?_) p⟩
  refine ⟨?_, B, K1, ds, S.next n1, ha.mono _ _ _ _ (fun l ⟨z, e, q⟩ vs K2 H2 n2 r2 => ?_) px⟩
  · rcases tx with ⟨rfl, s, rfl⟩ | ⟨rfl, l, rfl⟩
    · cases r1; exact rfl
    · obtain ⟨a, vs, rfl, h, r, z⟩ := r1.seqL n1.kh
      exact .inl ⟨rfl, vs, .inl (.inl h)⟩
  · exact hr K2 H2 v x vs l z Q n2.kh (r1.mono n2.kk) r2 e fun u K4 H4 n4 r4 => q u K4 H4 (Nx.trans S.bag (Nx.trans S.bag n1 n2) (Nx.of0 n4)) r4

/-! ### own defs -/
/-- a def's promise by data: W of the bag, the arguments and the wanted end -/
abbrev DW := BG → List D → (D → Prop) → Prop
def spW (F : PySem.W.Frag) (W : DW) : Sp := fun vs H Q _ => ∃ bg K l P, Ex K H ∧ (∀ b, bg = some b → K b = none ∧ Bag K H b) ∧ Reps F K vs l ∧ W bg l P ∧ ∀ d v K' H', P d → Nx bg K H K' H' → Rep F K' v d → Q v H'
/-- a call: of a def that needs no bag, or of one that does -/
@[simp] def dCall (W : DW) (f : DA) : DE := fun bg ds P => f bg ds fun l => ∃ P', W none l P' ∧ ∀ d, P' d → P d
@[simp] def dCallB (W : DW) (f : DA) : DE := fun bg ds P => f bg ds fun l => ∃ P', W bg l P' ∧ ∀ d, P' d → P d
variable {CX : CXT} {k : Nat} {fn C : Addr} {fd : FuncData} {ps : List Str} {W : DW} {dsv : List Value} {E : XK}
theorem call_up (ha : PXA X es f) {σ : L2.St} {H : Hp} {Q : VK} (q : up X.K (dCall W f) σ H Q) : tCall (spW X.K W) [] E (upA X.K f) σ H Q := by
  obtain ⟨B, K, ds, S, p⟩ := q
  refine ⟨B, K, ds, S, ha.mono _ _ _ _ (fun l ⟨P', w, h⟩ vs K1 H1 n1 r1 => ?_) p⟩
  show spW X.K W (vs ++ []) H1 Q E
  rw [List.append_nil]
  exact ⟨none, K1, l, P', n1.kh, fun b z => (nomatch z), r1, w, fun d v K2 H2 pd n2 r2 => h d pd v K2 H2 (Nx.trans S.bag n1 (Nx.of0 n2)) r2⟩
theorem callB_up (ha : PXA X es f) {σ : L2.St} {H : Hp} {Q : VK} (q : up X.K (dCallB W f) σ H Q) : tCall (spW X.K W) [] E (upA X.K f) σ H Q := by
  obtain ⟨B, K, ds, S, p⟩ := q
  refine ⟨B, K, ds, S, ha.mono _ _ _ _ (fun l ⟨P', w, h⟩ vs K1 H1 n1 r1 => ?_) p⟩
  show spW X.K W (vs ++ []) H1 Q E
  rw [List.append_nil]
  have S1 := S.next n1
  exact ⟨B.bg, K1, l, P', n1.kh, fun b z => ⟨S1.kb b z, S1.bag b z⟩, r1, w, fun d v K2 H2 pd n2 r2 => h d pd v K2 H2 (Nx.trans S.bag n1 n2) r2⟩
theorem x_call (F : FnOk X.prog X.w X.K X.mg X.base CX0 k fn fd ps (spW X.K W)) (hr : Room k X.A) (hg : Gl X x) (hm : X.mg x = some (.ref fn)) (hk : PySem.W.keepIn X.K (.ref fn) = true) (hb : Binds X.K fd ps [])
    (ha : PXA X (e :: es) f) (hdb : (x == ("__debug__" : Str)) = false := by decide) (he : starEach (e :: es) X.env = (false, eval e X.env) :: starEach es X.env := by rfl) (hpl : (backTo pos (starEach es X.env)).any (·.1) = false := by rfl) :
    PX X (.Call (.Name x p) (e :: es) [] pos) (dCall W f) :=
  ⟨(pe_call F hr hg hm hk hb .nil pass0 ha.pa hdb he hpl).weak fun σ H Q q => call_up ha q, fun bg ds P P' m p => ha.mono _ _ _ _ (fun l ⟨P0, w, h⟩ => ⟨P0, w, fun d z => m _ (h d z)⟩) p⟩
theorem x_callBg (F : FnOk X.prog X.w X.K X.mg X.base CX0 k fn fd ps (spW X.K W)) (hr : Room k X.A) (hg : Gl X x) (hm : X.mg x = some (.ref fn)) (hk : PySem.W.keepIn X.K (.ref fn) = true) (hb : Binds X.K fd ps [])
    (ha : PXA X (e :: es) f) (hdb : (x == ("__debug__" : Str)) = false := by decide) (he : starEach (e :: es) X.env = (false, eval e X.env) :: starEach es X.env := by rfl) (hpl : (backTo pos (starEach es X.env)).any (·.1) = false := by rfl) :
    PX X (.Call (.Name x p) (e :: es) [] pos) (dCallB W f) :=
  ⟨(pe_call F hr hg hm hk hb .nil pass0 ha.pa hdb he hpl).weak fun σ H Q q => callB_up ha q, fun bg ds P P' m p => ha.mono _ _ _ _ (fun l ⟨P0, w, h⟩ => ⟨P0, w, fun d z => m _ (h d z)⟩) p⟩
end

/-! ### statements -/
section
variable {X : Cx} {st : Stmt} {rest : List Stmt} {f g : DSm} {e tg : Expr} {fe : DE} {gt : DG} {pos : Pos} {vs : List Nat}
theorem DEn.Le.refl (E : DEn) : DEn.Le E E := ⟨fun _ h => h, fun _ h => h, fun _ h => h, fun _ h => h⟩
@[simp] def dNext : DSm := fun _ E ds => E.nx ds
@[simp] def dSeq (f g : DSm) : DSm := fun bg E ds => f bg { E with nx := g bg E } ds
theorem xs_nil : PXSs X [] dNext := ⟨pss_nil.weak fun D σ H ⟨B, K, ds, S, p⟩ => p σ K H S, fun bg E E' ds l p => l.nx _ p⟩
theorem xs_one (h : PXS X st f) : PXSs X [st] f := ⟨pss_one h.ps, h.mono⟩
theorem xs_cons (h1 : PXS X st f) (h2 : PXSs X rest g) : PXSs X (st :: rest) (dSeq f g) := by
  refine ⟨(pss_cons h1.ps h2.pss).weak fun D σ H ⟨B, K, ds, S, p⟩ => ?_, fun bg E E' ds l p => h1.mono bg { E with nx := g bg E } { E' with nx := g bg E' } ds ⟨fun ds q => h2.mono _ _ _ _ l q, l.rt, l.bk, l.ct⟩ p⟩
  exact ⟨B, K, ds, S, h1.mono _ { enOf X.K B D with nx := g B.bg (enOf X.K B D) } _ _ ⟨fun ds' q σ' K' H' S' => ⟨B, K', ds', S', q⟩, fun _ q => q, fun _ q => q, fun _ q => q⟩ p⟩
@[simp] def dRet (fe : DE) : DSm := fun bg E ds => fe bg ds E.rt
theorem xs_ret (h : PX X e fe) : PXS X (.Return (some e) pos) (dRet fe) := by
  refine ⟨(ps_ret h.pe).weak fun D σ H ⟨B, K, ds, S, p⟩ => ?_, fun bg E E' ds l p => h.mono _ _ _ _ l.rt p⟩
  exact ⟨B, K, ds, S, h.mono _ _ _ _ (fun d q v K' H' n r => q v σ K' H' ds (S.next n) r) p⟩
@[simp] def dDrop (fe : DE) : DSm := fun bg E ds => fe bg ds fun _ => E.nx ds
theorem xs_expr (h : PX X e fe) (hs : swapsWith e none pos.line X.env = pure false := by rfl) : PXS X (.Expr e pos) (dDrop fe) := by
  refine ⟨(ps_expr h.pe hs).weak fun D σ H ⟨B, K, ds, S, p⟩ => ?_, fun bg E E' ds l p => h.mono _ _ _ _ (fun _ q => l.nx _ q) p⟩
  exact ⟨B, K, ds, S, h.mono _ _ _ _ (fun d q v K' H' n r => q σ K' H' (S.next n)) p⟩
@[simp] def dNever : DSm := fun _ _ _ => False
theorem xs_never : PXS X st dNever := ⟨ps_never.weak fun D σ H ⟨B, K, ds, S, p⟩ => p, fun _ _ _ _ _ p => p⟩
theorem xss_never : PXSs X rest dNever := ⟨pss_never.weak fun D σ H ⟨B, K, ds, S, p⟩ => p, fun _ _ _ _ _ p => p⟩
@[simp] def dIfS (t : DT) (f g : DSm) : DSm := fun bg E ds => t bg ds fun b => if b = true then f bg E ds else g bg E ds
theorem xs_if {c : Expr} {a b : List Stmt} {t : DT} (ht : PXT X c t) (ha : PXSs X a f) (hb : PXSs X b g) : PXS X (.If c a b pos) (dIfS t f g) := by
  refine ⟨(ps_if ht.pt ha.pss hb.pss).weak fun D σ H ⟨B, K, ds, S, p⟩ => ?_, fun bg E E' ds l p => ht.mono _ _ _ _ (fun b q => ?_) p⟩
  · refine ⟨B, K, ds, S, ht.mono _ _ _ _ (fun b q K' H' n => ?_) p⟩
    cases b with
    | true => exact ⟨B, K', ds, S.next n, q⟩
    | false => exact ⟨B, K', ds, S.next n, q⟩
  · cases b with
    | true => exact ha.mono _ _ _ _ l q
    | false => exact hb.mono _ _ _ _ l q
/-! ### targets -/
@[simp] def gN (i : Nat) : DG := fun d ds P => P (ds.set i (.val d))
theorem xg_name {i : Nat} (h : PG X e (gName i)) : PXG X e (gN i) [i] := by
  refine ⟨h.weak fun x σ H Q ⟨B, K, ds, d, S, r, p⟩ => ?_, fun d ds P P' m p => m _ p⟩
  exact p _ (S.set r) (by rw [List.length_set]) fun j hj => List.getElem?_set_ne (fun z => hj (by simp [z]))
@[simp] def gT2 (g h : DG) : DG := fun d ds P => ∃ x y, IsT d [x, y] ∧ g x ds fun ds' => h y ds' P
theorem xg_two {e1 e2 : Expr} {k : Nat} {g h : DG} {vs ws : List Nat} (hc : X.calm = true) (h1 : PXG X e1 g vs) (h2 : PXG X e2 h ws)
    (hs1 : (assignEach [e1, e2] X.env).map (·.2) = assign e1 X.env :: (assignEach [e2] X.env).map (·.2) := by rfl) (hs2 : (assignEach [e2] X.env).map (·.2) = assign e2 X.env :: (assignEach [] X.env).map (·.2) := by rfl)
    (hn : (assignEach [e1, e2] X.env).length = 2 := by rfl) (hst : (assignEach [e1, e2] X.env).findIdx? (·.1) = none := by rfl) : PXG X (.Tuple [e1, e2] k pos) (gT2 g h) (vs ++ ws) := by
  refine ⟨(pg_tup (n := 2) hc (pgs_cons h1.pg (pgs_cons h2.pg pgs_nil hs2) hs1) hn hst).weak fun x σ H Q ⟨B, K, ds, d, S, r, p⟩ => ?_, fun d ds P P' m ⟨x, y, e, p⟩ => ⟨x, y, e, h1.mono _ _ _ _ (fun ds' q => h2.mono _ _ _ _ m q) p⟩⟩
  obtain ⟨x1, y1, e, p⟩ := p
  obtain ⟨a, ws', rfl, hq, r, z⟩ := r.seqT S.kh e
  cases r with
  | cons v1 d1 r1 l1 q1 r =>
  cases r with
  | cons v2 d2 r2 l2 q2 r =>
  cases r
  refine ⟨a, _, rfl, hq, rfl, v1, _, rfl, B, K, ds, _, S, q1, h1.mono _ _ _ _ (fun ds' q σ' S' l1 o1 => ?_) p⟩
  refine ⟨v2, _, rfl, B, K, ds', _, S', q2, h2.mono _ _ _ _ (fun ds2 q2 σ2 S2 l2 o2 => ?_) q⟩
  exact ⟨rfl, q2 σ2 S2 (l2.trans l1) fun j hj => (o2 j fun z => hj (List.mem_append_right _ z)).trans (o1 j fun z => hj (List.mem_append_left _ z))⟩
@[simp] def dAsg (fe : DE) (g : DG) : DSm := fun bg E ds => fe bg ds fun d => g d ds E.nx
theorem xs_set {i : Nat} {x : Str} {pos' : Pos} (hN : X.N.Nodup) (hi : X.N[i]? = some x) (hx : Loc X.env.scope x) (he : PX X e fe) (hs : swapsWith e (some (.Name x pos')) pos.line X.env = pure false := by rfl)
    (hf : X.fn x = true ∨ X.env.scope.names.lookup x = some .local := by first | exact .inl rfl | exact .inr rfl | assumption) : PXS X (.Assign [.Name x pos'] e pos) (dAsg fe (gN i)) := by
  refine ⟨(ps_set hN hi hx he.pe hs hf).weak fun D σ H ⟨B, K, ds, S, p⟩ => ?_, fun bg E E' ds l p => he.mono _ _ _ _ (fun d q => l.nx _ q) p⟩
  exact ⟨B, K, ds, S, he.mono _ _ _ _ (fun d q v K' H' n r => q _ K' H' ((S.next n).set r)) p⟩
theorem asg_up {te : TE} {ge : TG} (hp : PS X st (tAsg te ge)) (hw : ∀ σ H Q, up X.K fe σ H Q → te σ H Q) (hg : ∀ x σ H Q, upG X.K gt vs x σ H Q → ge x σ H Q) (he : PX X e fe) (hgt : PXG X tg gt vs) : PXS X st (dAsg fe gt) := by
  refine ⟨hp.weak fun D σ H ⟨B, K, ds, S, p⟩ => ?_, fun bg E E' ds l p => he.mono _ _ _ _ (fun d q => hgt.mono _ _ _ _ l.nx q) p⟩
  refine hw _ _ _ ⟨B, K, ds, S, he.mono _ _ _ _ (fun d q v K' H' n r => hg _ _ _ _ ⟨B, K', ds, d, S.next n, r, hgt.mono _ _ _ _ (fun ds' z σ' S' _ _ => z σ' K' H' S') q⟩) p⟩
theorem xs_asg (he : PX X e fe) (hg : PXG X tg gt vs) (hs : swapsWithSole [tg] e pos.line X.env = pure false := by rfl) (hw : swappedStores [tg] e X.env = pure none := by rfl)
    (h1 : (assignEach [tg] X.env).map (·.2) = [assign tg X.env] := by rfl) : PXS X (.Assign [tg] e pos) (dAsg fe gt) :=
  asg_up (ps_asg he.pe hg.pg hs hw h1) (fun _ _ _ z => z) (fun _ _ _ _ z => z) he hg
/-- a, b = x, y -/
@[simp] def dPar (i j : Nat) (f : DA) : DSm := fun bg E ds => f bg ds fun l => ∃ x y, l = [x, y] ∧ E.nx ((ds.set i (.val x)).set j (.val y))
theorem xs_par {i j : Nat} {x y : Str} {a b : Expr} {f : DA} {px py pt : Pos} {kt k2 pt2} (hc : X.calm = true) (hN : X.N.Nodup) (hi : X.N[i]? = some x) (hj : X.N[j]? = some y) (hij : i ≠ j)
    (hx : X.env.scope.names.lookup x = some .local) (hy : X.env.scope.names.lookup y = some .local) (ha : PXA X [a, b] f)
    (hw : swappedStores [.Tuple [.Name x px, .Name y py] kt pt] (.Tuple [a, b] k2 pt2) X.env = pure (some [x, y]))
    (hs : swapsWithSole [.Tuple [.Name x px, .Name y py] kt pt] (.Tuple [a, b] k2 pt2) pos.line X.env = pure false := by rfl) :
    PXS X (.Assign [.Tuple [.Name x px, .Name y py] kt pt] (.Tuple [a, b] k2 pt2) pos) (dPar i j f) := by
  refine ⟨(ps_par hc hN hi hj hij hx hy ha.pa hw hs).weak fun D σ H ⟨B, K, ds, S, p⟩ => ?_, fun bg E E' ds l p => ha.mono _ _ _ _ (fun m ⟨x, y, e, q⟩ => ⟨x, y, e, l.nx _ q⟩) p⟩
  refine ⟨B, K, ds, S, ha.mono _ _ _ _ (fun l ⟨x, y, e, q⟩ vs K' H' n r => ?_) p⟩
  subst e
  cases r with
  | cons v1 d1 r1 l1 q1 r =>
  cases r with
  | cons v2 d2 r2 l2 q2 r =>
  cases r
  exact ⟨v1, v2, rfl, q _ K' H' (((S.next n).set q1).set q2)⟩
/-- x += e on ints -/
@[simp] def dAugI (i : Nat) (g : Int → Int → Int) (fe : DE) : DSm := fun bg E ds => ∃ n, ds[i]? = some (.val (.int n)) ∧ fe bg ds fun d => ∃ m, d = .int m ∧ E.nx (ds.set i (.val (.int (g n m))))
theorem xs_aug {i : Nat} {x : Str} {op : Operator} {g : Int → Int → Int} {pos' : Pos} (hN : X.N.Nodup) (hi : X.N[i]? = some x) (hx : Loc X.env.scope x) (he : PX X e fe) (ho : PIp X op (ipI g))
    (hf : X.fn x = true ∨ X.env.scope.names.lookup x = some .local := by first | exact .inl rfl | exact .inr rfl | assumption) : PXS X (.AugAssign (.Name x pos') op e pos) (dAugI i g fe) := by
  refine ⟨(ps_aug hN hi hx he.pe ho hf).weak fun D σ H ⟨B, K, ds, S, n, en, p⟩ => ?_, fun bg E E' ds l ⟨n, en, p⟩ => ⟨n, en, he.mono _ _ _ _ (fun m ⟨x, e, q⟩ => ⟨x, e, l.nx _ q⟩) p⟩⟩
  obtain ⟨v, e1, r⟩ := S.env i _ en
  cases r
  refine ⟨_, e1, B, K, ds, S, he.mono _ _ _ _ (fun d ⟨m, e, q⟩ v K' H' n r => ?_) p⟩
  subst e
  cases r
  exact ⟨_, _, rfl, rfl, q _ K' H' ((S.next n).set (.int _))⟩

/-! ### loops -/
theorem SE.rebase {F : PySem.W.Frag} {B : Bs} {K H : Hp} {σ : L2.St} {ds : DS} (S : SE F B K σ H ds) : SE F ⟨B.H0, K, B.bg, B.c⟩ K σ H ds :=
  ⟨S.le, Ex.refl K, fun _ _ => rfl, S.kh, S.kb, S.bagc, S.len, S.env, S.sep⟩
theorem SE.unbase {F : PySem.W.Frag} {B : Bs} {K H K' H' : Hp} {σ σ' : L2.St} {ds ds' : DS} (S : SE F B K σ H ds) (S' : SE F ⟨B.H0, K, B.bg, B.c⟩ K' σ' H' ds') : SE F B K' σ' H' ds' ∧ Ex K K' :=
  ⟨⟨S'.le, Ex.trans S.kk S'.kk, fun a h => (S'.fr a h).trans (S.fr a h), S'.kh, S'.kb, S'.bagc, S'.len, S'.env, S'.sep⟩, S'.kk⟩
def forW (bg : BG) (g : DG) (db : DSm) (E : DEn) : List D → DS → Prop
  | [], ds => E.nx ds
  | x :: xs, ds => g x ds fun ds2 => db bg { E with nx := forW bg g db E xs, ct := forW bg g db E xs, bk := E.nx } ds2
@[simp] def dFor (di : DA) (g : DG) (db : DSm) : DSm := fun bg E ds => di bg ds fun items => forW bg g db E items ds
theorem forW_mono {bg : BG} {db : DSm} (hg : PXG X tg gt vs) (hm : ∀ bg E E' ds, DEn.Le E E' → db bg E ds → db bg E' ds) {E E' : DEn} (l : DEn.Le E E') : ∀ (items : List D) (ds : DS), forW bg gt db E items ds → forW bg gt db E' items ds
  | [], ds, h => l.nx ds h
  | x :: xs, ds, h => hg.mono _ _ _ _ (fun ds2 q => hm bg { E with nx := forW bg gt db E xs, ct := forW bg gt db E xs, bk := E.nx } { E' with nx := forW bg gt db E' xs, ct := forW bg gt db E' xs, bk := E'.nx } ds2 ⟨fun d z => forW_mono hg hm l xs d z, l.rt, l.nx, fun d z => forW_mono hg hm l xs d z⟩ q) h
theorem xs_for {iter : Expr} {body : List Stmt} {di : DA} {db : DSm} (hp : PassesOwn (model X.prog X.w) X.A X.env X.xe) (hc : X.calm = true) (hi : PXI X tg iter di) (hg : PXG X tg gt vs) (hb : PXSs X body db)
    (hs : ∀ x, foldedSetIterable iter X.env x = pure x := by intro _; rfl) : PXS X (.For tg iter body [] pos) (dFor di gt db) := by
  refine ⟨(ps_for hp hc hi.pi hg.pg hb.pss hs).weak fun D σ H ⟨B, K, ds, S, p⟩ => ?_, fun bg E E' ds l p => hi.mono _ _ _ _ (fun items q => forW_mono hg hb.mono l items ds q) p⟩
  refine ⟨B, K, ds, S, hi.mono _ _ _ _ (fun items q J K1 H1 n1 w z => ?_) p⟩
  have S1 := S.next n1
  refine ⟨fun i m σ' H' => m = items.length - i ∧ i ≤ items.length ∧ ∃ K' ds', Ex K1 K' ∧ SE X.K B K' σ' H' ds' ∧ forW B.bg gt db (enOf X.K B D) (items.drop i) ds', ⟨items.length, by simp, Nat.zero_le _, K1, ds, Ex.refl _, S1, by rw [List.drop_zero]; exact q⟩, ?_⟩
  rintro i m σ2 H2 ⟨rfl, hi2, K2, ds2, kk, S2, q2⟩
  obtain ⟨w1, w2⟩ := w K2 H2 kk S2.kh
  by_cases hlt : i < items.length
  · obtain ⟨go, yl⟩ := w1 i items[i] (List.getElem?_eq_getElem hlt)
    rw [List.drop_eq_getElem_cons hlt] at q2
    refine .inr ⟨go, fun σ' H' => i + 1 ≤ items.length ∧ ∃ K' ds', Ex K1 K' ∧ SE X.K B K' σ' H' ds' ∧ forW B.bg gt db (enOf X.K B D) (items.drop (i + 1)) ds', fun σ' H' ⟨h1, h2⟩ => ⟨items.length - (i + 1), by omega, rfl, h1, h2⟩, fun v H3 y => ?_⟩
    obtain ⟨K3, n3, r3⟩ := yl v H3 y
    have S3 := S2.next (Nx.of0 n3)
    refine ⟨B, K3, ds2, _, S3, r3, hg.mono _ _ _ _ (fun ds4 q4 σ4 S4 _ _ => ?_) q2⟩
    refine ⟨_, K3, ds4, S4.rebase, ?_⟩
    refine hb.mono _ _ _ _ ?_ q4
    refine ⟨fun d z σ' K' H' S' => ?_, fun d z v σ' K' H' ds' S' r => z v σ' K' H' ds' (S4.unbase S').1 r, fun d z σ' K' H' S' => z σ' K' H' (S4.unbase S').1, fun d z σ' K' H' S' => ?_⟩
    · obtain ⟨u1, u2⟩ := S4.unbase S'
      exact ⟨hlt, K', d, Ex.trans (Ex.trans kk n3.kk) u2, u1, z⟩
    · obtain ⟨u1, u2⟩ := S4.unbase S'
      exact ⟨hlt, K', d, Ex.trans (Ex.trans kk n3.kk) u2, u1, z⟩
  · have e : i = items.length := by omega
    subst e
    rw [List.drop_length] at q2
    exact .inl ⟨w2 _ rfl, q2 σ2 K2 H2 S2⟩
end
end K8
set_option Elab.async false
set_option linter.all false
set_option maxRecDepth 100000
set_option maxHeartbeats 4000000
namespace K8
open PySem PySem.Spec PyProof.Rows L2
open Evl (Ex ex_l ex_t ex_rd)
section
variable {X : Cx} {pos : Pos}
/-! ### while -/
def whileW (bg : BG) (t : DT) (db : DSm) (E : DEn) : Nat → DS → Prop
  | 0, _ => False
  | n + 1, ds => t bg ds fun b => if b = true then db bg { E with nx := whileW bg t db E n, ct := whileW bg t db E n, bk := E.nx } ds else E.nx ds
def dWhile (t : DT) (db : DSm) : DSm := fun bg E ds => ∃ n, whileW bg t db E n ds
theorem whileW_mono {c : Expr} {t : DT} {bg : BG} {db : DSm} (hc : PXT X c t) (hm : ∀ bg E E' ds, DEn.Le E E' → db bg E ds → db bg E' ds) {E E' : DEn} (l : DEn.Le E E') : ∀ (n : Nat) (ds : DS), whileW bg t db E n ds → whileW bg t db E' n ds
  | 0, _, h => h
  | n + 1, ds, h => hc.mono _ _ _ _ (fun b q => by
    cases b with
    | false => exact l.nx _ q
    | true => exact hm bg { E with nx := whileW bg t db E n, ct := whileW bg t db E n, bk := E.nx } { E' with nx := whileW bg t db E' n, ct := whileW bg t db E' n, bk := E'.nx } ds ⟨fun d z => whileW_mono hc hm l n d z, l.rt, l.nx, fun d z => whileW_mono hc hm l n d z⟩ q) h
theorem xs_while {c : Expr} {body : List Stmt} {t : DT} {db : DSm} (hp : PassesOwn (model X.prog X.w) X.A X.env X.xe) (hc : PXT X c t) (hb : PXSs X body db) : PXS X (.While c body [] pos) (dWhile t db) := by
  refine ⟨(ps_while hp hc.pt hb.pss).weak fun D σ H ⟨B, K, ds, S, n, p⟩ => ?_, fun bg E E' ds l ⟨n, p⟩ => ⟨n, whileW_mono hc hb.mono l n ds p⟩⟩
  refine ⟨fun m σ' H' => ∃ K' ds', SE X.K B K' σ' H' ds' ∧ whileW B.bg t db (enOf X.K B D) m ds', ⟨n, K, ds, S, p⟩, ?_⟩
  rintro m σ1 H1 ⟨K1, ds1, S1, p1⟩
  cases m with
  | zero => exact p1.elim
  | succ m =>
    refine ⟨B, K1, ds1, S1, hc.mono _ _ _ _ (fun b q K2 H2 n2 => ?_) p1⟩
    cases b with
    | false => exact q σ1 K2 H2 (S1.next n2)
    | true =>
      refine ⟨fun σ' H' => ∃ K' ds', SE X.K B K' σ' H' ds' ∧ whileW B.bg t db (enOf X.K B D) m ds', fun σ' H' h => ⟨m, Nat.lt_succ_self m, h⟩, B, K2, ds1, S1.next n2, ?_⟩
      refine hb.mono _ _ _ _ ?_ q
      exact ⟨fun d z σ' K' H' S' => ⟨K', d, S', z⟩, fun d z => z, fun d z => z, fun d z σ' K' H' S' => ⟨K', d, S', z⟩⟩

/-! ### list comprehensions -/
@[simp] def wipeD (ds : DS) : List Nat → DS
  | [] => ds
  | v :: vs => (wipeD ds vs).set v .no
def lcW (bg : BG) (g : DG) (t : DT) (fe : DE) (ds : DS) : List D → List D → (List D → Prop) → Prop
  | [], acc, P => P acc
  | x :: xs, acc, P => g x ds fun ds2 => t bg ds2 fun b => if b = true then fe bg ds2 fun y => lcW bg g t fe ds xs (acc ++ [y]) P else lcW bg g t fe ds xs acc P
@[simp] def dLc (di : DA) (g : DG) (t : DT) (fe : DE) (vs : List Nat) : DE := fun bg ds P => di bg ds fun items => lcW bg g t fe (wipeD ds vs) items [] fun out => P (.lst out)
@[simp] def dYes : DT := fun _ _ P => P true
structure PXTs (X : Cx) (ifs : List Expr) (t : DT) : Prop where
  pts : PTs X ifs (upT X.K t)
  mono : ∀ bg ds P P', (∀ d, P d → P' d) → t bg ds P → t bg ds P'
theorem _root_.L2.PTs.weak {X : Cx} {e : List Expr} {t t' : TT} (h : PTs X e t) (w : ∀ σ H Q, t' σ H Q → t σ H Q) : PTs X e t' := ⟨fun pins s σ H Q I q => h.run pins s σ H Q I (w _ _ _ q)⟩
theorem xts_nil : PXTs X [] dYes := ⟨pts_nil.weak fun σ H Q ⟨B, K, ds, S, p⟩ => p K H (Nx.refl S.kh), fun _ _ _ _ m p => m _ p⟩
theorem xts_one {c : Expr} {t : DT} (h : PXT X c t) : PXTs X [c] t := ⟨pts_one h.pt, h.mono⟩
theorem SE.wipe {F : PySem.W.Frag} {B : Bs} {K H : Hp} {σ : L2.St} {ds : DS} (S : SE F B K σ H ds) : ∀ vs : List Nat, SE F B K (wipe σ vs) H (wipeD ds vs)
  | [] => S
  | v :: vs => by
    have S1 := SE.wipe S vs
    refine ⟨S1.le, S1.kk, S1.fr, S1.kh, S1.kb, S1.bagc, by unfold L2.wipe wipeD; rw [List.length_set, List.length_set]; exact S1.len, fun i sl e => ?_, fun i j si sj a h e1 e2 o1 o2 f1 f2 => ?_⟩
    · unfold wipeD at e
      unfold L2.wipe
      by_cases hj : v = i
      · subst hj
        by_cases hl : v < (wipeD ds vs).length
        · rw [List.getElem?_set_self hl] at e
          cases e
          trivial
        · rw [List.getElem?_eq_none (by rw [List.length_set]; omega)] at e
          cases e
      · rw [List.getElem?_set_ne hj] at e ⊢
        exact S1.env i sl e
    · unfold wipeD at e1 e2
      unfold L2.wipe at f1 f2
      have no : ∀ (i : Nat) (si : Sl), ((wipeD ds vs).set v .no)[i]? = some si → si.isOwn = true → v ≠ i := fun i si e o z => by
        subst z
        by_cases hl : v < (wipeD ds vs).length
        · rw [List.getElem?_set_self hl] at e
          cases e
          cases o
        · rw [List.getElem?_eq_none (by rw [List.length_set]; omega)] at e
          cases e
      have n1 := no i si e1 o1
      have n2 := no j sj e2 o2
      rw [List.getElem?_set_ne n1] at e1 f1
      rw [List.getElem?_set_ne n2] at e2 f2
      exact S1.sep i j si sj a h e1 e2 o1 o2 f1 f2
theorem wipe_mem {σ : L2.St} {i : Nat} : ∀ {vs : List Nat}, i ∈ vs → i < σ.length → (wipe σ vs)[i]? = some none
  | v :: vs, h, hl => by
    unfold L2.wipe
    by_cases e : v = i
    · subst e
      rw [List.getElem?_set_self (by rw [wipe_length]; exact hl)]
    · rw [List.getElem?_set_ne e]
      rcases List.mem_cons.mp h with z | z
      · exact absurd z.symm e
      · exact wipe_mem z hl
theorem wipe_again {σ σ' : L2.St} {vs : List Nat} (hl : σ'.length = σ.length) (h : ∀ j : Nat, j ∉ vs → σ'[j]? = (wipe σ vs)[j]?) : wipe σ' vs = wipe σ vs := by
  apply List.ext_getElem?
  intro i
  by_cases hi : i ∈ vs
  · by_cases hlt : i < σ.length
    · rw [wipe_mem hi hlt, wipe_mem hi (by rw [hl]; exact hlt)]
    · rw [List.getElem?_eq_none (by rw [wipe_length]; omega), List.getElem?_eq_none (by rw [wipe_length]; omega)]
  · rw [wipe_out hi]
    exact h i hi
section
variable {tg iter elt : Expr} {ifs : List Expr} {scope : Scope} {own : List (Str × Nat)} {di : DA} {g : DG} {t : DT} {fe : DE} {gs : List Nat}
theorem lcW_mono (hg : ∀ d ds P P', (∀ d, P d → P' d) → g d ds P → g d ds P') (ht : ∀ bg ds P P', (∀ d, P d → P' d) → t bg ds P → t bg ds P') (he : ∀ bg ds P P', (∀ d, P d → P' d) → fe bg ds P → fe bg ds P') {bg : BG} {ds : DS} {P P' : List D → Prop} (m : ∀ l, P l → P' l) :
    ∀ (items acc : List D), lcW bg g t fe ds items acc P → lcW bg g t fe ds items acc P'
  | [], acc, h => m acc h
  | x :: xs, acc, h => hg _ _ _ _ (fun ds2 q => ht _ _ _ _ (fun b q => by
    cases b with
    | false => exact lcW_mono hg ht he m xs acc q
    | true => exact he _ _ _ _ (fun y q => lcW_mono hg ht he m xs _ q) q) q) h
/-- the reading of a comprehension, from the data -/
theorem lc_upF (hg : ∀ d ds P P', (∀ d, P d → P' d) → g d ds P → g d ds P') (ht : ∀ bg ds P P', (∀ d, P d → P' d) → t bg ds P → t bg ds P') (he : ∀ bg ds P P', (∀ d, P d → P' d) → fe bg ds P → fe bg ds P') (hi : PXI X tg iter di)
    (hv : ∀ j ∈ gs, j ∈ own.map (·.2)) {σ : L2.St} {H : Hp} {Q : VK}
    (q : ∃ B K ds, SE X.K B K σ H ds ∧ di B.bg ds fun items => lcW B.bg g t fe (wipeD ds (own.map (·.2))) items [] fun out => ∀ p ws K' H', Nx B.bg K H K' H' → H p = none → K' p = none → B.bg ≠ some p → H' p = some (.lst ws) → Reps X.K K' ws out → ws.length ≤ sizeLine → Q (.ref p) H') :
    tLc (upI X.K di) (upG X.K g gs) (upT X.K t) (up X.K fe) (own.map (·.2)) σ H Q := by
  obtain ⟨B, K, ds, S, p⟩ := q
  refine ⟨B, K, ds, S, hi.mono _ _ _ _ (fun items q J K1 H1 n1 w z => ?_) p⟩
  have S1 := S.next n1
  intro Dl hD
  have kD : K1 Dl = none := by
    cases q : K1 Dl with
    | none => rfl
    | some u => rw [n1.kh Dl u q] at hD; cases hD
  have bD : B.bg ≠ some Dl := fun e => by
    obtain ⟨_, _, _, _, _, h1, _⟩ := S1.bag Dl e
    rw [hD] at h1
    cases h1
  -- the invariant
  let P' : List D → Prop := fun out => ∀ p ws K' H', Nx B.bg K H K' H' → H p = none → K' p = none → B.bg ≠ some p → H' p = some (.lst ws) → Reps X.K K' ws out → ws.length ≤ sizeLine → Q (.ref p) H'
  refine ⟨fun i m H' => m = items.length - i ∧ i ≤ items.length ∧ ∃ Kc vs acc, Nx B.bg K1 H1 Kc H' ∧ Kc Dl = none ∧ H' Dl = some (.lst vs) ∧ Reps X.K Kc vs acc ∧ vs.length ≤ i ∧ lcW B.bg g t fe (wipeD ds (own.map (·.2))) (items.drop i) acc P',
    ⟨items.length, by simp, Nat.zero_le _, K1, [], [], ?_, kD, upd_same, .nil, Nat.le_refl _, by rw [List.drop_zero]; exact q⟩, ?_⟩
  · exact Nx.of_ex n1.kh (Ex.new hD)
  rintro i m H2 ⟨rfl, hi2, K2, vs, acc, n2, k2, h2, r2, l2, q2⟩
  obtain ⟨w1, w2⟩ := w K2 H2 n2.kk n2.kh
  by_cases hlt : i < items.length
  · obtain ⟨go, yl⟩ := w1 i items[i] (List.getElem?_eq_getElem hlt)
    rw [List.drop_eq_getElem_cons hlt] at q2
    refine .inr ⟨go, fun H' => i + 1 ≤ items.length ∧ ∃ Kc vs acc, Nx B.bg K1 H1 Kc H' ∧ Kc Dl = none ∧ H' Dl = some (.lst vs) ∧ Reps X.K Kc vs acc ∧ vs.length ≤ i + 1 ∧ lcW B.bg g t fe (wipeD ds (own.map (·.2))) (items.drop (i + 1)) acc P',
      fun H' ⟨h1, h2⟩ => ⟨items.length - (i + 1), by omega, rfl, h1, h2⟩, fun v H3 y => ?_⟩
    obtain ⟨K3, n3, r3⟩ := yl v H3 y
    -- the state carried: K1 H1 to K3 H3
    have step : ∀ {K3 H3 : Hp}, Nx B.bg K2 H2 K3 H3 → Nx B.bg K1 H1 K3 H3 ∧ K3 Dl = none ∧ H3 Dl = some (.lst vs) ∧ Reps X.K K3 vs acc := fun {K3 H3} n =>
      ⟨Nx.trans S1.bag n2 n, (n.fr Dl (by rw [h2]; trivial)).trans k2, n.le Dl _ bD h2, r2.mono n.kk⟩
    obtain ⟨n13, k3, h3, rr3⟩ := step (Nx.of0 n3)
    have S3 : SE X.K B K3 (wipe σ (own.map (·.2))) H3 (wipeD ds (own.map (·.2))) := (S1.wipe _).next n13
    refine ⟨B, K3, _, _, S3, r3, hg _ _ _ _ (fun ds4 q4 σ4 S4 l4 o4 => ⟨wipe_again (l4.trans (wipe_length _ _)) fun j hj => o4 j fun z => hj (hv j z), ?_⟩) q2⟩
    refine ⟨B, K3, ds4, S4, ht _ _ _ _ (fun b q5 K5 H5 n5 => ?_) q4⟩
    have bag2 : ∀ b, B.bg = some b → Bag K2 H2 b := fun b z => let ⟨c, hc⟩ := S1.bag b z; ⟨c, n2.bag b c z hc⟩
    have n35 : Nx B.bg K2 H2 K5 H5 := Nx.trans bag2 (Nx.of0 n3) n5
    obtain ⟨n15, k5, h5, rr5⟩ := step n35
    cases b with
    | false => exact ⟨hlt, K5, vs, acc, n15, k5, h5, rr5, by omega, q5⟩
    | true =>
      refine ⟨B, K5, ds4, S4.next n5, he _ _ _ _ (fun d q6 v K6 H6 n6 r6 => ?_) q5⟩
      have n26 : Nx B.bg K2 H2 K6 H6 := Nx.trans bag2 n35 n6
      obtain ⟨n16, k6, h6, rr6⟩ := step n26
      have z1 : vs.length < sizeLine := by omega
      refine ⟨vs, h6, z1, hlt, K6, vs ++ [v], acc ++ [d], ⟨fun a o eb ea => ?_, fun b c eb hb => ?_, n16.kk, n16.fr, fun a o ea => ?_⟩, k6, upd_same, rr6.append (.cons _ _ _ _ r6 .nil), by rw [List.length_append]; simp; omega, q6⟩
      · rw [upd_ne (ne_of_none ea hD)]
        exact n16.le a o eb ea
      · obtain ⟨x0, x1, i, cells, g1, g2, g3⟩ := n16.bag b c eb hb
        refine ⟨x0, x1, i, cells, ?_, g2, g3⟩
        rw [upd_ne (fun z => bD (by rw [← z]; exact eb))]
        exact g1
      · rw [upd_ne (ne_of_none ea k6)]
        exact n16.kh a o ea
  · have e : i = items.length := by omega
    subst e
    rw [List.drop_length] at q2
    refine .inl ⟨w2 _ rfl, ?_⟩
    have q3 : P' acc := q2
    refine q3 Dl vs K2 H2 (Nx.trans S.bag n1 n2) ?_ k2 bD h2 r2 (by omega)
    cases e : H Dl with
    | none => rfl
    | some o => exact absurd hD (n1.there S.bag (by rw [e]; exact fun z => nomatch z))
/-- a fresh list gets known -/
theorem Nx.freeze {bg : BG} {K H K' H' : Hp} {p : Addr} {ws : List V} (n : Nx bg K H K' H') (h0 : H p = none) (k : K' p = none) (h : H' p = some (.lst ws)) : Nx bg K H (upd K' p (.lst ws)) H' := by
  refine ⟨n.le, fun b c eb hb => ?_, Ex.trans n.kk (Ex.new k), fun a ha => ?_, fun a o ea => ?_⟩
  · obtain ⟨x0, x1, i, cells, g1, g2, g3⟩ := n.bag b c eb hb
    exact ⟨x0, x1, i, cells, g1, Ex.new k _ _ g2, g3⟩
  · rw [upd_ne (fun z => by rw [z, h0] at ha; exact ha)]
    exact n.fr a ha
  · by_cases z : a = p
    · subst z
      rw [upd_same] at ea
      cases ea
      exact h
    · rw [upd_ne z] at ea
      exact n.kh a o ea
theorem lc_up (hg : ∀ d ds P P', (∀ d, P d → P' d) → g d ds P → g d ds P') (ht : ∀ bg ds P P', (∀ d, P d → P' d) → t bg ds P → t bg ds P') (he : ∀ bg ds P P', (∀ d, P d → P' d) → fe bg ds P → fe bg ds P') (hi : PXI X tg iter di)
    (hv : ∀ j ∈ gs, j ∈ own.map (·.2)) {σ : L2.St} {H : Hp} {Q : VK} (q : up X.K (dLc di g t fe (own.map (·.2))) σ H Q) :
    tLc (upI X.K di) (upG X.K g gs) (upT X.K t) (up X.K fe) (own.map (·.2)) σ H Q := by
  obtain ⟨B, K, ds, S, p⟩ := q
  refine lc_upF hg ht he hi hv ⟨B, K, ds, S, hi.mono _ _ _ _ (fun items q => lcW_mono hg ht he (fun out q p ws K' H' n h0 k' bp h' r z => ?_) items [] q) p⟩
  exact q _ _ _ (n.freeze h0 k' h') (.lst p ws out z upd_same (r.mono (Ex.new k')))
theorem x_lc {pos : Pos} {ifs : List Expr} (hc : X.calm = true) (hN : X.N.Nodup) (hi : PXI X tg iter di) (ok : BlkOk X.N X.env.scope scope own)
    (hg : ∀ (s : Shared) (H : Hp) (C : Addr) (cl : List (Str × Addr)) (fp : List Addr), PXG (X.blk s H scope (compEnvC scope cl C X.env) fp) tg g gs) (ht : ∀ (s : Shared) (H : Hp) (C : Addr) (cl : List (Str × Addr)) (fp : List Addr), PXTs (X.blk s H scope (compEnvC scope cl C X.env) fp) ifs t)
    (he : ∀ (s : Shared) (H : Hp) (C : Addr) (cl : List (Str × Addr)) (fp : List Addr), PX (X.blk s H scope (compEnvC scope cl C X.env) fp) elt fe) (hv : ∀ j ∈ gs, j ∈ own.map (·.2) := by decide) (hs : ∀ x, foldedSetIterable iter X.env x = pure x := by intro _; rfl) :
    PX X (.ListComp elt [⟨tg, iter, ifs, 0⟩] scope pos) (dLc di g t fe (own.map (·.2))) := by
  have w : World := X.w
  have hgm := fun s H C cl fp => (hg s H C cl fp).mono
  have htm := fun s H C cl fp => (ht s H C cl fp).mono
  have hem := fun s H C cl fp => (he s H C cl fp).mono
  refine ⟨(pe_lc (g := upG X.K g gs) (tt := upT X.K t) (te := up X.K fe) hc hN hi.pi ok (fun s H C cl fp => (hg s H C cl fp).pg) (fun s H C cl fp => (ht s H C cl fp).pts) (fun s H C cl fp => (he s H C cl fp).pe) hs).weak fun σ H Q q => ?_, ?_⟩
  · exact lc_up (hgm X.s_0 H 0 [] []) (htm X.s_0 H 0 [] []) (hem X.s_0 H 0 [] []) hi hv q
  · intro bg ds P P' m p
    exact hi.mono _ _ _ _ (fun items q => lcW_mono (hgm X.s_0 X.H_0 0 [] []) (htm X.s_0 X.H_0 0 [] []) (hem X.s_0 X.H_0 0 [] []) (fun l z => m _ z) items [] q) p
/-- y = [..], y a local -/
theorem xs_setLc {i : Nat} {y : Str} {py pos spos : Pos} {ifs : List Expr} (hc : X.calm = true) (hN : X.N.Nodup) (hy : X.N[i]? = some y) (hyl : X.env.scope.names.lookup y = some .local)
    (hsw : swapsWith (.ListComp elt [⟨tg, iter, ifs, 0⟩] scope pos) (some (.Name y py)) spos.line X.env = pure true) (hi : PXI X tg iter di) (ok : BlkOk X.N X.env.scope scope own)
    (hg : ∀ (s : Shared) (H : Hp) (C : Addr) (cl : List (Str × Addr)) (fp : List Addr), PXG (X.blk s H scope (compEnvC scope cl C X.env) fp) tg g gs) (ht : ∀ (s : Shared) (H : Hp) (C : Addr) (cl : List (Str × Addr)) (fp : List Addr), PXTs (X.blk s H scope (compEnvC scope cl C X.env) fp) ifs t)
    (he : ∀ (s : Shared) (H : Hp) (C : Addr) (cl : List (Str × Addr)) (fp : List Addr), PX (X.blk s H scope (compEnvC scope cl C X.env) fp) elt fe) (hv : ∀ j ∈ gs, j ∈ own.map (·.2) := by decide) (hs : ∀ x, foldedSetIterable iter X.env x = pure x := by intro _; rfl) :
    PXS X (.Assign [.Name y py] (.ListComp elt [⟨tg, iter, ifs, 0⟩] scope pos) spos) (dAsg (dLc di g t fe (own.map (·.2))) (gN i)) := by
  have hgm := fun s H C cl fp => (hg s H C cl fp).mono
  have htm := fun s H C cl fp => (ht s H C cl fp).mono
  have hem := fun s H C cl fp => (he s H C cl fp).mono
  have mono : ∀ bg ds P P', (∀ d, P d → P' d) → dLc di g t fe (own.map (·.2)) bg ds P → dLc di g t fe (own.map (·.2)) bg ds P' := fun bg ds P P' m p =>
    hi.mono _ _ _ _ (fun items q => lcW_mono (hgm X.s_0 X.H_0 0 [] []) (htm X.s_0 X.H_0 0 [] []) (hem X.s_0 X.H_0 0 [] []) (fun l z => m _ z) items [] q) p
  refine ⟨(ps_setLc (g := upG X.K g gs) (tt := upT X.K t) (te := up X.K fe) hc hN hy hyl hsw hi.pi ok (fun s H C cl fp => (hg s H C cl fp).pg) (fun s H C cl fp => (ht s H C cl fp).pts) (fun s H C cl fp => (he s H C cl fp).pe) hs).weak fun D σ H ⟨B, K, ds, S, p⟩ => ?_, fun bg E E' ds l p => mono _ _ _ _ (fun d q => l.nx _ q) p⟩
  exact lc_up (hgm X.s_0 H 0 [] []) (htm X.s_0 H 0 [] []) (hem X.s_0 H 0 [] []) hi hv ⟨B, K, ds, S, mono _ _ _ _ (fun d q v K' H' n r => q _ K' H' ((S.next n).set r)) p⟩
/-- y = [..], y a local, its own list -/
@[simp] def dLcO (i : Nat) (di : DA) (g : DG) (t : DT) (fe : DE) (vs : List Nat) : DSm := fun bg E ds => di bg ds fun items => lcW bg g t fe (wipeD ds vs) items [] fun out => E.nx (ds.set i (.own out))
theorem xs_setLcO {i : Nat} {y : Str} {py pos spos : Pos} {ifs : List Expr} (hc : X.calm = true) (hN : X.N.Nodup) (hy : X.N[i]? = some y) (hyl : X.env.scope.names.lookup y = some .local)
    (hsw : swapsWith (.ListComp elt [⟨tg, iter, ifs, 0⟩] scope pos) (some (.Name y py)) spos.line X.env = pure true) (hi : PXI X tg iter di) (ok : BlkOk X.N X.env.scope scope own)
    (hg : ∀ (s : Shared) (H : Hp) (C : Addr) (cl : List (Str × Addr)) (fp : List Addr), PXG (X.blk s H scope (compEnvC scope cl C X.env) fp) tg g gs) (ht : ∀ (s : Shared) (H : Hp) (C : Addr) (cl : List (Str × Addr)) (fp : List Addr), PXTs (X.blk s H scope (compEnvC scope cl C X.env) fp) ifs t)
    (he : ∀ (s : Shared) (H : Hp) (C : Addr) (cl : List (Str × Addr)) (fp : List Addr), PX (X.blk s H scope (compEnvC scope cl C X.env) fp) elt fe) (hv : ∀ j ∈ gs, j ∈ own.map (·.2) := by decide) (hs : ∀ x, foldedSetIterable iter X.env x = pure x := by intro _; rfl) :
    PXS X (.Assign [.Name y py] (.ListComp elt [⟨tg, iter, ifs, 0⟩] scope pos) spos) (dLcO i di g t fe (own.map (·.2))) := by
  have hgm := fun s H C cl fp => (hg s H C cl fp).mono
  have htm := fun s H C cl fp => (ht s H C cl fp).mono
  have hem := fun s H C cl fp => (he s H C cl fp).mono
  refine ⟨(ps_setLc (g := upG X.K g gs) (tt := upT X.K t) (te := up X.K fe) hc hN hy hyl hsw hi.pi ok (fun s H C cl fp => (hg s H C cl fp).pg) (fun s H C cl fp => (ht s H C cl fp).pts) (fun s H C cl fp => (he s H C cl fp).pe) hs).weak fun D σ H ⟨B, K, ds, S, p⟩ => ?_, fun bg E E' ds l p => ?_⟩
  · refine lc_upF (hgm X.s_0 H 0 [] []) (htm X.s_0 H 0 [] []) (hem X.s_0 H 0 [] []) hi hv ⟨B, K, ds, S, hi.mono _ _ _ _ (fun items q => lcW_mono (hgm X.s_0 H 0 [] []) (htm X.s_0 H 0 [] []) (hem X.s_0 H 0 [] []) (fun out q p ws K' H' n h0 k' bp h' r z => ?_) items [] q) p⟩
    refine q _ K' H' ((S.next n).setOwn k' (S.nodom h0) bp h' r z fun j sj hj e1 e2 e3 => ?_)
    exact S.noown h0 e1 e2 e3
  · exact hi.mono _ _ _ _ (fun items q => lcW_mono (hgm X.s_0 X.H_0 0 [] []) (htm X.s_0 X.H_0 0 [] []) (hem X.s_0 X.H_0 0 [] []) (fun _ z => l.nx _ z) items [] q) p
end
end

/-! ### a def -/
@[simp] def startD (N : List Str) (l : List D) : DS := l.map .val ++ List.replicate (N.length - l.length) .no
section
variable {P : Program} {w : World} {K : PySem.W.Frag} {mg : Str → Option Value} {base : Heap}
theorem start_get {N : List Str} {l : List D} {i : Nat} {sl : Sl} (e : (startD N l)[i]? = some sl) : (∃ d, l[i]? = some d ∧ sl = .val d) ∨ (l.length ≤ i ∧ sl = .no) := by
  unfold startD at e
  by_cases hi : i < l.length
  · rw [List.getElem?_append_left (by rw [List.length_map]; exact hi), List.getElem?_map, List.getElem?_eq_getElem hi] at e
    exact .inl ⟨l[i], List.getElem?_eq_getElem hi, (Option.some.inj e).symm⟩
  · rw [List.getElem?_append_right (by rw [List.length_map]; omega)] at e
    have h := List.mem_of_getElem? e
    exact .inr ⟨by omega, List.eq_of_mem_replicate h⟩
theorem start_SE {N : List Str} {vs : List V} {l : List D} {bg : BG} {K0 H : Hp} (kh : Ex K0 H) {c : Addr} (hb : ∀ b, bg = some b → K0 b = none ∧ BagC K0 H b c) (r : Reps K K0 vs l) (hl : l.length ≤ N.length) : SE K ⟨H, K0, bg, c⟩ K0 (L2.start N vs) H (startD N l) := by
  refine ⟨fun _ _ _ h => h, Ex.refl _, fun _ _ => rfl, kh, fun b z => (hb b z).1, fun b z => (hb b z).2, ?_, fun i sl e => ?_, fun i j si sj a h e1 e2 o1 o2 f1 f2 => ?_⟩
  · have h1 := r.length
    unfold L2.start startD
    simp only [List.length_append, List.length_map, List.length_replicate]
    omega
  · rcases start_get e with ⟨d, ed, rfl⟩ | ⟨_, rfl⟩
    · obtain ⟨v, ev, rv⟩ := r.get' ed
      refine ⟨v, ?_, rv⟩
      unfold L2.start
      have hi : i < vs.length := (List.getElem?_eq_some_iff.mp ev).1
      rw [List.getElem?_append_left (by rw [List.length_map]; exact hi), List.getElem?_map, ev]
      rfl
    · trivial
  · rcases start_get e1 with ⟨d, ed, rfl⟩ | ⟨_, rfl⟩ <;> cases o1
/-- THE RULE of a def, by data -/
theorem fn_okD {x qual : Str} {params : Arguments} {body : List Stmt} {scope : Scope} {f : Addr} {fd : FuncData} {N ps : List Str} {k : Nat} {W : DW} (F : FunD K x qual params body scope [] [] f fd) (S : FnScope N ps scope)
    (hlen : ∀ bg l P, W bg l P → l.length = ps.length) (hps : ps.length ≤ N.length)
    (hbody : ∀ (cdv : Value) (A : Around) (outer : List Env) (s : Shared) (H : Hp) (E : XK), Room k (A.deeper (envOfC qual scope s.heap.objs.size f cdv)) →
      ∃ g : DSm, PXSs (cxOf CX0 P w K mg base N qual scope f cdv A outer s H E).nox body g ∧ ∀ bg l P, W bg l P → g bg { nx := fun _ => P .non, rt := P } (startD N l)) :
    FnOk P w K mg base CX0 (k + 1) f fd ps (spW K W) := by
  refine F.ok S (fun vs H Q E ⟨bg, K0, l, P, _, _, r, w, _⟩ => by rw [r.length]; exact hlen _ _ _ w) (fun cdv A outer s H vs Q E hr h => ?_)
  obtain ⟨bg, K0, l, P, kh, hb, r, w, q⟩ := h
  obtain ⟨g, hg, hw⟩ := hbody cdv A outer s H E hr
  obtain ⟨c, hbc⟩ : ∃ c, ∀ b, bg = some b → K0 b = none ∧ BagC K0 H b c := by
    cases bg with
    | none => exact ⟨0, fun b z => nomatch z⟩
    | some b =>
      obtain ⟨h1, c, h2⟩ := hb b rfl
      exact ⟨c, fun b' z => by cases z; exact ⟨h1, h2⟩⟩
  refine ⟨_, PSs.nox hg.pss, ⟨H, K0, bg, c⟩, K0, startD N l, start_SE kh hbc r (by rw [hlen _ _ _ w]; exact hps), ?_⟩
  have fin : ∀ {d v σ' K' H' ds'}, P d → SE K ⟨H, K0, bg, c⟩ K' σ' H' ds' → Rep K K' v d → Q v H' := fun {d v σ' K' H' ds'} pd S' rv =>
    q d v K' H' pd ⟨S'.le, fun b c' e hb' => by
      have e2 : c' = c := by
        obtain ⟨_, _, _, _, g1, _⟩ := (hbc b e).2
        obtain ⟨_, _, _, _, g2, _⟩ := hb'
        rw [g1] at g2
        injection g2 with g3
        injection g3 with g4
        simp only [List.cons.injEq, V.ref.injEq, and_true] at g4
        exact g4.2.2.2.symm
      rw [e2]; exact S'.bagc b e, S'.kk, S'.fr, S'.kh⟩ rv
  exact hg.mono bg { nx := fun _ => P .non, rt := P } _ _ ⟨fun ds pn σ' K' H' S' => fin pn S' .non, fun d pd v σ' K' H' ds' S' rv => fin pd S' rv, fun _ z => False.elim z, fun _ z => False.elim z⟩ (hw bg l P w)
end
end K8
set_option Elab.async false
set_option linter.all false
set_option maxRecDepth 100000
set_option maxHeartbeats 4000000
namespace K8
open PySem PySem.Spec PyProof.Rows L2
open Evl (Ex ex_l ex_t ex_rd)
section
variable {F : PySem.W.Frag}
/-! ### ints -/
@[simp] def RI0 (g : Int → Int → Int) (x y z : D) : Prop := ∃ i j, x = .int i ∧ y = .int j ∧ z = .int (g i j)
@[simp] def RIC (C : Int → Int → Prop) (g : Int → Int → Int) (x y z : D) : Prop := ∃ i j, x = .int i ∧ y = .int j ∧ C i j ∧ z = .int (g i j)
@[simp] def RB0 (g : Int → Int → Bool) (x y z : D) : Prop := ∃ i j, x = .int i ∧ y = .int j ∧ z = .bl (g i j)
theorem r2_I0 {g : Int → Int → Int} : R2d F (rI0 fun i j => .int (g i j)) (RI0 g) := by
  rintro K H x y dx dy z Q kh rx ry ⟨i, j, rfl, rfl, rfl⟩ q
  cases rx; cases ry
  exact ⟨i, j, rfl, rfl, q _ K H (Nx.refl kh) (.int _)⟩
theorem r2_IC {C : Int → Int → Prop} {g : Int → Int → Int} : R2d F (rI C fun i j => .int (g i j)) (RIC C g) := by
  rintro K H x y dx dy z Q kh rx ry ⟨i, j, rfl, rfl, hc, rfl⟩ q
  cases rx; cases ry
  exact ⟨i, j, rfl, rfl, hc, q _ K H (Nx.refl kh) (.int _)⟩
theorem r2_B0 {g : Int → Int → Bool} : R2d F (rI0 fun i j => .bl (g i j)) (RB0 g) := by
  rintro K H x y dx dy z Q kh rx ry ⟨i, j, rfl, rfl, rfl⟩ q
  cases rx; cases ry
  exact ⟨i, j, rfl, rfl, q _ K H (Nx.refl kh) (.bl _)⟩
@[simp] def RU (g : Int → Int) (x z : D) : Prop := ∃ i, x = .int i ∧ z = .int (g i)
theorem u1_I {g : Int → Int} : U1d F (rU fun i => .int (g i)) (RU g) := by
  rintro K H x dx z Q kh rx ⟨i, rfl, rfl⟩ q
  cases rx
  exact ⟨i, rfl, q _ K H (Nx.refl kh) (.int _)⟩
/-! ### == of scalars -/
def sEq : D → D → Option Bool
  | .int i, .int j => some (decide (i = j))
  | .str i, .str j => some (decide (i = j))
  | .bl i, .bl j => some (decide (i = j))
  | _, _ => none
@[simp] def REq (x y z : D) : Prop := ∃ b, sEq x y = some b ∧ z = .bl b
@[simp] def RNe (x y z : D) : Prop := ∃ b, sEq x y = some b ∧ z = .bl (!b)
theorem sEq_v {K : Hp} {x y : V} {dx dy : D} {b : Bool} (rx : Rep F K x dx) (ry : Rep F K y dy) (h : sEq dx dy = some b) : scal x y = true ∧ decide (x = y) = b := by
  cases rx <;> cases ry <;> simp only [sEq, Option.some.injEq, reduceCtorEq] at h
  · subst h; exact ⟨rfl, by simp⟩
  · subst h; exact ⟨rfl, by simp⟩
  · subst h; exact ⟨rfl, by simp⟩
theorem r2_eq : R2d F rEq REq := by
  rintro K H x y dx dy z Q kh rx ry ⟨b, hb, rfl⟩ q
  obtain ⟨h1, h2⟩ := sEq_v rx ry hb
  exact ⟨h1, by rw [h2]; exact q _ K H (Nx.refl kh) (.bl _)⟩
theorem r2_ne : R2d F rNe RNe := by
  rintro K H x y dx dy z Q kh rx ry ⟨b, hb, rfl⟩ q
  obtain ⟨h1, h2⟩ := sEq_v rx ry hb
  exact ⟨h1, by rw [h2]; exact q _ K H (Nx.refl kh) (.bl _)⟩
def isNon : D → Bool
  | .non => true
  | _ => false
theorem isNon_v {K : Hp} {x : V} {dx : D} (rx : Rep F K x dx) : decide (x = .non) = isNon dx := by
  cases rx <;> simp [isNon]
@[simp] def RIsN (x y z : D) : Prop := y = .non ∧ z = .bl (isNon x)
@[simp] def RNotN (x y z : D) : Prop := y = .non ∧ z = .bl (!isNon x)
theorem r2_isN : R2d F (fun x y H Q => y = .non ∧ Q (.bl (decide (x = .non))) H) RIsN := by
  rintro K H x y dx dy z Q kh rx ry ⟨rfl, rfl⟩ q
  cases ry
  exact ⟨rfl, by rw [isNon_v rx]; exact q _ K H (Nx.refl kh) (.bl _)⟩
theorem r2_notN : R2d F (fun x y H Q => y = .non ∧ Q (.bl (!decide (x = .non))) H) RNotN := by
  rintro K H x y dx dy z Q kh rx ry ⟨rfl, rfl⟩ q
  cases ry
  exact ⟨rfl, by rw [isNon_v rx]; exact q _ K H (Nx.refl kh) (.bl _)⟩
@[simp] def RNotB (x y z : D) : Prop := ∃ a b, x = .bl a ∧ y = .bl b ∧ z = .bl (!decide (a = b))
theorem r2_notB : R2d F (fun x y H Q => ∃ a b, x = .bl a ∧ y = .bl b ∧ Q (.bl (!decide (a = b))) H) RNotB := by
  rintro K H x y dx dy z Q kh rx ry ⟨a, b, rfl, rfl, rfl⟩ q
  cases rx; cases ry
  exact ⟨a, b, rfl, rfl, q _ K H (Nx.refl kh) (.bl _)⟩
/-! ### texts -/
@[simp] def RS (g : Str → Str → Bool) (x y z : D) : Prop := ∃ i j, x = .str i ∧ y = .str j ∧ z = .bl (g i j)
def ltS (i j : Str) : Bool := decide (i.cps.toList < j.cps.toList)
def leS (i j : Str) : Bool := !decide (j.cps.toList < i.cps.toList)
theorem r2_ltS : R2d F (fun x y H Q => ∃ i j, x = .str i ∧ y = .str j ∧ Q (.bl (decide (i.cps.toList < j.cps.toList))) H) (RS ltS) := by
  rintro K H x y dx dy z Q kh rx ry ⟨i, j, rfl, rfl, rfl⟩ q
  cases rx; cases ry
  exact ⟨i, j, rfl, rfl, q _ K H (Nx.refl kh) (.bl _)⟩
theorem r2_leS : R2d F (fun x y H Q => ∃ i j, x = .str i ∧ y = .str j ∧ Q (.bl (!decide (j.cps.toList < i.cps.toList))) H) (RS leS) := by
  rintro K H x y dx dy z Q kh rx ry ⟨i, j, rfl, rfl, rfl⟩ q
  cases rx; cases ry
  exact ⟨i, j, rfl, rfl, q _ K H (Nx.refl kh) (.bl _)⟩
@[simp] def RAddS (x y z : D) : Prop := ∃ i j, x = .str i ∧ y = .str j ∧ i.length + j.length ≤ sizeLine ∧ z = .str (i ++ j)
theorem r2_addS : R2d F (fun x y H Q => ∃ i j, x = .str i ∧ y = .str j ∧ i.length + j.length ≤ sizeLine ∧ Q (.str (i ++ j)) H) RAddS := by
  rintro K H x y dx dy z Q kh rx ry ⟨i, j, rfl, rfl, h, rfl⟩ q
  cases rx; cases ry
  exact ⟨i, j, rfl, rfl, h, q _ K H (Nx.refl kh) (.str _)⟩
@[simp] def RInC (x y z : D) : Prop := ∃ (c : Nat) (s : Str), x = .str ⟨#[c]⟩ ∧ y = .str s ∧ z = .bl (decide (c ∈ s.cps.toList))
theorem r2_inC : R2d F (fun x y H Q => ∃ (c : Nat) (z : Str), x = .str ⟨#[c]⟩ ∧ y = .str z ∧ Q (.bl (decide (c ∈ z.cps.toList))) H) RInC := by
  rintro K H x y dx dy z Q kh rx ry ⟨c, s, rfl, rfl, rfl⟩ q
  cases rx; cases ry
  exact ⟨c, s, rfl, rfl, q _ K H (Nx.refl kh) (.bl _)⟩
/-! ### in -/
@[simp] def RIn (neg : Bool) (x y z : D) : Prop := (∃ (s : Str) (ss : List Str), x = .str s ∧ (y = .lst (ss.map .str) ∨ IsT y (ss.map .str)) ∧ z = .bl (neg != decide (s ∈ ss))) ∨
  ∃ (s : Int) (ss : List Int), x = .int s ∧ (y = .lst (ss.map .int) ∨ IsT y (ss.map .int)) ∧ z = .bl (neg != decide (s ∈ ss))
theorem inV_str (s : Str) (ss : List Str) : inV (.str s) (ss.map V.str) = decide (s ∈ ss) := by
  unfold inV
  rw [List.any_map, Bool.eq_iff_iff, List.any_eq_true]
  simp only [Function.comp, eqV, beq_iff_eq, decide_eq_true_eq]
  constructor
  · rintro ⟨y, hy, e⟩; rw [← e]; exact hy
  · intro h; exact ⟨s, h, rfl⟩
theorem inV_int (s : Int) (ss : List Int) : inV (.int s) (ss.map V.int) = decide (s ∈ ss) := by
  unfold inV
  rw [List.any_map, Bool.eq_iff_iff, List.any_eq_true]
  simp only [Function.comp, eqV, beq_iff_eq, decide_eq_true_eq]
  constructor
  · rintro ⟨y, hy, e⟩; rw [← e]; exact hy
  · intro h; exact ⟨s, h, rfl⟩
theorem flat_ints (ys : List Int) : (ys.map V.int).all flatV = true := by
  rw [List.all_map]
  exact List.all_eq_true.mpr fun _ _ => rfl
theorem Rep.seq {K H : Hp} {v : V} {y : D} {l : List D} (kh : Ex K H) (r : Rep F K v y) (h : y = .lst l ∨ IsT y l) : ∃ a vs, v = .ref a ∧ (SqL F H a vs ∨ SqT F H a vs) ∧ Reps F K vs l ∧ vs.length ≤ sizeLine := by
  rcases h with rfl | h
  · obtain ⟨a, vs, e, h, r, z⟩ := r.seqL kh
    exact ⟨a, vs, e, .inl (.inl (.inl h)), r, z⟩
  · obtain ⟨a, vs, e, h, r, z⟩ := r.seqT kh h
    exact ⟨a, vs, e, .inr h, r, z⟩
theorem r2_in {neg : Bool} : R2d F (rIn F neg) (RIn neg) := by
  rintro K H x y dx dy z Q kh rx ry (⟨s, ss, rfl, hy, rfl⟩ | ⟨s, ss, rfl, hy, rfl⟩) q
  · cases rx
    obtain ⟨a, vs, rfl, h, r, _⟩ := ry.seq kh hy
    have e := Reps.strs r
    subst e
    refine ⟨a, _, rfl, h, rfl, flat_strs ss, ?_⟩
    rw [inV_str]
    have q' := q _ K H (Nx.refl kh) (.bl _)
    cases neg <;> simpa using q'
  · cases rx
    obtain ⟨a, vs, rfl, h, r, _⟩ := ry.seq kh hy
    have e := Reps.ints r
    subst e
    refine ⟨a, _, rfl, h, rfl, flat_ints ss, ?_⟩
    rw [inV_int]
    have q' := q _ K H (Nx.refl kh) (.bl _)
    cases neg <;> simpa using q'
/-! ### lists, tuples -/
@[simp] def RCatL (x y z : D) : Prop := ∃ l m, x = .lst l ∧ y = .lst m ∧ l.length + m.length ≤ sizeLine ∧ z = .lst (l ++ m)
theorem r2_catL : R2d F rCat RCatL := by
  rintro K H x y dx dy z Q kh rx ry ⟨l, m, rfl, rfl, h, rfl⟩ q
  obtain ⟨a, vs, rfl, ha, ra, za⟩ := rx.seqL kh
  obtain ⟨b, ws, rfl, hb, rb, zb⟩ := ry.seqL kh
  have z1 : vs.length + ws.length ≤ sizeLine := by rw [ra.length, rb.length]; exact h
  exact ⟨a, b, vs, ws, rfl, rfl, ha, hb, z1, fun p hp => q _ _ _ (Nx.new kh hp) (.lst p _ _ (by rw [List.length_append]; exact z1) upd_same ((ra.append rb).mono (Nx.new (bg := none) kh hp).kk))⟩
@[simp] def RCatT (x y z : D) : Prop := ∃ l m, x = .tup l ∧ y = .tup m ∧ l.length + m.length ≤ sizeLine ∧ z = .tup (l ++ m)
theorem r2_catT : R2d F (rCatA F) RCatT := by
  rintro K H x y dx dy z Q kh rx ry ⟨l, m, rfl, rfl, h, rfl⟩ q
  have rx' := rx
  have ry' := ry
  obtain ⟨a, vs, rfl, ha, ra, za⟩ := rx.seqT kh (.inl rfl)
  obtain ⟨b, ws, rfl, hb, rb, zb⟩ := ry.seqT kh (.inl rfl)
  have z1 : vs.length + ws.length ≤ sizeLine := by rw [ra.length, rb.length]; exact h
  refine ⟨a, b, vs, ws, rfl, rfl, ha, hb, z1, fun e => ?_, fun e1 e2 => ?_, fun e1 e2 p hp => ?_⟩
  · subst e
    cases ra
    exact q _ K H (Nx.refl kh) ry'
  · subst e2
    cases rb
    rw [List.append_nil] at q
    exact q _ K H (Nx.refl kh) rx'
  · exact q _ _ _ (Nx.new kh hp) (.tup p _ _ (by rw [List.length_append]; exact z1) upd_same ((ra.append rb).mono (Nx.new (bg := none) kh hp).kk))
@[simp] def RIx (x y z : D) : Prop := ∃ l i, (x = .lst l ∨ IsT x l) ∧ y = .int i ∧ atI l i = some z
theorem atI_rep {K : Hp} {vs : List V} {l : List D} {i : Int} {z : D} (r : Reps F K vs l) (h : atI l i = some z) : ∃ v, atI vs i = some v ∧ Rep F K v z := by
  unfold atI at h ⊢
  rw [r.length]
  cases e : ixN l.length i with
  | none => rw [e] at h; cases h
  | some j =>
    rw [e] at h
    exact r.get' h
theorem r2_ix : R2d F (rIx F) RIx := by
  rintro K H x y dx dy z Q kh rx ry ⟨l, i, hx, rfl, h⟩ q
  cases ry
  rcases hx with rfl | hx
  · obtain ⟨a, vs, rfl, ha, ra, _⟩ := rx.seqL kh
    obtain ⟨v, hv, rv⟩ := atI_rep ra h
    exact .inl ⟨a, vs, i, v, rfl, rfl, .inl (.inl ha), hv, q v K H (Nx.refl kh) rv⟩
  · obtain ⟨a, vs, rfl, ha, ra, _⟩ := rx.seqT kh hx
    obtain ⟨v, hv, rv⟩ := atI_rep ra h
    exact .inr (.inl ⟨a, vs, i, v, rfl, rfl, ha, hv, q v K H (Nx.refl kh) rv⟩)
@[simp] def RIxS (x y z : D) : Prop := ∃ s i c, x = .str s ∧ y = .int i ∧ s.length ≤ sizeLine ∧ atI s.cps.toList i = some c ∧ z = .str ⟨#[c]⟩
theorem r2_ixS : R2d F rIxS RIxS := by
  rintro K H x y dx dy z Q kh rx ry ⟨s, i, c, rfl, rfl, h, hc, rfl⟩ q
  cases rx; cases ry
  exact ⟨s, i, c, rfl, rfl, h, hc, q _ K H (Nx.refl kh) (.str _)⟩
def cutD {α : Type} (xs : List α) (lo hi : Option Int) : List α := (xs.drop (HT.sIx xs.length 0 lo)).take (HT.sIx xs.length xs.length hi - HT.sIx xs.length 0 lo)
theorem Reps.cut {K : Hp} {vs : List V} {l : List D} (r : Reps F K vs l) (lo hi : Option Int) : Reps F K (cutV vs lo hi) (cutD l lo hi) := by
  unfold cutV cutD
  rw [r.length]
  exact (r.drop _).take _
theorem cutV_len (xs : List V) (lo hi : Option Int) : (cutV xs lo hi).length ≤ xs.length := by
  unfold cutV
  rw [List.length_take, List.length_drop]
  omega
@[simp] def RSlL (x : D) (lo hi : Option Int) (z : D) : Prop := ∃ l, x = .lst l ∧ z = .lst (cutD l lo hi)
theorem s3_L : S3d F (rSlL F) RSlL := by
  rintro K H x dx lo hi z Q kh rx ⟨l, rfl, rfl⟩ q
  obtain ⟨a, vs, rfl, ha, ra, za⟩ := rx.seqL kh
  exact ⟨a, vs, rfl, .inl (.inl ha), fun p hp => q _ _ _ (Nx.new kh hp) (.lst p _ _ (Nat.le_trans (cutV_len _ _ _) za) upd_same ((ra.cut lo hi).mono (Nx.new (bg := none) kh hp).kk))⟩
@[simp] def RSlT (x : D) (lo hi : Option Int) (z : D) : Prop := ∃ l, x = .tup l ∧ z = .tup (cutD l lo hi)
theorem s3_T : S3d F (rSlA F) RSlT := by
  rintro K H x dx lo hi z Q kh rx ⟨l, rfl, rfl⟩ q
  have rx' := rx
  obtain ⟨a, vs, rfl, ha, ra, za⟩ := rx.seqT kh (.inl rfl)
  refine ⟨a, vs, rfl, ha, fun ⟨e1, e2⟩ => ?_, fun _ p hp => q _ _ _ (Nx.new kh hp) (.tup p _ _ (Nat.le_trans (cutV_len _ _ _) za) upd_same ((ra.cut lo hi).mono (Nx.new (bg := none) kh hp).kk))⟩
  have e : cutD l lo hi = l := by
    unfold cutD
    rw [← ra.length, e1, e2, List.drop_zero, Nat.sub_zero, ra.length, List.take_length]
  rw [e] at q
  exact q _ K H (Nx.refl kh) rx'
@[simp] def RSlS (x : D) (lo hi : Option Int) (z : D) : Prop := ∃ s, x = .str s ∧ s.length ≤ sizeLine ∧ z = .str (cutS s lo hi)
theorem s3_S : S3d F rSlS RSlS := by
  rintro K H x dx lo hi z Q kh rx ⟨s, rfl, h, rfl⟩ q
  cases rx
  exact ⟨s, rfl, h, q _ K H (Nx.refl kh) (.str _)⟩
/-! ### built-in calls -/
@[simp] def RLen (l : List D) (z : D) : Prop := (∃ x m, l = [x] ∧ (x = .lst m ∨ IsT x m) ∧ z = .int (m.length : Nat)) ∨ ∃ s : Str, l = [.str s] ∧ s.length ≤ sizeLine ∧ z = .int (s.length : Nat)
theorem reps1 {K : Hp} {vs : List V} {d : D} (r : Reps F K vs [d]) : ∃ v, vs = [v] ∧ Rep F K v d := by
  cases r with
  | cons v d vs l h r => cases r; exact ⟨v, rfl, h⟩
theorem c1_len : C1d F (fun xs H Q => ∃ x n, xs = [x] ∧ LenV F x H n ∧ Q (.int n) H) RLen := by
  rintro K H vs l z Q kh r (⟨x, m, rfl, hx, rfl⟩ | ⟨s, rfl, hs, rfl⟩) q
  · obtain ⟨v, rfl, rv⟩ := reps1 r
    obtain ⟨a, ws, rfl, h, rw', _⟩ := rv.seq kh hx
    refine ⟨_, m.length, rfl, ?_, q _ K H (Nx.refl kh) (.int _)⟩
    rcases h with h | h
    · exact .inl ⟨ws, h, rw'.length.symm⟩
    · exact .inr ⟨ws, h, rw'.length.symm⟩
  · obtain ⟨v, rfl, rv⟩ := reps1 r
    cases rv
    exact ⟨_, s.length, rfl, ⟨hs, rfl⟩, q _ K H (Nx.refl kh) (.int _)⟩
/-- tuple(..) of a list, or of a tuple -/
@[simp] def RTup (l : List D) (z : D) : Prop := ∃ m, (l = [.lst m] ∨ l = [.tup m]) ∧ z = .tup m
theorem c1_tup : C1d F (fun xs H Q => ∃ p ys, xs = [.ref p] ∧ ((SqL F H p ys ∧ ∀ l, H l = none → Q (.ref l) (upd H l (.tup ys))) ∨ (SqT F H p ys ∧ Q (.ref p) H))) RTup := by
  rintro K H vs l z Q kh r ⟨m, hl, rfl⟩ q
  rcases hl with rfl | rfl
  · obtain ⟨v, rfl, rv⟩ := reps1 r
    obtain ⟨a, ws, rfl, h, rw', z⟩ := rv.seqL kh
    exact ⟨a, ws, rfl, .inl ⟨.inl (.inl h), fun p hp => q _ _ _ (Nx.new kh hp) (.tup p _ _ z upd_same (rw'.mono (Nx.new (bg := none) kh hp).kk))⟩⟩
  · obtain ⟨v, rfl, rv⟩ := reps1 r
    have rv' := rv
    obtain ⟨a, ws, rfl, h, rw', z⟩ := rv.seqT kh (.inl rfl)
    exact ⟨a, ws, rfl, .inr ⟨h, q _ K H (Nx.refl kh) rv'⟩⟩
@[simp] def RList (l : List D) (z : D) : Prop := ∃ x m, l = [x] ∧ (x = .lst m ∨ IsT x m) ∧ z = .lst m
theorem c1_list : C1d F (fun xs H Q => ∃ p ys, xs = [.ref p] ∧ (SqL F H p ys ∨ SqT F H p ys) ∧ ∀ l, H l = none → Q (.ref l) (upd H l (.lst ys))) RList := by
  rintro K H vs l z Q kh r ⟨x, m, rfl, hx, rfl⟩ q
  obtain ⟨v, rfl, rv⟩ := reps1 r
  obtain ⟨a, ws, rfl, h, rw', z⟩ := rv.seq kh hx
  exact ⟨a, ws, rfl, h, fun p hp => q _ _ _ (Nx.new kh hp) (.lst p _ _ z upd_same (rw'.mono (Nx.new (bg := none) kh hp).kk))⟩
theorem reps_ints {K : Hp} {vs : List V} {ns : List Int} (r : Reps F K vs [.lst (ns.map .int)]) {H : Hp} (kh : Ex K H) : ∃ a, vs = [.ref a] ∧ H a = some (.lst (ns.map V.int)) := by
  obtain ⟨v, rfl, rv⟩ := reps1 r
  obtain ⟨a, ws, rfl, h, rw', z⟩ := rv.seqL kh
  rw [Reps.ints rw'] at h
  exact ⟨a, rfl, h⟩
@[simp] def RSum (l : List D) (z : D) : Prop := ∃ ns : List Int, l = [.lst (ns.map .int)] ∧ z = .int ns.sum
theorem c1_sum : C1d F (rSum F) RSum := by
  rintro K H vs l z Q kh r ⟨ns, rfl, rfl⟩ q
  obtain ⟨a, rfl, h⟩ := reps_ints r kh
  exact ⟨a, ns, rfl, .inl (.inl h), q _ K H (Nx.refl kh) (.int _)⟩
@[simp] def RMax (l : List D) (z : D) : Prop := ∃ (ns : List Int) (m : Int), l = [.lst (ns.map .int)] ∧ m ∈ ns ∧ (∀ y ∈ ns, y ≤ m) ∧ z = .int m
theorem c1_max : C1d F (rMax F) RMax := by
  rintro K H vs l z Q kh r ⟨ns, m, rfl, hm, hl, rfl⟩ q
  obtain ⟨a, rfl, h⟩ := reps_ints r kh
  refine ⟨a, ns, rfl, .inl (.inl h), List.length_pos_of_mem hm, fun m' h1 h2 => ?_⟩
  have e : m' = m := Int.le_antisymm (hl _ h1) (h2 _ hm)
  subst e
  exact q _ K H (Nx.refl kh) (.int _)
@[simp] def RMin (l : List D) (z : D) : Prop := ∃ (ns : List Int) (m : Int), l = [.lst (ns.map .int)] ∧ m ∈ ns ∧ (∀ y ∈ ns, m ≤ y) ∧ z = .int m
theorem c1_min : C1d F (rMin F) RMin := by
  rintro K H vs l z Q kh r ⟨ns, m, rfl, hm, hl, rfl⟩ q
  obtain ⟨a, rfl, h⟩ := reps_ints r kh
  refine ⟨a, ns, rfl, .inl (.inl h), List.length_pos_of_mem hm, fun m' h1 h2 => ?_⟩
  have e : m' = m := Int.le_antisymm (h2 _ hm) (hl _ h1)
  subst e
  exact q _ K H (Nx.refl kh) (.int _)
@[simp] def RAbs (l : List D) (z : D) : Prop := ∃ i : Int, l = [.int i] ∧ z = .int (if i < 0 then -i else i)
theorem c1_abs : C1d F (fun xs H Q => ∃ i, xs = [.int i] ∧ Q (.int (if i < 0 then -i else i)) H) RAbs := by
  rintro K H vs l z Q kh r ⟨i, rfl, rfl⟩ q
  obtain ⟨v, rfl, rv⟩ := reps1 r
  cases rv
  exact ⟨i, rfl, q _ K H (Nx.refl kh) (.int _)⟩
@[simp] def RInt (l : List D) (z : D) : Prop := (∃ i : Int, l = [.int i] ∧ z = .int i) ∨ ∃ b : Bool, l = [.bl b] ∧ z = .int (if b then 1 else 0)
theorem c1_int : C1d F (fun xs H Q => (∃ i, xs = [.int i] ∧ Q (.int i) H) ∨ ∃ k, xs = [.bl k] ∧ Q (.int (if k then 1 else 0)) H) RInt := by
  rintro K H vs l z Q kh r (⟨i, rfl, rfl⟩ | ⟨i, rfl, rfl⟩) q
  · obtain ⟨v, rfl, rv⟩ := reps1 r
    cases rv
    exact .inl ⟨i, rfl, q _ K H (Nx.refl kh) (.int _)⟩
  · obtain ⟨v, rfl, rv⟩ := reps1 r
    cases rv
    exact .inr ⟨i, rfl, q _ K H (Nx.refl kh) (.int _)⟩
theorem reps_bls {K : Hp} {vs : List V} {ns : List Bool} (r : Reps F K vs [.lst (ns.map .bl)]) {H : Hp} (kh : Ex K H) : ∃ a, vs = [.ref a] ∧ H a = some (.lst (ns.map V.bl)) := by
  obtain ⟨v, rfl, rv⟩ := reps1 r
  obtain ⟨a, ws, rfl, h, rw', z⟩ := rv.seqL kh
  rw [Reps.bls rw'] at h
  exact ⟨a, rfl, h⟩
@[simp] def RAll (l : List D) (z : D) : Prop := ∃ bs : List Bool, l = [.lst (bs.map .bl)] ∧ z = .bl (bs.all id)
theorem c1_all : C1d F (rAll F) RAll := by
  rintro K H vs l z Q kh r ⟨ns, rfl, rfl⟩ q
  obtain ⟨a, rfl, h⟩ := reps_bls r kh
  exact ⟨a, ns, rfl, .inl (.inl h), q _ K H (Nx.refl kh) (.bl _)⟩
@[simp] def RAny (l : List D) (z : D) : Prop := ∃ bs : List Bool, l = [.lst (bs.map .bl)] ∧ z = .bl (bs.any id)
theorem c1_any : C1d F (rAny F) RAny := by
  rintro K H vs l z Q kh r ⟨ns, rfl, rfl⟩ q
  obtain ⟨a, rfl, h⟩ := reps_bls r kh
  exact ⟨a, ns, rfl, .inl (.inl h), q _ K H (Nx.refl kh) (.bl _)⟩
end
end K8
set_option Elab.async false
set_option linter.all false
set_option maxRecDepth 100000
set_option maxHeartbeats 4000000
namespace K8
open PySem PySem.Spec PyProof.Rows L2
open Evl (Ex ex_l ex_t ex_rd)
section
variable {X : Cx} {tg e e2 : Expr} {fe : DE} {f : DA} {p pos tpos : Pos} {elts : List Expr} {kk : Nat}
/-! ### what is walked -/
@[simp] def dItL (fe : DE) : DA := fun bg ds P => fe bg ds fun d => ∃ m, d = .lst m ∧ P m
theorem xi_list (he : PX X e fe) : PXI X tg e (dItL fe) := by
  refine ⟨(pi_list he.pe).weak fun σ H Q ⟨B, K, ds, S, p⟩ => ?_, fun bg ds P P' m p => he.mono _ _ _ _ (fun d ⟨l, e, q⟩ => ⟨l, e, m _ q⟩) p⟩
  refine ⟨B, K, ds, S, he.mono _ _ _ _ (fun d ⟨l, ed, q⟩ v K1 H1 n1 r1 => ?_) p⟩
  subst ed
  obtain ⟨a, vs, rfl, h, r, z⟩ := r1.seqL n1.kh
  refine ⟨a, rfl, ⟨vs, .inl (.inl h)⟩, q _ K1 H1 n1 (fun K2 H2 k2 h2 => ⟨fun i d hd => ?_, fun i hi => ?_⟩) (by rw [← r.length]; exact z)⟩
  · obtain ⟨v, hv, rv⟩ := r.get' hd
    have h3 : SqL X.K H2 a vs := by
      cases r1 with
      | lst a vs' l z h' r' =>
        have e1 := n1.kh _ _ h'
        rw [h] at e1
        cases e1
        exact .inl (.inl (h2 _ _ (k2 _ _ h')))
    refine ⟨⟨vs, v, h3, hv⟩, fun x H' ⟨e, y⟩ => ?_⟩
    subst e
    have e2 : x = v := Option.some.inj ((y vs h3).symm.trans hv)
    subst e2
    exact ⟨K2, Nx.refl h2, rv.mono k2⟩
  · have h3 : SqL X.K H2 a vs := by
      cases r1 with
      | lst a vs' l z h' r' =>
        have e1 := n1.kh _ _ h'
        rw [h] at e1
        cases e1
        exact .inl (.inl (h2 _ _ (k2 _ _ h')))
    exact ⟨vs, h3, by rw [r.length]; exact Nat.le_of_eq hi.symm⟩
@[simp] def dItT (fe : DE) : DA := fun bg ds P => fe bg ds fun d => ∃ m, IsT d m ∧ P m
theorem Rep.tupK {F : PySem.W.Frag} {K : Hp} {v : V} {x : D} {l : List D} (r : Rep F K v x) (h : IsT x l) : ∃ a vs, v = .ref a ∧ Rd K a (.tup vs) ∧ Reps F K vs l ∧ vs.length ≤ sizeLine := by
  rcases h with rfl | rfl
  · cases r with
    | tup a vs l z h r => exact ⟨a, vs, rfl, .inl h, r, z⟩
  · cases r with
    | sol a vs l o hd z h r => exact ⟨a, vs, rfl, .inr ⟨o, h⟩, r, z⟩
theorem xi_tup (he : PX X e fe) : PXI X tg e (dItT fe) := by
  refine ⟨(pi_tup he.pe).weak fun σ H Q ⟨B, K, ds, S, p⟩ => ?_, fun bg ds P P' m p => he.mono _ _ _ _ (fun d ⟨l, e, q⟩ => ⟨l, e, m _ q⟩) p⟩
  refine ⟨B, K, ds, S, he.mono _ _ _ _ (fun d ⟨l, ed, q⟩ v K1 H1 n1 r1 => ?_) p⟩
  obtain ⟨a, vs, rfl, h, r, z⟩ := r1.tupK ed
  refine ⟨a, rfl, ⟨vs, .inl (ex_rd n1.kh h)⟩, q _ K1 H1 n1 (fun K2 H2 k2 h2 => ⟨fun i d hd => ?_, fun i hi => ?_⟩) (by rw [← r.length]; exact z)⟩
  · obtain ⟨v, hv, rv⟩ := r.get' hd
    have h3 : SqT X.K H2 a vs := .inl (ex_rd h2 (ex_rd k2 h))
    refine ⟨⟨vs, v, h3, hv⟩, fun x H' ⟨e, y⟩ => ?_⟩
    subst e
    have e2 : x = v := Option.some.inj ((y vs h3).symm.trans hv)
    subst e2
    exact ⟨K2, Nx.refl h2, rv.mono k2⟩
  · exact ⟨vs, .inl (ex_rd h2 (ex_rd k2 h)), by rw [r.length]; exact Nat.le_of_eq hi.symm⟩
@[simp] def rngD (n : Nat) : List D := (List.range n).map fun (i : Nat) => D.int ((i : Nat) : Int)
theorem rngD_get {n i : Nat} {d : D} (h : (rngD n)[i]? = some d) : i < n ∧ d = .int (i : Int) := by
  unfold rngD at h
  rw [List.getElem?_map] at h
  by_cases hi : i < n
  · rw [List.getElem?_range hi] at h
    exact ⟨hi, (Option.some.inj h).symm⟩
  · rw [List.getElem?_eq_none (by simpa using hi)] at h
    cases h
@[simp] def dItR (f : DA) : DA := fun bg ds P => f bg ds fun l => ∃ n : Nat, l = [.int (n : Int)] ∧ n ≤ sizeLine ∧ P (rngD n)
theorem xi_range (hg : Gl X "range") (hm : X.mg "range" = none) (ha : PXA X [e] f) (hs : starEach [e] X.env = [(false, eval e X.env)] := by rfl) : PXI X tg (.Call (.Name "range" p) [e] [] pos) (dItR f) := by
  refine ⟨(pi_range1 hg hm ha.pa hs).weak fun σ H Q ⟨B, K, ds, S, p⟩ => ?_, fun bg ds P P' m p => ha.mono _ _ _ _ (fun d ⟨l, e, z, q⟩ => ⟨l, e, z, m _ q⟩) p⟩
  refine ⟨B, K, ds, S, ha.mono _ _ _ _ (fun l ⟨n, el, z, q⟩ vs K1 H1 n1 r1 => ?_) p⟩
  subst el
  obtain ⟨v, rfl, rv⟩ := reps1 r1
  cases rv
  have z2 : sizeLine < 2 ^ 63 := line63
  have z3 : sizeLine = 16777216 := sizeLine_eq
  refine ⟨n, rfl, by omega, by omega, q _ K1 H1 n1 (fun K2 H2 k2 h2 => ⟨fun i d hd => ?_, fun i hi => ?_⟩) (by unfold rngD; simp; exact z)⟩
  · obtain ⟨hi, rfl⟩ := rngD_get hd
    refine ⟨by simpa [Itr] using hi, fun x H' ⟨e, y⟩ => ?_⟩
    subst e y
    exact ⟨K2, Nx.refl h2, by rw [Int.zero_add]; exact .int _⟩
  · unfold rngD at hi
    simp at hi
    have hi' := Nat.le_of_eq hi.symm
    simpa [Itr] using hi'
theorem Nx.tup2 {F : PySem.W.Frag} {K H : Hp} {T : Addr} {x y : V} {dx dy : D} (kh : Ex K H) (h : H T = none) (rx : Rep F K x dx) (ry : Rep F K y dy) : ∃ K', Nx none K H K' (upd H T (.tup [x, y])) ∧ Rep F K' (.ref T) (.tup [dx, dy]) :=
  ⟨upd K T (.tup [x, y]), Nx.new kh h, .tup T _ _ (by show 2 ≤ sizeLine; decide) upd_same (.cons _ _ _ _ (rx.mono (Nx.new (bg := none) kh h).kk) (.cons _ _ _ _ (ry.mono (Nx.new (bg := none) kh h).kk) .nil))⟩
def enumD (m : List D) : List D := m.zipIdx.map fun (p : D × Nat) => D.tup [.int ((p.2 : Nat) : Int), p.1]
@[simp] def dItE (f : DA) : DA := fun bg ds P => f bg ds fun l => ∃ m, l = [.lst m] ∧ P (enumD m)
theorem Rep.lstK {F : PySem.W.Frag} {K : Hp} {v : V} {l : List D} (r : Rep F K v (.lst l)) : ∃ a vs, v = .ref a ∧ K a = some (.lst vs) ∧ Reps F K vs l ∧ vs.length ≤ sizeLine := by
  cases r with
  | lst a vs l z h r => exact ⟨a, vs, rfl, h, r, z⟩
theorem xi_enum (hg : Gl X "enumerate") (hm : X.mg "enumerate" = none) (ha : PXA X [e] f) (hs : starEach [e] X.env = [(false, eval e X.env)] := by rfl) :
    PXI X (.Tuple elts kk tpos) (.Call (.Name "enumerate" p) [e] [] pos) (dItE f) := by
  refine ⟨(pi_enum hg hm ha.pa hs).weak fun σ H Q ⟨B, K, ds, S, p⟩ => ?_, fun bg ds P P' m p => ha.mono _ _ _ _ (fun d ⟨l, e, q⟩ => ⟨l, e, m _ q⟩) p⟩
  refine ⟨B, K, ds, S, ha.mono _ _ _ _ (fun l ⟨n, el, q⟩ vs K1 H1 n1 r1 => ?_) p⟩
  subst el
  obtain ⟨v, rfl, rv⟩ := reps1 r1
  obtain ⟨a, ws, rfl, h, r, z⟩ := rv.lstK
  refine ⟨a, ws, rfl, .inl (.inl (n1.kh _ _ h)), q _ K1 H1 n1 (fun K2 H2 k2 h2 => ⟨fun i d hd => ?_, fun i hi => ?_⟩) (by unfold enumD; simp; rw [← r.length]; exact z)⟩
  · have h3 : SqL X.K H2 a ws := .inl (.inl (h2 _ _ (k2 _ _ h)))
    unfold enumD at hd
    rw [List.getElem?_map, List.getElem?_zipIdx] at hd
    cases hx : n[i]? with
    | none => rw [hx] at hd; cases hd
    | some dx =>
      rw [hx] at hd
      simp only [Option.map_some, Option.some.injEq, Nat.zero_add] at hd
      subst hd
      obtain ⟨v, hv, rv⟩ := r.get' hx
      refine ⟨⟨ws, v, h3, hv⟩, fun x H' ⟨T, x', e1, hT, e2, y⟩ => ?_⟩
      subst e1 e2
      have e3 : x' = v := Option.some.inj ((y ws h3).symm.trans hv)
      subst e3
      exact Nx.tup2 h2 hT (.int _) (rv.mono k2)
  · unfold enumD at hi
    simp at hi
    exact ⟨ws, .inl (.inl (h2 _ _ (k2 _ _ h))), by rw [r.length]; exact Nat.le_of_eq hi.symm⟩
def zipD (l m : List D) : List D := List.zipWith (fun x y => .tup [x, y]) l m
@[simp] def dItZ (f : DA) : DA := fun bg ds P => f bg ds fun l => ∃ x y m n, l = [x, y] ∧ ((x = .lst m ∧ y = .lst n) ∨ (IsT x m ∧ IsT y n)) ∧ P (zipD m n)
theorem xi_zip (hg : Gl X "zip") (hm : X.mg "zip" = none) (ha : PXA X [e, e2] f)
    (hs : starEach [e, e2] X.env = (false, eval e X.env) :: starEach [e2] X.env := by rfl) (hpl : (backTo pos (starEach [e2] X.env)).any (·.1) = false := by rfl) :
    PXI X (.Tuple elts kk tpos) (.Call (.Name "zip" p) [e, e2] [] pos) (dItZ f) := by
  refine ⟨(RZ.pi_zipA hg hm ha.pa hs hpl).weak fun σ H Q ⟨B, K, ds, S, p⟩ => ?_, fun bg ds P P' m p => ha.mono _ _ _ _ (fun d ⟨x, y, k, l, e, h, q⟩ => ⟨x, y, k, l, e, h, m _ q⟩) p⟩
  refine ⟨B, K, ds, S, ha.mono _ _ _ _ (fun l ⟨x, y, m, n, el, hxy, q⟩ vs K1 H1 n1 r1 => ?_) p⟩
  subst el
  have lenZ : ∀ {vs : List V}, Reps X.K K1 vs m → vs.length ≤ sizeLine → (zipD m n).length ≤ sizeLine := fun {vs} r z => by
    unfold zipD
    rw [List.length_zipWith]
    have := r.length
    omega
  have getZ : ∀ {i : Nat} {d : D}, (zipD m n)[i]? = some d → ∃ x y, m[i]? = some x ∧ n[i]? = some y ∧ d = .tup [x, y] := fun {i d} h => by
    unfold zipD at h
    rw [List.getElem?_zipWith] at h
    cases h1 : m[i]? with
    | none => rw [h1] at h; simp at h
    | some x =>
      cases h2 : n[i]? with
      | none => rw [h1, h2] at h; simp at h
      | some y =>
        rw [h1, h2] at h
        simp at h
        exact ⟨x, y, rfl, rfl, h.symm⟩
  cases r1 with
  | cons v1 d1 w1 l1 q1 r1 =>
  cases r1 with
  | cons v2 d2 w2 l2 q2 r1 =>
  cases r1
  rcases hxy with ⟨rfl, rfl⟩ | ⟨hx, hy⟩
  · obtain ⟨a, ws, rfl, h, r, z⟩ := q1.lstK
    obtain ⟨b, us, rfl, h', r', z'⟩ := q2.lstK
    refine ⟨a, b, ws, us, rfl, .inl ⟨.inl (.inl (n1.kh _ _ h)), .inl (.inl (n1.kh _ _ h')), q _ K1 H1 n1 (fun K2 H2 k2 h2 => ⟨fun i d hd => ?_, fun i hi => ?_⟩) (lenZ r z)⟩⟩
    · have h3 : SqL X.K H2 a ws := .inl (.inl (h2 _ _ (k2 _ _ h)))
      have h4 : SqL X.K H2 b us := .inl (.inl (h2 _ _ (k2 _ _ h')))
      obtain ⟨dx, dy, hx, hy, rfl⟩ := getZ hd
      obtain ⟨v, hv, rv⟩ := r.get' hx
      obtain ⟨u, hu, ru⟩ := r'.get' hy
      refine ⟨⟨ws, us, v, u, h3, h4, hv, hu⟩, fun x H' ⟨T, x', y', e1, hT, e2, y1, y2⟩ => ?_⟩
      subst e1 e2
      have e3 : x' = v := Option.some.inj ((y1 ws h3).symm.trans hv)
      have e4 : y' = u := Option.some.inj ((y2 us h4).symm.trans hu)
      subst e3 e4
      exact Nx.tup2 h2 hT (rv.mono k2) (ru.mono k2)
    · unfold zipD at hi
      rw [List.length_zipWith] at hi
      have e1 := r.length
      have e2 := r'.length
      exact ⟨ws, us, .inl (.inl (h2 _ _ (k2 _ _ h))), .inl (.inl (h2 _ _ (k2 _ _ h'))), by omega⟩
  · obtain ⟨a, ws, rfl, h, r, z⟩ := q1.tupK hx
    obtain ⟨b, us, rfl, h', r', z'⟩ := q2.tupK hy
    refine ⟨a, b, ws, us, rfl, .inr ⟨.inl (ex_rd n1.kh h), .inl (ex_rd n1.kh h'), q _ K1 H1 n1 (fun K2 H2 k2 h2 => ⟨fun i d hd => ?_, fun i hi => ?_⟩) (lenZ r z)⟩⟩
    · have h3 : SqT X.K H2 a ws := .inl (ex_rd h2 (ex_rd k2 h))
      have h4 : SqT X.K H2 b us := .inl (ex_rd h2 (ex_rd k2 h'))
      obtain ⟨dx, dy, hx, hy, rfl⟩ := getZ hd
      obtain ⟨v, hv, rv⟩ := r.get' hx
      obtain ⟨u, hu, ru⟩ := r'.get' hy
      refine ⟨⟨ws, us, v, u, h3, h4, hv, hu⟩, fun x H' ⟨T, x', y', e1, hT, e2, y1, y2⟩ => ?_⟩
      subst e1 e2
      have e3 : x' = v := Option.some.inj ((y1 ws h3).symm.trans hv)
      have e4 : y' = u := Option.some.inj ((y2 us h4).symm.trans hu)
      subst e3 e4
      exact Nx.tup2 h2 hT (rv.mono k2) (ru.mono k2)
    · unfold zipD at hi
      rw [List.length_zipWith] at hi
      have e1 := r.length
      have e2 := r'.length
      exact ⟨ws, us, .inl (ex_rd h2 (ex_rd k2 h)), .inl (ex_rd h2 (ex_rd k2 h')), by omega⟩
/-- the signs of a text -/
def strD (s : Str) : List D := s.cps.toList.map fun c => .str ⟨#[c]⟩
@[simp] def dItS (fe : DE) : DA := fun bg ds P => fe bg ds fun d => ∃ s : Str, d = .str s ∧ s.cps.size ≤ sizeLine ∧ P (strD s)
theorem xi_str (he : PX X e fe) : PXI X tg e (dItS fe) := by
  refine ⟨(pi_str he.pe).weak fun σ H Q ⟨B, K, ds, S, p⟩ => ?_, fun bg ds P P' m p => he.mono _ _ _ _ (fun d ⟨l, e, z, q⟩ => ⟨l, e, z, m _ q⟩) p⟩
  refine ⟨B, K, ds, S, he.mono _ _ _ _ (fun d ⟨s, ed, z, q⟩ v K1 H1 n1 r1 => ?_) p⟩
  subst ed
  cases r1
  refine ⟨s, rfl, q _ K1 H1 n1 (fun K2 H2 k2 h2 => ⟨fun i d hd => ?_, fun i hi => ?_⟩) (by unfold strD; simpa using z)⟩
  · unfold strD at hd
    rw [List.getElem?_map] at hd
    cases hx : s.cps.toList[i]? with
    | none => rw [hx] at hd; cases hd
    | some c =>
      rw [hx] at hd
      simp only [Option.map_some, Option.some.injEq] at hd
      subst hd
      have hx2 : s.cps[i]? = some c := by simpa using hx
      refine ⟨(Array.getElem?_eq_some_iff.mp hx2).1, fun x H' ⟨e1, c', hc, e2⟩ => ?_⟩
      subst e1 e2
      rw [hx2] at hc
      cases hc
      exact ⟨K2, Nx.refl h2, .str _⟩
  · unfold strD at hi
    have hi' := Nat.le_of_eq hi.symm
    simpa [Its] using hi'
end
end K8
set_option Elab.async false
set_option linter.all false
set_option maxRecDepth 100000
set_option maxHeartbeats 4000000
namespace K8
open PySem PySem.Spec PyProof.Rows L2
open Evl (Ex ex_l ex_t ex_rd)
/-! ### //, % by any divisor but 0 -/
def CDivX (_ j : Int) : Prop := j ≠ 0 ∧ j.natAbs.log2 < 9000
section
variable {X : Cx}
theorem op_fdivX : OpR X (binaryOp .FloorDiv) (rI CDivX fun i j => .int (i.fdiv j)) := opI fun _ _ _ _ _ _ _ hc q => floordiv_int hc.1 q (.inl (PyProof.noPylong_of_log2 hc.2))
theorem op_modX : OpR X (binaryOp .Mod) (rI (fun _ j => j ≠ 0) fun i j => .int (i.fmod j)) := opI fun _ _ _ _ _ _ _ hc q => mod_int' hc q
end
/-! ### chains -/
section
variable {X : Cx} {a b c : Expr} {fa fb fc : DE} {pos : Pos}
@[simp] def dChain (R R' : D → D → D → Prop) (fa fb fc : DE) : DE := fun bg ds P => fa bg ds fun x => fb bg ds fun y => ∃ k, R x y (.bl k) ∧ if k = true then fc bg ds fun z => ∃ w, R' y z w ∧ P w else P (.bl false)
theorem chain_mono {R R' : D → D → D → Prop} (ha : PX X a fa) (hb : PX X b fb) (hc : PX X c fc) : ∀ bg ds P P', (∀ d, P d → P' d) → dChain R R' fa fb fc bg ds P → dChain R R' fa fb fc bg ds P' := fun bg ds P P' m p =>
  ha.mono _ _ _ _ (fun x px => hb.mono _ _ _ _ (fun y ⟨k, h, q⟩ => ⟨k, h, by
    cases k with
    | false => exact m _ q
    | true => exact hc.mono _ _ _ _ (fun z ⟨w, h, q⟩ => ⟨w, h, m _ q⟩) q⟩) px) p
theorem chain_up {r r' : R2} {R R' : D → D → D → Prop} (hr : R2d X.K r R) (hr' : R2d X.K r' R') (ha : PX X a fa) (hb : PX X b fb) (hc : PX X c fc) {σ : L2.St} {H : Hp} {Q : VK} (q : up X.K (dChain R R' fa fb fc) σ H Q) :
    tChain r r' (up X.K fa) (up X.K fb) (up X.K fc) σ H Q := by
  obtain ⟨B, K, ds, S, p⟩ := q
  refine ⟨B, K, ds, S, ha.mono _ _ _ _ (fun x px v K1 H1 n1 r1 => ?_) p⟩
  have S1 := S.next n1
  refine ⟨B, K1, ds, S1, hb.mono _ _ _ _ (fun y py w K2 H2 n2 r2 => ?_) px⟩
  have S2 := S1.next n2
  have n12 := Nx.trans S.bag n1 n2
  obtain ⟨k, hk, q⟩ := py
  refine hr K2 H2 v w x y (.bl k) _ n2.kh (r1.mono n2.kk) r2 hk fun u K3 H3 n3 r3 => ?_
  cases r3
  refine ⟨k, rfl, ?_⟩
  have n13 := Nx.trans S.bag n12 (Nx.of0 n3)
  cases k with
  | false => exact q _ K3 H3 n13 (.bl _)
  | true =>
    refine ⟨B, K3, ds, S2.next (Nx.of0 n3), hc.mono _ _ _ _ (fun z pz t K4 H4 n4 r4 => ?_) q⟩
    obtain ⟨d, hd, q⟩ := pz
    exact hr' K4 H4 w t y z d Q n4.kh ((r2.mono n3.kk).mono n4.kk) r4 hd fun u K5 H5 n5 r5 => q u K5 H5 (Nx.trans S.bag n13 (Nx.trans (S2.next (Nx.of0 n3)).bag n4 (Nx.of0 n5))) r5
theorem x_chain {op op' : CmpOp} {r r' : R2} {R R' : D → D → D → Prop} (ho : OpR X (compareOp op) r) (hr : R2d X.K r R) (ho' : OpR X (compareOp op') r') (hr' : R2d X.K r' R') (ha : PX X a fa) (hb : PX X b fb) (hc : PX X c fc)
    (hm : lastMarks [op, op'] [b, c] = false := by with_unfolding_all rfl) : PX X (.Compare a [op, op'] [b, c] pos) (dChain R R' fa fb fc) :=
  ⟨(pe_chain ho ho' ha.pe hb.pe hc.pe hm).weak fun σ H Q q => chain_up hr hr' ha hb hc q, chain_mono ha hb hc⟩
end
/-! ### == of data -/
mutual
def py : D → PyData
  | .non => .none
  | .bl b => .bool b
  | .int i => .int i
  | .str x => .str x
  | .tup l => .tuple (pys l)
  | .sol l => .tuple (pys l)
  | .lst l => .list (pys l)
  | _ => .none
def pys : List D → List PyData
  | [] => []
  | d :: l => py d :: pys l
end
mutual
def pyOk : D → Bool
  | .non => true
  | .bl _ => true
  | .int _ => true
  | .str _ => true
  | .tup l => pysOk l
  | .sol l => pysOk l
  | .lst l => pysOk l
  | _ => false
def pysOk : List D → Bool
  | [] => true
  | d :: l => pyOk d && pysOk l
end
section
variable {F : PySem.W.Frag} {K H : Hp}
mutual
theorem Rep.dp (kh : Ex K H) : ∀ {v : V} {d : D}, Rep F K v d → pyOk d = true → Dp F H v (py d)
  | _, _, .non, _ => .non
  | _, _, .bl b, _ => .bl b
  | _, _, .int i, _ => .int i
  | _, _, .str x, _ => .str x
  | _, _, .ref a, h => by cases h
  | _, _, .ty n, h => by cases h
  | _, _, .tup a vs l z h r, o => .tup (.inl (.inl (kh _ _ h))) (Reps.dp kh r o)
  | _, _, .sol a vs l ob hd z h r, o => .tup (.inl (.inr ⟨ob, kh _ _ h⟩)) (Reps.dp kh r o)
  | _, _, .lst a vs l z h r, o => .lst (.inl (.inl (kh _ _ h))) (Reps.dp kh r o)
  | _, _, .dic a vs ks l n h r, o => by cases o
  | _, _, .ins a C dx vs ns l n h r, o => by cases o
  | _, _, .dkt a vs ks l ob n h r, o => by cases o
  | _, _, .fls a ns h, o => by cases o
theorem Reps.dp (kh : Ex K H) : ∀ {vs : List V} {l : List D}, Reps F K vs l → pysOk l = true → DpAll F H vs (pys l)
  | _, _, .nil, _ => .nil
  | _, _, .cons v d vs l h r, o => by
    have o' : (pyOk d && pysOk l) = true := o
    obtain ⟨o1, o2⟩ := Bool.and_eq_true_iff.mp o'
    exact .cons (Rep.dp kh h o1) (Reps.dp kh r o2)
end
/-- plain data of few levels -/
def okD (d : D) : Prop := pyOk d = true ∧ SeqAt.shaped (py d) = true
@[simp] def REqD (x y z : D) : Prop := okD x ∧ okD y ∧ z = .bl (PyData.eqv (py x) (py y))
@[simp] def RNeD (x y z : D) : Prop := okD x ∧ okD y ∧ z = .bl (!PyData.eqv (py x) (py y))
theorem r2_eqD : R2d F (rEqD F) REqD := by
  rintro K H x y dx dy z Q kh rx ry ⟨⟨h1, h2⟩, ⟨h3, h4⟩, rfl⟩ q
  exact ⟨_, _, rx.dp kh h1, ry.dp kh h3, h2, h4, q _ K H (Nx.refl kh) (.bl _)⟩
theorem r2_neD : R2d F (rNeD F) RNeD := by
  rintro K H x y dx dy z Q kh rx ry ⟨⟨h1, h2⟩, ⟨h3, h4⟩, rfl⟩ q
  exact ⟨_, _, rx.dp kh h1, ry.dp kh h3, h2, h4, q _ K H (Nx.refl kh) (.bl _)⟩
@[simp] def RRepT (x y z : D) : Prop := ∃ (l : List D) (k : Nat), x = .tup l ∧ y = .int (k : Int) ∧ l ≠ [] ∧ 2 ≤ k ∧ k ≤ 1000 ∧ l.length ≤ 1000 ∧ z = .tup (List.replicate k l).flatten
theorem Reps.flat {K : Hp} {vs : List V} {l : List D} (r : Reps F K vs l) : ∀ k : Nat, Reps F K (List.replicate k vs).flatten (List.replicate k l).flatten
  | 0 => .nil
  | k + 1 => by
    rw [List.replicate_succ, List.replicate_succ, List.flatten_cons, List.flatten_cons]
    exact r.append (Reps.flat r k)
theorem r2_repT : R2d F (rRepT F) RRepT := by
  rintro K H x y dx dy z Q kh rx ry ⟨l, k, rfl, rfl, hl, h2, h3, h4, rfl⟩ q
  cases ry
  obtain ⟨a, vs, rfl, ha, ra, za⟩ := rx.seqT kh (.inl rfl)
  have e := ra.length
  refine ⟨a, k, vs, rfl, rfl, ha, fun z => hl (by subst z; cases ra; rfl), by omega, by omega, by omega, fun p hp => ?_⟩
  rw [Int.toNat_natCast]
  refine q _ _ _ (Nx.new kh hp) (.tup p _ _ ?_ upd_same ((ra.flat k).mono (Nx.new (bg := none) kh hp).kk))
  rw [List.length_flatten, List.map_replicate, List.sum_replicate_nat, sizeLine_eq]
  have : k * vs.length ≤ 1000 * 1000 := Nat.mul_le_mul h3 (by omega)
  omega
end
/-! ### tuple(list): a tuple that is known to the object -/
section
variable {X : Cx}
theorem call_tuple_sol : CallR X (.type "tuple") (fun xs H Q => ∃ p ys, xs = [.ref p] ∧ SqL X.K H p ys ∧ ∀ l o, H l = none → o.dict = none → Q (.ref l) (upd H l (.frz o (.tup ys)))) := by
  intro pins s σ H xs us Q I r h
  obtain ⟨p, ys, rfl, hq, q⟩ := h
  obtain ⟨u, rfl, rx⟩ := vals1 r
  cases rx
  obtain ⟨its, r', pl, hz⟩ := I.list hq
  have hlen := r'.length
  refine call_tuple_list pl.isList (fun h' kp => ?_) (by simp only [List.size_toArray] <;> omega)
  have I1 : Inv X pins σ H { s with heap := h' } := I.kept (t' := s.toks) kp
  have hn := I1.hok.fresh (a := h'.objs.size) (Nat.le_refl _)
  have I2 : Inv X pins σ (upd H h'.objs.size (.frz { cls := .type "tuple", data := .seq its.toArray } (.tup ys))) { s with heap := h'.push { cls := .type "tuple", data := .seq its.toArray } } :=
    I1.laid (t' := s.toks) (fun b o e => Heap.get?_push_of_some _ e) (Nat.le_refl _) ⟨Heap.get?_push_size _ rfl, hz, its, r', IsTup.new _ _⟩
  exact ⟨.ref h'.objs.size, _, I2, rfl, q _ _ hn rfl⟩
@[simp] def RSol (l : List D) (z : D) : Prop := ∃ m, l = [.lst m] ∧ z = .sol m
theorem c1_sol {F : PySem.W.Frag} : C1d F (fun xs H Q => ∃ p ys, xs = [.ref p] ∧ SqL F H p ys ∧ ∀ l o, H l = none → o.dict = none → Q (.ref l) (upd H l (.frz o (.tup ys)))) RSol := by
  rintro K H vs l z Q kh r ⟨m, rfl, rfl⟩ q
  obtain ⟨v, rfl, rv⟩ := reps1 r
  obtain ⟨a, ws, rfl, h, rw', z⟩ := rv.seqL kh
  exact ⟨a, ws, rfl, .inl (.inl h), fun p o hp hd => q _ _ _ (Nx.new kh hp) (.sol p _ _ o hd z upd_same (rw'.mono (Nx.new (bg := none) kh hp).kk))⟩
/-! ### t.count(s) -/
theorem count_eqU {ys : List Str} {us : List Value} (z : Str) (r : Vals (ys.map V.str) us) : us.countP (eqU (.str z)) = ys.count z := by
  induction ys generalizing us with
  | nil => cases r; rfl
  | cons y ys ih =>
    cases r with
    | cons r1 r2 =>
      rw [List.countP_cons, List.count_cons, ih r2]
      rw [eqU_of r1 rfl]
      rfl
def tCnt (K : PySem.W.Frag) (to te : TE) : TE := fun σ H Q => to σ H fun x H1 => ∃ (p : Addr) (o : Obj) (ss : List Str), x = .ref p ∧ H1 p = some (.frz o (.tup (ss.map V.str))) ∧ o.dict = none ∧
  te σ H1 fun y H2 => ∃ z : Str, y = .str z ∧ H2 p = some (.frz o (.tup (ss.map V.str))) ∧ Q (.int (ss.count z : Nat)) H2
theorem pe_cnt {o e : Expr} {to te : TE} {apos cpos : Pos} (ho : PE X o to) (he : PE X e te) (hbase : attributeBase o "count" X.env (eval o X.env) = eval o X.env := by rfl)
    (hfew : ((backTo cpos (starEach [e] X.env)).all (fun x => !x.1) && (backToKw cpos (keywordEach [] X.env)).all (fun x => x.1.isSome)
      && decide ([e].length + ([] : List Keyword).length + (if ([] : List Keyword).isEmpty then 0 else 1) < 30)) = true := by rfl)
    (hline : (apos.endLine == cpos.line) = true := by rfl) (hs : starEach [e] X.env = (false, eval e X.env) :: starEach [] X.env := by rfl) : PE X (.Call (.Attribute o "count" apos) [e] [] cpos) (tCnt X.K to te) := by
  refine ⟨fun pins s σ H Q I h => ?_⟩
  refine wpAny_Call_method_late hbase hfew hline rfl (thn (ho.run pins s σ H _ I h) fun v s1 ⟨x, H1, I1, r1, p, ob, ss, ex, hp, hd, q1⟩ => ?_)
  subst ex
  cases r1
  obtain ⟨hg, _, its, _, pl⟩ : s1.heap.get? p = some ob ∧ (ss.map V.str).length ≤ sizeLine ∧ ∃ its : List Value, Vals (ss.map V.str) its ∧ IsTup s1.heap p its.toArray := I1.hok p _ hp
  obtain ⟨ob2, hg2, hc2, n2, hd2⟩ := pl
  rw [hg] at hg2
  cases hg2
  refine ⟨"tuple", "tuple.count", PySem.F.plainAttrs_tuple, PySem.F.slot_tuple_count, PySem.F.type_tuple_count, ⟨_, hg, hc2⟩, fun a ea => ?_, ?_⟩
  · cases ea
    exact ⟨_, hg, hd⟩
  have hA := (pa_cons he pa_nil hs).run cpos pins s1 σ H1 (fun vs H2 => match vs with
    | [y] => ∃ z : Str, y = .str z ∧ H2 p = some (.frz ob (.tup (ss.map V.str))) ∧ Q (.int (ss.count z : Nat)) H2
    | _ => False) I1 q1
  rw [hs] at hA ⊢
  refine Calls.callWith_builtin rfl (Calls.evalArgs_plain ?_)
  refine thn hA fun us s2 ⟨vs, H2, I2, r2, q2⟩ => ?_
  match vs, q2, r2 with
  | [y], ⟨z, ez, hp2, q3⟩, r2 =>
    subst ez
    obtain ⟨u, rfl, t, rfl⟩ := vals1 r2
    obtain ⟨hg3, hz3, its3, r3, ob3, hg4, hc4, n4, hd4⟩ : s2.heap.get? p = some ob ∧ (ss.map V.str).length ≤ sizeLine ∧ ∃ its : List Value, Vals (ss.map V.str) its ∧ IsTup s2.heap p its.toArray := I2.hok p _ hp2
    rw [hg3] at hg4
    cases hg4
    obtain ⟨cls, dd, dt, sl⟩ := ob
    simp only at hc4 hd4
    subst hc4
    subst hd4
    refine call_meets PySem.F.slot_tuple_count ⟨_, hg3, rfl⟩ PySem.F.entry_tuple_count (PySem.F.args_tuple_count_2 _ _) (SeqAt.tuple_countAt p its3.toArray n4 dd sl (.str z t) (eqU (.str z)))
      ⟨hg3, fun w hw => mem_eqAt (x := .str z) ⟨t, rfl⟩ rfl r3 (flat_strs ss) w (by simpa using hw), ?_⟩
    refine ⟨.int (ss.count z : Nat), H2, I2.tok _, ⟨s2.toks, ?_⟩, q3⟩
    show Value.int ((its3.toArray.toList.countP (eqU (.str z)) : Nat) : Int) s2.toks = Value.int ((ss.count z : Nat) : Int) s2.toks
    rw [show its3.toArray.toList = its3 from rfl, count_eqU z r3]
@[simp] def dCnt (fo fe : DE) : DE := fun bg ds P => fo bg ds fun x => ∃ ss : List Str, x = .sol (ss.map .str) ∧ fe bg ds fun y => ∃ z : Str, y = .str z ∧ P (.int (ss.count z : Nat))
theorem x_cnt {o e : Expr} {fo fe : DE} {apos cpos : Pos} (ho : PX X o fo) (he : PX X e fe) (hbase : attributeBase o "count" X.env (eval o X.env) = eval o X.env := by rfl)
    (hfew : ((backTo cpos (starEach [e] X.env)).all (fun x => !x.1) && (backToKw cpos (keywordEach [] X.env)).all (fun x => x.1.isSome)
      && decide ([e].length + ([] : List Keyword).length + (if ([] : List Keyword).isEmpty then 0 else 1) < 30)) = true := by rfl)
    (hline : (apos.endLine == cpos.line) = true := by rfl) (hs : starEach [e] X.env = (false, eval e X.env) :: starEach [] X.env := by rfl) : PX X (.Call (.Attribute o "count" apos) [e] [] cpos) (dCnt fo fe) := by
  refine ⟨(pe_cnt ho.pe he.pe hbase hfew hline hs).weak fun σ H Q ⟨B, K, ds, S, p⟩ => ?_, fun bg ds P P' m p => ho.mono _ _ _ _ (fun x ⟨ss, e, q⟩ => ⟨ss, e, he.mono _ _ _ _ (fun y ⟨z, e, q⟩ => ⟨z, e, m _ q⟩) q⟩) p⟩
  refine ⟨B, K, ds, S, ho.mono _ _ _ _ (fun x ⟨ss, ex, q⟩ v K1 H1 n1 r1 => ?_) p⟩
  subst ex
  cases r1 with
  | sol a vs l ob hd z h r =>
    rw [Reps.strs r] at h
    refine ⟨a, ob, ss, rfl, n1.kh _ _ h, hd, B, K1, ds, S.next n1, he.mono _ _ _ _ (fun y ⟨z, ey, q⟩ w K2 H2 n2 r2 => ?_) q⟩
    subst ey
    cases r2
    exact ⟨z, rfl, n2.kh _ _ (n2.kk _ _ h), q _ K2 H2 (Nx.trans S.bag n1 n2) (.int _)⟩
/-! ### any(t), t a tuple of ints -/
theorem truth_intsT {prog : Program} {w : World} {A : Around} {ns : List Int} {its : List Value} (e : Vals (ns.map V.int) its) :
    TruthOf prog w A (fun i v => its.toArray[i]? = some v) (fun i => (ns.map (· != 0)).getD i false) := fun i v s Q E hv hq => by
  have hv' : its[i]? = some v := by simpa using hv
  have hl := e.length
  rw [List.length_map] at hl
  have hi : i < ns.length := by
    have := (List.getElem?_eq_some_iff.mp hv').1
    omega
  obtain ⟨u, hu, t, rfl⟩ := e.get (i := i) (x := .int ns[i]) (by rw [List.getElem?_map, List.getElem?_eq_getElem hi]; rfl)
  rw [hv'] at hu
  cases hu
  have hg : (ns.map (· != 0)).getD i false = (ns[i] != 0) := by rw [List.getD_eq_getElem?_getD, List.getElem?_map, List.getElem?_eq_getElem hi] <;> rfl
  have hq' : Q ((ns.map (· != 0)).getD i false) s := hq
  rw [hg] at hq'
  exact PySem.P.truthy_int hq'
def rAnyI (K : PySem.W.Frag) : List V → Hp → VK → Prop := fun vs H Q => ∃ (a : Addr) (ns : List Int), vs = [V.ref a] ∧ SqT K H a (ns.map V.int) ∧ Q (.bl (ns.any (· != 0))) H
theorem cr_anyI (hc : X.calm = true) : CallR X (.builtin "any") (rAnyI X.K) := by
  intro pins s σ H vs us Q I r h
  obtain ⟨a, ns, rfl, hs, q⟩ := h
  obtain ⟨its, rv, hl, _⟩ := I.tuple hs
  rw [Vals.ref1 r]
  have hlt : a < s.heap.objs.size := by obtain ⟨_, e, _⟩ := hl; exact Heap.lt_size e
  refine call_any_walk (wpAny_pyIter_tuple (show s.heap.IsTuple a its.toArray from hl) ?_)
  refine ⟨_, _, _, _, _, _, _, rfl, Walks.tuple (A := X.A.in1) (I.ok.hd hc) s.heap.objs.size a (Nat.ne_of_lt hlt) its.toArray, ⟨⟨_, Heap.get?_push_size _ rfl, rfl, rfl⟩, (show s.heap.IsTuple a its.toArray from hl).push _⟩, truth_intsT rv, fun h' tk hk => ?_⟩
  refine ⟨.bl _, H, I.kept fun b o eo => hk b o (fun hmem => ?_) (Heap.get?_push_of_some _ eo), ?_, q⟩
  · rcases List.mem_cons.mp hmem with e1 | hmem
    · exact absurd (e1 ▸ Heap.lt_size eo) (Nat.lt_irrefl _)
    · cases hmem
  · show Value.bool _ = Value.bool _
    have hl2 := rv.length
    rw [List.length_map] at hl2
    have e1 : (List.range its.toArray.size).any (fun i => (ns.map (· != 0)).getD i false) = ns.any (· != 0) := by
      rw [show its.toArray.size = (ns.map (· != 0)).length by rw [List.size_toArray, List.length_map, hl2], L2.any_range, List.any_map]
      rfl
    rw [e1]
@[simp] def RAnyI (l : List D) (z : D) : Prop := ∃ (x : D) (ns : List Int), l = [x] ∧ IsT x (ns.map .int) ∧ z = .bl (ns.any (· != 0))
theorem c1_anyI {F : PySem.W.Frag} : C1d F (rAnyI F) RAnyI := by
  rintro K H vs l z Q kh r ⟨x, ns, rfl, hx, rfl⟩ q
  obtain ⟨v, rfl, rv⟩ := reps1 r
  obtain ⟨a, ws, rfl, h, rw', z⟩ := rv.seqT kh hx
  rw [Reps.ints rw'] at h
  exact ⟨a, ns, rfl, h, q _ K H (Nx.refl kh) (.bl _)⟩
/-! ### sorted(set(t)) -/
theorem cr_setI (hc : X.calm = true) : CallR X (.type "set") (fun xs H Q => ∃ (l : Addr) (ns : List Int), xs = [.ref l] ∧ SqT X.K H l (ns.map V.int) ∧ ns.length + 1 < scanBound ∧ ∀ p c, H p = none → c ≤ ns.length → Q (.ref p) (upd H p (SetO X.w p (fun j => decide (j ∈ ns)) c))) := by
  intro pins s σ H xs us Q I r h
  obtain ⟨l, ns, rfl, hq, hb, q⟩ := h
  obtain ⟨u, rfl, rx⟩ := vals1 r
  cases rx
  obtain ⟨its, rv, hl, _⟩ := I.tuple hq
  refine call_set_tupI ns (I.ok.hd hc) (show s.heap.IsTuple l its.toArray from hl) (ints_of_vals rv) hb fun h' tk c hS hc' kp => ?_
  have hn := I.hok.fresh (a := s.heap.objs.size) (Nat.le_refl _)
  exact ⟨.ref s.heap.objs.size, _, I.laid (t' := tk) kp (Nat.le_refl _) (setO_new hS), rfl, q _ c hn hc'⟩
theorem bt_set : bootBuiltins "set" = some (.type "set") := by decide +kernel
theorem bt_sorted : bootBuiltins "sorted" = some (.builtin "sorted") := by decide +kernel
@[simp] def dSset (fe : DE) : DE := fun bg ds P => fe bg ds fun x => ∃ ns : List Int, IsT x (ns.map .int) ∧ ns.length < 64 ∧ ∀ ms : List Int, ms.Pairwise (· < ·) → (∀ k, k ∈ ms ↔ k ∈ ns) → P (.lst (ms.map .int))
theorem x_sset {e : Expr} {fe : DE} {p1 p2 q1 q2 : Pos} (hc : X.calm = true) (hg : Gl X "sorted") (hm : X.mg "sorted" = none) (hg2 : Gl X "set") (hm2 : X.mg "set" = none) (he : PX X e fe)
    (hs1 : starEach [e] X.env = (false, eval e X.env) :: starEach [] X.env := by rfl) (hs2 : starEach [.Call (.Name "set" p2) [e] [] q2] X.env = (false, eval (.Call (.Name "set" p2) [e] [] q2) X.env) :: starEach [] X.env := by rfl) :
    PX X (.Call (.Name "sorted" p1) [.Call (.Name "set" p2) [e] [] q2] [] q1) (dSset fe) := by
  refine ⟨(pe_callB (cr_sortedSet hc) hg hm bt_sorted (pa_cons (pe_callTy (cr_setI hc) hg2 hm2 bt_set (pa_cons he.pe pa_nil hs1) (he := hs1)) pa_nil hs2) (he := hs2)).weak fun σ H Q ⟨B, K, ds, S, p⟩ => ?_, fun bg ds P P' m p => he.mono _ _ _ _ (fun x ⟨ns, e, h, q⟩ => ⟨ns, e, h, fun ms h1 h2 => m _ (q ms h1 h2)⟩) p⟩
  refine ⟨B, K, ds, S, he.mono _ _ _ _ (fun x ⟨ns, ex, hl, q⟩ v K1 H1 n1 r1 => ?_) p⟩
  obtain ⟨a, ws, rfl, h, rw', z⟩ := r1.seqT n1.kh ex
  rw [Reps.ints rw'] at h
  have hsb : (64 : Nat) < scanBound := by decide
  refine ⟨a, ns, rfl, h, by omega, fun p' c hp hcl => ⟨p', _, c, rfl, upd_same, by omega, fun ms l hpw hmem hlen hn => ?_⟩⟩
  have kp' : K1 p' = none := by
    cases w : K1 p' with
    | none => rfl
    | some u => rw [n1.kh _ _ w] at hp; cases hp
  have n2 : Nx B.bg K1 H1 K1 (upd H1 p' (SetO X.w p' (fun j => decide (j ∈ ns)) c)) := Nx.of_ex n1.kh (Ex.new hp)
  have n3 : Nx B.bg K1 (upd H1 p' (SetO X.w p' (fun j => decide (j ∈ ns)) c)) (upd K1 l (.lst (ms.map V.int))) (upd (upd H1 p' (SetO X.w p' (fun j => decide (j ∈ ns)) c)) l (.lst (ms.map V.int))) := Nx.new n2.kh hn
  refine q ms hpw (fun k => by rw [hmem]; simp) _ _ _ (Nx.trans S.bag n1 (Nx.trans (S.next n1).bag n2 n3)) (.lst l _ _ ?_ upd_same (Reps.of_ints ms))
  rw [List.length_map, hlen, sizeLine_eq]
  omega
/-! ### xs.index(n) -/
@[simp] def RIndex (x : D) (l : List D) (z : D) : Prop := ∃ (ns : List Int) (n : Int) (j : Nat), x = .lst (ns.map .int) ∧ l = [.int n] ∧ ns[j]? = some n ∧ (∀ m, m < j → ns[m]? ≠ some n) ∧ z = .int (j : Nat)
theorem m1_index {F : PySem.W.Frag} : M1d F "list" (rIndex F) RIndex := by
  rintro K H x dx xs l z Q kh rx rl ⟨ns, n, j, rfl, rfl, hj, hno, rfl⟩ q
  obtain ⟨a, vs, rfl, h, r, _⟩ := rx.seqL kh
  rw [Reps.ints r] at h
  obtain ⟨v, rfl, rv⟩ := reps1 rl
  cases rv
  refine ⟨a, _, .int n, j, .int n, rfl, rfl, .inl (.inl h), rfl, flat_ints ns, by rw [List.getElem?_map, hj]; rfl, by simp [eqV], fun m z' hm hz' => ?_, q _ K H (Nx.refl kh) (.int _)⟩
  rw [List.getElem?_map] at hz'
  cases e : ns[m]? with
  | none => rw [e] at hz'; cases hz'
  | some y =>
    rw [e] at hz'
    cases hz'
    have : y ≠ n := fun z => hno m hm (by rw [e, z])
    simp [eqV, this]
end
end K8
set_option Elab.async false
set_option linter.all false
set_option maxRecDepth 100000
set_option maxHeartbeats 4000000
/-! own lists: made, changed in place, at last known -/
namespace K8
open PySem PySem.Spec PyProof.Rows L2
open Evl (Ex ex_l ex_t ex_rd)
section
variable {X : Cx} {pos : Pos} {st : Stmt} {e o : Expr} {es : List Expr} {fe : DE} {f : DA} {i j : Nat}
theorem op_mulX : OpR X (binaryOp .Mult) (rI IntMulOk fun i j => .int (i * j)) := opI fun _ _ _ _ _ _ _ hc q => mul_int q hc

/-! ### a new one -/
@[simp] def dOwn (i : Nat) (f : DA) : DSm := fun bg E ds => f bg ds fun l => l.length ≤ sizeLine ∧ E.nx (ds.set i (.own l))
theorem xs_ownNew {x : Str} {pos' p2 : Pos} (hN : X.N.Nodup) (hi : X.N[i]? = some x) (hx : Loc X.env.scope x) (h : PXA X es f) (hs : swapsWith (.List es p2) (some (.Name x pos')) pos.line X.env = pure false := by rfl)
    (hf : X.fn x = true ∨ X.env.scope.names.lookup x = some .local := by first | exact .inl rfl | exact .inr rfl | assumption) : PXS X (.Assign [.Name x pos'] (.List es p2) pos) (dOwn i f) := by
  refine ⟨(ps_set hN hi hx (pe_lst h.pa) hs hf).weak fun D σ H ⟨B, K, ds, S, p⟩ => ?_, fun bg E E' ds l p => h.mono _ _ _ _ (fun l' ⟨z, q⟩ => ⟨z, l.nx _ q⟩) p⟩
  refine ⟨B, K, ds, S, h.mono _ _ _ _ (fun l ⟨z, q⟩ vs K1 H1 n1 r1 => ?_) p⟩
  refine ⟨by rw [r1.length]; exact z, fun p hp => ?_⟩
  have S1 := S.next n1
  have k1 : K1 p = none := by
    cases e : K1 p with
    | none => rfl
    | some u => rw [n1.kh p u e] at hp; cases hp
  refine q _ K1 _ ((S1.next (Nx.of_ex n1.kh (Ex.new hp))).setOwn k1 (S1.nodom hp) (S1.freshbag hp) upd_same r1 (by rw [r1.length]; exact z) fun j sj _ e1 e2 e3 => S1.noown hp e1 e2 e3)
/-- a, b = [], y -/
@[simp] def dParO1 (i j : Nat) (fb : DE) : DSm := fun bg E ds => fb bg ds fun y => E.nx ((ds.set j (.val y)).set i (.own []))
theorem xs_parO1 {x y : Str} {b : Expr} {px py pt p2 : Pos} {kt k2 pt2} {fb : DE} (hc : X.calm = true) (hN : X.N.Nodup) (hi : X.N[i]? = some x) (hj : X.N[j]? = some y) (hij : i ≠ j)
    (hx : X.env.scope.names.lookup x = some .local) (hy : X.env.scope.names.lookup y = some .local) (hb : PX X b fb)
    (hw : swappedStores [.Tuple [.Name x px, .Name y py] kt pt] (.Tuple [.List [] p2, b] k2 pt2) X.env = pure (some [x, y]))
    (hs : swapsWithSole [.Tuple [.Name x px, .Name y py] kt pt] (.Tuple [.List [] p2, b] k2 pt2) pos.line X.env = pure false := by rfl)
    (h1 : starEach [.List [] p2, b] X.env = (false, eval (.List [] p2) X.env) :: starEach [b] X.env := by rfl) (h2 : starEach [b] X.env = (false, eval b X.env) :: starEach [] X.env := by rfl) :
    PXS X (.Assign [.Tuple [.Name x px, .Name y py] kt pt] (.Tuple [.List [] p2, b] k2 pt2) pos) (dParO1 i j fb) := by
  refine ⟨(ps_par hc hN hi hj hij hx hy (pa_cons (pe_lst pa_nil) (pa_cons hb.pe pa_nil h2) h1) hw hs).weak fun D σ H ⟨B, K, ds, S, pp⟩ => ?_, fun bg E E' ds l p => hb.mono _ _ _ _ (fun m q => l.nx _ q) p⟩
  refine ⟨Nat.zero_le _, fun p hp => ?_⟩
  have k0 : K p = none := by
    cases e : K p with
    | none => rfl
    | some u => rw [S.kh p u e] at hp; cases hp
  have n0 : Nx B.bg K H K (upd H p (.lst [])) := Nx.of_ex S.kh (Ex.new hp)
  refine ⟨B, K, ds, S.next n0, hb.mono _ _ _ _ (fun y q w K1 H1 n1 r1 => ?_) pp⟩
  refine ⟨_, _, rfl, ?_⟩
  have S1 := (S.next n0).next n1
  have g1 : H1 p = some (.lst []) := n1.le p _ (S.freshbag hp) upd_same
  have k1 : K1 p = none := (n1.fr p (by rw [upd_same]; trivial)).trans k0
  rw [List.set_comm _ _ hij]
  refine q _ K1 H1 ((S1.set r1).setOwn k1 (S.nodom hp) (S.freshbag hp) g1 .nil (Nat.zero_le _) fun k sk hk e1 e2 e3 => ?_)
  by_cases hkj : j = k
  · subst hkj
    by_cases hl : j < ds.length
    · rw [List.getElem?_set_self hl] at e1
      cases e1; cases e2
    · rw [List.getElem?_eq_none (by rw [List.length_set]; omega)] at e1
      cases e1
  · rw [List.getElem?_set_ne hkj] at e1 e3
    exact S.noown hp e1 e2 e3
/-- a, b = x, [] -/
@[simp] def dParO2 (i j : Nat) (fa : DE) : DSm := fun bg E ds => fa bg ds fun y => E.nx ((ds.set i (.val y)).set j (.own []))
theorem xs_parO2 {x y : Str} {a : Expr} {px py pt p2 : Pos} {kt k2 pt2} {fa : DE} (hc : X.calm = true) (hN : X.N.Nodup) (hi : X.N[i]? = some x) (hj : X.N[j]? = some y) (hij : i ≠ j)
    (hx : X.env.scope.names.lookup x = some .local) (hy : X.env.scope.names.lookup y = some .local) (ha : PX X a fa)
    (hw : swappedStores [.Tuple [.Name x px, .Name y py] kt pt] (.Tuple [a, .List [] p2] k2 pt2) X.env = pure (some [x, y]))
    (hs : swapsWithSole [.Tuple [.Name x px, .Name y py] kt pt] (.Tuple [a, .List [] p2] k2 pt2) pos.line X.env = pure false := by rfl)
    (h1 : starEach [a, .List [] p2] X.env = (false, eval a X.env) :: starEach [.List [] p2] X.env := by rfl) (h2 : starEach [.List [] p2] X.env = (false, eval (.List [] p2) X.env) :: starEach [] X.env := by rfl) :
    PXS X (.Assign [.Tuple [.Name x px, .Name y py] kt pt] (.Tuple [a, .List [] p2] k2 pt2) pos) (dParO2 i j fa) := by
  refine ⟨(ps_par hc hN hi hj hij hx hy (pa_cons ha.pe (pa_cons (pe_lst pa_nil) pa_nil h2) h1) hw hs).weak fun D σ H ⟨B, K, ds, S, p⟩ => ?_, fun bg E E' ds l p => ha.mono _ _ _ _ (fun m q => l.nx _ q) p⟩
  refine ⟨B, K, ds, S, ha.mono _ _ _ _ (fun y q w K1 H1 n1 r1 => ?_) p⟩
  refine ⟨Nat.zero_le _, fun p hp => ?_⟩
  refine ⟨_, _, rfl, ?_⟩
  have S1 := S.next n1
  have k0 : K1 p = none := by
    cases e : K1 p with
    | none => rfl
    | some u => rw [n1.kh p u e] at hp; cases hp
  have n0 : Nx B.bg K1 H1 K1 (upd H1 p (.lst [])) := Nx.of_ex n1.kh (Ex.new hp)
  refine q _ K1 _ (((S1.next n0).set r1).setOwn k0 (S1.nodom hp) (S1.freshbag hp) upd_same .nil (Nat.zero_le _) fun k sk hk e1 e2 e3 => ?_)
  by_cases hkj : i = k
  · subst hkj
    by_cases hl : i < ds.length
    · rw [List.getElem?_set_self hl] at e1
      cases e1; cases e2
    · rw [List.getElem?_eq_none (by rw [List.length_set]; omega)] at e1
      cases e1
  · rw [List.getElem?_set_ne hkj] at e1 e3
    exact S1.noown hp e1 e2 e3

/-! ### read, changed -/
theorem reps_atI {F : PySem.W.Frag} {K : Hp} {vs : List V} {l : List D} (r : Reps F K vs l) {k : Int} {d : D} (h : atI l k = some d) : ∃ v, atI vs k = some v ∧ Rep F K v d := by
  unfold atI at h ⊢
  rw [r.length]
  cases e : ixN l.length k with
  | none => rw [e] at h; cases h
  | some j =>
    rw [e] at h
    exact r.get' h
@[simp] def dOIx (i : Nat) (k : Int) : DE := fun _ ds P => ∃ l d, ds[i]? = some (.own l) ∧ atI l k = some d ∧ P d
theorem x_ownIx {b : Expr} {k : Int} (h : PE X e (tVar i)) (hb : PX X b (dC (.int k))) (hs : PlainIx b) : PX X (.Subscript e b pos) (dOIx i k) := by
  refine ⟨(pe_ix ix_list h hb.pe hs).weak fun σ H Q ⟨B, K, ds, S, l, d, e1, e2, q⟩ => ?_, fun bg ds P P' m ⟨l, d, e1, e2, q⟩ => ⟨l, d, e1, e2, m _ q⟩⟩
  obtain ⟨a, vs, f1, f2, f3, f4, f5, r, z⟩ := S.env i _ e1
  refine ⟨_, f1, B, K, ds, S, fun v K1 H1 n1 r1 => ?_⟩
  cases r1
  obtain ⟨v, g1, g2⟩ := reps_atI r e2
  exact ⟨a, vs, k, v, rfl, rfl, .inl (.inl (n1.le a _ f4 f5)), g1, q v K1 H1 n1 (g2.mono n1.kk)⟩
@[simp] def dApp (i : Nat) (fe : DE) : DSm := fun bg E ds => ∃ l, ds[i]? = some (.own l) ∧ l.length < sizeLine ∧ fe bg ds fun d => E.nx (ds.set i (.own (l ++ [d])))
theorem xs_append {apos cpos : Pos} (ho : PE X o (tVar i)) (he : PX X e fe) (hs : swapsWith (.Call (.Attribute o "append" apos) [e] [] cpos) none pos.line X.env = pure false := by rfl)
    (hbase : attributeBase o "append" X.env (eval o X.env) = eval o X.env := by rfl)
    (hfew : ((backTo cpos (starEach [e] X.env)).all (fun x => !x.1) && (backToKw cpos (keywordEach [] X.env)).all (fun x => x.1.isSome)
      && decide ([e].length + ([] : List Keyword).length + (if ([] : List Keyword).isEmpty then 0 else 1) < 30)) = true := by rfl)
    (hline : (apos.endLine == cpos.line) = true := by rfl) (hst : starEach [e] X.env = (false, eval e X.env) :: starEach [] X.env := by rfl) (hplain : (backTo cpos (starEach [] X.env)).any (·.1) = false := by rfl) :
    PXS X (.Expr (.Call (.Attribute o "append" apos) [e] [] cpos) pos) (dApp i fe) := by
  refine ⟨(ps_expr (pe_bm F.plainAttrs_list F.slot_list_append rfl mt_append ho (pa_cons he.pe pa_nil hst) hbase hfew hline hst hplain) hs).weak fun D σ H ⟨B, K, ds, S, l, e1, z1, p⟩ => ?_, fun bg E E' ds m ⟨l, e1, z1, p⟩ => ⟨l, e1, z1, he.mono _ _ _ _ (fun d q => m.nx _ q) p⟩⟩
  obtain ⟨a, vs, f1, f2, f3, f4, f5, r, z⟩ := S.env i _ e1
  refine ⟨_, f1, .inl ⟨rfl, vs, .inl (.inl f5)⟩, B, K, ds, S, he.mono _ _ _ _ (fun d q v K1 H1 n1 r1 => ?_) p⟩
  have S1 := S.next n1
  obtain ⟨a', vs', g1, g2, g3, g4, g5, r', z'⟩ := S1.env i _ e1
  rw [f1] at g1; cases g1
  refine ⟨a, vs', v, rfl, rfl, g5, by rw [r'.length]; exact z1, q σ K1 _ (S1.updO e1 rfl f1 g2 g3 g4 ⟨a, _, rfl, g2, g3, g4, upd_same, r'.append (.cons _ _ _ _ r1 .nil), ?_⟩)⟩
  rw [List.length_append, r'.length]
  exact z1
@[simp] def dExt (i : Nat) (fe : DE) : DSm := fun bg E ds => ∃ l, ds[i]? = some (.own l) ∧ fe bg ds fun d => ∃ m, d = .lst m ∧ l.length + m.length ≤ sizeLine ∧ E.nx (ds.set i (.own (l ++ m)))
theorem xs_extend {apos cpos : Pos} (ho : PE X o (tVar i)) (he : PX X e fe) (hs : swapsWith (.Call (.Attribute o "extend" apos) [e] [] cpos) none pos.line X.env = pure false := by rfl)
    (hbase : attributeBase o "extend" X.env (eval o X.env) = eval o X.env := by rfl)
    (hfew : ((backTo cpos (starEach [e] X.env)).all (fun x => !x.1) && (backToKw cpos (keywordEach [] X.env)).all (fun x => x.1.isSome)
      && decide ([e].length + ([] : List Keyword).length + (if ([] : List Keyword).isEmpty then 0 else 1) < 30)) = true := by rfl)
    (hline : (apos.endLine == cpos.line) = true := by rfl) (hst : starEach [e] X.env = (false, eval e X.env) :: starEach [] X.env := by rfl) (hplain : (backTo cpos (starEach [] X.env)).any (·.1) = false := by rfl) :
    PXS X (.Expr (.Call (.Attribute o "extend" apos) [e] [] cpos) pos) (dExt i fe) := by
  refine ⟨(ps_expr (pe_bm F.plainAttrs_list F.slot_list_extend rfl mt_extend ho (pa_cons he.pe pa_nil hst) hbase hfew hline hst hplain) hs).weak fun D σ H ⟨B, K, ds, S, l, e1, p⟩ => ?_, fun bg E E' ds m ⟨l, e1, p⟩ => ⟨l, e1, he.mono _ _ _ _ (fun d ⟨k, e, z, q⟩ => ⟨k, e, z, m.nx _ q⟩) p⟩⟩
  obtain ⟨a, vs, f1, f2, f3, f4, f5, r, z⟩ := S.env i _ e1
  refine ⟨_, f1, .inl ⟨rfl, vs, .inl (.inl f5)⟩, B, K, ds, S, he.mono _ _ _ _ (fun d ⟨m, e, zz, q⟩ v K1 H1 n1 r1 => ?_) p⟩
  subst e
  have S1 := S.next n1
  obtain ⟨a', vs', g1, g2, g3, g4, g5, r', z'⟩ := S1.env i _ e1
  rw [f1] at g1; cases g1
  obtain ⟨b, ws, rfl, hb, rb, _⟩ := r1.seqL n1.kh
  refine ⟨a, b, vs', ws, rfl, rfl, g5, hb, by rw [r'.length, rb.length]; exact zz, q σ K1 _ (S1.updO e1 rfl f1 g2 g3 g4 ⟨a, _, rfl, g2, g3, g4, upd_same, r'.append rb, ?_⟩)⟩
  rw [List.length_append, r'.length, rb.length]
  exact zz
/-- found[k] = e -/
@[simp] def dSetIx (i : Nat) (k : Int) (fe : DE) : DSm := fun bg E ds => ∃ l j, ds[i]? = some (.own l) ∧ ixN l.length k = some j ∧ fe bg ds fun d => E.nx (ds.set i (.own (l.set j d)))
theorem xs_setIx {b : Expr} {k : Int} {spos : Pos} (ho : PE X o (tVar i)) (hb : PX X b (dC (.int k))) (he : PX X e fe)
    (ha : ∀ v, assign (.Subscript o b spos) X.env v = (do
      let ov ← holding [v] (eval o X.env)
      let iv ← holding [v, ov] (eval b X.env)
      standAt spos
      holding [v, ov, iv] (setItem ov iv v)
      release [v, ov, iv] []) := by intro _; rfl)
    (hs : swapsWithSole [.Subscript o b spos] e pos.line X.env = pure false := by rfl) (hw : swappedStores [.Subscript o b spos] e X.env = pure none := by rfl)
    (h1 : (assignEach [.Subscript o b spos] X.env).map (·.2) = [assign (.Subscript o b spos) X.env] := by rfl) : PXS X (.Assign [.Subscript o b spos] e pos) (dSetIx i k fe) := by
  refine ⟨(ps_asg he.pe (pg_sub ho hb.pe set_list ha) hs hw h1).weak fun D σ H ⟨B, K, ds, S, l, j, e1, ej, p⟩ => ?_, fun bg E E' ds m ⟨l, j, e1, ej, p⟩ => ⟨l, j, e1, ej, he.mono _ _ _ _ (fun d q => m.nx _ q) p⟩⟩
  refine ⟨B, K, ds, S, he.mono _ _ _ _ (fun d q v K1 H1 n1 r1 => ?_) p⟩
  have S1 := S.next n1
  obtain ⟨a, vs, f1, f2, f3, f4, f5, r, z⟩ := S1.env i _ e1
  refine ⟨_, f1, B, K1, ds, S1, fun w K2 H2 n2 r2 => ?_⟩
  cases r2
  have S2 := S1.next n2
  obtain ⟨a', vs', g1, g2, g3, g4, g5, r', z'⟩ := S2.env i _ e1
  rw [f1] at g1; cases g1
  exact ⟨a, vs', k, j, rfl, rfl, g5, by rw [r'.length]; exact ej, q σ K2 _ (S2.updO e1 rfl f1 g2 g3 g4 ⟨a, _, rfl, g2, g3, g4, upd_same, r'.set j (r1.mono n2.kk), by rw [List.length_set]; exact z'⟩)⟩

/-! ### known, for good or for a while -/
@[simp] def dFrz (i : Nat) (f : DSm) : DSm := fun bg E ds => ∃ l, ds[i]? = some (.own l) ∧ f bg E (ds.set i (.val (.lst l)))
theorem xs_frz (i : Nat) {f : DSm} (h : PXS X st f) : PXS X st (dFrz i f) := by
  refine ⟨h.ps.weak fun D σ H ⟨B, K, ds, S, l, e, p⟩ => ?_, fun bg E E' ds m ⟨l, e, p⟩ => ⟨l, e, h.mono _ _ _ _ m p⟩⟩
  obtain ⟨a, vs, f1, f2, f3, f4, f5, S'⟩ := S.freeze e
  exact ⟨B, _, _, S', p⟩
@[simp] def dTmpT (i : Nat) (t : DT) : DT := fun bg ds P => ∃ l, ds[i]? = some (.own l) ∧ t bg (ds.set i (.val (.lst l))) P
theorem xt_tmp (i : Nat) {t : DT} (h : PXT X e t) : PXT X e (dTmpT i t) := by
  refine ⟨h.pt.weak fun σ H Q ⟨B, K, ds, S, l, e, p⟩ => ?_, fun bg ds P P' m ⟨l, e, p⟩ => ⟨l, e, h.mono _ _ _ _ m p⟩⟩
  obtain ⟨a, vs, f1, f2, f3, f4, f5, S'⟩ := S.freeze e
  refine ⟨B, _, _, S', h.mono _ _ _ _ (fun b q K' H' n => ?_) p⟩
  -- K' without a
  have k' : K' a = some (.lst vs) := n.kk _ _ upd_same
  refine q (fun x => if x = a then none else K' x) H' ⟨n.le, fun b c eb hb => ?_, fun x u hx => ?_, fun x hx => ?_, fun x u hx => ?_⟩
  · obtain ⟨x0, x1, i, cells, g1, g2, g3⟩ := hb
    have hc : c ≠ a := fun z => by rw [z, f2] at g2; cases g2
    obtain ⟨y0, y1, j, cells', k1, k2, k3⟩ := n.bag b c eb ⟨x0, x1, i, cells, g1, Ex.new f2 _ _ g2, g3⟩
    exact ⟨y0, y1, j, cells', k1, by show (if c = a then none else K' c) = _; rw [if_neg hc]; exact k2, k3⟩
  · have hc : x ≠ a := fun z => by rw [z, f2] at hx; cases hx
    show (if x = a then none else K' x) = _
    rw [if_neg hc]
    exact n.kk _ _ (Ex.new f2 _ _ hx)
  · show (if x = a then none else K' x) = _
    by_cases z : x = a
    · rw [if_pos z, z, f2]
    · rw [if_neg z, n.fr x hx, upd_ne z]
  · have hx' : (if x = a then none else K' x) = some u := hx
    by_cases z : x = a
    · rw [if_pos z] at hx'; cases hx'
    · rw [if_neg z] at hx'
      exact n.kh x u hx'
end
end K8
set_option Elab.async false
set_option linter.all false
set_option maxRecDepth 100000
set_option maxHeartbeats 4000000
/-! zip of a list and a tuple -/
namespace K8
open PySem PySem.Spec PyProof.Rows L2
open Evl (Ex ex_l ex_t ex_rd)
def ItzM (K : PySem.W.Frag) (a b : Addr) : It :=
  ⟨fun i H => ∃ (xs ys : List V) (x y : V), SqL K H a xs ∧ SqT K H b ys ∧ xs[i]? = some x ∧ ys[i]? = some y,
    fun i H v H' => ∃ T x y, v = .ref T ∧ H T = none ∧ H' = upd H T (.tup [x, y]) ∧ (∀ xs, SqL K H a xs → xs[i]? = some x) ∧ ∀ ys, SqT K H b ys → ys[i]? = some y,
    fun i H => ∃ xs ys : List V, SqL K H a xs ∧ SqT K H b ys ∧ i = min xs.length ys.length⟩
theorem ptl_list {h : Heap} {a : Addr} {its : Array Value} (p : PlainL h a its) : h.IsList a its := p.isList
theorem ptl_tup {h : Heap} {a : Addr} {its : Array Value} (p : IsTup h a its) : h.IsTuple a its := p
/-- the own cells of a zip -/
structure ZpAp (z TI TO i1 i2 : Addr) (a b : Addr) : Prop where
  s : ZipSep2 z TI TO i1 i2 [i1, a] [i2, b]
theorem zp_sub {z TI TO i1 i2 c : Addr} (h : c ∈ [z, TO, i1, i2]) : c ∈ [z, TI, TO, i1, i2] := by
  simp only [List.mem_cons, List.not_mem_nil, or_false] at h ⊢
  rcases h with h | h | h | h <;> simp [h]
theorem zp_sep (n a b : Nat) (ha : a < n) (hb : b < n) : ZipSep2 (n + 4) (n + 2) (n + 3) n (n + 1) [n, a] [n + 1, b] := by
  have ne2 : ∀ x y : Nat, x ∉ [y, a] ↔ x ≠ y ∧ x ≠ a := fun x y => by simp
  have ne3 : ∀ x y : Nat, x ∉ [y, b] ↔ x ≠ y ∧ x ≠ b := fun x y => by simp
  exact ⟨by show n + 2 ≠ n + 4; omega, by show n + 3 ≠ n + 4; omega, by show n + 2 ≠ n + 3; omega, by show n + 2 ≠ n; omega, List.mem_cons_self .., (ne2 _ _).mpr ⟨by omega, by omega⟩, (ne2 _ _).mpr ⟨by omega, by omega⟩,
    by show n + 2 ≠ n + 1; omega, List.mem_cons_self .., (ne3 _ _).mpr ⟨by omega, by omega⟩, (ne3 _ _).mpr ⟨by omega, by omega⟩, (ne3 _ _).mpr ⟨by omega, by omega⟩, (ne2 _ _).mpr ⟨by omega, by omega⟩⟩
def zpTn (a b z TI TO i1 i2 : Addr) (i : Nat) (h : Heap) : Prop := IsZip h z TI TO .none ∧ IsTupOf2 h TI (.ref i1) (.ref i2) ∧ (∃ x y, IsTupOf2 h TO x y) ∧ h.IsListIter i1 a i ∧ h.IsTupleIter i2 b i
section
variable {P : Program} {w : World} {K : PySem.W.Frag} {elts : List Expr} {kk : Nat} {tpos : Pos} {a b z TI TO i1 i2 : Addr}
theorem zp_goes (S : ZipSep2 z TI TO i1 i2 [i1, a] [i2, b]) (ha : a ≠ i1) (hb : b ≠ i2) {A : Around} (hh : A.handled = none) (its its2 : Array Value) :
    GoesN P w A (.Tuple elts kk tpos) z (z :: TI :: TO :: ([i1, a] ++ [i2, b])) [z, TO, i1, i2] (min its.size its2.size) (fun i h₀ v h => ∃ T x y, v = .ref T ∧ h₀.objs.size ≤ T ∧ its[i]? = some x ∧ its2[i]? = some y ∧ h.IsTuple T #[x, y])
      (fun i h => IsZip h z TI TO .none ∧ IsTupOf2 h TI (.ref i1) (.ref i2) ∧ (∃ a1 a2, IsTupOf2 h TO a1 a2) ∧ (h.IsListIter i1 a i ∧ h.IsList a its) ∧ (h.IsTupleIter i2 b i ∧ h.IsTuple b its2)) :=
  GoesN.zip2 S (Draws.list (show A.in1.handled = none from hh) i1 a ha its) (Draws.tuple (show A.in1.handled = none from hh) i2 b hb its2)
theorem turn_zipM (S : ZipSep2 z TI TO i1 i2 [i1, a] [i2, b]) (ha : a ≠ i1) (hb : b ≠ i2) : Turn P w K (.Tuple elts kk tpos) (ItzM K a b) [z, TI, TO, i1, i2] z (zpTn a b z TI TO i1 i2) where
  mem := by simp
  obj := fun i h st c hc => by
    obtain ⟨hz, hTI, ⟨x, y, hTO⟩, ⟨o1, e1, _, d1⟩, ⟨o2, e2, _, d2⟩⟩ := st
    simp only [List.mem_cons, List.not_mem_nil, or_false] at hc
    rcases hc with q | q | q | q | q <;> rw [q]
    · exact ⟨_, hz, fun v q => nomatch q⟩
    · exact ⟨_, hTI, fun v q => nomatch q⟩
    · exact ⟨_, hTO, fun v q => nomatch q⟩
    · exact ⟨o1, e1, fun v q => by rw [d1] at q; cases q⟩
    · exact ⟨o2, e2, fun v q => by rw [d2] at q; cases q⟩
  keep := fun i h h' st k => by
    obtain ⟨hz, hTI, ⟨x, y, hTO⟩, h1, h2⟩ := st
    exact ⟨k z (by simp) _ hz, k TI (by simp) _ hTI, ⟨x, y, k TO (by simp) _ hTO⟩, h1.at fun o q => k i1 (by simp) o q, h2.at fun o q => k i2 (by simp) o q⟩
  item := by
    intro X hP hw hK hc i pins s σ H E I hf st hg
    subst hP hw hK
    obtain ⟨hz, hTI, hTO, h1, h2⟩ := st
    obtain ⟨xs, ys, x, y, hqx, hqy, hx, hy⟩ := hg
    obtain ⟨its, rv, p, _⟩ := I.list hqx
    obtain ⟨its2, rv2, p2, _⟩ := I.tuple hqy
    obtain ⟨u, hu, ru⟩ := rv.get hx
    obtain ⟨u2, hu2, ru2⟩ := rv2.get hy
    have l1 := (List.getElem?_eq_some_iff.mp hu).1
    have l2 := (List.getElem?_eq_some_iff.mp hu2).1
    refine (zp_goes (elts := elts) (kk := kk) (tpos := tpos) S ha hb (I.ok.hd hc) its.toArray its2.toArray).goes i s _ E (by simp; omega) ⟨hz, hTI, hTO, ⟨h1, p.isList⟩, h2, p2⟩ fun v h' tk hY st' hk htk => ?_
    obtain ⟨T, u', u2', rfl, hT, e1, e2, hTT⟩ := hY
    have f1 : u' = u := Option.some.inj (e1.symm.trans (by simpa using hu))
    have f2 : u2' = u2 := Option.some.inj (e2.symm.trans (by simpa using hu2))
    subst f1 f2
    obtain ⟨oT, q1, q2, nT, q3⟩ := hTT
    have new : ObjOk X.prog X.w (upd H T (.tup [x, y])) h' T (.tup [x, y]) :=
      ⟨by show 2 ≤ sizeLine; decide, [u', u2'], .cons ru (.cons ru2 .nil), oT, q1, q2, nT, q3⟩
    have fp : ∀ c, c ∈ [z, TI, TO, i1, i2] → FpOk X pins H c := hf
    have I1 : Inv X pins σ (upd H T (.tup [x, y])) { s with heap := h', toks := tk } :=
      I.turnedNew (t' := tk) (ch := [z, TO, i1, i2]) (fun c o hb q => hk c o hb q) (fun c hcm => fp c (zp_sub hcm)) hT new
    obtain ⟨g1, g2, g3, ⟨g4, _⟩, g5, _⟩ := st'
    refine ⟨.ref T, _, I1, rfl, ⟨T, x, y, rfl, I.hok.fresh hT, rfl, fun l hl => by rw [I.list_inj hl hqx]; exact hx, fun l hl => by rw [I.tuple_inj hl hqy]; exact hy⟩, ⟨g1, g2, g3, g4, g5⟩, fun c hcm => ?_⟩
    have hlt : c < s.heap.objs.size := by
      simp only [List.mem_cons, List.not_mem_nil, or_false] at hcm
      obtain ⟨x0, y0, hTO⟩ := hTO
      rcases hcm with q | q | q | q | q <;> rw [q]
      · exact Heap.lt_size hz
      · exact Heap.lt_size hTI
      · exact Heap.lt_size hTO
      · obtain ⟨_, e1, _⟩ := h1; exact Heap.lt_size e1
      · obtain ⟨_, e2, _⟩ := h2; exact Heap.lt_size e2
    rw [upd_ne (Nat.ne_of_lt (Nat.lt_of_lt_of_le hlt hT))]
    exact (hf c hcm).1
  done := by
    intro X hP hw hK hc i pins s σ H E I hf st hg
    subst hP hw hK
    obtain ⟨hz, hTI, hTO, h1, h2⟩ := st
    obtain ⟨xs, ys, hqx, hqy, rfl⟩ := hg
    obtain ⟨its, rv, p, _⟩ := I.list hqx
    obtain ⟨its2, rv2, p2, _⟩ := I.tuple hqy
    have l1 := rv.length
    have l2 := rv2.length
    have e : min its.toArray.size its2.toArray.size = min xs.length ys.length := by simp [l1, l2]
    refine (zp_goes (elts := elts) (kk := kk) (tpos := tpos) S ha hb (I.ok.hd hc) its.toArray its2.toArray).stops s (fun s1 => Inv X pins σ H s1) E ?_ fun h' tk hk htk => ?_
    · rw [e]; exact ⟨hz, hTI, hTO, ⟨h1, p.isList⟩, h2, p2⟩
    · exact I.turnedL (t' := tk) (ch := [z, TO, i1, i2]) (fun c o hb q => hk c o hb q) (fun c hcm => hf c (zp_sub hcm))
  self := fun A i s Q E st h => wpAny_pyIter_zip st.1 h
end
def iZipM (K : PySem.W.Frag) (ta : TA) : TI := fun σ H R => ta σ H fun vs H1 => ∃ a b xs ys, vs = [.ref a, .ref b] ∧ SqL K H1 a xs ∧ SqT K H1 b ys ∧ R (ItzM K a b) H1
theorem pi_zipM {X : Cx} {e e2 : Expr} {ta : TA} {p pos tpos : Pos} {elts : List Expr} {kk : Nat} (hg : Gl X "zip") (hm : X.mg "zip" = none) (ha : PA X [e, e2] ta)
    (hs : starEach [e, e2] X.env = (false, eval e X.env) :: starEach [e2] X.env := by rfl) (hpl : (backTo pos (starEach [e2] X.env)).any (·.1) = false := by rfl) :
    PI X (.Tuple elts kk tpos) (.Call (.Name "zip" p) [e, e2] [] pos) (iZipM X.K ta) := by
  refine ⟨fun pins s σ H R I h => ?_⟩
  refine Call_ (ld_blt I hg hm PyProof.Rows.boot_zip (PyProof.Rows.callWith_type1 (thn (ha.run pos pins s σ H _ I h) fun us s1 ⟨vs, H1, I1, r1, q1⟩ => ?_) hs hpl))
  obtain ⟨a, b, xs, ys, ex, hqx, hqy, q⟩ := q1
  subst ex
  cases r1 with
  | cons r rr =>
  cases rr with
  | cons r' rr =>
  cases rr
  cases r
  cases r'
  obtain ⟨its, rv, p1, _⟩ := I1.list hqx
  obtain ⟨its2, rv2, p2, _⟩ := I1.tuple hqy
  obtain ⟨o2, ho2, _⟩ := id p2
  refine zip_begins2 (begins_list a its.toArray) (begins_tuple b its2.toArray) p1.isList p2 fun h' hz hTI hTO h1 h2 hsz hk => wpAny_pyIter_zip hz ?_
  have I2 : Inv X pins σ H1 { s1 with heap := h' } := I1.kept (t' := s1.toks) hk
  have la : a < s1.heap.objs.size := p1.lt
  have lb : b < s1.heap.objs.size := Heap.lt_size ho2
  refine ⟨s1.heap.objs.size + 4, [s1.heap.objs.size + 4, s1.heap.objs.size + 2, s1.heap.objs.size + 3, s1.heap.objs.size, s1.heap.objs.size + 1], zpTn a b _ _ _ _ _, _, H1, rfl, I2,
    turn_zipM (zp_sep s1.heap.objs.size a b la lb) (Nat.ne_of_lt la) (Nat.ne_of_lt (Nat.lt_succ_of_lt lb)), ⟨hz, hTI, ⟨_, _, hTO⟩, ⟨_, h1, rfl, rfl⟩, ⟨_, h2, rfl, rfl⟩⟩, fun c hcm => ?_, q⟩
  have hle : s1.heap.objs.size ≤ c := by
    simp only [List.mem_cons, List.not_mem_nil, or_false] at hcm
    rcases hcm with z | z | z | z | z <;> rw [z] <;> omega
  exact I1.fpOk hle (I1.hok.fresh hle)
section
variable {X : Cx} {e e2 : Expr} {f : DA} {p pos tpos : Pos} {elts : List Expr} {kk : Nat}
@[simp] def dItM (f : DA) : DA := fun bg ds P => f bg ds fun l => ∃ y m n, l = [.lst m, y] ∧ IsT y n ∧ P (zipD m n)
theorem xi_zipM (hg : Gl X "zip") (hm : X.mg "zip" = none) (ha : PXA X [e, e2] f)
    (hs : starEach [e, e2] X.env = (false, eval e X.env) :: starEach [e2] X.env := by rfl) (hpl : (backTo pos (starEach [e2] X.env)).any (·.1) = false := by rfl) :
    PXI X (.Tuple elts kk tpos) (.Call (.Name "zip" p) [e, e2] [] pos) (dItM f) := by
  refine ⟨(pi_zipM hg hm ha.pa hs hpl).weak fun σ H Q ⟨B, K, ds, S, p⟩ => ?_, fun bg ds P P' m p => ha.mono _ _ _ _ (fun d ⟨y, k, l, e, h, q⟩ => ⟨y, k, l, e, h, m _ q⟩) p⟩
  refine ⟨B, K, ds, S, ha.mono _ _ _ _ (fun l ⟨y, m, n, el, hy, q⟩ vs K1 H1 n1 r1 => ?_) p⟩
  subst el
  cases r1 with
  | cons v1 d1 w1 l1 q1 r1 =>
  cases r1 with
  | cons v2 d2 w2 l2 q2 r1 =>
  cases r1
  obtain ⟨a, ws, rfl, h, r, z⟩ := q1.lstK
  obtain ⟨b, us, rfl, h', r', z'⟩ := q2.tupK hy
  have e1 := r.length
  have e2 := r'.length
  refine ⟨a, b, ws, us, rfl, .inl (.inl (n1.kh _ _ h)), .inl (ex_rd n1.kh h'), q _ K1 H1 n1 (fun K2 H2 k2 h2 => ⟨fun i d hd => ?_, fun i hi => ?_⟩) ?_⟩
  · have h3 : SqL X.K H2 a ws := .inl (.inl (h2 _ _ (k2 _ _ h)))
    have h4 : SqT X.K H2 b us := .inl (ex_rd h2 (ex_rd k2 h'))
    unfold zipD at hd
    rw [List.getElem?_zipWith] at hd
    cases hx : m[i]? with
    | none => rw [hx] at hd; simp at hd
    | some dx =>
    cases hy : n[i]? with
    | none => rw [hx, hy] at hd; simp at hd
    | some dy =>
    rw [hx, hy] at hd
    simp at hd
    subst hd
    obtain ⟨v, hv, rv⟩ := r.get' hx
    obtain ⟨u, hu, ru⟩ := r'.get' hy
    refine ⟨⟨ws, us, v, u, h3, h4, hv, hu⟩, fun x H' ⟨T, x', y', e1, hT, e2, y1, y2⟩ => ?_⟩
    subst e1 e2
    have e3 : x' = v := Option.some.inj ((y1 ws h3).symm.trans hv)
    have e4 : y' = u := Option.some.inj ((y2 us h4).symm.trans hu)
    subst e3 e4
    exact Nx.tup2 h2 hT (rv.mono k2) (ru.mono k2)
  · unfold zipD at hi
    rw [List.length_zipWith] at hi
    exact ⟨ws, us, .inl (.inl (h2 _ _ (k2 _ _ h))), .inl (ex_rd h2 (ex_rd k2 h')), by omega⟩
  · unfold zipD
    rw [List.length_zipWith]
    omega
end
end K8
set_option Elab.async false
set_option linter.all false
set_option maxRecDepth 100000
set_option maxHeartbeats 4000000
/-! dicts whose keys are tuples of ints -/
namespace K8
open PySem PySem.Spec PyProof.Rows L2
open Evl (Ex ex_l ex_t ex_rd)
/-- a new pair in a dict of tuple keys -/
theorem dset_tup {X : Cx} {pins : List (Addr × Obj)} {σ : L2.St} {H : Hp} {s : Shared} {E : Value → Shared → Prop} {D b : Addr} {kvs : List (List Key × V)} {k : List Key} {v : V} {r : Value} {Q : Unit → Shared → Prop} (room : X.A.units + 2 < cLine) (I : Inv X pins σ H s)
    (hD : H D = some (.dT kvs)) (hb : H b = some (.tup (k.map kV))) (few : kvs.length < sizeLine) (rv : RelV v r) (next : ∀ s', Inv X pins σ (upd H D (.dT (putK kvs k v))) s' → Q () s') :
    wpAny (model X.prog X.w) X.A (dictSet D (.ref b) r) Q E s := by
  obtain ⟨z, nosys, xs, rel, dd⟩ := dt_of I.hok hD
  have zx : xs.length ≤ sizeLine := Nat.le_trans (Nat.le_of_eq (Paired.length rel).symm) z
  refine wpAny_dictSet_heap (hsz := zx) (show X.A.units < cLine by omega) (key_of I.hok hb) dd fun h2 dd2 same => next _ ?_
  obtain ⟨q, es, ep, g1, g2, g3, g4, _, g5⟩ := dd2
  have fewer : (putK kvs k v).length ≤ sizeLine := Nat.le_trans (length_putK kvs k v) few
  have kept : KT (upd H D (.dT (putK kvs k v))) (putK kvs k v) (storedH xs k b r) := (rel.put k hb rv).keeps fun c ys ec => (upd_ne (ne_of ec hD (fun z => nomatch z))).trans ec
  exact d_write I (by rw [hD]; trivial) same ⟨q, g1⟩ ⟨fewer, nosys, _, kept, q, es, ep, g1, g2, g3, g4, g5⟩
/-- {k: v for target in iter if ..}, the keys tuples -/
def tDct (wi : TI) (g : TG) (tt : TT) (tk tv : TE) (vs : List Nat) : TE := fun σ H Q => wi σ H fun J H1 => ∀ D, H1 D = none → ∃ W : Nat → Nat → Hp → Prop, (∃ m, W 0 m (upd H1 D (.dT []))) ∧ ∀ i m H, W i m H →
  (J.stop i H ∧ Q (.ref D) H) ∨ (J.go i H ∧ ∃ nx : Hp → Prop, (∀ H', nx H' → ∃ m', m' < m ∧ W (i + 1) m' H') ∧ ∀ x H', J.yld i H x H' → g x (wipe σ vs) H' fun σ2 H2 => wipe σ2 vs = wipe σ vs ∧ tt σ2 H2 fun b H3 =>
    if b = true then tk σ2 H3 fun y H4 => tv σ2 H4 fun z H5 => ∃ kvs k q, y = .ref q ∧ H5 q = some (.tup (k.map kV)) ∧ H5 D = some (.dT kvs) ∧ kvs.length < sizeLine ∧ nx (upd H5 D (.dT (putK kvs k z))) else nx H3)
section
variable {X : Cx} {kx vx tg iter : Expr} {ifs : List Expr} {scope : Scope} {own : List (Str × Nat)} {pos : Pos}
theorem pe_dct {wi : TI} {g : TG} {tt : TT} {tk tv : TE} (room : X.A.units + 2 < cLine) (calm : X.calm = true) (nd : X.N.Nodup) (hi : PI X tg iter wi) (ok : BlkOk X.N X.env.scope scope own)
    (hg : ∀ (s : Shared) (H : Hp) (C : Addr) (cl : List (Str × Addr)) (fp : List Addr), PG (X.blk s H scope (compEnvC scope cl C X.env) fp) tg g) (ht : ∀ (s : Shared) (H : Hp) (C : Addr) (cl : List (Str × Addr)) (fp : List Addr), PTs (X.blk s H scope (compEnvC scope cl C X.env) fp) ifs tt)
    (hk : ∀ (s : Shared) (H : Hp) (C : Addr) (cl : List (Str × Addr)) (fp : List Addr), PE (X.blk s H scope (compEnvC scope cl C X.env) fp) kx tk) (he : ∀ (s : Shared) (H : Hp) (C : Addr) (cl : List (Str × Addr)) (fp : List Addr), PE (X.blk s H scope (compEnvC scope cl C X.env) fp) vx tv)
    (hs : ∀ x, foldedSetIterable iter X.env x = pure x := by intro _; rfl) : PE X (.DictComp kx vx [⟨tg, iter, ifs, 0⟩] scope pos) (tDct wi g tt tk tv (own.map (·.2))) := by
  refine ⟨fun pins s σ H Q I reading => ?_⟩
  rw [arm_eval_DictComp]
  have closed : ∀ y ∈ scope.names, y.2 = .free → ∃ c, X.env.cells.lookup y.1 = some c := fun y hy isfree => I.ok.has _ ((ok.free y hy isfree).elim .inl .inr)
  refine wpAny_comprehension_free (use := none) rfl hs (closure_ok closed) ok.kind (fun y hy e => by rw [ok.uniq y hy, e]) (thn (hi.run pins s σ H _ I reading) fun xv s1 come => thn come fun itv s2 here => ?_)
  obtain ⟨it, fp, tn, J, Ha, rfl, Ia, turns, sta, fpa, more⟩ := here
  refine wpAny_newObj_type (newEnv_comp ?_)
  generalize eD : s2.heap.objs.size = D
  obtain ⟨W, ⟨m0, w0⟩, walk⟩ := more D (Ia.hok.fresh (Nat.le_of_eq eD))
  generalize eb : ({ s2 with heap := s2.heap.push { cls := .type "dict", data := .dict #[] } } : Shared) = sb
  have pb : sb.heap = s2.heap.push { cls := .type "dict", data := .dict #[] } := by rw [← eb]
  have Ib : Inv X pins σ (upd Ha D (.dT [])) sb := by
    rw [← eb]
    exact Ia.laid (t' := s2.toks) (fun b o e => Heap.get?_push_of_some _ e) (Nat.le_of_eq eD) (by rw [← eD]; exact dt_empty s2.heap Ia.big)
  have below : ∀ b ∈ fp, b < s2.heap.objs.size := fun b hb => by
    obtain ⟨o, e, _⟩ := turns.obj _ _ sta b hb
    exact Heap.lt_size e
  have fpb : ∀ b ∈ fp, FpOk X pins (upd Ha D (.dT [])) b ∧ b < sb.heap.objs.size := fun b hb => by
    have lt := below b hb
    refine ⟨⟨(upd_ne (by rw [← eD]; exact Nat.ne_of_lt lt)).trans (fpa b hb).1, (fpa b hb).2⟩, ?_⟩
    rw [pb, Heap.size_push]
    exact Nat.lt_succ_of_lt lt
  have stb : tn 0 sb.heap := turns.keep _ _ _ sta fun b _ o e => by rw [pb]; exact Heap.get?_push_of_some _ e
  have Ic := block_start Ib ok nd fpb
  generalize ecl : cellsFrom (sb.heap.objs.size + 1) scope.names (cloFrom X.env.cells scope.names []) = cl at Ic
  have rg := hg sb (upd Ha D (.dT [])) sb.heap.objs.size cl fp
  have rt := ht sb (upd Ha D (.dT [])) sb.heap.objs.size cl fp
  have rk := hk sb (upd Ha D (.dT [])) sb.heap.objs.size cl fp
  have rv := he sb (upd Ha D (.dT [])) sb.heap.objs.size cl fp
  show codeAny _ _ (.compStart (.DictComp kx vx [⟨tg, iter, ifs, 0⟩] scope pos) 0 (.ref it) (.ref D) (compEnvC scope cl sb.heap.objs.size X.env)) (compPost (model X.prog X.w) X.A X.xe none _ (.ref D) sb.heap.objs.size) { sb with heap := pushCells (sb.heap.push { cls := .type "dict", data := .dict #[] }) scope.names }
  have away : ∀ b ∈ fp, (upd Ha D (.dT [])) b = none := fun b hb => (fpb b hb).1.1
  generalize ece : compEnvC scope cl sb.heap.objs.size X.env = ce at Ic rg rt rk rv ⊢
  have locs : ce.locals = sb.heap.objs.size := by subst ece; rfl
  generalize eHb : upd Ha D (.dT []) = Hb at Ib Ic rg rt rk rv w0 away fpb
  generalize esc : ({ sb with heap := pushCells (sb.heap.push { cls := .type "dict", data := .dict #[] }) scope.names } : Shared) = sc at Ic ⊢
  have stc : tn 0 sc.heap := turns.keep _ _ _ stb fun b _ o e => by rw [← esc]; exact pushCells_keeps _ _ _ _ (Heap.get?_push_of_some _ e)
  have static : ∀ {σ1 : L2.St} {H1 : Hp} {s1 : Shared}, Inv (X.blk sb Hb scope ce fp) [] σ1 H1 s1 → (∀ b ∈ fp, H1 b = none) → ∀ b ∈ fp, FpOk (X.blk sb Hb scope ce fp) [] H1 b := fun {σ1 H1 s1} I1 off b hb =>
    ⟨off b hb, (I1.ok.exf b hb).1, I1.ok.exfs b hb, .inl hb, fun x c e => (I1.ok.exf b hb).2 x c e, fun p hp => by simp at hp⟩
  suffices loop : codeAny (model X.prog X.w) X.A (.compLoop (.DictComp kx vx [⟨tg, iter, ifs, 0⟩] scope pos) 0 (.ref it) (.ref D) ce) (compPost (model X.prog X.w) X.A X.xe none (EP X pins σ Q) (.ref D) sb.heap.objs.size) sc from
    codeAny_compStart_dict loop (turns.self X.A 0 _ _ _ stc loop)
  refine compLoop_anyD (fun n s' => ∃ i H', Inv (X.blk sb Hb scope ce fp) [] (wipe σ (own.map (·.2))) H' s' ∧ tn i s'.heap ∧ (∀ b ∈ fp, H' b = none) ∧ W i n H') ?_ m0 ⟨0, Hb, Ic, stc, away, w0⟩
  rintro n sd ⟨i, Hd, Id, std, offd, wd⟩
  rcases walk i n Hd wd with ⟨halt, fin⟩ | ⟨go, nx, hnx, turn⟩
  · refine thnF (turns.done (X.blk sb Hb scope ce fp) rfl rfl rfl calm i [] sd _ Hd (fun _ _ => False) Id (static Id offd) std halt) fun r se ⟨hr, Ie⟩ => ?_
    subst hr
    -- back where the def stands
    have If : Inv X pins σ Hd se := Ib.call' (ch := fp) Ie.os Ie.base Ie.hok Ie.bare fun b hb => ⟨(fpb b hb).1.2.2.2.1, (fpb b hb).1.2.1, (fpb b hb).1.2.2.2.2.1, (fpb b hb).1.2.2.2.2.2⟩
    have gone : Hd sb.heap.objs.size = none := by rw [← locs]; exact Ie.free
    obtain ⟨m, ns, _⟩ := Ie.loc
    have ns' : se.heap.Ns ce.locals m := ns
    rw [locs] at ns'
    refine ⟨m, ns', fun h' sb' => ?_⟩
    obtain ⟨f0, f1, f2, f3, f4, f5⟩ := Ib.fpOk (Nat.le_refl _) gone
    exact ⟨.ref D, Hd, If.turned (t' := se.toks) (fun b o hb e => (sb'.2 b hb).trans e) f0 f1 f3 f4 f5, rfl, fin⟩
  · refine thnF (turns.item (X.blk sb Hb scope ce fp) rfl rfl rfl calm i [] sd _ Hd (fun _ _ => False) Id (static Id offd) std go) fun r se ⟨u, hr, rest⟩ => ?_
    subst hr
    refine thnF rest fun _ sf ⟨x, Hf, If, rx, yx, stf, offf⟩ => ?_
    have Ig := If.pinned (static If offf) (turns.obj _ _ stf)
    refine thnF (rg.run _ sf _ Hf x u _ Ig rx (turn x Hf yx)) fun _ sg ⟨σg, Hg, Igg, same, qg⟩ => ?_
    refine thnF (rt.run _ sg σg Hg _ Igg qg) fun b sh ⟨Hh, Ih, qh⟩ => ?_
    have wrap : ∀ {s' : Shared} {H' : Hp}, Inv (X.blk sb Hb scope ce fp) ([] ++ pinsAt fp sf.heap) σg H' s' → nx H' → ∃ m, m < n ∧ ∃ i H', Inv (X.blk sb Hb scope ce fp) [] (wipe σ (own.map (·.2))) H' s' ∧ tn i s'.heap ∧ (∀ b ∈ fp, H' b = none) ∧ W i m H' := fun {s' H'} I' nxt => by
      obtain ⟨m', less, w'⟩ := hnx H' nxt
      have held : ∀ b ∈ fp, ∀ o, sf.heap.get? b = some o → s'.heap.get? b = some o ∧ H' b = none := fun b hb o e => by
        have z := I'.pin (b, o) (List.mem_append_right _ (List.mem_append_right _ (mem_pinsAt hb e)))
        exact ⟨z.1, z.2.1⟩
      have long : (wipe σ (own.map (·.2))).length = σg.length := by rw [← same, wipe_length]
      refine ⟨m', less, i + 1, H', (I'.unpinned (pins := [])).weak long (fun j v e => ?_), turns.keep _ _ _ stf fun b hb o e => (held b hb o e).1, fun b hb => ?_, w'⟩
      · exact (wipe_some (by rw [← same] at e; exact e)).1
      · obtain ⟨o, e, _⟩ := turns.obj _ _ stf b hb
        exact (held b hb o e).2
    cases b with
    | false =>
      rw [if_neg (by decide)] at qh ⊢
      exact wrap Ih qh
    | true =>
      rw [if_pos rfl] at qh ⊢
      refine thnF (rk.run _ sh σg Hh _ Ih qh) fun zk si ⟨yk, Hi, Ii, ri, qi⟩ => ?_
      refine thnF (rv.run _ si σg Hi _ Ii qi) fun zv sj ⟨yv, Hj, Ij, rj, kvs, k, q, ek, hq, hD, few, nxt⟩ => ?_
      subst ek
      cases ri
      exact dset_tup (X := X.blk sb Hb scope ce fp) room Ij hD hq few rj fun sk Ik => wrap Ik nxt
end
end K8
set_option Elab.async false
set_option linter.all false
set_option maxRecDepth 100000
set_option maxHeartbeats 4000000
/-! dicts whose keys are tuples of ints, by data -/
namespace K8
open PySem PySem.Spec PyProof.Rows L2
open Evl (Ex ex_l ex_t ex_rd)
abbrev KD := List (List Int × D)
def hasD (kvs : KD) (k : List Int) : Bool := kvs.any fun p => decide (p.1 = k)
def putD (kvs : KD) (k : List Int) (d : D) : KD := if hasD kvs k = true then kvs.map (fun p => if p.1 = k then (p.1, d) else p) else kvs ++ [(k, d)]
def getD' (kvs : KD) (k : List Int) : Option D := (kvs.find? fun p => decide (p.1 = k)).map (·.2)
def keysV (ks : List (List Int)) : List (List Key) := ks.map fun k => k.map Sum.inl
theorem inl_inj {a b : List Int} : (a.map (Sum.inl : Int → Key) = b.map Sum.inl) ↔ a = b := List.map_inj_right (fun _ _ h => by cases h; rfl)
section
variable {F : PySem.W.Frag} {K : Hp}
theorem val_rep : ∀ {kvs : KD} {vs : List V} (k : List Int), Reps F K vs (kvs.map (·.2)) → (∀ d, getD' kvs k = some d → ∃ v, valV ((keysV (kvs.map (·.1))).zip vs) (k.map Sum.inl) = some v ∧ Rep F K v d) ∧ (valV ((keysV (kvs.map (·.1))).zip vs) (k.map Sum.inl)).isSome = hasD kvs k
  | [], _, k, r => by
    cases r
    exact ⟨(fun d h => nomatch h), rfl⟩
  | p :: kvs, _, k, r => by
    rw [List.map_cons] at r
    cases r with
    | cons v d vs l h r =>
      obtain ⟨i1, i2⟩ := val_rep k r
      by_cases e : p.1 = k
      · have e' : valV ((keysV ((p :: kvs).map (·.1))).zip (v :: vs)) (k.map Sum.inl) = some v := valV_pos (p := (p.1.map Sum.inl, v)) (by rw [e])
        refine ⟨fun d hd => ⟨v, e', ?_⟩, ?_⟩
        · unfold getD' at hd
          rw [List.find?_cons_of_pos (by simp [e])] at hd
          cases hd; exact h
        · rw [e']
          unfold hasD
          rw [List.any_cons, decide_eq_true e]; rfl
      · have e' : valV ((keysV ((p :: kvs).map (·.1))).zip (v :: vs)) (k.map Sum.inl) = valV ((keysV (kvs.map (·.1))).zip vs) (k.map Sum.inl) := valV_neg (p := (p.1.map Sum.inl, v)) (fun z => e (inl_inj.mp z))
        rw [e']
        refine ⟨fun d hd => i1 d ?_, ?_⟩
        · unfold getD' at hd ⊢
          rwa [List.find?_cons_of_neg (by simp [e])] at hd
        · rw [i2]
          unfold hasD
          rw [List.any_cons, decide_eq_false e, Bool.false_or]
theorem any_rep : ∀ {kvs : KD} {vs : List V} (k : List Int), vs.length = kvs.length → (((keysV (kvs.map (·.1))).zip vs).any fun kv => decide (kv.1 = k.map Sum.inl)) = hasD kvs k
  | [], _, k, _ => by simp [keysV, hasD]
  | p :: kvs, [], k, h => by simp at h
  | p :: kvs, v :: vs, k, h => by
    have := any_rep (kvs := kvs) (vs := vs) k (by simpa using h)
    unfold hasD at this ⊢
    simp only [List.map_cons, keysV, List.zip_cons_cons, List.any_cons] at this ⊢
    rw [← this]
    congr 1
    exact decide_eq_decide.mpr inl_inj
theorem put_rep {kvs : KD} {vs : List V} (k : List Int) {v : V} {d : D} (r : Reps F K vs (kvs.map (·.2))) (rv : Rep F K v d) :
    ∃ vs', putK ((keysV (kvs.map (·.1))).zip vs) (k.map Sum.inl) v = (keysV ((putD kvs k d).map (·.1))).zip vs' ∧ Reps F K vs' ((putD kvs k d).map (·.2)) := by
  have hl : vs.length = kvs.length := by rw [r.length, List.length_map]
  unfold putK putD
  rw [any_rep k hl]
  by_cases c : hasD kvs k = true
  · rw [if_pos c, if_pos c]
    clear c hl
    induction kvs generalizing vs with
    | nil => cases r; exact ⟨[], by simp [keysV], .nil⟩
    | cons p kvs ih =>
      rw [List.map_cons] at r
      cases r with
      | cons v0 d0 vs l h r =>
        obtain ⟨vs', e1, e2⟩ := ih r
        by_cases e : p.1 = k
        · refine ⟨v :: vs', ?_, ?_⟩
          · simp only [List.map_cons, keysV, List.zip_cons_cons] at e1 ⊢
            rw [e1, if_pos e, if_pos (by rw [e])]
          · simp only [List.map_cons, if_pos e]
            exact .cons _ _ _ _ rv e2
        · refine ⟨v0 :: vs', ?_, ?_⟩
          · simp only [List.map_cons, keysV, List.zip_cons_cons] at e1 ⊢
            rw [e1, if_neg e, if_neg (fun z => e (inl_inj.mp z))]
          · simp only [List.map_cons, if_neg e]
            exact .cons _ _ _ _ h e2
  · rw [if_neg c, if_neg c]
    refine ⟨vs ++ [v], ?_, ?_⟩
    · unfold keysV
      rw [List.map_append, List.map_append, List.zip_append (by simp [hl])]
      rfl
    · rw [List.map_append]
      exact r.append (.cons _ _ _ _ rv .nil)
theorem putD_len (kvs : KD) (k : List Int) (d : D) : (putD kvs k d).length ≤ kvs.length + 1 := by
  unfold putD
  split
  · rw [List.length_map]; omega
  · rw [List.length_append]; simp
theorem Rep.key {v : V} {k : List Int} (r : Rep F K v (.tup (k.map .int))) : ∃ b, v = .ref b ∧ K b = some (.tup ((k.map (Sum.inl : Int → Key)).map kV)) := by
  cases r with
  | tup a vs l z h r =>
    refine ⟨a, rfl, ?_⟩
    rw [h, Reps.ints r, List.map_map]
    rfl
end
def SlOk.ownT' {F : PySem.W.Frag} {B : Bs} {K H : Hp} {x : Option (Option V)} {kvs : KD} (h : SlOk F B K H x (.ownT kvs)) :
    ∃ a vs, x = some (some (.ref a)) ∧ K a = none ∧ B.H0 a = none ∧ B.bg ≠ some a ∧ H a = some (.dT ((keysV (kvs.map (·.1))).zip vs)) ∧ Reps F K vs (kvs.map (·.2)) := by
  obtain ⟨a, vs, h1, h2, h3, h4, h5, h6⟩ := h
  refine ⟨a, vs, h1, h2, h3, h4, ?_, h6⟩
  unfold keysV
  rw [List.map_map]
  exact h5
def SlOk.mkT {F : PySem.W.Frag} {B : Bs} {K H : Hp} {a : Addr} {vs : List V} {kvs : KD} (h2 : K a = none) (h3 : B.H0 a = none) (h4 : B.bg ≠ some a) (h5 : H a = some (.dT ((keysV (kvs.map (·.1))).zip vs))) (h6 : Reps F K vs (kvs.map (·.2))) : SlOk F B K H (some (some (.ref a))) (.ownT kvs) := by
  refine ⟨a, vs, rfl, h2, h3, h4, ?_, h6⟩
  unfold keysV at h5
  rw [List.map_map] at h5
  exact h5
section
variable {X : Cx} {pos : Pos} {tg iter kx vx e o : Expr} {ifs : List Expr} {scope : Scope} {own : List (Str × Nat)} {di : DA} {g : DG} {t : DT} {fe fk fv : DE} {gs : List Nat} {i : Nat}
/-- a dict comprehension -/
def dcW (bg : BG) (g : DG) (t : DT) (fk fv : DE) (ds : DS) : List D → KD → (KD → Prop) → Prop
  | [], acc, P => P acc
  | x :: xs, acc, P => g x ds fun ds2 => t bg ds2 fun b => if b = true then fk bg ds2 fun k => fv bg ds2 fun v => ∃ ks, k = .tup (ks.map .int) ∧ dcW bg g t fk fv ds xs (putD acc ks v) P else dcW bg g t fk fv ds xs acc P
theorem dcW_mono (hg : ∀ d ds P P', (∀ d, P d → P' d) → g d ds P → g d ds P') (ht : ∀ bg ds P P', (∀ d, P d → P' d) → t bg ds P → t bg ds P') (hk : ∀ bg ds P P', (∀ d, P d → P' d) → fk bg ds P → fk bg ds P') (he : ∀ bg ds P P', (∀ d, P d → P' d) → fv bg ds P → fv bg ds P') {bg : BG} {ds : DS} {P P' : KD → Prop} (m : ∀ l, P l → P' l) :
    ∀ (items : List D) (acc : KD), dcW bg g t fk fv ds items acc P → dcW bg g t fk fv ds items acc P'
  | [], acc, h => m acc h
  | x :: xs, acc, h => hg _ _ _ _ (fun ds2 q => ht _ _ _ _ (fun b q => by
    cases b with
    | false => exact dcW_mono hg ht hk he m xs acc q
    | true => exact hk _ _ _ _ (fun k q => he _ _ _ _ (fun y ⟨ks, e, q⟩ => ⟨ks, e, dcW_mono hg ht hk he m xs _ q⟩) q) q) q) h
@[simp] def dDct (i : Nat) (di : DA) (g : DG) (t : DT) (fk fv : DE) (vs : List Nat) : DSm := fun bg E ds => di bg ds fun items => dcW bg g t fk fv (wipeD ds vs) items [] fun out => E.nx (ds.set i (.ownT out))
theorem dct_up (hg : ∀ d ds P P', (∀ d, P d → P' d) → g d ds P → g d ds P') (ht : ∀ bg ds P P', (∀ d, P d → P' d) → t bg ds P → t bg ds P') (hk : ∀ bg ds P P', (∀ d, P d → P' d) → fk bg ds P → fk bg ds P') (he : ∀ bg ds P P', (∀ d, P d → P' d) → fv bg ds P → fv bg ds P') (hi : PXI X tg iter di)
    (hv : ∀ j ∈ gs, j ∈ own.map (·.2)) {σ : L2.St} {H : Hp} {Q : VK}
    (q : ∃ B K ds, SE X.K B K σ H ds ∧ di B.bg ds fun items => dcW B.bg g t fk fv (wipeD ds (own.map (·.2))) items [] fun out => ∀ p ws K' H', Nx B.bg K H K' H' → H p = none → K' p = none → B.bg ≠ some p → H' p = some (.dT ((keysV (out.map (·.1))).zip ws)) → Reps X.K K' ws (out.map (·.2)) → Q (.ref p) H') :
    tDct (upI X.K di) (upG X.K g gs) (upT X.K t) (up X.K fk) (up X.K fv) (own.map (·.2)) σ H Q := by
  obtain ⟨B, K, ds, S, p⟩ := q
  refine ⟨B, K, ds, S, hi.mono _ _ _ _ (fun items q J K1 H1 n1 w z => ?_) p⟩
  have S1 := S.next n1
  intro Dl hD
  have kD : K1 Dl = none := by
    cases q : K1 Dl with
    | none => rfl
    | some u => rw [n1.kh Dl u q] at hD; cases hD
  have bD : B.bg ≠ some Dl := S1.freshbag hD
  let P' : KD → Prop := fun out => ∀ p ws K' H', Nx B.bg K H K' H' → H p = none → K' p = none → B.bg ≠ some p → H' p = some (.dT ((keysV (out.map (·.1))).zip ws)) → Reps X.K K' ws (out.map (·.2)) → Q (.ref p) H'
  refine ⟨fun i m H' => m = items.length - i ∧ i ≤ items.length ∧ ∃ Kc vs acc, Nx B.bg K1 H1 Kc H' ∧ Kc Dl = none ∧ H' Dl = some (.dT ((keysV (acc.map (·.1))).zip vs)) ∧ Reps X.K Kc vs (acc.map (·.2)) ∧ acc.length ≤ i ∧ dcW B.bg g t fk fv (wipeD ds (own.map (·.2))) (items.drop i) acc P',
    ⟨items.length, by simp, Nat.zero_le _, K1, [], [], ?_, kD, upd_same, .nil, Nat.le_refl _, by rw [List.drop_zero]; exact q⟩, ?_⟩
  · exact Nx.of_ex n1.kh (Ex.new hD)
  rintro i m H2 ⟨rfl, hi2, K2, vs, acc, n2, k2, h2, r2, l2, q2⟩
  obtain ⟨w1, w2⟩ := w K2 H2 n2.kk n2.kh
  by_cases hlt : i < items.length
  · obtain ⟨go, yl⟩ := w1 i items[i] (List.getElem?_eq_getElem hlt)
    rw [List.drop_eq_getElem_cons hlt] at q2
    refine .inr ⟨go, fun H' => i + 1 ≤ items.length ∧ ∃ Kc vs acc, Nx B.bg K1 H1 Kc H' ∧ Kc Dl = none ∧ H' Dl = some (.dT ((keysV (acc.map (·.1))).zip vs)) ∧ Reps X.K Kc vs (acc.map (·.2)) ∧ acc.length ≤ i + 1 ∧ dcW B.bg g t fk fv (wipeD ds (own.map (·.2))) (items.drop (i + 1)) acc P',
      fun H' ⟨h1, h2⟩ => ⟨items.length - (i + 1), by omega, rfl, h1, h2⟩, fun v H3 y => ?_⟩
    obtain ⟨K3, n3, r3⟩ := yl v H3 y
    have step : ∀ {K3 H3 : Hp}, Nx B.bg K2 H2 K3 H3 → Nx B.bg K1 H1 K3 H3 ∧ K3 Dl = none ∧ H3 Dl = some (.dT ((keysV (acc.map (·.1))).zip vs)) ∧ Reps X.K K3 vs (acc.map (·.2)) := fun {K3 H3} n =>
      ⟨Nx.trans S1.bag n2 n, (n.fr Dl (by rw [h2]; trivial)).trans k2, n.le Dl _ bD h2, r2.mono n.kk⟩
    obtain ⟨n13, k3, h3, rr3⟩ := step (Nx.of0 n3)
    have S3 : SE X.K B K3 (wipe σ (own.map (·.2))) H3 (wipeD ds (own.map (·.2))) := (S1.wipe _).next n13
    refine ⟨B, K3, _, _, S3, r3, hg _ _ _ _ (fun ds4 q4 σ4 S4 l4 o4 => ⟨wipe_again (l4.trans (wipe_length _ _)) fun j hj => o4 j fun z => hj (hv j z), ?_⟩) q2⟩
    refine ⟨B, K3, ds4, S4, ht _ _ _ _ (fun b q5 K5 H5 n5 => ?_) q4⟩
    have bag2 : ∀ b, B.bg = some b → Bag K2 H2 b := fun b z => let ⟨c, hc⟩ := S1.bag b z; ⟨c, n2.bag b c z hc⟩
    have n35 : Nx B.bg K2 H2 K5 H5 := Nx.trans bag2 (Nx.of0 n3) n5
    obtain ⟨n15, k5, h5, rr5⟩ := step n35
    cases b with
    | false => exact ⟨hlt, K5, vs, acc, n15, k5, h5, rr5, by omega, q5⟩
    | true =>
      refine ⟨B, K5, ds4, S4.next n5, hk _ _ _ _ (fun dk q6 vk K6 H6 n6 r6 => ?_) q5⟩
      have n26 : Nx B.bg K2 H2 K6 H6 := Nx.trans bag2 n35 n6
      refine ⟨B, K6, ds4, (S4.next n5).next n6, he _ _ _ _ (fun d ⟨ks, ek, q7⟩ v K7 H7 n7 r7 => ?_) q6⟩
      subst ek
      have bag6 : ∀ b, B.bg = some b → Bag K6 H6 b := fun b z => let ⟨c, hc⟩ := bag2 b z; ⟨c, n26.bag b c z hc⟩
      have n27 : Nx B.bg K2 H2 K7 H7 := Nx.trans bag2 n26 n7
      obtain ⟨n17, k7, h7, rr7⟩ := step n27
      obtain ⟨b, rfl, hb⟩ := (r6.mono n7.kk).key
      obtain ⟨vs', e1, e2⟩ := put_rep ks rr7 r7
      have zl : acc.length < sizeLine := by omega
      have lz : ((keysV (acc.map (·.1))).zip vs).length < sizeLine := by
        rw [List.length_zip]
        unfold keysV
        rw [List.length_map, List.length_map]
        omega
      refine ⟨_, ks.map Sum.inl, b, rfl, n7.kh _ _ hb, h7, lz, hlt, K7, vs', putD acc ks d, ⟨fun a o eb ea => ?_, fun b c eb hb => ?_, n17.kk, n17.fr, fun a o ea => ?_⟩, k7, by rw [upd_same, e1], e2, Nat.le_trans (putD_len _ _ _) (by omega), q7⟩
      · rw [upd_ne (ne_of_none ea hD)]
        exact n17.le a o eb ea
      · obtain ⟨x0, x1, i, cells, g1, g2, g3⟩ := n17.bag b c eb hb
        refine ⟨x0, x1, i, cells, ?_, g2, g3⟩
        rw [upd_ne (fun z => bD (by rw [← z]; exact eb))]
        exact g1
      · rw [upd_ne (ne_of_none ea k7)]
        exact n17.kh a o ea
  · have e : i = items.length := by omega
    subst e
    rw [List.drop_length] at q2
    refine .inl ⟨w2 _ rfl, ?_⟩
    have q3 : P' acc := q2
    refine q3 Dl vs K2 H2 (Nx.trans S.bag n1 n2) ?_ k2 bD h2 r2
    cases e : H Dl with
    | none => rfl
    | some o => exact absurd hD (n1.there S.bag (by rw [e]; exact fun z => nomatch z))
/-- found = {k: v for ..} -/
theorem xs_setDct {y : Str} {pos' spos : Pos} (room : X.A.units + 2 < cLine) (hc : X.calm = true) (hN : X.N.Nodup) (hy : X.N[i]? = some y) (hx : Loc X.env.scope y) (hi : PXI X tg iter di) (ok : BlkOk X.N X.env.scope scope own)
    (hg : ∀ (s : Shared) (H : Hp) (C : Addr) (cl : List (Str × Addr)) (fp : List Addr), PXG (X.blk s H scope (compEnvC scope cl C X.env) fp) tg g gs) (ht : ∀ (s : Shared) (H : Hp) (C : Addr) (cl : List (Str × Addr)) (fp : List Addr), PXTs (X.blk s H scope (compEnvC scope cl C X.env) fp) ifs t)
    (hk : ∀ (s : Shared) (H : Hp) (C : Addr) (cl : List (Str × Addr)) (fp : List Addr), PX (X.blk s H scope (compEnvC scope cl C X.env) fp) kx fk) (he : ∀ (s : Shared) (H : Hp) (C : Addr) (cl : List (Str × Addr)) (fp : List Addr), PX (X.blk s H scope (compEnvC scope cl C X.env) fp) vx fv)
    (hv : ∀ j ∈ gs, j ∈ own.map (·.2) := by decide) (hs : ∀ x, foldedSetIterable iter X.env x = pure x := by intro _; rfl)
    (hsw : swapsWith (.DictComp kx vx [⟨tg, iter, ifs, 0⟩] scope pos) (some (.Name y pos')) spos.line X.env = pure false := by rfl)
    (hf : X.fn y = true ∨ X.env.scope.names.lookup y = some .local := by first | exact .inl rfl | exact .inr rfl | assumption) :
    PXS X (.Assign [.Name y pos'] (.DictComp kx vx [⟨tg, iter, ifs, 0⟩] scope pos) spos) (dDct i di g t fk fv (own.map (·.2))) := by
  have hgm := fun s H C cl fp => (hg s H C cl fp).mono
  have htm := fun s H C cl fp => (ht s H C cl fp).mono
  have hkm := fun s H C cl fp => (hk s H C cl fp).mono
  have hem := fun s H C cl fp => (he s H C cl fp).mono
  refine ⟨(ps_set hN hy hx (pe_dct (g := upG X.K g gs) (tt := upT X.K t) (tk := up X.K fk) (tv := up X.K fv) room hc hN hi.pi ok (fun s H C cl fp => (hg s H C cl fp).pg) (fun s H C cl fp => (ht s H C cl fp).pts) (fun s H C cl fp => (hk s H C cl fp).pe) (fun s H C cl fp => (he s H C cl fp).pe) hs) hsw hf).weak fun D σ H ⟨B, K, ds, S, p⟩ => ?_, fun bg E E' ds l p => ?_⟩
  · refine dct_up (hgm X.s_0 H 0 [] []) (htm X.s_0 H 0 [] []) (hkm X.s_0 H 0 [] []) (hem X.s_0 H 0 [] []) hi hv ⟨B, K, ds, S, hi.mono _ _ _ _ (fun items q => dcW_mono (hgm X.s_0 H 0 [] []) (htm X.s_0 H 0 [] []) (hkm X.s_0 H 0 [] []) (hem X.s_0 H 0 [] []) (fun out q p ws K' H' n h0 k' bp h' r => ?_) items [] q) p⟩
    exact q _ K' H' ((S.next n).setO (SlOk.mkT k' (S.nodom h0) bp h' r) fun j sj hj e1 e2 e3 => S.noown h0 e1 e2 e3)
  · exact hi.mono _ _ _ _ (fun items q => dcW_mono (hgm X.s_0 X.H_0 0 [] []) (htm X.s_0 X.H_0 0 [] []) (hkm X.s_0 X.H_0 0 [] []) (hem X.s_0 X.H_0 0 [] []) (fun _ z => l.nx _ z) items [] q) p
/-- k not in found -/
@[simp] def dNotInT (i : Nat) (fk : DE) : DT := fun bg ds P => ∃ kvs, ds[i]? = some (.ownT kvs) ∧ fk bg ds fun k => ∃ ks, k = .tup (ks.map .int) ∧ P (!hasD kvs ks)
theorem notin_up {Q : VK} {ho : PE X o (tVar i)} (hk : PX X e fk) {σ : L2.St} {H : Hp} (q : ∃ B K ds, SE X.K B K σ H ds ∧ dNotInT i fk B.bg ds fun b => ∀ K' H', Nx B.bg K H K' H' → Q (.bl b) H') : tDNotIn (up X.K fk) (tVar i) σ H Q := by
  obtain ⟨B, K, ds, S, kvs, e1, p⟩ := q
  refine ⟨B, K, ds, S, hk.mono _ _ _ _ (fun k ⟨ks, ek, q⟩ v K1 H1 n1 r1 => ?_) p⟩
  subst ek
  have S1 := S.next n1
  obtain ⟨a, vs, f1, f2, f3, f4, f5, r⟩ := SlOk.ownT' (S1.env i _ e1)
  obtain ⟨b, rfl, hb⟩ := r1.key
  have := (val_rep ks r).2
  refine ⟨_, f1, a, _, rfl, DGet.t f5 (n1.kh _ _ hb), ?_⟩
  rw [this]
  exact q K1 H1 n1
theorem xt_notinT (hu : X.A.units + 1 < cLine) (ho : PE X o (tVar i)) (hk : PX X e fk) (hm : behindInMarks .NotIn o = false := by rfl) : PXT X (.Compare e [.NotIn] [o] pos) (dNotInT i fk) := by
  refine ⟨(pt_cmp (pc_dnotin hu hk.pe ho) hm).weak fun σ H Q ⟨B, K, ds, S, p⟩ => ?_, fun bg ds P P' m ⟨kvs, e1, p⟩ => ⟨kvs, e1, hk.mono _ _ _ _ (fun k ⟨ks, ek, q⟩ => ⟨ks, ek, m _ q⟩) p⟩⟩
  refine notin_up (ho := ho) hk ⟨B, K, ds, S, ?_⟩
  obtain ⟨kvs, e1, p⟩ := p
  exact ⟨kvs, e1, hk.mono _ _ _ _ (fun k ⟨ks, ek, q⟩ => ⟨ks, ek, fun K' H' n => ⟨_, rfl, q K' H' n⟩⟩) p⟩
/-- found[k] = v -/
@[simp] def dPutT (i : Nat) (fk fv : DE) : DSm := fun bg E ds => fv bg ds fun v => ∃ kvs, ds[i]? = some (.ownT kvs) ∧ kvs.length < sizeLine ∧ fk bg ds fun k => ∃ ks, k = .tup (ks.map .int) ∧ E.nx (ds.set i (.ownT (putD kvs ks v)))
theorem xs_putT {pos' : Pos} (hu : X.A.units + 1 < cLine) (ho : PE X o (tVar i)) (hk : PX X e fk) (hv : PX X vx fv) (hs : swapsWith vx (some (.Subscript o e pos')) pos.line X.env = pure false := by rfl) : PXS X (.Assign [.Subscript o e pos'] vx pos) (dPutT i fk fv) := by
  refine ⟨(ps_dput hu ho hk.pe hv.pe hs).weak fun D σ H ⟨B, K, ds, S, p⟩ => ?_, fun bg E E' ds l p => hv.mono _ _ _ _ (fun v ⟨kvs, e1, z, q⟩ => ⟨kvs, e1, z, hk.mono _ _ _ _ (fun k ⟨ks, ek, q⟩ => ⟨ks, ek, l.nx _ q⟩) q⟩) p⟩
  refine ⟨B, K, ds, S, hv.mono _ _ _ _ (fun d ⟨kvs, e1, z, q⟩ v K1 H1 n1 r1 => ?_) p⟩
  have S1 := S.next n1
  obtain ⟨a, vs, f1, f2, f3, f4, f5, r⟩ := SlOk.ownT' (S1.env i _ e1)
  refine ⟨_, f1, B, K1, ds, S1, hk.mono _ _ _ _ (fun k ⟨ks, ek, q⟩ w K2 H2 n2 r2 => ?_) q⟩
  subst ek
  have S2 := S1.next n2
  obtain ⟨a', vs', g1, g2, g3, g4, g5, r'⟩ := SlOk.ownT' (S2.env i _ e1)
  rw [f1] at g1; cases g1
  obtain ⟨b, rfl, hb⟩ := r2.key
  obtain ⟨ws, e2, e3⟩ := put_rep ks r' (r1.mono n2.kk)
  refine ⟨a, _, rfl, DPut.t g5 (n2.kh _ _ hb) ?_, q σ K2 _ (S2.updO e1 rfl f1 g2 g3 g4 (SlOk.mkT g2 g3 g4 (by rw [upd_same, e2]) e3))⟩
  rw [List.length_zip]
  unfold keysV
  rw [List.length_map, List.length_map]
  omega

/-! ### a dict that is read while it stays -/
mutual
/-- no such dict in it -/
def noT : D → Bool
  | .dkt _ _ => false
  | .tup l => noTs l
  | .sol l => noTs l
  | .lst l => noTs l
  | .dic _ l => noTs l
  | .ins _ _ l => noTs l
  | _ => true
def noTs : List D → Bool
  | [] => true
  | d :: l => noT d && noTs l
end
section
variable {F : PySem.W.Frag} {K : Hp} {p : Addr} {od : Obj} {kk : List (List Key × V)}
def minus (K : Hp) (p : Addr) : Hp := fun x => if x = p then none else K x
theorem minus_of (hp : K p = some (.frz od (.dT kk))) {a : Addr} {u : HO} (h : K a = some u) (hu : ∀ o k, u ≠ .frz o (.dT k)) : minus K p a = some u := by
  unfold minus
  rw [if_neg]
  · exact h
  · intro e
    rw [e, hp] at h
    cases h
    exact hu _ _ rfl
mutual
theorem Rep.minus (hp : K p = some (.frz od (.dT kk))) : ∀ {v : V} {d : D}, Rep F K v d → noT d = true → Rep F (K8.minus K p) v d
  | _, _, .non, _ => .non
  | _, _, .bl b, _ => .bl b
  | _, _, .int i, _ => .int i
  | _, _, .str x, _ => .str x
  | _, _, .ref a, _ => .ref a
  | _, _, .ty n, _ => .ty n
  | _, _, .fls a ns h, _ => .fls a ns (h.imp (fun ⟨o, k⟩ => ⟨o, minus_of hp k (fun _ _ z => by cases z)⟩) id)
  | _, _, .tup a vs l z h r, o => .tup a vs l z (minus_of hp h (fun _ _ z => nomatch z)) (Reps.minus hp r o)
  | _, _, .sol a vs l ob hd z h r, o => .sol a vs l ob hd z (minus_of hp h (fun _ _ z => by cases z)) (Reps.minus hp r o)
  | _, _, .lst a vs l z h r, o => .lst a vs l z (minus_of hp h (fun _ _ z => nomatch z)) (Reps.minus hp r o)
  | _, _, .dic a vs ks l n h r, o => .dic a vs ks l n (minus_of hp h (fun _ _ z => nomatch z)) (Reps.minus hp r o)
  | _, _, .ins a C dx vs ns l n h r, o => .ins a C dx vs ns l n (minus_of hp h (fun _ _ z => nomatch z)) (Reps.minus hp r o)
  | _, _, .dkt a vs ks l ob n h r, o => by cases o
theorem Reps.minus (hp : K p = some (.frz od (.dT kk))) : ∀ {vs : List V} {l : List D}, Reps F K vs l → noTs l = true → Reps F (K8.minus K p) vs l
  | _, _, .nil, _ => .nil
  | _, _, .cons v d vs l h r, o => by
    obtain ⟨o1, o2⟩ := Bool.and_eq_true_iff.mp (show (noT d && noTs l) = true from o)
    exact .cons _ _ _ _ (Rep.minus hp h o1) (Reps.minus hp r o2)
end
end
/-- found locked for a statement that returns -/
@[simp] def dLockR (i : Nat) (f : DSm) : DSm := fun bg E ds => ∃ kvs, ds[i]? = some (.ownT kvs) ∧ f bg { nx := fun _ => False, rt := fun d => noT d = true ∧ E.rt d } (ds.set i (.val (.dkt (kvs.map (·.1)) (kvs.map (·.2)))))
theorem xs_lockR {st : Stmt} (i : Nat) {f : DSm} (h : PXS X st f) : PXS X st (dLockR i f) := by
  refine ⟨(ps_lock h.ps).weak fun D σ H ⟨B, K, ds, S, kvs, e1, p⟩ => ?_, fun bg E E' ds m ⟨kvs, e1, p⟩ => ⟨kvs, e1, h.mono bg { nx := fun _ => False, rt := fun d => noT d = true ∧ E.rt d } { nx := fun _ => False, rt := fun d => noT d = true ∧ E'.rt d } _ ⟨fun _ z => z.elim, fun d z => ⟨z.1, m.rt _ z.2⟩, fun _ z => z.elim, fun _ z => z.elim⟩ p⟩⟩
  obtain ⟨a, vs, f1, f2, f3, f4, f5, r⟩ := SlOk.ownT' (S.env i _ e1)
  refine ⟨a, _, f5, trivial, fun od => ?_⟩
  have S' : SE X.K B (upd K a (.frz od (.dT ((keysV (kvs.map (·.1))).zip vs)))) σ (upd H a (.frz od (.dT ((keysV (kvs.map (·.1))).zip vs)))) (ds.set i (.val (.dkt (kvs.map (·.1)) (kvs.map (·.2))))) := by
    refine ⟨fun b u eb hb => ?_, Ex.trans S.kk (Ex.new f2), fun b hb => ?_, fun b o eb => ?_, fun b eb => ?_, fun b eb => ?_, by rw [List.length_set]; exact S.len, fun j sl' e' => ?_, fun j k sj sk c h e1' e2 o1 o2 g1 g2 => ?_⟩
    · rw [upd_ne (fun z => by rw [z, f3] at hb; cases hb)]
      exact S.le b u eb hb
    · rw [upd_ne (fun z => by rw [z, f3] at hb; exact hb)]
      exact S.fr b hb
    · by_cases z : b = a
      · subst z; rw [upd_same] at eb ⊢; exact eb
      · rw [upd_ne z] at eb ⊢; exact S.kh b o eb
    · rw [upd_ne (fun z => f4 (by rw [← z]; exact eb))]
      exact S.kb b eb
    · obtain ⟨x0, x1, i, cells, g1, g2, g3⟩ := S.bagc b eb
      exact ⟨x0, x1, i, cells, by rw [upd_ne (fun z => f4 (by rw [← z]; exact eb))]; exact g1, Ex.new f2 _ _ g2, g3⟩
    · by_cases hj : i = j
      · subst hj
        rw [List.getElem?_set_self (List.getElem?_eq_some_iff.mp e1).1] at e'
        cases e'
        exact ⟨_, f1, .dkt a vs (kvs.map (·.1)) (kvs.map (·.2)) od (by rw [r.length]; simp) (by rw [upd_same]; rfl) (r.mono (Ex.new f2))⟩
      · rw [List.getElem?_set_ne hj] at e'
        have h := S.env j sl' e'
        cases sl' with
        | no => trivial
        | val d =>
          obtain ⟨v, e1, r⟩ := h
          exact ⟨v, e1, r.mono (Ex.new f2)⟩
        | own l =>
          obtain ⟨a', vs', k1, k2, k3, k4, k5, r, z⟩ := h
          have na : a' ≠ a := fun q => S.sep i j _ _ a hj e1 e' rfl rfl f1 (by rw [← q]; exact k1)
          exact ⟨a', vs', k1, by rw [upd_ne na]; exact k2, k3, k4, by rw [upd_ne na]; exact k5, r.mono (Ex.new f2), z⟩
        | ownT l =>
          obtain ⟨a', vs', k1, k2, k3, k4, k5, r⟩ := h
          have na : a' ≠ a := fun q => S.sep i j _ _ a hj e1 e' rfl rfl f1 (by rw [← q]; exact k1)
          exact ⟨a', vs', k1, by rw [upd_ne na]; exact k2, k3, k4, by rw [upd_ne na]; exact k5, r.mono (Ex.new f2)⟩
    · have go : ∀ (j : Nat) (sj : Sl), (ds.set i (.val (.dkt (kvs.map (·.1)) (kvs.map (·.2)))))[j]? = some sj → sj.isOwn = true → ds[j]? = some sj := fun j sj e1' o1 => by
        by_cases hj : i = j
        · subst hj
          rw [List.getElem?_set_self (List.getElem?_eq_some_iff.mp e1).1] at e1'
          cases e1'; cases o1
        · rwa [List.getElem?_set_ne hj] at e1'
      exact S.sep j k sj sk c h (go j sj e1' o1) (go k sk e2 o2) o1 o2 g1 g2
  refine ⟨_, _, _, S'.rebase, h.mono B.bg { nx := fun _ => False, rt := fun d => noT d = true ∧ (enOf X.K B D).rt d } _ _ ⟨fun _ z => z.elim, fun d z v σ' K' H' ds' S2 rv => ?_, fun _ z => z.elim, fun _ z => z.elim⟩ p⟩
  obtain ⟨z1, z2⟩ := z
  obtain ⟨S3, kk⟩ := S'.unbase S2
  have ka := kk a _ upd_same
  have b0 : B.K0 a = none := by
    cases q : B.K0 a with
    | none => rfl
    | some u => rw [S.kk a u q] at f2; cases f2
  refine ⟨S3.kh a _ ka, z2 v σ' (minus K' a) _ (List.replicate σ'.length .no) ⟨fun b u eb hb => ?_, fun b u hb => ?_, fun b hb => ?_, fun b u hb => ?_, fun b eb => ?_, fun b eb => ?_, by simp, fun j sl' e' => ?_, fun j k sj sk c h e1' e2 o1 o2 g1 g2 => ?_⟩ (rv.minus ka z1)⟩
  · rw [upd_ne (fun z => by rw [z, f3] at hb; cases hb)]
    exact S3.le b u eb hb
  · have nb : b ≠ a := fun z => by rw [z, b0] at hb; cases hb
    unfold minus
    rw [if_neg nb]
    exact S3.kk b u hb
  · have nb : b ≠ a := fun z => by rw [z, f3] at hb; exact hb
    unfold minus
    rw [if_neg nb]
    exact S3.fr b hb
  · have nb : b ≠ a := fun z => by
      have hb' : (if b = a then none else K' b) = some u := hb
      rw [if_pos z] at hb'; cases hb'
    have hb' : (if b = a then none else K' b) = some u := hb
    rw [if_neg nb] at hb'
    rw [upd_ne nb]
    exact S3.kh b u hb'
  · have nb : b ≠ a := fun z => f4 (by rw [← z]; exact eb)
    unfold minus
    rw [if_neg nb]
    exact S3.kb b eb
  · have nb : b ≠ a := fun z => f4 (by rw [← z]; exact eb)
    obtain ⟨x0, x1, i, cells, g1, g2, g3⟩ := S3.bagc b eb
    exact ⟨x0, x1, i, cells, by rw [upd_ne nb]; exact g1, minus_of ka g2 (fun _ _ z => nomatch z), g3⟩
  · have := List.eq_of_mem_replicate (List.mem_of_getElem? e')
    rw [this]; trivial
  · have := List.eq_of_mem_replicate (List.mem_of_getElem? e1')
    rw [this] at o1; cases o1
/-- the keys of a locked dict -/
@[simp] def dItK (fe : DE) : DA := fun bg ds P => fe bg ds fun d => ∃ ks l, d = .dkt ks l ∧ ks.length ≤ sizeLine ∧ (∀ k ∈ ks, k.length ≤ sizeLine) ∧ P (ks.map fun k => .tup (k.map .int))
theorem xi_keysT (he : PX X e fe) : PXI X tg e (dItK fe) := by
  refine ⟨(pi_keys he.pe).weak fun σ H Q ⟨B, K, ds, S, p⟩ => ?_, fun bg ds P P' m p => he.mono _ _ _ _ (fun d ⟨ks, l, e, z, zk, q⟩ => ⟨ks, l, e, z, zk, m _ q⟩) p⟩
  refine ⟨B, K, ds, S, he.mono _ _ _ _ (fun d ⟨ks, l, ed, z, zk, q⟩ v K1 H1 n1 r1 => ?_) p⟩
  subst ed
  cases r1 with
  | dkt a vs _ _ o n h r =>
  have lz : ((ks.map fun k => k.map (Sum.inl : Int → Key)).zip vs).length = ks.length := by rw [List.length_zip, List.length_map, n, Nat.min_self]
  refine ⟨a, o, rfl, .inr ⟨_, n1.kh _ _ h, q _ K1 H1 n1 (fun K2 H2 k2 h2 => ⟨fun i d hd => ?_, fun i hi => ?_⟩) (by rw [List.length_map]; exact z)⟩⟩
  · rw [List.getElem?_map] at hd
    obtain ⟨k, hk, rfl⟩ := Option.map_eq_some_iff.mp hd
    have hi := (List.getElem?_eq_some_iff.mp hk).1
    refine ⟨⟨h2 _ _ (k2 _ _ h), by rw [lz]; exact hi⟩, fun x H' ⟨e, k', v', q', e1, e2, e3⟩ => ?_⟩
    subst e e2
    rw [List.getElem?_zip_eq_some, List.getElem?_map, hk] at e1
    obtain ⟨e4, e5⟩ := e1
    cases e4
    have e3' : H' q' = some (.tup (k.map V.int)) := by rw [e3, List.map_map]; rfl
    by_cases kq : K2 q' = none
    · refine ⟨upd K2 q' (.tup (k.map V.int)), ⟨fun _ _ _ h => h, fun b c eb hb => ?_, Ex.new kq, fun a ha => ?_, fun a u ha => ?_⟩, .tup q' _ _ ?_ upd_same (Reps.of_ints k)⟩
      · cases eb
      · rw [upd_ne (fun z => by rw [z, e3'] at ha; exact ha)]
      · by_cases z : a = q'
        · subst z; rw [upd_same] at ha; cases ha; exact e3'
        · rw [upd_ne z] at ha; exact h2 a u ha
      · rw [List.length_map]; exact zk k (List.mem_of_getElem? hk)
    · cases hq : K2 q' with
      | none => exact absurd hq kq
      | some u =>
        have := h2 _ _ hq
        rw [e3'] at this
        cases this
        refine ⟨K2, Nx.refl h2, .tup q' _ _ ?_ hq (Reps.of_ints k)⟩
        rw [List.length_map]; exact zk k (List.mem_of_getElem? hk)
  · rw [List.length_map] at hi
    exact ⟨h2 _ _ (k2 _ _ h), by rw [lz]; omega⟩
/-- found[k] of a locked dict -/
@[simp] def dGetT (fo fk : DE) : DE := fun bg ds P => fo bg ds fun x => ∃ kvs : KD, x = .dkt (kvs.map (·.1)) (kvs.map (·.2)) ∧ fk bg ds fun k => ∃ ks d, k = .tup (ks.map .int) ∧ getD' kvs ks = some d ∧ P d
theorem x_getT {fo : DE} (hu : X.A.units + 1 < cLine) (ho : PX X o fo) (hk : PX X e fk) (hs : NoSl e) : PX X (.Subscript o e pos) (dGetT fo fk) := by
  refine ⟨(pe_dget hu ho.pe hk.pe hs).weak fun σ H Q ⟨B, K, ds, S, p⟩ => ?_, fun bg ds P P' m p => ho.mono _ _ _ _ (fun x ⟨kvs, e1, p⟩ => ⟨kvs, e1, hk.mono _ _ _ _ (fun k ⟨ks, d, ek, g, q⟩ => ⟨ks, d, ek, g, m _ q⟩) p⟩) p⟩
  refine ⟨B, K, ds, S, ho.mono _ _ _ _ (fun x ⟨kvs, ex, q⟩ v K1 H1 n1 r1 => ?_) p⟩
  subst ex
  have S1 := S.next n1
  refine ⟨B, K1, ds, S1, hk.mono _ _ _ _ (fun k ⟨ks, d, ek, g, q⟩ w K2 H2 n2 r2 => ?_) q⟩
  subst ek
  obtain ⟨b, rfl, hb⟩ := r2.key
  cases r1 with
  | dkt a vs _ _ o n h r =>
  obtain ⟨v, hv, rv⟩ := (val_rep ks (r.mono n2.kk)).1 d g
  exact ⟨a, v, rfl, .inr ⟨_, ks.map Sum.inl, b, .inr ⟨o, n2.kh _ _ (n2.kk _ _ h)⟩, rfl, n2.kh _ _ hb, hv.symm⟩, q v K2 H2 (Nx.trans S.bag n1 n2) rv⟩
end
end K8
set_option Elab.async false
set_option linter.all false
set_option maxRecDepth 100000
set_option maxHeartbeats 4000000
/-! the defs of the program, and what their derivations lean on -/
namespace K8
open PySem PySem.Spec PyProof.Rows L2
def topS (i : Nat) : Stmt := PySem.Challenge.pw_asmuchas_k68_whole_words_that_stay.main.body.getD i (.Pass ⟨0, 0, 0, 0⟩)
structure Dn (K : PySem.W.Frag) (mg : Str → Option Value) (x : Str) (st : Stmt) (ps : List Str) where
  fd : FuncData
  F : FunD K x x (defArgs st) (defBody st) (defScope st) [] [] (He.ga K x) fd
  g : mg x = some (.ref (He.ga K x))
  b : Binds K fd ps []
abbrev s_row_of : Stmt := topS 8
theorem sc_row_of : FnScope ["things", "pair", "name"] ["things", "pair"] (defScope s_row_of) := ⟨rfl, rfl, rfl, by decide +kernel, rfl, by decide +kernel, by decide +kernel⟩
abbrev s_added : Stmt := topS 9
theorem sc_added : FnScope ["one", "other", "mine", "its"] ["one", "other"] (defScope s_added) := ⟨rfl, rfl, rfl, by decide +kernel, rfl, by decide +kernel, by decide +kernel⟩
abbrev s_taken : Stmt := topS 10
theorem sc_taken : FnScope ["one", "other", "mine", "its"] ["one", "other"] (defScope s_taken) := ⟨rfl, rfl, rfl, by decide +kernel, rfl, by decide +kernel, by decide +kernel⟩
abbrev s_times : Stmt := topS 11
theorem sc_times : FnScope ["row", "number", "part"] ["row", "number"] (defScope s_times) := ⟨rfl, rfl, rfl, by decide +kernel, rfl, by decide +kernel, by decide +kernel⟩
abbrev s_mixture : Stmt := topS 12
theorem sc_mixture : FnScope ["rows", "numbers", "many", "found", "row", "number"] ["rows", "numbers", "many"] (defScope s_mixture) := ⟨rfl, rfl, rfl, by decide +kernel, rfl, by decide +kernel, by decide +kernel⟩
abbrev s_dot : Stmt := topS 13
theorem sc_dot : FnScope ["one", "other", "mine", "its"] ["one", "other"] (defScope s_dot) := ⟨rfl, rfl, rfl, by decide +kernel, rfl, by decide +kernel, by decide +kernel⟩
abbrev s_unit : Stmt := topS 15
theorem sc_unit : FnScope ["at", "many", "spot"] ["at", "many"] (defScope s_unit) := ⟨rfl, rfl, rfl, by decide +kernel, rfl, by decide +kernel, by decide +kernel⟩
abbrev s_less_times : Stmt := topS 16
theorem sc_less_times : FnScope ["pair", "lead", "number"] ["pair", "lead", "number"] (defScope s_less_times) := ⟨rfl, rfl, rfl, by decide +kernel, rfl, by decide +kernel, by decide +kernel⟩
abbrev s_brought_down : Stmt := topS 17
theorem sc_brought_down : FnScope ["some", "at", "rest", "sizes", "lead", "later", "pair"] ["some", "at"] (defScope s_brought_down) := ⟨rfl, rfl, rfl, by decide +kernel, rfl, by decide +kernel, by decide +kernel⟩
abbrev s_steps_led : Stmt := topS 18
theorem sc_steps_led : FnScope ["rows", "many", "waiting", "found", "at", "some", "lead", "rest", "row", "pair", "numbers"] ["rows", "many"] (defScope s_steps_led) := ⟨rfl, rfl, rfl, by decide +kernel, rfl, by decide +kernel, by decide +kernel⟩
abbrev s_width_of : Stmt := topS 19
theorem sc_width_of : FnScope ["rows"] ["rows"] (defScope s_width_of) := ⟨rfl, rfl, rfl, by decide +kernel, rfl, by decide +kernel, by decide +kernel⟩
abbrev s_steps : Stmt := topS 20
theorem sc_steps : FnScope ["rows", "row", "numbers"] ["rows"] (defScope s_steps) := ⟨rfl, rfl, rfl, by decide +kernel, rfl, by decide +kernel, by decide +kernel⟩
abbrev s_rank : Stmt := topS 21
theorem sc_rank : FnScope ["rows"] ["rows"] (defScope s_rank) := ⟨rfl, rfl, rfl, by decide +kernel, rfl, by decide +kernel, by decide +kernel⟩
abbrev s_frame : Stmt := topS 22
theorem sc_frame : FnScope ["rows", "many", "columns", "at", "row"] ["rows", "many"] (defScope s_frame) := ⟨rfl, rfl, rfl, by decide +kernel, rfl, by decide +kernel, by decide +kernel⟩
abbrev s_is_held : Stmt := topS 24
theorem sc_is_held : FnScope ["rows", "row"] ["rows", "row"] (defScope s_is_held) := ⟨rfl, rfl, rfl, by decide +kernel, rfl, by decide +kernel, by decide +kernel⟩
abbrev s_common_part : Stmt := topS 26
theorem sc_common_part : FnScope ["numbers", "found", "number", "rest"] ["numbers"] (defScope s_common_part) := ⟨rfl, rfl, rfl, by decide +kernel, rfl, by decide +kernel, by decide +kernel⟩
abbrev s_shortened : Stmt := topS 27
theorem sc_shortened : FnScope ["row", "by", "part"] ["row"] (defScope s_shortened) := ⟨rfl, rfl, rfl, by decide +kernel, rfl, by decide +kernel, by decide +kernel⟩
abbrev s_is_less : Stmt := topS 28
theorem sc_is_less : FnScope ["one", "other", "at"] ["one", "other"] (defScope s_is_less) := ⟨rfl, rfl, rfl, by decide +kernel, rfl, by decide +kernel, by decide +kernel⟩
abbrev s_without_last : Stmt := topS 29
theorem sc_without_last : FnScope ["marked", "found", "one", "some", "other", "its", "mark", "row", "a", "b"] ["marked"] (defScope s_without_last) := ⟨rfl, rfl, rfl, by decide +kernel, rfl, by decide +kernel, by decide +kernel⟩
abbrev s_between : Stmt := topS 30
theorem sc_between : FnScope ["lower", "upper"] ["lower", "upper"] (defScope s_between) := ⟨rfl, rfl, rfl, by decide +kernel, rfl, by decide +kernel, by decide +kernel⟩
abbrev s_greater : Stmt := topS 31
theorem sc_greater : FnScope ["one", "other"] ["one", "other"] (defScope s_greater) := ⟨rfl, rfl, rfl, by decide +kernel, rfl, by decide +kernel, by decide +kernel⟩
abbrev s_lesser : Stmt := topS 32
theorem sc_lesser : FnScope ["one", "other"] ["one", "other"] (defScope s_lesser) := ⟨rfl, rfl, rfl, by decide +kernel, rfl, by decide +kernel, by decide +kernel⟩
abbrev s_point_by : Stmt := topS 33
theorem sc_point_by : FnScope ["marked", "many", "first", "lower", "upper", "row", "mark", "here", "above", "below", "part"] ["marked", "many"] (defScope s_point_by) := ⟨rfl, rfl, rfl, by decide +kernel, rfl, by decide +kernel, by decide +kernel⟩
abbrev s_point_above : Stmt := topS 34
theorem sc_point_above : FnScope ["rows", "many", "at", "row"] ["rows", "many"] (defScope s_point_above) := ⟨rfl, rfl, rfl, by decide +kernel, rfl, by decide +kernel, by decide +kernel⟩
abbrev s_seen_by : Stmt := topS 35
theorem sc_seen_by : FnScope ["frame_rows", "row", "one"] ["frame_rows", "row"] (defScope s_seen_by) := ⟨rfl, rfl, rfl, by decide +kernel, rfl, by decide +kernel, by decide +kernel⟩
abbrev s_powers : Stmt := topS 36
theorem sc_powers : FnScope ["number", "many", "found", "turn"] ["number", "many"] (defScope s_powers) := ⟨rfl, rfl, rfl, by decide +kernel, rfl, by decide +kernel, by decide +kernel⟩
abbrev s_moved : Stmt := topS 37
theorem sc_moved : FnScope ["point", "goals", "bars", "number", "found", "step", "by", "part", "more", "row"] ["point", "goals", "bars"] (defScope s_moved) := ⟨rfl, rfl, rfl, by decide +kernel, rfl, by decide +kernel, by decide +kernel⟩
abbrev s_worths_above : Stmt := topS 38
theorem sc_worths_above : FnScope ["told", "alikes", "heaviers", "many", "frame_rows", "goals", "bars", "point", "found", "row"] ["told", "alikes", "heaviers"] (defScope s_worths_above) := ⟨rfl, rfl, rfl, by decide +kernel, rfl, by decide +kernel, by decide +kernel⟩
abbrev s_some_worths : Stmt := topS 39
theorem sc_some_worths : FnScope ["told", "found"] ["told"] (defScope s_some_worths) := ⟨rfl, rfl, rfl, by decide +kernel, rfl, by decide +kernel, by decide +kernel⟩
abbrev s_stands_all : Stmt := topS 40
theorem sc_stands_all : FnScope ["told"] ["told"] (defScope s_stands_all) := ⟨rfl, rfl, rfl, by decide +kernel, rfl, by decide +kernel, by decide +kernel⟩
abbrev s_worths_for : Stmt := topS 41
theorem sc_worths_for : FnScope ["told", "pair", "sign", "alikes", "heaviers", "row"] ["told", "pair", "sign"] (defScope s_worths_for) := ⟨rfl, rfl, rfl, by decide +kernel, rfl, by decide +kernel, by decide +kernel⟩
abbrev s_word_of : Stmt := topS 42
theorem sc_word_of : FnScope ["told", "pair", "row"] ["told", "pair"] (defScope s_word_of) := ⟨rfl, rfl, rfl, by decide +kernel, rfl, by decide +kernel, by decide +kernel⟩
abbrev s_is_name : Stmt := topS 49
theorem sc_is_name : FnScope ["thing", "sign"] ["thing"] (defScope s_is_name) := ⟨rfl, rfl, rfl, by decide +kernel, rfl, by decide +kernel, by decide +kernel⟩
abbrev s_are_things : Stmt := topS 50
theorem sc_are_things : FnScope ["thing", "at", "name"] ["thing"] (defScope s_are_things) := ⟨rfl, rfl, rfl, by decide +kernel, rfl, by decide +kernel, by decide +kernel⟩
abbrev s_is_sum : Stmt := topS 51
theorem sc_is_sum : FnScope ["thing", "at", "name"] ["thing"] (defScope s_is_sum) := ⟨rfl, rfl, rfl, by decide +kernel, rfl, by decide +kernel, by decide +kernel⟩
abbrev s_is_pair : Stmt := topS 52
theorem sc_is_pair : FnScope ["thing"] ["thing"] (defScope s_is_pair) := ⟨rfl, rfl, rfl, by decide +kernel, rfl, by decide +kernel, by decide +kernel⟩
abbrev s_is_telling : Stmt := topS 53
theorem sc_is_telling : FnScope ["thing"] ["thing"] (defScope s_is_telling) := ⟨rfl, rfl, rfl, by decide +kernel, rfl, by decide +kernel, by decide +kernel⟩
abbrev s_is_telling_of : Stmt := topS 55
theorem sc_is_telling_of : FnScope ["things", "thing", "name"] ["things", "thing"] (defScope s_is_telling_of) := ⟨rfl, rfl, rfl, by decide +kernel, rfl, by decide +kernel, by decide +kernel⟩
abbrev s_are_tellings_of : Stmt := topS 56
theorem sc_are_tellings_of : FnScope ["things", "thing", "telling"] ["things", "thing"] (defScope s_are_tellings_of) := ⟨rfl, rfl, rfl, by decide +kernel, rfl, by decide +kernel, by decide +kernel⟩
abbrev s_lbag : Stmt := topS 59
theorem sc_lbag : FnScope ["_law_script", "_law_cell"] ["_law_script"] (defScope s_lbag) := ⟨rfl, rfl, rfl, by decide +kernel, rfl, by decide +kernel, by decide +kernel⟩
abbrev s_ltake : Stmt := topS 60
theorem sc_ltake : FnScope ["_law_bag_here", "_law_many", "_law_cell", "_law_mixed", "_law_value", "_law_begin", "_law_second"] ["_law_bag_here", "_law_many"] (defScope s_ltake) := ⟨rfl, rfl, rfl, by decide +kernel, rfl, by decide +kernel, by decide +kernel⟩
abbrev s_lone : Stmt := topS 61
theorem sc_lone : FnScope ["_law_bag_here", "_law_things_here"] ["_law_bag_here", "_law_things_here"] (defScope s_lone) := ⟨rfl, rfl, rfl, by decide +kernel, rfl, by decide +kernel, by decide +kernel⟩
abbrev s_lthings : Stmt := topS 62
theorem sc_lthings : FnScope ["_law_bag_here", "_law_many", "_law_menu", "_law_way", "_law_turn", "_law_letters", "_law_stem", "_law_k"] ["_law_bag_here", "_law_many"] (defScope s_lthings) := ⟨rfl, rfl, rfl, by decide +kernel, rfl, by decide +kernel, by decide +kernel⟩
abbrev s_lsum : Stmt := topS 63
theorem sc_lsum : FnScope ["_law_bag_here", "_law_things_here", "_law_many", "_law_k"] ["_law_bag_here", "_law_things_here", "_law_many"] (defScope s_lsum) := ⟨rfl, rfl, rfl, by decide +kernel, rfl, by decide +kernel, by decide +kernel⟩
abbrev s_lpair : Stmt := topS 64
theorem sc_lpair : FnScope ["_law_bag_here", "_law_things_here", "_law_many", "_law_way", "_law_one_here"] ["_law_bag_here", "_law_things_here"] (defScope s_lpair) := ⟨rfl, rfl, rfl, by decide +kernel, rfl, by decide +kernel, by decide +kernel⟩
abbrev s_ltellings : Stmt := topS 65
theorem sc_ltellings : FnScope ["_law_bag_here", "_law_things_here", "_law_many", "_law_words", "_law_found", "_law_k"] ["_law_bag_here", "_law_things_here", "_law_many", "_law_words"] (defScope s_ltellings) := ⟨rfl, rfl, rfl, by decide +kernel, rfl, by decide +kernel, by decide +kernel⟩
abbrev s_lrow : Stmt := topS 66
theorem sc_lrow : FnScope ["_law_things_here", "_law_pair_here", "_law_name"] ["_law_things_here", "_law_pair_here"] (defScope s_lrow) := ⟨rfl, rfl, rfl, by decide +kernel, rfl, by decide +kernel, by decide +kernel⟩
abbrev s_lrows : Stmt := topS 67
theorem sc_lrows : FnScope ["_law_things_here", "_law_tellings_here", "_law_word", "_law_telling"] ["_law_things_here", "_law_tellings_here", "_law_word"] (defScope s_lrows) := ⟨rfl, rfl, rfl, by decide +kernel, rfl, by decide +kernel, by decide +kernel⟩
abbrev s_lless : Stmt := topS 68
theorem sc_lless : FnScope ["_law_row_here", "_law_mine", "_law_other", "_law_its", "_law_k"] ["_law_row_here", "_law_mine", "_law_other", "_law_its"] (defScope s_lless) := ⟨rfl, rfl, rfl, by decide +kernel, rfl, by decide +kernel, by decide +kernel⟩
abbrev s_lcut : Stmt := topS 69
theorem sc_lcut : FnScope ["_law_rows_here", "_law_found", "_law_rest", "_law_at", "_law_some", "_law_lead", "_law_later", "_law_row_here"] ["_law_rows_here"] (defScope s_lcut) := ⟨rfl, rfl, rfl, by decide +kernel, rfl, by decide +kernel, by decide +kernel⟩
abbrev s_lrank : Stmt := topS 70
theorem sc_lrank : FnScope ["_law_rows_here"] ["_law_rows_here"] (defScope s_lrank) := ⟨rfl, rfl, rfl, by decide +kernel, rfl, by decide +kernel, by decide +kernel⟩
abbrev s_lis_held : Stmt := topS 71
theorem sc_lis_held : FnScope ["_law_rows_here", "_law_row_here"] ["_law_rows_here", "_law_row_here"] (defScope s_lis_held) := ⟨rfl, rfl, rfl, by decide +kernel, rfl, by decide +kernel, by decide +kernel⟩
abbrev s_lworth : Stmt := topS 72
theorem sc_lworth : FnScope ["_law_worths", "_law_one_here", "_law_name"] ["_law_worths", "_law_one_here"] (defScope s_lworth) := ⟨rfl, rfl, rfl, by decide +kernel, rfl, by decide +kernel, by decide +kernel⟩
abbrev s_lfits_one : Stmt := topS 73
theorem sc_lfits_one : FnScope ["_law_telling", "_law_worths", "_law_one_here", "_law_other"] ["_law_telling", "_law_worths"] (defScope s_lfits_one) := ⟨rfl, rfl, rfl, by decide +kernel, rfl, by decide +kernel, by decide +kernel⟩
abbrev s_lfits : Stmt := topS 74
theorem sc_lfits : FnScope ["_law_tellings_here", "_law_worths", "_law_telling"] ["_law_tellings_here", "_law_worths"] (defScope s_lfits) := ⟨rfl, rfl, rfl, by decide +kernel, rfl, by decide +kernel, by decide +kernel⟩
abbrev s_lfreed : Stmt := topS 75
theorem sc_lfreed : FnScope ["_law_row_here", "_law_lead", "_law_at", "_law_some"] ["_law_row_here", "_law_lead", "_law_at"] (defScope s_lfreed) := ⟨rfl, rfl, rfl, by decide +kernel, rfl, by decide +kernel, by decide +kernel⟩
abbrev s_lcut_away : Stmt := topS 76
theorem sc_lcut_away : FnScope ["_law_made", "_law_at", "_law_found", "_law_row_here", "_law_some", "_law_other", "_law_its", "_law_both", "_law_kept", "_law_one_here", "_law_k"] ["_law_made", "_law_at"] (defScope s_lcut_away) := ⟨rfl, rfl, rfl, by decide +kernel, rfl, by decide +kernel, by decide +kernel⟩
abbrev s_lcan : Stmt := topS 77
theorem sc_lcan : FnScope ["_law_zeros", "_law_aboves", "_law_many", "_law_made", "_law_at", "_law_leads", "_law_lead", "_law_k", "_law_row_here", "_law_some"] ["_law_zeros", "_law_aboves", "_law_many"] (defScope s_lcan) := ⟨rfl, rfl, rfl, by decide +kernel, rfl, by decide +kernel, by decide +kernel⟩
abbrev s_lnegative : Stmt := topS 78
theorem sc_lnegative : FnScope ["_law_row_here", "_law_part"] ["_law_row_here"] (defScope s_lnegative) := ⟨rfl, rfl, rfl, by decide +kernel, rfl, by decide +kernel, by decide +kernel⟩
abbrev s_lstands : Stmt := topS 79
theorem sc_lstands : FnScope ["_law_things_here", "_law_tellings_here", "_law_zeros", "_law_aboves", "_law_row_here"] ["_law_things_here", "_law_tellings_here"] (defScope s_lstands) := ⟨rfl, rfl, rfl, by decide +kernel, rfl, by decide +kernel, by decide +kernel⟩
abbrev s_lstanding : Stmt := topS 80
theorem sc_lstanding : FnScope ["_law_bag_here", "_law_many", "_law_tell_upto", "_law_words", "_law_things_here", "_law_tellings_here"] ["_law_bag_here", "_law_many", "_law_tell_upto", "_law_words"] (defScope s_lstanding) := ⟨rfl, rfl, rfl, by decide +kernel, rfl, by decide +kernel, by decide +kernel⟩
abbrev s_lnear_pair : Stmt := topS 81
theorem sc_lnear_pair : FnScope ["_law_bag_here", "_law_things_here", "_law_tellings_here", "_law_pair_here"] ["_law_bag_here", "_law_things_here", "_law_tellings_here"] (defScope s_lnear_pair) := ⟨rfl, rfl, rfl, by decide +kernel, rfl, by decide +kernel, by decide +kernel⟩
abbrev s_lcrossed : Stmt := topS 82
theorem sc_lcrossed : FnScope ["_law_a", "_law_b", "_law_at", "_law_x", "_law_y", "_law_p", "_law_q"] ["_law_a", "_law_b", "_law_at"] (defScope s_lcrossed) := ⟨rfl, rfl, rfl, by decide +kernel, rfl, by decide +kernel, by decide +kernel⟩
abbrev s_lfew_of : Stmt := topS 83
theorem sc_lfew_of : FnScope ["_law_things_here", "_law_tellings_here", "_law_room", "_law_found", "_law_telling", "_law_one_here"] ["_law_things_here", "_law_tellings_here"] (defScope s_lfew_of) := ⟨rfl, rfl, rfl, by decide +kernel, rfl, by decide +kernel, by decide +kernel⟩
abbrev s_lstays : Stmt := topS 84
theorem sc_lstays : FnScope ["_law_before", "_law_later"] ["_law_before", "_law_later"] (defScope s_lstays) := ⟨rfl, rfl, rfl, by decide +kernel, rfl, by decide +kernel, by decide +kernel⟩
abbrev s_lopen_right : Stmt := topS 85
theorem sc_lopen_right : FnScope ["_law_told", "_law_pair_here", "_law_one_here", "_law_other", "_law_some", "_law_names", "_law_each"] ["_law_told", "_law_pair_here"] (defScope s_lopen_right) := ⟨rfl, rfl, rfl, by decide +kernel, rfl, by decide +kernel, by decide +kernel⟩
abbrev s_law : Stmt := topS 86
theorem sc_law : FnScope ["_law_script", "_law_bag_here", "_law_things_here", "_law_tellings_here", "_law_told", "_law_chosen", "_law_names", "_law_k", "_law_open_ones", "_law_later", "_law_found", "_law_pair_here", "_law_at"] ["_law_script"] (defScope s_law) := ⟨rfl, rfl, rfl, by decide +kernel, rfl, by decide +kernel, by decide +kernel⟩
theorem bt_tuple : bootBuiltins "tuple" = some (.type "tuple") := by decide +kernel
theorem bt_list : bootBuiltins "list" = some (.type "list") := by decide +kernel
theorem bt_int : bootBuiltins "int" = some (.type "int") := by decide +kernel
theorem bt_len : bootBuiltins "len" = some (.builtin "len") := by decide +kernel
theorem bt_sum : bootBuiltins "sum" = some (.builtin "sum") := by decide +kernel
theorem bt_abs : bootBuiltins "abs" = some (.builtin "abs") := by decide +kernel
theorem bt_max : bootBuiltins "max" = some (.builtin "max") := by decide +kernel
theorem bt_min : bootBuiltins "min" = some (.builtin "min") := by decide +kernel
theorem bt_all : bootBuiltins "all" = some (.builtin "all") := by decide +kernel
theorem bt_any : bootBuiltins "any" = some (.builtin "any") := by decide +kernel
theorem bt_dict : bootBuiltins "dict" = some (.type "dict") := by decide +kernel
theorem bt_range : bootBuiltins "range" = some (.type "range") := by decide +kernel
theorem bt_enumerate : bootBuiltins "enumerate" = some (.type "enumerate") := by decide +kernel
theorem bt_zip : bootBuiltins "zip" = some (.type "zip") := by decide +kernel
theorem bt_isinstance : bootBuiltins "isinstance" = some (.builtin "isinstance") := by decide +kernel
theorem bt_str : bootBuiltins "str" = some (.type "str") := by decide +kernel
theorem bt_bool : bootBuiltins "bool" = some (.type "bool") := by decide +kernel
structure Txt (K : PySem.W.Frag) (mg : Str → Option Value) where
  d_row_of : Dn K mg "row_of" s_row_of ["things", "pair"]
  d_added : Dn K mg "added" s_added ["one", "other"]
  d_taken : Dn K mg "taken" s_taken ["one", "other"]
  d_times : Dn K mg "times" s_times ["row", "number"]
  d_mixture : Dn K mg "mixture" s_mixture ["rows", "numbers", "many"]
  d_dot : Dn K mg "dot" s_dot ["one", "other"]
  d_unit : Dn K mg "unit" s_unit ["at", "many"]
  d_less_times : Dn K mg "less_times" s_less_times ["pair", "lead", "number"]
  d_brought_down : Dn K mg "brought_down" s_brought_down ["some", "at"]
  d_steps_led : Dn K mg "steps_led" s_steps_led ["rows", "many"]
  d_width_of : Dn K mg "width_of" s_width_of ["rows"]
  d_steps : Dn K mg "steps" s_steps ["rows"]
  d_rank : Dn K mg "rank" s_rank ["rows"]
  d_frame : Dn K mg "frame" s_frame ["rows", "many"]
  d_is_held : Dn K mg "is_held" s_is_held ["rows", "row"]
  d_common_part : Dn K mg "common_part" s_common_part ["numbers"]
  d_shortened : Dn K mg "shortened" s_shortened ["row"]
  d_is_less : Dn K mg "is_less" s_is_less ["one", "other"]
  d_without_last : Dn K mg "without_last" s_without_last ["marked"]
  d_between : Dn K mg "between" s_between ["lower", "upper"]
  d_greater : Dn K mg "greater" s_greater ["one", "other"]
  d_lesser : Dn K mg "lesser" s_lesser ["one", "other"]
  d_point_by : Dn K mg "point_by" s_point_by ["marked", "many"]
  d_point_above : Dn K mg "point_above" s_point_above ["rows", "many"]
  d_seen_by : Dn K mg "seen_by" s_seen_by ["frame_rows", "row"]
  d_powers : Dn K mg "powers" s_powers ["number", "many"]
  d_moved : Dn K mg "moved" s_moved ["point", "goals", "bars"]
  d_worths_above : Dn K mg "worths_above" s_worths_above ["told", "alikes", "heaviers"]
  d_some_worths : Dn K mg "some_worths" s_some_worths ["told"]
  d_stands_all : Dn K mg "stands_all" s_stands_all ["told"]
  d_worths_for : Dn K mg "worths_for" s_worths_for ["told", "pair", "sign"]
  d_word_of : Dn K mg "word_of" s_word_of ["told", "pair"]
  d_is_name : Dn K mg "is_name" s_is_name ["thing"]
  d_are_things : Dn K mg "are_things" s_are_things ["thing"]
  d_is_sum : Dn K mg "is_sum" s_is_sum ["thing"]
  d_is_pair : Dn K mg "is_pair" s_is_pair ["thing"]
  d_is_telling : Dn K mg "is_telling" s_is_telling ["thing"]
  d_is_telling_of : Dn K mg "is_telling_of" s_is_telling_of ["things", "thing"]
  d_are_tellings_of : Dn K mg "are_tellings_of" s_are_tellings_of ["things", "thing"]
  d_lbag : Dn K mg "_law_bag" s_lbag ["_law_script"]
  d_ltake : Dn K mg "_law_take" s_ltake ["_law_bag_here", "_law_many"]
  d_lone : Dn K mg "_law_one" s_lone ["_law_bag_here", "_law_things_here"]
  d_lthings : Dn K mg "_law_things" s_lthings ["_law_bag_here", "_law_many"]
  d_lsum : Dn K mg "_law_sum" s_lsum ["_law_bag_here", "_law_things_here", "_law_many"]
  d_lpair : Dn K mg "_law_pair" s_lpair ["_law_bag_here", "_law_things_here"]
  d_ltellings : Dn K mg "_law_tellings" s_ltellings ["_law_bag_here", "_law_things_here", "_law_many", "_law_words"]
  d_lrow : Dn K mg "_law_row" s_lrow ["_law_things_here", "_law_pair_here"]
  d_lrows : Dn K mg "_law_rows" s_lrows ["_law_things_here", "_law_tellings_here", "_law_word"]
  d_lless : Dn K mg "_law_less" s_lless ["_law_row_here", "_law_mine", "_law_other", "_law_its"]
  d_lcut : Dn K mg "_law_cut" s_lcut ["_law_rows_here"]
  d_lrank : Dn K mg "_law_rank" s_lrank ["_law_rows_here"]
  d_lis_held : Dn K mg "_law_is_held" s_lis_held ["_law_rows_here", "_law_row_here"]
  d_lworth : Dn K mg "_law_worth" s_lworth ["_law_worths", "_law_one_here"]
  d_lfits_one : Dn K mg "_law_fits_one" s_lfits_one ["_law_telling", "_law_worths"]
  d_lfits : Dn K mg "_law_fits" s_lfits ["_law_tellings_here", "_law_worths"]
  d_lfreed : Dn K mg "_law_freed" s_lfreed ["_law_row_here", "_law_lead", "_law_at"]
  d_lcut_away : Dn K mg "_law_cut_away" s_lcut_away ["_law_made", "_law_at"]
  d_lcan : Dn K mg "_law_can" s_lcan ["_law_zeros", "_law_aboves", "_law_many"]
  d_lnegative : Dn K mg "_law_negative" s_lnegative ["_law_row_here"]
  d_lstands : Dn K mg "_law_stands" s_lstands ["_law_things_here", "_law_tellings_here"]
  d_lstanding : Dn K mg "_law_standing" s_lstanding ["_law_bag_here", "_law_many", "_law_tell_upto", "_law_words"]
  d_lnear_pair : Dn K mg "_law_near_pair" s_lnear_pair ["_law_bag_here", "_law_things_here", "_law_tellings_here"]
  d_lcrossed : Dn K mg "_law_crossed" s_lcrossed ["_law_a", "_law_b", "_law_at"]
  d_lfew_of : Dn K mg "_law_few_of" s_lfew_of ["_law_things_here", "_law_tellings_here"]
  d_lstays : Dn K mg "_law_stays" s_lstays ["_law_before", "_law_later"]
  d_lopen_right : Dn K mg "_law_open_right" s_lopen_right ["_law_told", "_law_pair_here"]
  d_law : Dn K mg "law" s_law ["_law_script"]
  t_tuple : mg "tuple" = none
  t_list : mg "list" = none
  t_int : mg "int" = none
  t_len : mg "len" = none
  t_sum : mg "sum" = none
  t_abs : mg "abs" = none
  t_max : mg "max" = none
  t_min : mg "min" = none
  t_all : mg "all" = none
  t_any : mg "any" = none
  t_sorted : mg "sorted" = none
  t_set : mg "set" = none
  t_dict : mg "dict" = none
  t_range : mg "range" = none
  t_enumerate : mg "enumerate" = none
  t_zip : mg "zip" = none
  t_isinstance : mg "isinstance" = none
  t_str : mg "str" = none
  t_bool : mg "bool" = none
end K8
set_option linter.all false
namespace K8
/-! vectors, spans, echelon forms -/
abbrev Vec := Nat → Int
def Sp : List Vec → Vec → Prop
  | [], v => v = fun _ => 0
  | f :: fs, v => ∃ (c : Int) (w : Vec), Sp fs w ∧ v = fun i => c * f i + w i
theorem Sp.zero : ∀ L, Sp L fun _ => 0
  | [] => rfl
  | f :: fs => ⟨0, _, Sp.zero fs, by funext i; simp⟩
theorem Sp.lin : ∀ {L : List Vec} {v w : Vec} (c : Int), Sp L v → Sp L w → Sp L fun i => c * v i + w i
  | [], v, w, c, h1, h2 => by
    have h1' : v = fun _ => 0 := h1
    have h2' : w = fun _ => 0 := h2
    subst h1' h2'
    show (fun i => _) = _
    funext i; simp
  | f :: fs, v, w, c, ⟨a, x, h1, e1⟩, ⟨b, y, h2, e2⟩ => by
    subst e1 e2
    refine ⟨c * a + b, _, Sp.lin c h1 h2, ?_⟩
    funext i
    simp only [Int.mul_add, Int.add_mul, Int.mul_assoc]
    omega
theorem Sp.add {L : List Vec} {v w : Vec} (h1 : Sp L v) (h2 : Sp L w) : Sp L fun i => v i + w i := by
  have := Sp.lin 1 h1 h2
  simpa using this
theorem Sp.smul {L : List Vec} {v : Vec} (c : Int) (h1 : Sp L v) : Sp L fun i => c * v i := by
  have := Sp.lin c h1 (Sp.zero L)
  simpa using this
theorem Sp.tail {L : List Vec} {f v : Vec} (h : Sp L v) : Sp (f :: L) v := ⟨0, v, h, by funext i; simp⟩
theorem Sp.mem : ∀ {L : List Vec} {f : Vec}, f ∈ L → Sp L f
  | g :: L, f, h => by
    rcases List.mem_cons.mp h with rfl | h
    · exact ⟨1, _, Sp.zero L, by funext i; simp⟩
    · exact Sp.tail (Sp.mem h)
theorem Sp.le : ∀ {L L' : List Vec} {v : Vec}, (∀ u ∈ L, Sp L' u) → Sp L v → Sp L' v
  | [], L', v, _, h => by
    have h' : v = fun _ => 0 := h
    rw [h']; exact Sp.zero L'
  | f :: fs, L', v, hs, ⟨c, w, h, e⟩ => by
    rw [e]
    exact Sp.lin c (hs f (List.mem_cons_self ..)) (Sp.le (fun u hu => hs u (List.mem_cons_of_mem _ hu)) h)
theorem Sp.sub {L L' : List Vec} {v : Vec} (hs : ∀ u ∈ L, u ∈ L') (h : Sp L v) : Sp L' v := Sp.le (fun u hu => Sp.mem (hs u hu)) h
theorem Sp.prop {P : Vec → Prop} (h0 : P fun _ => 0) (hl : ∀ c v w, P v → P w → P fun i => c * v i + w i) : ∀ {L : List Vec} {v : Vec}, (∀ u ∈ L, P u) → Sp L v → P v
  | [], v, _, h => by
    have h' : v = fun _ => 0 := h
    rw [h']; exact h0
  | f :: fs, v, hs, ⟨c, w, h, e⟩ => by
    rw [e]
    exact hl c f w (hs f (List.mem_cons_self ..)) (Sp.prop h0 hl (fun u hu => hs u (List.mem_cons_of_mem _ hu)) h)
theorem Sp.at0 {L : List Vec} {v : Vec} {j : Nat} (hs : ∀ u ∈ L, u j = 0) (h : Sp L v) : v j = 0 :=
  Sp.prop (P := fun v => v j = 0) rfl (fun c v w h1 h2 => by simp [h1, h2]) hs h
/-- a linear map of a span -/
theorem Sp.map {T : Vec → Vec} (h0 : T (fun _ => 0) = fun _ => 0) (hl : ∀ c v w, T (fun i => c * v i + w i) = fun i => c * T v i + T w i) : ∀ {L : List Vec} {v : Vec}, Sp L v → Sp (L.map T) (T v)
  | [], v, h => by
    have h' : v = fun _ => 0 := h
    rw [h', h0]; exact Sp.zero _
  | f :: fs, v, ⟨c, w, h, e⟩ => by
    rw [e, hl]
    exact ⟨c, T w, Sp.map h0 hl h, rfl⟩
def dotn : Nat → Vec → Vec → Int
  | 0, _, _ => 0
  | n + 1, u, v => dotn n u v + u n * v n
theorem dotn_lin (n : Nat) (c : Int) (v w x : Vec) : dotn n (fun i => c * v i + w i) x = c * dotn n v x + dotn n w x := by
  induction n with
  | zero => simp [dotn]
  | succ n ih =>
    simp only [dotn, ih, Int.mul_add, Int.add_mul, Int.mul_assoc]
    omega
theorem dotn_zero (n : Nat) (x : Vec) : dotn n (fun _ => 0) x = 0 := by
  induction n with
  | zero => rfl
  | succ n ih => simp [dotn, ih]
theorem dotn_comm (n : Nat) (u v : Vec) : dotn n u v = dotn n v u := by
  induction n with
  | zero => rfl
  | succ n ih => simp only [dotn, ih, Int.mul_comm]
theorem dotn_congr {n : Nat} {u u' v v' : Vec} (hu : ∀ i, i < n → u i = u' i) (hv : ∀ i, i < n → v i = v' i) : dotn n u v = dotn n u' v' := by
  induction n with
  | zero => rfl
  | succ n ih =>
    simp only [dotn]
    rw [ih (fun i hi => hu i (by omega)) (fun i hi => hv i (by omega)), hu n (by omega), hv n (by omega)]
theorem dotn_linr (n : Nat) (c : Int) (v w x : Vec) : dotn n x (fun i => c * v i + w i) = c * dotn n x v + dotn n x w := by
  rw [dotn_comm, dotn_lin, dotn_comm n v, dotn_comm n w]
theorem Sp.dot0 {L : List Vec} {v x : Vec} {n : Nat} (hs : ∀ u ∈ L, dotn n u x = 0) (h : Sp L v) : dotn n v x = 0 :=
  Sp.prop (P := fun v => dotn n v x = 0) (dotn_zero n x) (fun c v w h1 h2 => by rw [dotn_lin, h1, h2]; simp) hs h

/-! ### echelon forms -/
def Lead (v : Vec) (p : Nat) : Prop := (∀ i, i < p → v i = 0) ∧ v p ≠ 0
def Ech : Nat → Nat → List Vec → Prop
  | lo, hi, [] => lo ≤ hi
  | lo, hi, f :: fs => ∃ p, lo ≤ p ∧ p < hi ∧ Lead f p ∧ Ech (p + 1) hi fs
theorem Ech.up : ∀ {lo hi hi' : Nat} {L : List Vec}, hi ≤ hi' → Ech lo hi L → Ech lo hi' L
  | lo, hi, hi', [], h, e => Nat.le_trans e h
  | lo, hi, hi', f :: fs, h, ⟨p, h1, h2, h3, h4⟩ => ⟨p, h1, by omega, h3, Ech.up h h4⟩
theorem Ech.snoc {q : Vec → Int} {l : Vec} {a : Nat} (hl : Lead l a) : ∀ {lo : Nat} {L : List Vec}, Ech lo a L → Ech lo (a + 1) (L.map (fun f i => f i - q f * l i) ++ [l])
  | lo, [], e => ⟨a, e, Nat.lt_succ_self a, hl, Nat.le_refl _⟩
  | lo, f :: fs, ⟨p, h1, h2, h3, h4⟩ => by
    refine ⟨p, h1, by omega, ⟨fun i hi => ?_, ?_⟩, Ech.snoc hl h4⟩
    · show f i - q f * l i = 0
      rw [h3.1 i hi, hl.1 i (by omega)]; simp
    · show f p - q f * l p ≠ 0
      rw [hl.1 p h2]; simpa using h3.2
/-- a span element that is nothing below hi is nothing -/
theorem Ech.nothing : ∀ {lo hi : Nat} {L : List Vec} {v : Vec}, Ech lo hi L → Sp L v → (∀ i, i < hi → v i = 0) → v = fun _ => 0
  | lo, hi, [], v, _, h, _ => h
  | lo, hi, f :: fs, v, ⟨p, h1, h2, h3, h4⟩, ⟨c, w, hw, e⟩, hz => by
    have wp : ∀ i, i < p + 1 → w i = 0 := fun i hi => by
      exact Ech.below h4 hw i hi
    have e1 := congrFun e p
    rw [hz p h2, wp p (by omega)] at e1
    have c0 : c = 0 := by
      have : c * f p = 0 := by omega
      rcases Int.mul_eq_zero.mp this with z | z
      · exact z
      · exact absurd z h3.2
    subst c0
    have vw : v = w := by rw [e]; funext i; simp
    rw [vw] at hz ⊢
    exact Ech.nothing h4 hw hz
where
  Ech.below : ∀ {lo hi : Nat} {L : List Vec} {v : Vec}, Ech lo hi L → Sp L v → ∀ i, i < lo → v i = 0
  | lo, hi, [], v, _, h, i, _ => by
    have h' : v = fun _ => 0 := h
    rw [h']
  | lo, hi, f :: fs, v, ⟨p, h1, h2, h3, h4⟩, ⟨c, w, hw, e⟩, i, hi' => by
    have e1 := congrFun e i
    rw [h3.1 i (by omega), Ech.below h4 hw i (by omega)] at e1
    rw [e1]; simp
theorem Ech.below {lo hi : Nat} {L : List Vec} {v : Vec} (h : Ech lo hi L) (hv : Sp L v) (i : Nat) (hi : i < lo) : v i = 0 := Ech.nothing.Ech.below h hv i hi
/-- the first place of a span element is one of the first places -/
theorem Ech.leads : ∀ {lo hi : Nat} {L : List Vec} {v : Vec} {p : Nat}, Ech lo hi L → Sp L v → Lead v p → ∃ f ∈ L, Lead f p
  | lo, hi, [], v, p, _, h, hl => by
    have h' : v = fun _ => 0 := h
    rw [h'] at hl
    exact absurd rfl hl.2
  | lo, hi, f :: fs, v, p, ⟨q, h1, h2, h3, h4⟩, ⟨c, w, hw, e⟩, hl => by
    by_cases hc : c = 0
    · subst hc
      have vw : v = w := by rw [e]; funext i; simp
      rw [vw] at hl
      obtain ⟨g, hg, hgl⟩ := Ech.leads h4 hw hl
      exact ⟨g, List.mem_cons_of_mem _ hg, hgl⟩
    · refine ⟨f, List.mem_cons_self .., ?_⟩
      have hvq : v q ≠ 0 := by
        rw [e]
        show c * f q + w q ≠ 0
        rw [Ech.below h4 hw q (by omega)]
        intro z
        have : c * f q = 0 := by omega
        rcases Int.mul_eq_zero.mp this with z | z
        · exact hc z
        · exact h3.2 z
      have : p = q := by
        rcases Nat.lt_trichotomy p q with h | h | h
        · exfalso
          apply hl.2
          rw [e]
          show c * f p + w p = 0
          rw [h3.1 p h, Ech.below h4 hw p (by omega)]; simp
        · exact h
        · exact absurd (hl.1 q h) hvq
      rw [this]; exact h3
/-- the first places, one after another -/
theorem Ech.places : ∀ {lo hi : Nat} {L : List Vec}, Ech lo hi L → ∃ ps : List Nat, ps.length = L.length ∧ ps.Nodup ∧ (∀ p ∈ ps, lo ≤ p ∧ p < hi) ∧ ∀ p, p ∈ ps ↔ ∃ f ∈ L, Lead f p
  | lo, hi, [], _ => ⟨[], rfl, List.nodup_nil, (fun _ h => nomatch h), fun p => by simp⟩
  | lo, hi, f :: fs, ⟨q, h1, h2, h3, h4⟩ => by
    obtain ⟨ps, e1, e2, e3, e4⟩ := Ech.places h4
    refine ⟨q :: ps, by simp [e1], List.nodup_cons.mpr ⟨fun h => ?_, e2⟩, fun p hp => ?_, fun p => ?_⟩
    · have := (e3 q h).1
      omega
    · rcases List.mem_cons.mp hp with rfl | hp
      · exact ⟨h1, h2⟩
      · have := e3 p hp
        omega
    · rw [List.mem_cons, e4]
      constructor
      · rintro (rfl | ⟨g, hg, hl⟩)
        · exact ⟨f, List.mem_cons_self .., h3⟩
        · exact ⟨g, List.mem_cons_of_mem _ hg, hl⟩
      · rintro ⟨g, hg, hl⟩
        rcases List.mem_cons.mp hg with rfl | hg
        · left
          rcases Nat.lt_trichotomy p q with h | h | h
          · exact absurd (h3.1 p h) hl.2
          · exact h
          · exact absurd (hl.1 q h) h3.2
        · exact .inr ⟨g, hg, hl⟩
/-- lists without doubles: a part of no smaller length is all -/
theorem nodup_part : ∀ {a b : List Nat}, a.Nodup → b.Nodup → (∀ x ∈ a, x ∈ b) → b.length ≤ a.length → ∀ x ∈ b, x ∈ a
  | [], b, _, _, _, hl, x, hx => by
    have : b = [] := List.length_eq_zero_iff.mp (by simpa using hl)
    rw [this] at hx; exact hx
  | y :: a, b, ha, hb, hs, hl, x, hx => by
    by_cases hxy : x = y
    · rw [hxy]; exact List.mem_cons_self ..
    · have hy : y ∈ b := hs y (List.mem_cons_self ..)
      have hl' : (b.erase y).length ≤ a.length := by
        rw [List.length_erase_of_mem hy]
        simp at hl; omega
      have := nodup_part (a := a) (b := b.erase y) (List.nodup_cons.mp ha).2 (hb.erase y) (fun z hz => ?_) hl' x ((List.mem_erase_of_ne hxy).mpr hx)
      · exact List.mem_cons_of_mem _ this
      · have hzy : z ≠ y := fun e => (List.nodup_cons.mp ha).1 (e ▸ hz)
        exact (List.mem_erase_of_ne hzy).mpr (hs z (List.mem_cons_of_mem _ hz))
theorem nodup_len {a b : List Nat} (ha : a.Nodup) (hs : ∀ x ∈ a, x ∈ b) : a.length ≤ b.length := by
  induction a generalizing b with
  | nil => exact Nat.zero_le _
  | cons y a ih =>
    have hy : y ∈ b := hs y (List.mem_cons_self ..)
    have := ih (b := b.erase y) (List.nodup_cons.mp ha).2 fun z hz => by
      have hzy : z ≠ y := fun e => (List.nodup_cons.mp ha).1 (e ▸ hz)
      exact (List.mem_erase_of_ne hzy).mpr (hs z (List.mem_cons_of_mem _ hz))
    rw [List.length_erase_of_mem hy] at this
    have : 0 < b.length := List.length_pos_of_mem hy
    simp; omega
/-- back substitution: a vector orthogonal to an echelon form, with a given place that is no first place as its last one -/
theorem Ech.back {n : Nat} : ∀ {lo hi : Nat} {L : List Vec} (q : Nat), Ech lo hi L → hi ≤ n → q < n → (∀ f ∈ L, ¬ Lead f q) → ∃ x : Vec, x q ≠ 0 ∧ (∀ i, q < i → x i = 0) ∧ (∀ i, i < lo → i ≠ q → x i = 0) ∧ ∀ f ∈ L, dotn n f x = 0
  | lo, hi, [], q, _, _, _, _ => ⟨fun i => if i = q then 1 else 0, by simp, fun i hi => by simp; omega, fun i _ h => by simp [h], fun f hf => nomatch hf⟩
  | lo, hi, f :: fs, q, ⟨p, h1, h2, h3, h4⟩, hn, hq, hno => by
    obtain ⟨x, x1, x2, x3, x4⟩ := Ech.back q h4 hn hq fun g hg => hno g (List.mem_cons_of_mem _ hg)
    have hpq : p ≠ q := fun e => hno f (List.mem_cons_self ..) (e ▸ h3)
    have xp : x p = 0 := x3 p (by omega) hpq
    -- y = (f p) x - (f.x) e_p
    refine ⟨fun i => if i = p then -(dotn n f x) else f p * x i, ?_, fun i hi => ?_, fun i hi hne => ?_, fun g hg => ?_⟩
    · show (if q = p then _ else _) ≠ 0
      rw [if_neg (Ne.symm hpq)]
      intro z
      rcases Int.mul_eq_zero.mp z with z | z
      · exact h3.2 z
      · exact x1 z
    · show (if i = p then _ else _) = 0
      by_cases e : i = p
      · rw [if_pos e]
        -- p > q : f.x = 0, since f is nothing below p and x nothing above q
        have : dotn n f x = dotn n (fun _ => 0) x := by
          have key : ∀ m, dotn m f x = 0 := fun m => by
            induction m with
            | zero => rfl
            | succ m ih =>
              simp only [dotn, ih]
              by_cases hm : m < p
              · rw [h3.1 m hm]; simp
              · rw [x2 m (by omega)]; simp
          rw [key, dotn_zero]
        rw [this, dotn_zero]; simp
      · rw [if_neg e, x2 i hi]; simp
    · show (if i = p then _ else _) = 0
      rw [if_neg (by omega), x3 i (by omega) hne]; simp
    · have split : ∀ g : Vec, dotn n g (fun i => if i = p then -(dotn n f x) else f p * x i) = f p * dotn n g x - g p * dotn n f x := fun g => by
        have key : ∀ m, dotn m g (fun i => if i = p then -(dotn n f x) else f p * x i) = f p * dotn m g x - (if p < m then g p * dotn n f x else 0) := fun m => by
          induction m with
          | zero => simp [dotn]
          | succ m ih =>
            simp only [dotn, ih]
            by_cases e : m = p
            · subst e
              rw [if_pos rfl, if_neg (Nat.lt_irrefl _), if_pos (Nat.lt_succ_self _), xp, Int.mul_neg]
              simp
              omega
            · rw [if_neg e]
              have : f p * (dotn m g x + g m * x m) = f p * dotn m g x + g m * (f p * x m) := by
                rw [Int.mul_add]; congr 1
                rw [← Int.mul_assoc, ← Int.mul_assoc, Int.mul_comm (f p) (g m)]
              rw [this]
              by_cases h : p < m
              · rw [if_pos h, if_pos (by omega)]; omega
              · rw [if_neg h, if_neg (by omega)]; omega
        rw [key, if_pos (by omega)]
      rw [split]
      rcases List.mem_cons.mp hg with rfl | hg
      · omega
      · rw [x4 g hg]
        have : g p = 0 := Ech.below h4 (Sp.mem hg) p (by omega)
        rw [this]; simp
end K8
set_option linter.all false
namespace K8
theorem dotn_one {n p : Nat} {v x : Vec} (hp : p < n) (hv : ∀ i, i < p → v i = 0) (hx : ∀ i, p < i → x i = 0) : dotn n v x = v p * x p := by
  have key : ∀ m, dotn m v x = if p < m then v p * x p else 0 := fun m => by
    induction m with
    | zero => rfl
    | succ m ih =>
      simp only [dotn, ih]
      rcases Nat.lt_trichotomy p m with h | h | h
      · rw [if_pos h, if_pos (by omega), hx m h]; simp
      · subst h; rw [if_neg (Nat.lt_irrefl _), if_pos (Nat.lt_succ_self _)]; simp
      · rw [if_neg (by omega), if_neg (by omega), hv m h]; simp
  rw [key, if_pos hp]
/-- THE RANK: a row more makes no step more exactly where it is orthogonal to all that the rows are orthogonal to -/
theorem rank_same {n hi : Nat} {R L L' : List Vec} {r : Vec} (hn : hi ≤ n) (e : Ech 0 hi L) (e' : Ech 0 hi L') (h1 : ∀ u ∈ R, Sp L u) (h2 : ∀ u ∈ L, Sp R u) (h3 : ∀ u ∈ R ++ [r], Sp L' u) (h4 : ∀ u ∈ L', Sp (R ++ [r]) u) :
    L'.length = L.length ↔ ∀ x : Vec, (∀ u ∈ R, dotn n u x = 0) → dotn n r x = 0 := by
  obtain ⟨ps, l1, n1, b1, m1⟩ := e.places
  obtain ⟨ps', l2, n2, b2, m2⟩ := e'.places
  have up : ∀ {v}, Sp L v → Sp L' v := fun {v} h => Sp.le (fun u hu => Sp.le (fun z hz => h3 z (List.mem_append_left _ hz)) (h2 u hu)) h
  have sub : ∀ p ∈ ps, p ∈ ps' := fun p hp => by
    obtain ⟨f, hf, hl⟩ := (m1 p).mp hp
    exact (m2 p).mpr (e'.leads (up (Sp.mem hf)) hl)
  constructor
  · intro hlen x hx
    have sub' : ∀ p ∈ ps', p ∈ ps := nodup_part n1 n2 sub (by omega)
    have Lx : ∀ u ∈ L, dotn n u x = 0 := fun u hu => Sp.dot0 hx (h2 u hu)
    have P : ∀ m, ∀ v, Sp L' v → (∀ i, i + m < hi → v i = 0) → dotn n v x = 0 := fun m => by
      induction m with
      | zero =>
        intro v hv hz
        rw [e'.nothing hv (fun i h => hz i (by omega)), dotn_zero]
      | succ m ih =>
        intro v hv hz
        by_cases hm : hi ≤ m
        · exact ih v hv fun i h => by omega
        · by_cases hp : v (hi - m - 1) = 0
          · refine ih v hv fun i h => ?_
            by_cases e : i = hi - m - 1
            · rw [e]; exact hp
            · exact hz i (by omega)
          · have hl : Lead v (hi - m - 1) := ⟨fun i h => hz i (by omega), hp⟩
            obtain ⟨b, hb, hbl⟩ := (m1 _).mp (sub' _ ((m2 _).mpr (e'.leads hv hl)))
            have hb' : Sp L' b := up (Sp.mem hb)
            have hv' := ih (fun i => (b (hi - m - 1)) * v i + (-(v (hi - m - 1)) * b i)) (Sp.lin _ hv (Sp.smul _ hb')) fun i h => by
              by_cases e : i = hi - m - 1
              · subst e
                rw [Int.neg_mul, Int.mul_comm (v _)]; omega
              · rw [hl.1 i (by omega), hbl.1 i (by omega)]; simp
            rw [dotn_lin] at hv'
            have z : dotn n (fun i => -(v (hi - m - 1)) * b i) x = 0 := by
              have := dotn_lin n (-(v (hi - m - 1))) b (fun _ => 0) x
              simp only [Int.add_zero, dotn_zero, Lx b hb, Int.mul_zero] at this
              exact this
            rw [z, Int.add_zero] at hv'
            rcases Int.mul_eq_zero.mp hv' with q | q
            · exact absurd q hbl.2
            · exact q
    exact P hi r (h3 r (by simp)) fun i h => by omega
  · intro hr
    have le1 : ps.length ≤ ps'.length := nodup_len n1 sub
    by_cases all : ∀ p ∈ ps', p ∈ ps
    · have := nodup_len n2 all
      omega
    · exfalso
      have : ∃ p, p ∈ ps' ∧ p ∉ ps := by
        refine Classical.byContradiction fun h => all fun p hp => Classical.byContradiction fun hq => h ⟨p, hp, hq⟩
      obtain ⟨p, hp, hq⟩ := this
      obtain ⟨v, hv, hvl⟩ := (m2 p).mp hp
      have hpn : p < n := by have := (b2 p hp).2; omega
      obtain ⟨x, x1, x2, _, x4⟩ := e.back p hn hpn fun f hf hl => hq ((m1 p).mpr ⟨f, hf, hl⟩)
      have Rx : ∀ u ∈ R, dotn n u x = 0 := fun u hu => Sp.dot0 x4 (h1 u hu)
      have rx := hr x Rx
      have vx : dotn n v x = 0 := Sp.dot0 (fun u hu => by
        rcases List.mem_append.mp hu with h | h
        · exact Rx u h
        · rw [List.mem_singleton.mp h]; exact rx) (h4 v hv)
      rw [dotn_one hpn hvl.1 x2] at vx
      rcases Int.mul_eq_zero.mp vx with z | z
      · exact hvl.2 z
      · exact x1 z
end K8
set_option linter.all false
namespace K8
/-! pairs: a row and how it is made -/
abbrev Pr := List Int × List Int
def vf (r : List Int) : Vec := fun i => r.getD i 0
def jv (p : Pr) : Vec := vf (p.1 ++ p.2)
def lessL (r l : List Int) (n : Int) : List Int := List.zipWith (fun x y => x - y) r (l.map (n * ·))
def lessT (p l : Pr) (n : Int) : Pr := (lessL p.1 l.1 n, lessL p.2 l.2 n)
def Wd (w N : Nat) (p : Pr) : Prop := p.1.length = w ∧ p.2.length = N
theorem vf_lt {r : List Int} {i : Nat} (h : i < r.length) : vf r i = r[i] := by
  unfold vf
  rw [List.getD_eq_getElem?_getD, List.getElem?_eq_getElem h]; rfl
theorem vf_ge {r : List Int} {i : Nat} (h : r.length ≤ i) : vf r i = 0 := by
  unfold vf
  rw [List.getD_eq_getElem?_getD, List.getElem?_eq_none h]; rfl
theorem vf_map (r : List Int) (n : Int) (i : Nat) : vf (r.map (n * ·)) i = n * vf r i := by
  unfold vf
  rw [List.getD_eq_getElem?_getD, List.getD_eq_getElem?_getD, List.getElem?_map]
  cases r[i]? <;> simp
theorem vf_zip (f : Int → Int → Int) (h0 : f 0 0 = 0) {a b : List Int} (h : a.length = b.length) (i : Nat) : vf (List.zipWith f a b) i = f (vf a i) (vf b i) := by
  unfold vf
  rw [List.getD_eq_getElem?_getD, List.getD_eq_getElem?_getD, List.getD_eq_getElem?_getD, List.getElem?_zipWith]
  by_cases hi : i < a.length
  · rw [List.getElem?_eq_getElem hi, List.getElem?_eq_getElem (by omega)]; simp
  · rw [List.getElem?_eq_none (by omega), List.getElem?_eq_none (by omega)]; simp [h0]
theorem lessL_len {r l : List Int} {n : Int} (h : r.length = l.length) : (lessL r l n).length = r.length := by
  unfold lessL
  rw [List.length_zipWith, List.length_map]; omega
theorem vf_less {r l : List Int} {n : Int} (h : r.length = l.length) (i : Nat) : vf (lessL r l n) i = vf r i - n * vf l i := by
  unfold lessL
  rw [vf_zip (fun x y => x - y) (by simp) (by rw [List.length_map]; exact h), vf_map]
theorem vf_append (a b : List Int) (i : Nat) : vf (a ++ b) i = if i < a.length then vf a i else vf b (i - a.length) := by
  unfold vf
  by_cases h : i < a.length
  · rw [if_pos h, List.getD_eq_getElem?_getD, List.getD_eq_getElem?_getD, List.getElem?_append_left h]
  · rw [if_neg h, List.getD_eq_getElem?_getD, List.getD_eq_getElem?_getD, List.getElem?_append_right (by omega)]
theorem Wd.less {w N : Nat} {p l : Pr} (h : Wd w N p) (hl : Wd w N l) (n : Int) : Wd w N (lessT p l n) :=
  ⟨(lessL_len (h.1.trans hl.1.symm)).trans h.1, (lessL_len (h.2.trans hl.2.symm)).trans h.2⟩
theorem jv_less {w N : Nat} {p l : Pr} (h : Wd w N p) (hl : Wd w N l) (n : Int) : jv (lessT p l n) = fun i => jv p i - n * jv l i := by
  funext i
  unfold jv lessT
  simp only [vf_append, lessL_len (h.1.trans hl.1.symm), h.1, hl.1]
  by_cases hi : i < w
  · rw [if_pos hi, if_pos hi, if_pos hi, vf_less (h.1.trans hl.1.symm)]
  · rw [if_neg hi, if_neg hi, if_neg hi, vf_less (h.2.trans hl.2.symm)]
def at' (a : Nat) (p : Pr) : Int := vf p.1 a
theorem jv_at {w N : Nat} {p : Pr} (h : Wd w N p) {a : Nat} (ha : a < w) : jv p a = at' a p := by
  unfold jv at'
  rw [vf_append, if_pos (by rw [h.1]; exact ha)]
theorem at_less {w N : Nat} {p l : Pr} (h : Wd w N p) (hl : Wd w N l) (n : Int) {a : Nat} : at' a (lessT p l n) = at' a p - n * at' a l := vf_less (h.1.trans hl.1.symm) a

/-! ### one turn of brought_down -/
def bdLater (a : Nat) (some : List Pr) (lead : Pr) : List Pr := (some.filter fun u => decide (u ≠ lead)).map fun u => lessT u lead ((at' a u).fdiv (at' a lead))
def bdSome (a : Nat) (some : List Pr) (lead : Pr) : List Pr := lead :: (bdLater a some lead).filter fun u => decide (at' a u ≠ 0)
def bdRest (a : Nat) (some : List Pr) (lead : Pr) : List Pr := (bdLater a some lead).filter fun u => decide (at' a u = 0)
def sz (a : Nat) (l : List Pr) : Nat := (l.map fun u => (at' a u).natAbs).sum
section
variable {w N a : Nat} {some : List Pr} {lead : Pr}
theorem bd_wd (hw : ∀ u ∈ some, Wd w N u) (hl : lead ∈ some) : ∀ u ∈ bdLater a some lead, Wd w N u := by
  intro u hu
  obtain ⟨v, hv, rfl⟩ := List.mem_map.mp hu
  exact (hw v (List.mem_filter.mp hv).1).less (hw lead hl) _
theorem bd_all {u : Pr} : u ∈ bdSome a some lead ++ bdRest a some lead ↔ u = lead ∨ u ∈ bdLater a some lead := by
  unfold bdSome bdRest
  simp only [List.mem_append, List.mem_cons, List.mem_filter, decide_eq_true_eq]
  constructor
  · rintro ((h | h) | h)
    · exact .inl h
    · exact .inr h.1
    · exact .inr h.1
  · rintro (h | h)
    · exact .inl (.inl h)
    · by_cases e : at' a u = 0
      · exact .inr ⟨h, e⟩
      · exact .inl (.inr ⟨h, e⟩)
theorem bd_span1 (hw : ∀ u ∈ some, Wd w N u) (hl : lead ∈ some) : ∀ u ∈ some, Sp ((bdSome a some lead ++ bdRest a some lead).map jv) (jv u) := by
  intro u hu
  have ml : jv lead ∈ (bdSome a some lead ++ bdRest a some lead).map jv := List.mem_map_of_mem (bd_all.mpr (.inl rfl))
  by_cases e : u = lead
  · rw [e]; exact Sp.mem ml
  · have m2 : lessT u lead ((at' a u).fdiv (at' a lead)) ∈ bdLater a some lead := List.mem_map.mpr ⟨u, List.mem_filter.mpr ⟨hu, by simpa using e⟩, rfl⟩
    have m3 := Sp.mem (List.mem_map_of_mem (f := jv) (bd_all.mpr (.inr m2)))
    rw [jv_less (hw u hu) (hw lead hl)] at m3
    have := Sp.lin ((at' a u).fdiv (at' a lead)) (Sp.mem ml) m3
    refine (congrArg (Sp _) ?_).mp this
    funext i; omega
theorem bd_span2 (hw : ∀ u ∈ some, Wd w N u) (hl : lead ∈ some) : ∀ u ∈ bdSome a some lead ++ bdRest a some lead, Sp (some.map jv) (jv u) := by
  intro u hu
  have ml := Sp.mem (List.mem_map_of_mem (f := jv) hl)
  rcases bd_all.mp hu with rfl | h
  · exact ml
  · obtain ⟨v, hv, rfl⟩ := List.mem_map.mp h
    have hv' := (List.mem_filter.mp hv).1
    rw [jv_less (hw v hv') (hw lead hl)]
    have := Sp.lin (-(at' a v).fdiv (at' a lead)) ml (Sp.mem (List.mem_map_of_mem (f := jv) hv'))
    refine (congrArg (Sp _) ?_).mp this
    funext i; rw [Int.neg_mul]; omega
theorem bd_len (hl : lead ∈ some) : (bdSome a some lead).length + (bdRest a some lead).length ≤ some.length := by
  have h1 : (bdSome a some lead).length + (bdRest a some lead).length = 1 + (bdLater a some lead).length := by
    unfold bdSome bdRest
    generalize bdLater a some lead = l
    induction l with
    | nil => rfl
    | cons x l ih =>
      simp only [List.length_cons] at ih ⊢
      by_cases e : at' a x = 0
      · rw [List.filter_cons_of_neg (by simp [e]), List.filter_cons_of_pos (by simp [e])]
        simp only [List.length_cons]; omega
      · rw [List.filter_cons_of_pos (by simp [e]), List.filter_cons_of_neg (by simp [e])]
        simp only [List.length_cons]; omega
  rw [h1]
  unfold bdLater
  rw [List.length_map]
  have : ∀ l : List Pr, lead ∈ l → 1 + (l.filter fun u => decide (u ≠ lead)).length ≤ l.length := fun l => by
    induction l with
    | nil => intro h; cases h
    | cons x l ih =>
      intro h
      by_cases e : x = lead
      · rw [List.filter_cons_of_neg (by simp [e])]
        have := List.length_filter_le (fun u => decide (u ≠ lead)) l
        simp only [List.length_cons]; omega
      · rw [List.filter_cons_of_pos (by simp [e])]
        have := ih (by rcases List.mem_cons.mp h with h | h; exact absurd h.symm e; exact h)
        simp only [List.length_cons]; omega
  exact this some hl
theorem fmod_abs {x y : Int} (hy : y ≠ 0) : (x - x.fdiv y * y).natAbs < y.natAbs := by
  have e : x - x.fdiv y * y = x.fmod y := by
    have := Int.mul_fdiv_add_fmod x y
    rw [Int.mul_comm]; omega
  rw [e]
  rcases Int.lt_or_gt_of_ne hy with h | h
  · have h0 := Int.neg_fmod_neg x y
    have h1 := Int.fmod_nonneg_of_pos (-x) (show (0 : Int) < -y by omega)
    have h2 := Int.fmod_lt_of_pos (-x) (show (0 : Int) < -y by omega)
    omega
  · have h1 := Int.fmod_nonneg_of_pos x h
    have h2 := Int.fmod_lt_of_pos x h
    omega
end
end K8
set_option linter.all false
namespace K8
/-! how great the numbers of brought_down get -/
theorem fdiv_le (x : Int) {y : Int} (hy : y ≠ 0) : (x.fdiv y).natAbs ≤ x.natAbs / y.natAbs + 1 := by
  have h := fmod_abs (x := x) hy
  have h1 : (x.fdiv y * y).natAbs < x.natAbs + y.natAbs := by omega
  rw [Int.natAbs_mul] at h1
  have hp : 0 < y.natAbs := by omega
  have h2 : (x.fdiv y).natAbs * y.natAbs < (x.natAbs / y.natAbs + 2) * y.natAbs := by
    have := Nat.div_add_mod x.natAbs y.natAbs
    have h3 := Nat.mod_lt x.natAbs hp
    have h4 : (x.natAbs / y.natAbs + 2) * y.natAbs = y.natAbs * (x.natAbs / y.natAbs) + 2 * y.natAbs := by rw [Nat.add_mul, Nat.mul_comm]
    omega
  have := Nat.lt_of_mul_lt_mul_right h2
  omega
theorem fdiv_abs (x : Int) {y : Int} (hy : y ≠ 0) : (x.fdiv y).natAbs ≤ x.natAbs := by
  have h := fmod_abs (x := x) hy
  by_cases h1 : y.natAbs = 1
  · have hr : x - x.fdiv y * y = 0 := by omega
    have : x.natAbs = (x.fdiv y).natAbs * y.natAbs := by rw [← Int.natAbs_mul]; congr 1; omega
    rw [h1] at this
    omega
  · by_cases hx : x = 0
    · subst hx; simp
    · have h2 := fdiv_le x hy
      have h3 : x.natAbs / y.natAbs ≤ x.natAbs / 2 := Nat.div_le_div_left (by omega) (by omega)
      have : x.natAbs / 2 + 1 ≤ x.natAbs ∨ x.natAbs = 1 := by omega
      rcases this with h4 | h4
      · omega
      · rw [h4] at h3 ⊢
        rw [h4] at h2
        omega
theorem fdiv_same {s x y : Int} (hs : s = 1 ∨ s = -1) (hx : 0 < s * x) (hy : 0 < s * y) : (x.fdiv y).natAbs ≤ x.natAbs / y.natAbs ∧ 0 ≤ x.fdiv y ∧ 0 ≤ s * (x - x.fdiv y * y) := by
  have key : ∀ x y : Int, 0 < x → 0 < y → (x.fdiv y).natAbs ≤ x.natAbs / y.natAbs ∧ 0 ≤ x.fdiv y ∧ 0 ≤ x - x.fdiv y * y := fun x y hx hy => by
    have h1 := Int.mul_fdiv_add_fmod x y
    have h2 := Int.fmod_nonneg_of_pos x hy
    have h3 : 0 ≤ x.fdiv y := by
      rw [Int.fdiv_eq_ediv_of_nonneg x (by omega)]
      exact Int.ediv_nonneg (by omega) (by omega)
    refine ⟨?_, h3, by rw [Int.mul_comm]; omega⟩
    rw [Nat.le_div_iff_mul_le (by omega), ← Int.natAbs_mul, Int.mul_comm]
    have : 0 ≤ y * x.fdiv y := Int.mul_nonneg (by omega) h3
    omega
  rcases hs with rfl | rfl
  · have := key x y (by omega) (by omega)
    simpa using this
  · have := key (-x) (-y) (by omega) (by omega)
    have e : (-x).fdiv (-y) = x.fdiv y := by simp
    rw [e] at this
    obtain ⟨t1, t2, t3⟩ := this
    refine ⟨by simpa using t1, t2, ?_⟩
    have : x.fdiv y * -y = -(x.fdiv y * y) := Int.mul_neg ..
    omega
def EL (L : List Pr) (M : Nat) : Prop := ∀ u ∈ L, ∀ i, (jv u i).natAbs ≤ M
section
variable {w N a : Nat} {some : List Pr} {lead : Pr}
theorem bd_bound {M Q : Nat} (hw : ∀ u ∈ some, Wd w N u) (hl : lead ∈ some) (hM : EL some M) (hQ : ∀ u ∈ some, ((at' a u).fdiv (at' a lead)).natAbs ≤ Q) : EL (bdSome a some lead ++ bdRest a some lead) (M * (1 + Q)) := by
  intro u hu i
  have e1 : M * (1 + Q) = M + M * Q := by rw [Nat.mul_add, Nat.mul_one]
  rcases bd_all.mp hu with rfl | h
  · have := hM u hl i
    omega
  · obtain ⟨v, hv, rfl⟩ := List.mem_map.mp h
    have hv' := (List.mem_filter.mp hv).1
    rw [jv_less (hw v hv') (hw lead hl)]
    show (jv v i - _ * jv lead i).natAbs ≤ _
    have h1 := hM v hv' i
    have h2 : ((at' a v).fdiv (at' a lead) * jv lead i).natAbs ≤ M * Q := by
      rw [Int.natAbs_mul, Nat.mul_comm M Q]
      exact Nat.mul_le_mul (hQ v hv') (hM lead hl i)
    omega
def val (a : Nat) (u : Pr) : Nat := (at' a u).natAbs
def Phi (a φ : Nat) (some : List Pr) : Prop := ∃ (s : Int) (M A : Nat) (u0 : Pr), (s = 1 ∨ s = -1) ∧ u0 ∈ some ∧ (∀ u ∈ some, 0 < s * at' a u ∧ val a u ≤ A) ∧ EL some M ∧ M * (A * A * val a u0) ≤ φ
theorem bd_pick (h : 1 < (bdSome a some lead).length) : ∃ u ∈ some, lessT u lead ((at' a u).fdiv (at' a lead)) ∈ bdSome a some lead ∧ at' a (lessT u lead ((at' a u).fdiv (at' a lead))) ≠ 0 := by
  unfold bdSome at h ⊢
  cases e : (bdLater a some lead).filter fun u => decide (at' a u ≠ 0) with
  | nil => rw [e] at h; simp at h
  | cons x l =>
    have hx : x ∈ (bdLater a some lead).filter fun u => decide (at' a u ≠ 0) := by rw [e]; exact List.mem_cons_self ..
    obtain ⟨h1, h2⟩ := List.mem_filter.mp hx
    obtain ⟨v, hv, rfl⟩ := List.mem_map.mp h1
    exact ⟨v, (List.mem_filter.mp hv).1, List.mem_cons_of_mem _ (List.mem_cons_self ..), by simpa using h2⟩
theorem bd_some {u : Pr} (hu : u ∈ bdSome a some lead) : u = lead ∨ ∃ v ∈ some, u = lessT v lead ((at' a v).fdiv (at' a lead)) ∧ at' a u ≠ 0 := by
  unfold bdSome at hu
  rcases List.mem_cons.mp hu with h | h
  · exact .inl h
  · obtain ⟨h1, h2⟩ := List.mem_filter.mp h
    obtain ⟨v, hv, e⟩ := List.mem_map.mp h1
    exact .inr ⟨v, (List.mem_filter.mp hv).1, e.symm, by simpa using h2⟩
theorem sgn_val {s x : Int} (hs : s = 1 ∨ s = -1) (h : 0 < s * x) : (x.natAbs : Int) = s * x := by
  rcases hs with rfl | rfl <;> omega
theorem Phi.turn {φ : Nat} (P : Phi a φ some) (hw : ∀ u ∈ some, Wd w N u) (hl : lead ∈ some) (hm : ∀ u ∈ some, val a lead ≤ val a u) :
    EL (bdSome a some lead ++ bdRest a some lead) (2 * φ) ∧ (1 < (bdSome a some lead).length → Phi a φ (bdSome a some lead)) := by
  obtain ⟨s, M, A, u0, hs, hu0, hA, hM, hφ⟩ := P
  have lA := (hA lead hl).2
  have lp : 0 < val a lead := by
    have h1 := (hA lead hl).1
    unfold val
    rcases hs with rfl | rfl <;> omega
  have ln : at' a lead ≠ 0 := by unfold val at lp; omega
  have hlow : M * (A * A * val a lead) ≤ φ := Nat.le_trans (Nat.mul_le_mul_left _ (Nat.mul_le_mul_left _ (hm u0 hu0))) hφ
  have hq : ∀ u ∈ some, ((at' a u).fdiv (at' a lead)).natAbs ≤ A / val a lead := fun u hu =>
    Nat.le_trans (fdiv_same hs (hA u hu).1 (hA lead hl).1).1 (Nat.div_le_div_right (hA u hu).2)
  have bnd := bd_bound hw hl hM hq
  generalize hQ : A / val a lead = Q at hq bnd
  have Ql : Q * val a lead ≤ A := by rw [← hQ]; exact Nat.div_mul_le_self ..
  have Q1 : 1 ≤ Q := by
    rw [← hQ]; exact (Nat.one_le_div_iff lp).mpr lA
  have QA : Q ≤ A := Nat.le_trans (Nat.le_mul_of_pos_right _ lp) Ql
  have A1 : 1 ≤ A := Nat.le_trans lp lA
  refine ⟨fun u hu i => Nat.le_trans (bnd u hu i) ?_, fun hlen => ?_⟩
  · have h1 : M * (1 + Q) ≤ M * (2 * A) := Nat.mul_le_mul_left _ (by omega)
    have h2 : M * (2 * A) = 2 * (M * A) := by rw [← Nat.mul_assoc, Nat.mul_comm M 2, Nat.mul_assoc]
    have h3 : M * A ≤ M * (A * A * val a lead) := Nat.mul_le_mul_left _ (by
      calc A = A * 1 * 1 := by simp
        _ ≤ A * A * val a lead := Nat.mul_le_mul (Nat.mul_le_mul_left _ A1) lp)
    omega
  · obtain ⟨v, hv, hmem, hne⟩ := bd_pick hlen
    refine ⟨s, M * (1 + Q), val a lead, _, hs, hmem, fun u hu => ?_, fun u hu i => bnd u (List.mem_append_left _ hu) i, ?_⟩
    · rcases bd_some hu with rfl | ⟨v, hv, rfl, hne⟩
      · exact ⟨(hA u hl).1, Nat.le_refl _⟩
      · have e := at_less (hw v hv) (hw lead hl) ((at' a v).fdiv (at' a lead)) (a := a)
        have h3 := (fdiv_same hs (hA v hv).1 (hA lead hl).1).2.2
        have h4 := fmod_abs (x := at' a v) ln
        unfold val
        rw [← e] at h3 h4
        refine ⟨?_, by omega⟩
        rcases hs with rfl | rfl <;> omega
    · -- the potential does not grow
      have e := at_less (hw v hv) (hw lead hl) ((at' a v).fdiv (at' a lead)) (a := a)
      obtain ⟨f1, f2, f3⟩ := fdiv_same hs (hA v hv).1 (hA lead hl).1
      have f4 := fmod_abs (x := at' a v) ln
      rw [← e] at f3 f4
      generalize hr : val a (lessT v lead ((at' a v).fdiv (at' a lead))) = r
      have rl : r < val a lead := by rw [← hr]; unfold val; exact f4
      have main : (1 + Q) * (val a lead * r) ≤ A * A := by
        by_cases Q2 : 2 ≤ Q
        · calc (1 + Q) * (val a lead * r) ≤ (Q * Q) * (val a lead * val a lead) := Nat.mul_le_mul (by
                have : Q * 2 ≤ Q * Q := Nat.mul_le_mul_left _ Q2
                omega) (Nat.mul_le_mul_left _ (Nat.le_of_lt rl))
            _ = (Q * val a lead) * (Q * val a lead) := by
                rw [Nat.mul_mul_mul_comm]
            _ ≤ A * A := Nat.mul_le_mul Ql Ql
        · have Qe : Q = 1 := by omega
          -- the remainder is the value less the lead's
          have qv : (at' a v).fdiv (at' a lead) = 1 := by
            have h1 := hq v hv
            rw [Qe] at h1
            have h0 : (at' a v).fdiv (at' a lead) ≠ 0 := fun z => by
              rw [z, Int.zero_mul, Int.sub_zero] at e
              rw [z] at f4
              rw [e] at f4
              have := hm v hv
              unfold val at this
              omega
            omega
          have rA : r + val a lead ≤ A := by
            have h1 := (hA v hv).2
            have h5 := (hA v hv).1
            have h6 := (hA lead hl).1
            rw [qv] at e f3 hr
            unfold val at h1 hr ⊢
            rcases hs with rfl | rfl <;> omega
          rw [Qe]
          have h1 : (r + val a lead) * (r + val a lead) ≤ A * A := Nat.mul_le_mul rA rA
          have h2 : (r + val a lead) * (r + val a lead) = r * r + val a lead * val a lead + 2 * (val a lead * r) := by
            rw [Nat.add_mul, Nat.mul_add, Nat.mul_add, Nat.mul_comm r (val a lead)]; omega
          omega
      calc M * (1 + Q) * (val a lead * val a lead * r) = M * (((1 + Q) * (val a lead * r)) * val a lead) := by
            rw [Nat.mul_assoc, Nat.mul_assoc, Nat.mul_assoc]
            congr 2
            rw [Nat.mul_comm (val a lead * r) (val a lead)]
        _ ≤ M * (A * A * val a lead) := Nat.mul_le_mul_left _ (Nat.mul_le_mul_right _ main)
        _ ≤ φ := hlow
theorem Phi.first {M0 : Nat} (hw : ∀ u ∈ some, Wd w N u) (ha : a < w) (hl : lead ∈ some) (hm : ∀ u ∈ some, val a lead ≤ val a u) (hn : ∀ u ∈ some, at' a u ≠ 0) (hM : EL some M0) :
    EL (bdSome a some lead ++ bdRest a some lead) (2 * (3 * M0 ^ 4)) ∧ (1 < (bdSome a some lead).length → Phi a (3 * M0 ^ 4) (bdSome a some lead)) := by
  have ln := hn lead hl
  have lp : 0 < val a lead := by unfold val; omega
  have vM : ∀ u ∈ some, val a u ≤ M0 := fun u hu => by
    have := hM u hu a
    rw [jv_at (hw u hu) ha] at this
    exact this
  have lM := vM lead hl
  have M1 : 1 ≤ M0 := Nat.le_trans lp lM
  have hq : ∀ u ∈ some, ((at' a u).fdiv (at' a lead)).natAbs ≤ M0 / val a lead + 1 := fun u hu =>
    Nat.le_trans (fdiv_le _ ln) (Nat.succ_le_succ (Nat.div_le_div_right (vM u hu)))
  have bnd := bd_bound hw hl hM hq
  generalize hQ : M0 / val a lead = Q at hq bnd
  have Ql : Q * val a lead ≤ M0 := by rw [← hQ]; exact Nat.div_mul_le_self ..
  have QM : Q ≤ M0 := Nat.le_trans (Nat.le_mul_of_pos_right _ lp) Ql
  have p4 : M0 ^ 4 = M0 * M0 * (M0 * M0) := by
    rw [show (4 : Nat) = 2 + 2 from rfl, Nat.pow_add, Nat.pow_two]
  have g1 : M0 ≤ M0 * M0 := Nat.le_mul_of_pos_left _ M1
  have g2 : M0 * M0 ≤ M0 * M0 * (M0 * M0) := Nat.le_mul_of_pos_right _ (Nat.mul_pos M1 M1)
  refine ⟨fun u hu i => Nat.le_trans (bnd u hu i) ?_, fun hlen => ?_⟩
  · have h1 : M0 * (1 + (Q + 1)) ≤ M0 * (3 * M0) := Nat.mul_le_mul_left _ (by omega)
    have h2 : M0 * (3 * M0) = 3 * (M0 * M0) := by rw [← Nat.mul_assoc, Nat.mul_comm M0 3, Nat.mul_assoc]
    rw [p4]; omega
  · obtain ⟨v, hv, hmem, hne⟩ := bd_pick hlen
    obtain ⟨s, hs, sl⟩ : ∃ s : Int, (s = 1 ∨ s = -1) ∧ 0 < s * at' a lead := by
      rcases Int.lt_or_gt_of_ne ln with h | h
      · exact ⟨-1, .inr rfl, by omega⟩
      · exact ⟨1, .inl rfl, by omega⟩
    refine ⟨s, M0 * (1 + (Q + 1)), val a lead, _, hs, hmem, fun u hu => ?_, fun u hu i => bnd u (List.mem_append_left _ hu) i, ?_⟩
    · rcases bd_some hu with rfl | ⟨v, hv, rfl, hne⟩
      · exact ⟨sl, Nat.le_refl _⟩
      · have e := at_less (hw v hv) (hw lead hl) ((at' a v).fdiv (at' a lead)) (a := a)
        have h4 := fmod_abs (x := at' a v) ln
        rw [← e] at h4
        refine ⟨?_, by unfold val; omega⟩
        -- the sign of the remainder
        have key : ∀ x y : Int, 0 < s * y → 0 ≤ s * (x - x.fdiv y * y) := fun x y hy => by
          have h1 := Int.mul_fdiv_add_fmod x y
          rw [Int.mul_comm y] at h1
          rcases hs with rfl | rfl
          · have h2 := Int.fmod_nonneg_of_pos x (show 0 < y by omega)
            omega
          · have h0 := Int.neg_fmod_neg x y
            have h2 := Int.fmod_nonneg_of_pos (-x) (show 0 < -y by omega)
            omega
        have h3 := key (at' a v) (at' a lead) sl
        rw [← e] at h3
        rcases hs with rfl | rfl <;> omega
    · have e := at_less (hw v hv) (hw lead hl) ((at' a v).fdiv (at' a lead)) (a := a)
      have f4 := fmod_abs (x := at' a v) ln
      rw [← e] at f4
      generalize hr : val a (lessT v lead ((at' a v).fdiv (at' a lead))) = r
      have rl : r < val a lead := by rw [← hr]; unfold val; exact f4
      have h1 : (1 + (Q + 1)) * val a lead ≤ 3 * M0 := by
        have : (1 + (Q + 1)) * val a lead = Q * val a lead + 2 * val a lead := by rw [show 1 + (Q + 1) = Q + 2 by omega, Nat.add_mul]
        omega
      have h2 : val a lead * r ≤ M0 * M0 := Nat.mul_le_mul lM (by omega)
      calc M0 * (1 + (Q + 1)) * (val a lead * val a lead * r) = M0 * ((1 + (Q + 1)) * val a lead) * (val a lead * r) := by
            rw [Nat.mul_assoc, Nat.mul_assoc, Nat.mul_assoc, Nat.mul_assoc]
        _ ≤ M0 * (3 * M0) * (M0 * M0) := Nat.mul_le_mul (Nat.mul_le_mul_left _ h1) h2
        _ = 3 * M0 ^ 4 := by
            rw [p4, ← Nat.mul_assoc M0 3, Nat.mul_comm M0 3, Nat.mul_assoc 3, Nat.mul_assoc 3]
/-- the sum of the sizes gets less -/
theorem bd_less (hw : ∀ u ∈ some, Wd w N u) (hl : lead ∈ some) (hm : ∀ u ∈ some, val a lead ≤ val a u) (hn : ∀ u ∈ some, at' a u ≠ 0) (h : 1 < some.length) : sz a (bdSome a some lead) < sz a some := by
  have ln := hn lead hl
  have lp : 0 < val a lead := by unfold val; omega
  have key : ∀ l : List Pr, (∀ u ∈ l, u ∈ some) → val a lead * (l.filter fun u => decide (u = lead)).length + sz a ((l.filter fun u => decide (u ≠ lead)).map fun u => lessT u lead ((at' a u).fdiv (at' a lead))) + (l.filter fun u => decide (u ≠ lead)).length ≤ sz a l := fun l => by
    induction l with
    | nil => intro _; simp [sz]
    | cons x l ih =>
      intro hs
      have ih' := ih fun u hu => hs u (List.mem_cons_of_mem _ hu)
      have hx := hs x (List.mem_cons_self ..)
      by_cases e : x = lead
      · rw [List.filter_cons_of_pos (by simp [e]), List.filter_cons_of_neg (by simp [e])]
        simp only [sz, List.map_cons, List.sum_cons, List.length_cons, Nat.mul_add, Nat.mul_one] at ih' ⊢
        rw [e]
        show _ ≤ val a lead + _
        omega
      · rw [List.filter_cons_of_neg (by simp [e]), List.filter_cons_of_pos (by simp [e])]
        have h1 := at_less (hw x hx) (hw lead hl) ((at' a x).fdiv (at' a lead)) (a := a)
        have h2 := fmod_abs (x := at' a x) ln
        have h3 := hm x hx
        rw [← h1] at h2
        simp only [sz, List.map_cons, List.sum_cons, List.length_cons] at ih' ⊢
        unfold val at h3
        omega
  have k := key some fun u hu => hu
  have cnt : (some.filter fun u => decide (u = lead)).length + (some.filter fun u => decide (u ≠ lead)).length = some.length := by
    clear k key h hm hn hl hw
    induction some with
    | nil => rfl
    | cons x l ih =>
      by_cases e : x = lead
      · rw [List.filter_cons_of_pos (by simp [e]), List.filter_cons_of_neg (by simp [e])]
        simp only [List.length_cons]; omega
      · rw [List.filter_cons_of_neg (by simp [e]), List.filter_cons_of_pos (by simp [e])]
        simp only [List.length_cons]; omega
  have c1 : 1 ≤ (some.filter fun u => decide (u = lead)).length := List.length_pos_of_mem (List.mem_filter.mpr ⟨hl, by simp⟩)
  have fl : ∀ l : List Pr, sz a (l.filter fun u => decide (at' a u ≠ 0)) ≤ sz a l := fun l => by
    induction l with
    | nil => exact Nat.le_refl _
    | cons x l ih =>
      by_cases e : at' a x = 0
      · rw [List.filter_cons_of_neg (by simp [e])]
        simp only [sz, List.map_cons, List.sum_cons] at ih ⊢; omega
      · rw [List.filter_cons_of_pos (by simp [e])]
        simp only [sz, List.map_cons, List.sum_cons] at ih ⊢; omega
  have f := fl (bdLater a some lead)
  unfold bdSome
  have e1 : sz a (lead :: (bdLater a some lead).filter fun u => decide (at' a u ≠ 0)) = val a lead + sz a ((bdLater a some lead).filter fun u => decide (at' a u ≠ 0)) := by
    simp only [sz, List.map_cons, List.sum_cons, val]
  rw [e1]
  have e2 : sz a (bdLater a some lead) = sz a ((some.filter fun u => decide (u ≠ lead)).map fun u => lessT u lead ((at' a u).fdiv (at' a lead))) := rfl
  generalize (some.filter fun u => decide (u = lead)).length = c at k cnt c1
  have hv : val a lead * c ≥ val a lead + (c - 1) := by
    cases c with
    | zero => omega
    | succ c =>
      have : c ≤ val a lead * c := Nat.le_mul_of_pos_left _ lp
      rw [Nat.mul_succ]; omega
  omega
end
end K8
set_option linter.all false
namespace K8
structure BdIn (a w N b M0 : Nat) (L : List Pr) : Prop where
  ne : L ≠ []
  wd : ∀ u ∈ L, Wd w N u
  nz : ∀ u ∈ L, at' a u ≠ 0
  aw : a < w
  el : EL L M0
  mb : M0 < 2 ^ b
  b9 : 4 * b + 3 ≤ 8000
  len : L.length ≤ 1000
structure BdOut (a w N M0 : Nat) (L : List Pr) (lead : Pr) (rest : List Pr) : Prop where
  wl : Wd w N lead
  wr : ∀ u ∈ rest, Wd w N u
  nz : at' a lead ≠ 0
  rz : ∀ u ∈ rest, at' a u = 0
  s1 : ∀ u ∈ L, Sp ((lead :: rest).map jv) (jv u)
  s2 : ∀ u ∈ lead :: rest, Sp (L.map jv) (jv u)
  len : rest.length + 1 ≤ L.length
  el : EL (lead :: rest) (2 * (3 * M0 ^ 4))
  one : L.length = 1 → L = [lead] ∧ rest = []
structure BDI (a w N M0 : Nat) (L0 L rest : List Pr) : Prop where
  ne : L ≠ []
  wd : ∀ u ∈ L, Wd w N u
  nz : ∀ u ∈ L, at' a u ≠ 0
  wr : ∀ u ∈ rest, Wd w N u
  rz : ∀ u ∈ rest, at' a u = 0
  s1 : ∀ u ∈ L0, Sp ((L ++ rest).map jv) (jv u)
  s2 : ∀ u ∈ L ++ rest, Sp (L0.map jv) (jv u)
  len : L.length + rest.length ≤ L0.length
  el : EL (L ++ rest) (2 * (3 * M0 ^ 4))
  st : (L = L0 ∧ rest = []) ∨ (1 < L.length → Phi a (3 * M0 ^ 4) L)
  one : L0.length = 1 → L = L0 ∧ rest = []
section
variable {a w N b M0 : Nat} {L0 L rest : List Pr}
theorem M0_le (h : 1 ≤ M0) : M0 ≤ 2 * (3 * M0 ^ 4) := by
  have : M0 ^ 1 ≤ M0 ^ 4 := Nat.pow_le_pow_right h (by decide)
  rw [Nat.pow_one] at this
  omega
theorem BdIn.M1 (h : BdIn a w N b M0 L) : 1 ≤ M0 := by
  obtain ⟨u, l, e⟩ := List.exists_cons_of_ne_nil h.ne
  have hu : u ∈ L := by rw [e]; exact List.mem_cons_self ..
  have h1 := h.el u hu a
  rw [jv_at (h.wd u hu) h.aw] at h1
  have := h.nz u hu
  omega
theorem BDI.start (h : BdIn a w N b M0 L) : BDI a w N M0 L L [] where
  ne := h.ne
  wd := h.wd
  nz := h.nz
  wr := fun _ h => nomatch h
  rz := fun _ h => nomatch h
  s1 := fun u hu => by rw [List.append_nil]; exact Sp.mem (List.mem_map_of_mem hu)
  s2 := fun u hu => by rw [List.append_nil] at hu; exact Sp.mem (List.mem_map_of_mem hu)
  len := Nat.le_refl _
  el := fun u hu i => by
    rw [List.append_nil] at hu
    exact Nat.le_trans (h.el u hu i) (M0_le h.M1)
  st := .inl ⟨rfl, rfl⟩
  one := fun _ => ⟨rfl, rfl⟩
theorem BDI.turn (h0 : BdIn a w N b M0 L0) (h : BDI a w N M0 L0 L rest) (hlen : 1 < L.length) {lead : Pr} (hl : lead ∈ L) (hm : ∀ u ∈ L, val a lead ≤ val a u) :
    BDI a w N M0 L0 (bdSome a L lead) (rest ++ bdRest a L lead) ∧ sz a (bdSome a L lead) < sz a L := by
  have both : EL (bdSome a L lead ++ bdRest a L lead) (2 * (3 * M0 ^ 4)) ∧ (1 < (bdSome a L lead).length → Phi a (3 * M0 ^ 4) (bdSome a L lead)) := by
    rcases h.st with ⟨rfl, rfl⟩ | hp
    · exact Phi.first h.wd h0.aw hl hm h.nz h0.el
    · exact (hp hlen).turn h.wd hl hm
  have mem : ∀ u, u ∈ bdSome a L lead ++ (rest ++ bdRest a L lead) → u ∈ bdSome a L lead ++ bdRest a L lead ∨ u ∈ rest := fun u hu => by
    simp only [List.mem_append] at hu ⊢
    rcases hu with h | h | h
    · exact .inl (.inl h)
    · exact .inr h
    · exact .inl (.inr h)
  have mem2 : ∀ u, (u ∈ bdSome a L lead ++ bdRest a L lead ∨ u ∈ rest) → u ∈ bdSome a L lead ++ (rest ++ bdRest a L lead) := fun u hu => by
    simp only [List.mem_append] at hu ⊢
    rcases hu with (h | h) | h
    · exact .inl h
    · exact .inr (.inr h)
    · exact .inr (.inl h)
  have wl := bd_wd h.wd hl (a := a)
  refine ⟨{ ne := by unfold bdSome; exact List.cons_ne_nil _ _, wd := fun u hu => ?_, nz := fun u hu => ?_, wr := fun u hu => ?_, rz := fun u hu => ?_, s1 := fun u hu => ?_, s2 := fun u hu => ?_, len := ?_, el := fun u hu i => ?_, st := .inr both.2, one := fun e => ?_ }, bd_less h.wd hl hm h.nz hlen⟩
  · rcases bd_all.mp (List.mem_append_left (bdRest a L lead) hu) with rfl | h'
    · exact h.wd u hl
    · exact wl u h'
  · rcases bd_some hu with rfl | ⟨v, _, _, hne⟩
    · exact h.nz u hl
    · exact hne
  · rcases List.mem_append.mp hu with h' | h'
    · exact h.wr u h'
    · exact wl u (List.mem_filter.mp h').1
  · rcases List.mem_append.mp hu with h' | h'
    · exact h.rz u h'
    · have := (List.mem_filter.mp h').2
      simpa using this
  · refine Sp.le (fun x hx => ?_) (h.s1 u hu)
    obtain ⟨v, hv, rfl⟩ := List.mem_map.mp hx
    rcases List.mem_append.mp hv with h' | h'
    · refine Sp.sub (fun y hy => ?_) (bd_span1 (a := a) h.wd hl v h')
      obtain ⟨z, hz, rfl⟩ := List.mem_map.mp hy
      exact List.mem_map_of_mem (mem2 z (.inl hz))
    · exact Sp.mem (List.mem_map_of_mem (mem2 v (.inr h')))
  · rcases mem u hu with h' | h'
    · refine Sp.le (fun x hx => ?_) (bd_span2 (a := a) h.wd hl u h')
      obtain ⟨v, hv, rfl⟩ := List.mem_map.mp hx
      exact h.s2 v (List.mem_append_left _ hv)
    · exact h.s2 u (List.mem_append_right _ h')
  · have := bd_len (a := a) hl
    have := h.len
    rw [List.length_append]; omega
  · rcases mem u hu with h' | h'
    · exact both.1 u h' i
    · exact h.el u (List.mem_append_right _ h') i
  · have := h.len
    omega
theorem BDI.fin {lead : Pr} (h : BDI a w N M0 L0 [lead] rest) : BdOut a w N M0 L0 lead rest where
  wl := h.wd lead (List.mem_cons_self ..)
  wr := h.wr
  nz := h.nz lead (List.mem_cons_self ..)
  rz := h.rz
  s1 := h.s1
  s2 := h.s2
  len := by have := h.len; simp at this; omega
  el := h.el
  one := fun e => ⟨(h.one e).1.symm, (h.one e).2⟩
theorem BDI.bits (h0 : BdIn a w N b M0 L0) : 2 * (3 * M0 ^ 4) < 2 ^ (4 * b + 3) := by
  have h1 : M0 ^ 4 < (2 ^ b) ^ 4 := Nat.pow_lt_pow_left h0.mb (by decide)
  rw [← Nat.pow_mul, Nat.mul_comm b 4] at h1
  rw [Nat.pow_add]
  omega
end
end K8
set_option linter.all false
namespace K8
def gr : Nat → Nat → Nat
  | 0, b => b
  | k + 1, b => 4 * gr k b + 3
theorem gr_le {k j : Nat} (h : k ≤ j) (b : Nat) : gr k b ≤ gr j b := by
  induction h with
  | refl => exact Nat.le_refl _
  | @step m _ ih =>
    show gr k b ≤ 4 * gr m b + 3
    omega
theorem gr_add (k j b : Nat) : gr k (gr j b) = gr (k + j) b := by
  induction k with
  | zero => rw [Nat.zero_add]; rfl
  | succ k ih => rw [show k + 1 + j = (k + j) + 1 by omega]; unfold gr; rw [ih]
def negT (p : Pr) : Pr := (p.1.map (-1 * ·), p.2.map (-1 * ·))
theorem jv_neg (p : Pr) : jv (negT p) = fun i => -1 * jv p i := by
  funext i
  unfold jv negT
  simp only [vf_append, List.length_map, vf_map]
  by_cases h : i < p.1.length <;> simp [h]
theorem Wd.neg {w N : Nat} {p : Pr} (h : Wd w N p) : Wd w N (negT p) := ⟨by unfold negT; simp [h.1], by unfold negT; simp [h.2]⟩
theorem at_neg (a : Nat) (p : Pr) : at' a (negT p) = - at' a p := by
  unfold at' negT
  show vf (List.map _ _) a = _
  rw [vf_map]; omega
def BL (L : List Pr) (b : Nat) : Prop := ∀ u ∈ L, ∀ i, (jv u i).natAbs < 2 ^ b
theorem BL.up {L : List Pr} {b c : Nat} (h : BL L b) (hc : b ≤ c) : BL L c := fun u hu i => Nat.lt_of_lt_of_le (h u hu i) (Nat.pow_le_pow_right (by decide) hc)
structure SLI (w N b : Nat) (L0 : List Pr) (k : Nat) (found waiting : List Pr) : Prop where
  wf : ∀ u ∈ found, Wd w N u
  ww : ∀ u ∈ waiting, Wd w N u
  ech : Ech 0 k (found.map jv)
  wz : ∀ u ∈ waiting, ∀ j, j < k → jv u j = 0
  s1 : ∀ u ∈ L0, Sp ((found ++ waiting).map jv) (jv u)
  s2 : ∀ u ∈ found ++ waiting, Sp (L0.map jv) (jv u)
  len : found.length + waiting.length ≤ L0.length
  wb : BL waiting (gr (L0.length - waiting.length) b)
  fb : BL found (found.length * (gr (L0.length - 1) b + 1))
def ldOf (a : Nat) (lead : Pr) : Pr := if at' a lead < 0 then negT lead else lead
def flOf (a : Nat) (found : List Pr) (ld : Pr) : List Pr := found.map (fun u => lessT u ld ((at' a u).fdiv (at' a ld))) ++ [ld]
section
variable {w N b k : Nat} {L0 found waiting : List Pr}
theorem SLI.start (hw : ∀ u ∈ L0, Wd w N u) (hb : BL L0 b) : SLI w N b L0 0 [] L0 where
  wf := fun _ h => nomatch h
  ww := hw
  ech := Nat.le_refl _
  wz := fun _ _ _ h => absurd h (Nat.not_lt_zero _)
  s1 := fun u hu => Sp.mem (List.mem_map_of_mem hu)
  s2 := fun u hu => Sp.mem (List.mem_map_of_mem hu)
  len := by simp
  wb := by rw [Nat.sub_self]; exact hb
  fb := fun _ h => nomatch h
theorem SLI.skip (h : SLI w N b L0 k found waiting) (hk : k < w) (hz : ∀ u ∈ waiting, at' k u = 0) : SLI w N b L0 (k + 1) found waiting :=
  { h with
    ech := h.ech.up (Nat.le_succ k)
    wz := fun u hu j hj => by
      by_cases e : j = k
      · rw [e, jv_at (h.ww u hu) hk]; exact hz u hu
      · exact h.wz u hu j (by omega) }
theorem SLI.bdIn (h : SLI w N b L0 k found waiting) (hk : k < w) (hne : waiting.filter (fun u => decide (at' k u ≠ 0)) ≠ []) (h8 : gr L0.length b ≤ 8000) (hl : L0.length ≤ 40) :
    BdIn k w N (gr (L0.length - waiting.length) b) (2 ^ gr (L0.length - waiting.length) b - 1) (waiting.filter fun u => decide (at' k u ≠ 0)) where
  ne := hne
  wd := fun u hu => h.ww u (List.mem_filter.mp hu).1
  nz := fun u hu => by simpa using (List.mem_filter.mp hu).2
  aw := hk
  el := fun u hu i => Nat.le_sub_one_of_lt (h.wb u (List.mem_filter.mp hu).1 i)
  mb := by have := Nat.two_pow_pos (gr (L0.length - waiting.length) b); omega
  b9 := by
    have h1 : 1 ≤ waiting.length := by
      obtain ⟨u, l, e⟩ := List.exists_cons_of_ne_nil hne
      have : u ∈ waiting := (List.mem_filter.mp (by rw [e]; exact List.mem_cons_self ..)).1
      exact List.length_pos_of_mem this
    have h2 := h.len
    have h3 := gr_le (show (L0.length - waiting.length) + 1 ≤ L0.length by omega) b
    have h4 : gr ((L0.length - waiting.length) + 1) b = 4 * gr (L0.length - waiting.length) b + 3 := rfl
    omega
  len := by
    have h1 := List.length_filter_le (fun u => decide (at' k u ≠ 0)) waiting
    have h2 := h.len
    omega
theorem filter_split (k : Nat) (L : List Pr) : (L.filter fun u => decide (at' k u = 0)).length + (L.filter fun u => decide (at' k u ≠ 0)).length = L.length := by
  induction L with
  | nil => rfl
  | cons x l ih =>
    by_cases e : at' k x = 0
    · rw [List.filter_cons_of_pos (by simp [e]), List.filter_cons_of_neg (by simp [e])]
      simp only [List.length_cons]; omega
    · rw [List.filter_cons_of_neg (by simp [e]), List.filter_cons_of_pos (by simp [e])]
      simp only [List.length_cons]; omega
theorem SLI.turn (h : SLI w N b L0 k found waiting) (hk : k < w) {M0 : Nat} {lead : Pr} {rest : List Pr} (hne : waiting.filter (fun u => decide (at' k u ≠ 0)) ≠ [])
    (hM : M0 = 2 ^ gr (L0.length - waiting.length) b - 1) (o : BdOut k w N M0 (waiting.filter fun u => decide (at' k u ≠ 0)) lead rest) :
    SLI w N b L0 (k + 1) (flOf k found (ldOf k lead)) (waiting.filter (fun u => decide (at' k u = 0)) ++ rest) ∧ (∀ i, (jv (ldOf k lead) i).natAbs < 2 ^ gr (L0.length - 1) b) ∧ 0 < at' k (ldOf k lead) ∧ Wd w N (ldOf k lead) ∧ found.length < L0.length := by
  have hW1 : 1 ≤ waiting.length := by
    obtain ⟨u, l, e⟩ := List.exists_cons_of_ne_nil hne
    have : u ∈ waiting := (List.mem_filter.mp (by rw [e]; exact List.mem_cons_self ..)).1
    exact List.length_pos_of_mem this
  have hlen := h.len
  have hS := filter_split k waiting
  have hS1 : 1 ≤ (waiting.filter fun u => decide (at' k u ≠ 0)).length := List.length_pos_iff.mpr hne
  have hol := o.len
  -- the sizes of the lead and of the rest
  have sizes : BL (lead :: rest) (gr (L0.length - (waiting.filter (fun u => decide (at' k u = 0)) ++ rest).length) b) ∧ ∀ i, (jv lead i).natAbs < 2 ^ gr (L0.length - 1) b := by
    by_cases one : (waiting.filter fun u => decide (at' k u ≠ 0)).length = 1
    · obtain ⟨e1, e2⟩ := o.one one
      have hlw : lead ∈ waiting := (List.mem_filter.mp (show lead ∈ waiting.filter _ by rw [e1]; exact List.mem_cons_self ..)).1
      have hb := h.wb lead hlw
      subst e2
      refine ⟨fun u hu i => ?_, fun i => Nat.lt_of_lt_of_le (hb i) (Nat.pow_le_pow_right (by decide) (gr_le (by omega) b))⟩
      rw [List.mem_singleton.mp hu]
      refine Nat.lt_of_lt_of_le (hb i) (Nat.pow_le_pow_right (by decide) (gr_le ?_ b))
      rw [List.append_nil]; omega
    · have hbits : 2 * (3 * M0 ^ 4) < 2 ^ gr (L0.length - waiting.length + 1) b := by
        have hm : M0 < 2 ^ gr (L0.length - waiting.length) b := by have := Nat.two_pow_pos (gr (L0.length - waiting.length) b); omega
        have h1 : M0 ^ 4 < (2 ^ gr (L0.length - waiting.length) b) ^ 4 := Nat.pow_lt_pow_left hm (by decide)
        rw [← Nat.pow_mul, Nat.mul_comm _ 4] at h1
        show _ < 2 ^ (4 * gr (L0.length - waiting.length) b + 3)
        rw [Nat.pow_add]
        omega
      refine ⟨fun u hu i => ?_, fun i => ?_⟩
      · refine Nat.lt_of_lt_of_le (Nat.lt_of_le_of_lt (o.el u hu i) hbits) (Nat.pow_le_pow_right (by decide) (gr_le ?_ b))
        rw [List.length_append]; omega
      · refine Nat.lt_of_lt_of_le (Nat.lt_of_le_of_lt (o.el lead (List.mem_cons_self ..) i) hbits) (Nat.pow_le_pow_right (by decide) (gr_le ?_ b))
        omega
  -- the lead, made positive
  have ldw : Wd w N (ldOf k lead) := by unfold ldOf; split; exact o.wl.neg; exact o.wl
  have ldp : 0 < at' k (ldOf k lead) := by
    unfold ldOf
    have := o.nz
    split
    · rw [at_neg]; omega
    · omega
  have ldj : ∃ c : Int, (c = 1 ∨ c = -1) ∧ jv (ldOf k lead) = fun i => c * jv lead i := by
    unfold ldOf
    split
    · exact ⟨-1, .inr rfl, jv_neg lead⟩
    · exact ⟨1, .inl rfl, by funext i; simp⟩
  obtain ⟨c, hc, ej⟩ := ldj
  have ldb : ∀ i, (jv (ldOf k lead) i).natAbs < 2 ^ gr (L0.length - 1) b := fun i => by
    rw [ej]
    have := sizes.2 i
    rcases hc with rfl | rfl
    · simpa using this
    · simpa using this
  have lz : ∀ u ∈ lead :: rest, ∀ j, j < k → jv u j = 0 := fun u hu j hj => Sp.at0 (fun v hv => by
    obtain ⟨z, hz, rfl⟩ := List.mem_map.mp hv
    exact h.wz z (List.mem_filter.mp hz).1 j hj) (o.s2 u hu)
  have ldl : Lead (jv (ldOf k lead)) k := by
    refine ⟨fun j hj => ?_, ?_⟩
    · rw [ej]
      show c * jv lead j = 0
      rw [lz lead (List.mem_cons_self ..) j hj]; simp
    · rw [jv_at ldw hk]; omega
  have memld : jv (ldOf k lead) ∈ (flOf k found (ldOf k lead) ++ (waiting.filter (fun u => decide (at' k u = 0)) ++ rest)).map jv := by
    refine List.mem_map_of_mem (List.mem_append_left _ ?_)
    unfold flOf
    exact List.mem_append_right _ (List.mem_cons_self ..)
  have flw : ∀ u ∈ flOf k found (ldOf k lead), Wd w N u := fun u hu => by
    unfold flOf at hu
    rcases List.mem_append.mp hu with h1 | h1
    · obtain ⟨v, hv, rfl⟩ := List.mem_map.mp h1
      exact (h.wf v hv).less ldw _
    · rw [List.mem_singleton.mp h1]; exact ldw
  refine ⟨{ wf := flw, ww := fun u hu => ?_, ech := ?_, wz := fun u hu j hj => ?_, s1 := fun u hu => ?_, s2 := fun u hu => ?_, len := ?_, wb := fun u hu i => ?_, fb := fun u hu i => ?_ }, ldb, ldp, ldw, by omega⟩
  · rcases List.mem_append.mp hu with h1 | h1
    · exact h.ww u (List.mem_filter.mp h1).1
    · exact o.wr u h1
  · have := Ech.snoc (q := fun f => (f k).fdiv (jv (ldOf k lead) k)) ldl h.ech
    unfold flOf
    rw [List.map_append, List.map_map]
    rw [List.map_map] at this
    refine (congrArg (Ech 0 (k + 1)) ?_).mp this
    congr 1
    refine List.map_congr_left fun u hu => ?_
    show (fun i => jv u i - (jv u k).fdiv (jv (ldOf k lead) k) * jv (ldOf k lead) i) = jv (lessT u (ldOf k lead) _)
    rw [jv_less (h.wf u hu) ldw, jv_at (h.wf u hu) hk, jv_at ldw hk]
  · by_cases e : j = k
    · subst e
      rcases List.mem_append.mp hu with h1 | h1
      · rw [jv_at (h.ww u (List.mem_filter.mp h1).1) hk]
        simpa using (List.mem_filter.mp h1).2
      · rw [jv_at (o.wr u h1) hk]; exact o.rz u h1
    · rcases List.mem_append.mp hu with h1 | h1
      · exact h.wz u (List.mem_filter.mp h1).1 j (by omega)
      · exact lz u (List.mem_cons_of_mem _ h1) j (by omega)
  · refine Sp.le (fun x hx => ?_) (h.s1 u hu)
    obtain ⟨v, hv, rfl⟩ := List.mem_map.mp hx
    rcases List.mem_append.mp hv with h1 | h1
    · have m1 : lessT v (ldOf k lead) ((at' k v).fdiv (at' k (ldOf k lead))) ∈ flOf k found (ldOf k lead) := List.mem_append_left _ (List.mem_map.mpr ⟨v, h1, rfl⟩)
      have m2 := Sp.mem (List.mem_map_of_mem (f := jv) (List.mem_append_left (waiting.filter (fun u => decide (at' k u = 0)) ++ rest) m1))
      have := Sp.lin ((at' k v).fdiv (at' k (ldOf k lead))) (Sp.mem memld) m2
      refine (congrArg (Sp _) ?_).mp this
      funext i
      rw [jv_less (h.wf v h1) ldw]
      show _ + (_ - _) = _
      omega
    · by_cases e : at' k v = 0
      · exact Sp.mem (List.mem_map_of_mem (List.mem_append_right _ (List.mem_append_left _ (List.mem_filter.mpr ⟨h1, by simpa using e⟩))))
      · refine Sp.le (fun y hy => ?_) (o.s1 v (List.mem_filter.mpr ⟨h1, by simpa using e⟩))
        obtain ⟨z, hz, rfl⟩ := List.mem_map.mp hy
        rcases List.mem_cons.mp hz with rfl | hz
        · have := Sp.smul c (Sp.mem memld)
          refine (congrArg (Sp _) ?_).mp this
          funext i
          rw [ej]
          rcases hc with rfl | rfl
          · simp
          · show -1 * (-1 * jv z i) = jv z i
            omega
        · exact Sp.mem (List.mem_map_of_mem (List.mem_append_right _ (List.mem_append_right _ hz)))
  · have ldS : Sp (L0.map jv) (jv (ldOf k lead)) := by
      rw [ej]
      refine Sp.smul c (Sp.le (fun y hy => ?_) (o.s2 lead (List.mem_cons_self ..)))
      obtain ⟨z, hz, rfl⟩ := List.mem_map.mp hy
      exact h.s2 z (List.mem_append_right _ (List.mem_filter.mp hz).1)
    rcases List.mem_append.mp hu with h1 | h1
    · unfold flOf at h1
      rcases List.mem_append.mp h1 with h2 | h2
      · obtain ⟨v, hv, rfl⟩ := List.mem_map.mp h2
        rw [jv_less (h.wf v hv) ldw]
        have := Sp.lin (-(at' k v).fdiv (at' k (ldOf k lead))) ldS (h.s2 v (List.mem_append_left _ hv))
        refine (congrArg (Sp _) ?_).mp this
        funext i
        rw [Int.neg_mul]; omega
      · rw [List.mem_singleton.mp h2]; exact ldS
    · rcases List.mem_append.mp h1 with h2 | h2
      · exact h.s2 u (List.mem_append_right _ (List.mem_filter.mp h2).1)
      · refine Sp.le (fun y hy => ?_) (o.s2 u (List.mem_cons_of_mem _ h2))
        obtain ⟨z, hz, rfl⟩ := List.mem_map.mp hy
        exact h.s2 z (List.mem_append_right _ (List.mem_filter.mp hz).1)
  · unfold flOf
    simp only [List.length_append, List.length_map, List.length_cons, List.length_nil]
    omega
  · rcases List.mem_append.mp hu with h1 | h1
    · refine Nat.lt_of_lt_of_le (h.wb u (List.mem_filter.mp h1).1 i) (Nat.pow_le_pow_right (by decide) (gr_le ?_ b))
      rw [List.length_append]; omega
    · exact sizes.1 u (List.mem_cons_of_mem _ h1) i
  · have fl : (flOf k found (ldOf k lead)).length = found.length + 1 := by unfold flOf; simp
    rw [fl]
    unfold flOf at hu
    generalize hG : gr (L0.length - 1) b = G at ldb
    rcases List.mem_append.mp hu with h1 | h1
    · obtain ⟨v, hv, rfl⟩ := List.mem_map.mp h1
      rw [jv_less (h.wf v hv) ldw]
      have f1 := h.fb v hv i
      have f2 := h.fb v hv k
      rw [jv_at (h.wf v hv) hk] at f2
      rw [hG] at f1 f2
      have q : ((at' k v).fdiv (at' k (ldOf k lead))).natAbs ≤ (at' k v).natAbs := fdiv_abs _ (by omega)
      have l := ldb i
      have e1 : (found.length + 1) * (G + 1) = found.length * (G + 1) + G + 1 := by rw [Nat.add_mul]; omega
      rw [e1, Nat.pow_succ, Nat.pow_add]
      generalize 2 ^ (found.length * (G + 1)) = F at f1 f2
      generalize 2 ^ G = g at l
      show (jv v i - (at' k v).fdiv (at' k (ldOf k lead)) * jv (ldOf k lead) i).natAbs < F * g * 2
      have p : ((at' k v).fdiv (at' k (ldOf k lead)) * jv (ldOf k lead) i).natAbs ≤ F * g := by
        rw [Int.natAbs_mul]
        exact Nat.mul_le_mul (by omega) (by omega)
      have : F ≤ F * g := Nat.le_mul_of_pos_right _ (by omega)
      omega
    · rw [List.mem_singleton.mp h1]
      refine Nat.lt_of_lt_of_le (ldb i) (Nat.pow_le_pow_right (by decide) ?_)
      rw [Nat.add_mul]; omega
end
end K8
set_option linter.all false
namespace K8
def wid (rs : List (List Int)) : Nat := (rs.head?.map List.length).getD 0
def unitL (i n : Nat) : List Int := (List.range n).map fun j => if j = i then 1 else 0
def initP (rs : List (List Int)) : List Pr := rs.zipIdx.map fun p => (p.1, unitL p.2 rs.length)
theorem unitL_len (i n : Nat) : (unitL i n).length = n := by unfold unitL; simp
theorem initP_len (rs : List (List Int)) : (initP rs).length = rs.length := by unfold initP; simp
theorem initP_wd {rs : List (List Int)} {w : Nat} (h : ∀ r ∈ rs, r.length = w) : ∀ u ∈ initP rs, Wd w rs.length u := by
  intro u hu
  obtain ⟨⟨r, i⟩, hp, rfl⟩ := List.mem_map.mp hu
  exact ⟨h r (List.fst_mem_of_mem_zipIdx hp), unitL_len _ _⟩
theorem unitL_vf (i n j : Nat) : vf (unitL i n) j = if j = i ∧ j < n then 1 else 0 := by
  by_cases h : j < n
  · rw [vf_lt (by rw [unitL_len]; exact h)]
    unfold unitL
    simp [h]
  · rw [vf_ge (by rw [unitL_len]; omega), if_neg (by omega)]
theorem initP_bl {rs : List (List Int)} {b : Nat} (hb : 1 ≤ b) (h : ∀ r ∈ rs, ∀ i, (vf r i).natAbs < 2 ^ b) : BL (initP rs) b := by
  intro u hu i
  obtain ⟨⟨r, k⟩, hp, rfl⟩ := List.mem_map.mp hu
  unfold jv
  rw [vf_append]
  split
  · exact h r (List.fst_mem_of_mem_zipIdx hp) i
  · rw [unitL_vf]
    have : 2 ^ 1 ≤ 2 ^ b := Nat.pow_le_pow_right (by decide) hb
    split <;> simp <;> omega
structure SlIn (rs : List (List Int)) (w b : Nat) : Prop where
  len : ∀ r ∈ rs, r.length = w
  b1 : 1 ≤ b
  bl : ∀ r ∈ rs, ∀ i, (vf r i).natAbs < 2 ^ b
  g : gr rs.length b ≤ 8000
  n : rs.length ≤ 40
  w : w ≤ 40
def cutW (w : Nat) (v : Vec) : Vec := fun i => if i < w then v i else 0
def shW (w : Nat) (v : Vec) : Vec := fun i => v (w + i)
theorem cutW_jv {w N : Nat} {u : Pr} (h : Wd w N u) : cutW w (jv u) = vf u.1 := by
  funext i
  unfold cutW jv
  by_cases hi : i < w
  · rw [if_pos hi, vf_append, if_pos (by rw [h.1]; exact hi)]
  · rw [if_neg hi, vf_ge (by rw [h.1]; omega)]
theorem shW_jv {w N : Nat} {u : Pr} (h : Wd w N u) : shW w (jv u) = vf u.2 := by
  funext i
  unfold shW jv
  rw [vf_append, if_neg (by rw [h.1]; omega), h.1, Nat.add_sub_cancel_left]
theorem Sp.cutW {L : List Vec} {v : Vec} (w : Nat) (h : Sp L v) : Sp (L.map (cutW w)) (cutW w v) :=
  Sp.map (by funext i; simp [K8.cutW]) (fun c v x => by funext i; simp only [K8.cutW]; split <;> simp) h
theorem Sp.shW {L : List Vec} {v : Vec} (w : Nat) (h : Sp L v) : Sp (L.map (shW w)) (shW w v) :=
  Sp.map (by funext i; simp [K8.shW]) (fun c v x => by funext i; simp only [K8.shW]) h
theorem Sp.split : ∀ {A B : List Vec} {v : Vec}, Sp (A ++ B) v → ∃ a b, Sp A a ∧ Sp B b ∧ v = fun i => a i + b i
  | [], B, v, h => ⟨_, v, rfl, h, by funext i; simp⟩
  | f :: A, B, v, ⟨c, w, h, e⟩ => by
    obtain ⟨a, b, h1, h2, e2⟩ := Sp.split h
    refine ⟨fun i => c * f i + a i, b, ⟨c, a, h1, rfl⟩, h2, ?_⟩
    rw [e, e2]
    funext i
    simp only [Int.add_assoc]
theorem Lead.cut {v : Vec} {p w : Nat} (h : Lead v p) (hp : p < w) : Lead (cutW w v) p := by
  refine ⟨fun i hi => ?_, ?_⟩
  · unfold cutW; rw [if_pos (by omega)]; exact h.1 i hi
  · unfold cutW; rw [if_pos hp]; exact h.2
theorem Ech.cut {w : Nat} : ∀ {lo hi : Nat} {L : List Vec}, Ech lo hi L → hi ≤ w → Ech lo hi (L.map (cutW w))
  | lo, hi, [], h, _ => h
  | lo, hi, f :: fs, ⟨p, h1, h2, h3, h4⟩, hw => ⟨p, h1, h2, h3.cut (by omega), Ech.cut h4 hw⟩
section
variable {w b : Nat} {rs : List (List Int)} {found waiting : List Pr}
theorem SLI.rowEch (h : SLI w rs.length b (initP rs) w found waiting) : Ech 0 w (found.map fun u => vf u.1) := by
  have := h.ech.cut (Nat.le_refl w)
  rw [List.map_map] at this
  refine (congrArg (Ech 0 w) (List.map_congr_left fun u hu => ?_)).mp this
  exact cutW_jv (h.wf u hu)
theorem SLI.row1 (hl : ∀ r ∈ rs, r.length = w) (h : SLI w rs.length b (initP rs) w found waiting) : ∀ r ∈ rs, Sp (found.map fun u => vf u.1) (vf r) := by
  intro r hr
  obtain ⟨i, hi, e⟩ := List.mem_iff_getElem.mp hr
  have hu : (r, unitL i rs.length) ∈ initP rs := List.mem_map.mpr ⟨(r, i), List.mem_iff_getElem?.mpr ⟨i, by rw [List.getElem?_zipIdx, List.getElem?_eq_getElem hi, e]; simp⟩, rfl⟩
  have := (h.s1 _ hu).cutW w
  rw [cutW_jv (initP_wd hl _ hu)] at this
  refine Sp.le (fun x hx => ?_) this
  obtain ⟨y, hy, rfl⟩ := List.mem_map.mp hx
  obtain ⟨v, hv, rfl⟩ := List.mem_map.mp hy
  rcases List.mem_append.mp hv with h1 | h1
  · rw [cutW_jv (h.wf v h1)]
    exact Sp.mem (List.mem_map_of_mem (f := fun u : Pr => vf u.1) h1)
  · have z : cutW w (jv v) = fun _ => 0 := by
      funext i
      unfold cutW
      split
      · exact h.wz v h1 i (by assumption)
      · rfl
    rw [z]; exact Sp.zero _
theorem SLI.row2 (hl : ∀ r ∈ rs, r.length = w) (h : SLI w rs.length b (initP rs) w found waiting) : ∀ u ∈ found, Sp (rs.map vf) (vf u.1) := by
  intro u hu
  have := (h.s2 u (List.mem_append_left _ hu)).cutW w
  rw [cutW_jv (h.wf u hu)] at this
  refine Sp.le (fun x hx => ?_) this
  obtain ⟨y, hy, rfl⟩ := List.mem_map.mp hx
  obtain ⟨v, hv, rfl⟩ := List.mem_map.mp hy
  rw [cutW_jv (initP_wd hl v hv)]
  obtain ⟨⟨r, i⟩, hp, rfl⟩ := List.mem_map.mp hv
  exact Sp.mem (List.mem_map_of_mem (List.fst_mem_of_mem_zipIdx hp))
end
/-- orthogonal to all that the rows are orthogonal to -/
def Orth (w : Nat) (rs : List (List Int)) (r : List Int) : Prop := ∀ x : Vec, (∀ u ∈ rs, dotn w (vf u) x = 0) → dotn w (vf r) x = 0
theorem held_iff {w w' b b' : Nat} {rs : List (List Int)} {r : List Int} {f1 w1 f2 w2 : List Pr} (hw' : rs ≠ [] → w' = w) (hw0 : w' ≤ w) (hl : ∀ u ∈ rs ++ [r], u.length = w)
    (h1 : SLI w' rs.length b (initP rs) w' f1 w1) (h2 : SLI w (rs ++ [r]).length b' (initP (rs ++ [r])) w f2 w2) : f2.length = f1.length ↔ Orth w rs r := by
  have hl1 : ∀ u ∈ rs, u.length = w' := fun u hu => by
    rw [hw' (List.ne_nil_of_mem hu)]
    exact hl u (List.mem_append_left _ hu)
  have e1 := h1.rowEch.up hw0
  have e2 := h2.rowEch
  have := rank_same (n := w) (R := rs.map vf) (r := vf r) (Nat.le_refl w) e1 e2 (fun u hu => ?_) (fun u hu => ?_) (fun u hu => ?_) (fun u hu => ?_)
  · rw [List.length_map, List.length_map] at this
    rw [this]
    unfold Orth
    constructor
    · intro h x hx
      exact h x fun u hu => by obtain ⟨v, hv, rfl⟩ := List.mem_map.mp hu; exact hx v hv
    · intro h x hx
      exact h x fun u hu => hx _ (List.mem_map_of_mem hu)
  · obtain ⟨v, hv, rfl⟩ := List.mem_map.mp hu
    exact h1.row1 hl1 v hv
  · obtain ⟨v, hv, rfl⟩ := List.mem_map.mp hu
    exact h1.row2 hl1 v hv
  · have hu' : u ∈ (rs ++ [r]).map vf := by rw [List.map_append]; exact hu
    obtain ⟨v, hv, rfl⟩ := List.mem_map.mp hu'
    exact h2.row1 hl v hv
  · obtain ⟨v, hv, rfl⟩ := List.mem_map.mp hu
    have := h2.row2 hl v hv
    rw [List.map_append] at this
    exact this
/-! ### the frame -/
def colsOf (rs : List (List Int)) (n : Nat) : List (List Int) := (List.range n).map fun i => rs.map fun r => vf r i
theorem colsOf_len (rs : List (List Int)) (n : Nat) : (colsOf rs n).length = n := by unfold colsOf; simp
theorem colsOf_get {rs : List (List Int)} {n i : Nat} (h : i < n) : (colsOf rs n)[i]? = some (rs.map fun r => vf r i) := by
  unfold colsOf
  rw [List.getElem?_map, List.getElem?_range h]; rfl
theorem vf_cols {rs : List (List Int)} {i j : Nat} (hj : j < rs.length) : vf (rs.map fun r => vf r i) j = vf rs[j] i := by
  rw [vf_lt (by rw [List.length_map]; exact hj)]
  simp
theorem comb (L : List Vec) (x : Vec) : ∀ m, m ≤ L.length → Sp L (fun j => dotn m x (fun i => (L.getD i fun _ => 0) j))
  | 0, _ => Sp.zero L
  | m + 1, h => by
    have h1 := comb L x m (by omega)
    have h2 : Sp L (L.getD m fun _ => 0) := by
      rw [List.getD_eq_getElem?_getD, List.getElem?_eq_getElem (by omega)]
      exact Sp.mem (List.getElem_mem _)
    have := Sp.lin (x m) h2 h1
    refine (congrArg (Sp L) ?_).mp this
    funext j
    simp only [dotn]
    omega
theorem dotn_unit (n t : Nat) (x : Vec) (c : Int) : ∀ m, dotn m x (fun i => if i = t then c else 0) = if t < m then x t * c else 0 := fun m => by
  induction m with
  | zero => simp [dotn]
  | succ m ih =>
    simp only [dotn, ih]
    by_cases e : m = t
    · subst e
      rw [if_neg (Nat.lt_irrefl _), if_pos rfl, if_pos (Nat.lt_succ_self _)]; omega
    · rw [if_neg e]
      by_cases h : t < m
      · rw [if_pos h, if_pos (by omega)]; omega
      · rw [if_neg h, if_neg (by omega)]; omega
section
variable {n b : Nat} {rs : List (List Int)} {found waiting : List Pr}
/-- what the waiting say -/
theorem frame_sound (h : SLI rs.length (colsOf rs n).length b (initP (colsOf rs n)) rs.length found waiting) : ∀ u ∈ waiting, ∀ r ∈ rs, dotn n (vf r) (vf u.2) = 0 := by
  intro u hu r hr
  obtain ⟨j, hj, rfl⟩ := List.mem_iff_getElem.mp hr
  have lw := initP_wd (rs := colsOf rs n) (w := rs.length) (fun c hc => by
    unfold colsOf at hc
    obtain ⟨i, _, rfl⟩ := List.mem_map.mp hc
    simp)
  have Q := Sp.prop (P := fun v => v j = dotn n (vf rs[j]) (shW rs.length v)) (by rw [dotn_comm]; simp only [shW]; exact (dotn_zero _ _).symm)
    (fun c v x hv hx => by
      have e : shW rs.length (fun i => c * v i + x i) = fun i => c * shW rs.length v i + shW rs.length x i := rfl
      rw [e, dotn_linr, ← hv, ← hx]) (L := (initP (colsOf rs n)).map jv) (fun v hv => by
      obtain ⟨p, hp, rfl⟩ := List.mem_map.mp hv
      have wp := lw p hp
      rw [shW_jv wp, jv_at wp hj]
      obtain ⟨⟨c, i⟩, hc, rfl⟩ := List.mem_map.mp hp
      obtain ⟨hi, e⟩ := List.mem_zipIdx' hc
      rw [colsOf_len] at hi
      have e' : c = rs.map fun r => vf r i := by
        have := colsOf_get (rs := rs) hi
        rw [List.getElem?_eq_getElem (by rw [colsOf_len]; exact hi)] at this
        rw [e]
        exact Option.some.inj this
      subst e'
      unfold at'
      show vf (rs.map fun r => vf r i) j = dotn n (vf rs[j]) (vf (unitL i (colsOf rs n).length))
      rw [vf_cols hj, dotn_congr (u' := vf rs[j]) (v' := fun t => if t = i then 1 else 0) (fun _ _ => rfl) (fun t ht => by
        rw [unitL_vf, colsOf_len]
        simp [ht]), dotn_unit n i, if_pos hi]
      simp) (h.s2 u (List.mem_append_right _ hu))
  have Q' : jv u j = dotn n (vf rs[j]) (shW rs.length (jv u)) := Q
  rw [shW_jv (h.ww u hu), h.wz u hu j hj] at Q'
  exact Q'.symm
/-- all that is orthogonal comes from the waiting -/
theorem frame_full (h : SLI rs.length (colsOf rs n).length b (initP (colsOf rs n)) rs.length found waiting) (x : Vec) (hx : ∀ r ∈ rs, dotn n (vf r) x = 0) (hz : ∀ i, n ≤ i → x i = 0) : Sp (waiting.map fun u => vf u.2) x := by
  have lw := initP_wd (rs := colsOf rs n) (w := rs.length) (fun c hc => by
    unfold colsOf at hc
    obtain ⟨i, _, rfl⟩ := List.mem_map.mp hc
    simp)
  have ln : ((initP (colsOf rs n)).map jv).length = n := by rw [List.length_map, initP_len, colsOf_len]
  have c0 := comb ((initP (colsOf rs n)).map jv) x n (Nat.le_of_eq ln.symm)
  -- what it is
  have gi : ∀ i, i < n → ((initP (colsOf rs n)).map jv).getD i (fun _ => 0) = jv (rs.map (fun r => vf r i), unitL i n) := fun i hi => by
    rw [List.getD_eq_getElem?_getD, List.getElem?_map]
    unfold initP
    rw [List.getElem?_map, List.getElem?_zipIdx, colsOf_get hi, colsOf_len]
    simp
  have wi : ∀ i, Wd rs.length n (rs.map (fun r => vf r i), unitL i n) := fun i => ⟨by simp, unitL_len i n⟩
  have cl : ∀ j, j < rs.length → dotn n x (fun i => ((initP (colsOf rs n)).map jv).getD i (fun _ => 0) j) = 0 := fun j hj => by
    rw [dotn_congr (u' := x) (v' := vf rs[j]) (fun _ _ => rfl) (fun i hi => by
      rw [gi i hi, jv_at (wi i) hj]
      unfold at'
      exact vf_cols hj), dotn_comm]
    exact hx _ (List.getElem_mem _)
  have cr : ∀ t, dotn n x (fun i => ((initP (colsOf rs n)).map jv).getD i (fun _ => 0) (rs.length + t)) = x t := fun t => by
    rw [dotn_congr (u' := x) (v' := fun i => if i = t then (if t < n then 1 else 0) else 0) (fun _ _ => rfl) (fun i hi => by
      rw [gi i hi]
      have := congrFun (shW_jv (wi i)) t
      unfold shW at this
      rw [this]
      show vf (unitL i n) t = _
      rw [unitL_vf]
      by_cases e : i = t
      · subst e; simp
      · rw [if_neg e, if_neg (fun z => e z.1.symm)]), dotn_unit n t]
    by_cases ht : t < n
    · rw [if_pos ht, if_pos ht]; simp
    · rw [if_neg ht, hz t (by omega)]
  have c1 := Sp.le (fun v hv => by
    obtain ⟨p, hp, rfl⟩ := List.mem_map.mp hv
    exact h.s1 p hp) c0
  rw [List.map_append] at c1
  obtain ⟨a, b', ha, hb, e⟩ := Sp.split c1
  have bz : ∀ j, j < rs.length → b' j = 0 := fun j hj => Sp.at0 (fun v hv => by
    obtain ⟨p, hp, rfl⟩ := List.mem_map.mp hv
    exact h.wz p hp j hj) hb
  have a0 := h.ech.nothing ha fun j hj => by
    have := congrFun e j
    rw [cl j hj, bz j hj] at this
    omega
  subst a0
  have := hb.shW rs.length
  have ex : shW rs.length b' = x := by
    funext t
    have := congrFun e (rs.length + t)
    rw [cr t] at this
    unfold shW
    simp at this
    exact this.symm
  rw [ex, List.map_map] at this
  refine (congrArg (fun L => Sp L x) (List.map_congr_left fun u hu => ?_)).mp this
  exact shW_jv (h.ww u hu)
end
/-- THE FRAME: it spans all the whole vectors to which the rows are orthogonal -/
structure Frm (n b : Nat) (rs fr : List (List Int)) : Prop where
  len : ∀ f ∈ fr, f.length = n
  orth : ∀ f ∈ fr, ∀ r ∈ rs, dotn n (vf r) (vf f) = 0
  full : ∀ x : Vec, (∀ r ∈ rs, dotn n (vf r) x = 0) → (∀ i, n ≤ i → x i = 0) → Sp (fr.map vf) x
  bits : ∀ f ∈ fr, ∀ i, (vf f i).natAbs < 2 ^ (n * (gr (n - 1) b + 1))
  few : fr.length ≤ n
theorem frm_of {n b w2 b2 : Nat} {rs : List (List Int)} {found waiting f2 w2' : List Pr} (h : SLI rs.length (colsOf rs n).length b (initP (colsOf rs n)) rs.length found waiting)
    (hw2 : waiting ≠ [] → w2 = n) (hb2 : b2 = gr (n - waiting.length) b) (h2 : SLI w2 (waiting.map (·.2)).length b2 (initP (waiting.map (·.2))) w2 f2 w2') : Frm n b rs (f2.map (·.1)) := by
  have hl2 : ∀ r ∈ waiting.map (·.2), r.length = w2 := fun r hr => by
    obtain ⟨u, hu, rfl⟩ := List.mem_map.mp hr
    rw [hw2 (List.ne_nil_of_mem hu), (h.ww u hu).2, colsOf_len]
  have ne2 : ∀ u ∈ f2, waiting ≠ [] := fun u hu e => by
    have h3 := h2.len
    rw [initP_len, List.length_map, e] at h3
    have := List.length_pos_of_mem hu
    rw [List.length_nil] at h3
    omega
  have nw := h.len
  rw [initP_len, colsOf_len] at nw
  have n2 := h2.len
  rw [initP_len, List.length_map] at n2
  refine ⟨fun f hf => ?_, fun f hf r hr => ?_, fun x hx hz => ?_, fun f hf i => ?_, by rw [List.length_map]; omega⟩
  · obtain ⟨u, hu, rfl⟩ := List.mem_map.mp hf
    rw [(h2.wf u hu).1, hw2 (ne2 u hu)]
  · obtain ⟨u, hu, rfl⟩ := List.mem_map.mp hf
    rw [dotn_comm]
    refine Sp.dot0 (fun v hv => ?_) (h2.row2 hl2 u hu)
    rw [List.map_map] at hv
    obtain ⟨z, hz, rfl⟩ := List.mem_map.mp hv
    rw [dotn_comm]
    exact frame_sound h z hz r hr
  · have h1 := frame_full h x hx hz
    rw [List.map_map]
    refine Sp.le (fun v hv => ?_) h1
    obtain ⟨z, hz, rfl⟩ := List.mem_map.mp hv
    exact h2.row1 hl2 _ (List.mem_map_of_mem hz)
  · obtain ⟨u, hu, rfl⟩ := List.mem_map.mp hf
    have h3 := h2.fb u hu
    have h4 := congrFun (cutW_jv (h2.wf u hu)) i
    have hW : 1 ≤ waiting.length := List.length_pos_iff.mpr (ne2 u hu)
    have e1 : gr ((initP (waiting.map (·.2))).length - 1) b2 = gr (n - 1) b := by
      rw [initP_len, List.length_map, hb2, gr_add]
      congr 1; omega
    rw [e1] at h3
    have le : f2.length * (gr (n - 1) b + 1) ≤ n * (gr (n - 1) b + 1) := Nat.mul_le_mul_right _ (by omega)
    rw [← h4]
    unfold cutW
    split
    · exact Nat.lt_of_lt_of_le (h3 i) (Nat.pow_le_pow_right (by decide) le)
    · simp [Nat.two_pow_pos]
end K8
set_option linter.all false
namespace K8
/-! Fourier-Motzkin with marks -/
abbrev Mk := List Int × List Int
/-- what lam makes of the rows, at place j -/
def FF (g : List (List Int)) (lam : Vec) (j : Nat) : Int := dotn g.length lam (fun i => vf (g.getD i []) j)
theorem FF_lin (g : List (List Int)) (c : Int) (a b : Vec) (j : Nat) : FF g (fun i => c * a i + b i) j = c * FF g a j + FF g b j := dotn_lin _ _ _ _ _
/-- nonneg, of the rows alone, nothing from place m on -/
structure Cone (g : List (List Int)) (m : Nat) (lam : Vec) : Prop where
  nn : ∀ i, 0 ≤ lam i
  sp : ∀ i, g.length ≤ i → lam i = 0
  z : ∀ j, m ≤ j → FF g lam j = 0
structure MkOk (g : List (List Int)) (m : Nat) (p : Mk) (lam : Vec) (α : Int) : Prop where
  c : Cone g m lam
  supp : ∀ i : Nat, lam i ≠ 0 ↔ (i : Int) ∈ p.2
  nat : ∀ z ∈ p.2, ∃ i : Nat, z = (i : Int)
  ne : p.2 ≠ []
  pos : 0 < α
  row : ∀ j, j < m → FF g lam j = α * vf p.1 j
  len : p.1.length = m
def In (p : Mk) (lam : Vec) : Prop := ∀ i : Nat, (i : Int) ∈ p.2 → lam i ≠ 0
structure MI (g : List (List Int)) (m : Nat) (L : List Mk) : Prop where
  mks : ∀ p ∈ L, ∃ lam α, MkOk g m p lam α
  full : ∀ lam, Cone g m lam → (∃ i, lam i ≠ 0) → ∃ p ∈ L, In p lam
theorem argmin (a b : Nat → Int) : ∀ l : List Nat, l ≠ [] → (∀ i ∈ l, 0 < b i) → ∃ i0 ∈ l, ∀ i ∈ l, a i0 * b i ≤ a i * b i0
  | [], h, _ => absurd rfl h
  | [x], _, _ => ⟨x, by simp, by simp⟩
  | x :: y :: l, _, hb => by
    obtain ⟨i0, h1, h2⟩ := argmin a b (y :: l) (by simp) fun i hi => hb i (List.mem_cons_of_mem _ hi)
    have b0 := hb i0 (List.mem_cons_of_mem _ h1)
    have bx := hb x (List.mem_cons_self ..)
    by_cases c : a x * b i0 ≤ a i0 * b x
    · refine ⟨x, List.mem_cons_self .., fun i hi => ?_⟩
      rcases List.mem_cons.mp hi with rfl | hi
      · exact Int.le_refl _
      · have bi := hb i (List.mem_cons_of_mem _ hi)
        have h3 := h2 i hi
        have e1 : a x * b i * b i0 ≤ a i * b x * b i0 := by
          calc a x * b i * b i0 = (a x * b i0) * b i := by rw [Int.mul_assoc, Int.mul_comm (b i), ← Int.mul_assoc]
            _ ≤ (a i0 * b x) * b i := Int.mul_le_mul_of_nonneg_right c (by omega)
            _ = (a i0 * b i) * b x := by rw [Int.mul_assoc, Int.mul_comm (b x), ← Int.mul_assoc]
            _ ≤ (a i * b i0) * b x := Int.mul_le_mul_of_nonneg_right h3 (by omega)
            _ = a i * b x * b i0 := by rw [Int.mul_assoc, Int.mul_comm (b i0), ← Int.mul_assoc]
        exact Int.le_of_mul_le_mul_right e1 b0
    · refine ⟨i0, List.mem_cons_of_mem _ h1, fun i hi => ?_⟩
      rcases List.mem_cons.mp hi with rfl | hi
      · omega
      · exact h2 i hi
def cntN (lam : Vec) : Nat → Nat
  | 0 => 0
  | n + 1 => cntN lam n + if lam n ≠ 0 then 1 else 0
theorem cntN_lt {a b : Vec} (h : ∀ i, a i ≠ 0 → b i ≠ 0) {i0 : Nat} (h1 : a i0 = 0) (h2 : b i0 ≠ 0) : ∀ n, cntN a n ≤ cntN b n ∧ (i0 < n → cntN a n < cntN b n)
  | 0 => ⟨Nat.le_refl _, fun h => absurd h (Nat.not_lt_zero _)⟩
  | n + 1 => by
    obtain ⟨l1, l2⟩ := cntN_lt h h1 h2 n
    unfold cntN
    by_cases e : n = i0
    · subst e
      rw [if_neg (by simp [h1]), if_pos h2]
      exact ⟨by omega, fun _ => by omega⟩
    · have : (if a n ≠ 0 then 1 else 0) ≤ (if b n ≠ 0 then 1 else 0) := by
        by_cases z : a n = 0
        · rw [if_neg (by simp [z])]; exact Nat.zero_le _
        · rw [if_pos z, if_pos (h n z)]; exact Nat.le_refl _
      exact ⟨by omega, fun hi => by have := l2 (by omega); omega⟩
theorem pos_of_mul {a b : Int} (h : 0 < a * b) (ha : 0 ≤ a) : 0 < b := by
  rcases Int.lt_or_le 0 b with z | z
  · exact z
  · have := Int.mul_nonneg ha (show 0 ≤ -b by omega)
    rw [Int.mul_neg] at this
    omega
/-- the kept ones make all: a functional that is positive on those inside lam is positive on lam -/
theorem MI.gen {g : List (List Int)} {m : Nat} {L : List Mk} (M : MI g m L) (y : Vec) : ∀ (k : Nat) (lam : Vec), cntN lam g.length ≤ k → Cone g m lam → (∃ i, lam i ≠ 0) →
    (∀ p ∈ L, In p lam → 0 < dotn m (vf p.1) y) → 0 < dotn m (FF g lam) y
  | k, lam, hk, hc, hne, hp => by
    obtain ⟨p, hpL, hin⟩ := M.full lam hc hne
    obtain ⟨l', α, o⟩ := M.mks p hpL
    have hmark : p.2.map Int.toNat ≠ [] := by simp [o.ne]
    have mem : ∀ i, i ∈ p.2.map Int.toNat ↔ l' i ≠ 0 := fun i => by
      rw [o.supp]
      constructor
      · intro h
        obtain ⟨z, hz, rfl⟩ := List.mem_map.mp h
        obtain ⟨i, rfl⟩ := o.nat z hz
        simpa using hz
      · intro h
        exact List.mem_map.mpr ⟨(i : Int), h, by simp⟩
    have lpos : ∀ i, l' i ≠ 0 → 0 < l' i := fun i h => by have := o.c.nn i; omega
    obtain ⟨i0, hi0, hmin⟩ := argmin lam l' _ hmark fun i hi => lpos i ((mem i).mp hi)
    have b0 : 0 < l' i0 := lpos i0 ((mem i0).mp hi0)
    have a0 : lam i0 ≠ 0 := hin i0 ((o.supp i0).mp ((mem i0).mp hi0))
    have a0p : 0 < lam i0 := by have := hc.nn i0; omega
    -- what is left
    let r : Vec := fun i => l' i0 * lam i + (-(lam i0)) * l' i
    have rnn : ∀ i, 0 ≤ r i := fun i => by
      show 0 ≤ l' i0 * lam i + (-(lam i0)) * l' i
      rw [Int.neg_mul]
      by_cases z : l' i = 0
      · rw [z]
        have := Int.mul_nonneg (Int.le_of_lt b0) (hc.nn i)
        omega
      · have := hmin i ((mem i).mpr z)
        rw [Int.mul_comm (lam i)] at this
        omega
    have rc : Cone g m r := ⟨rnn, fun i hi => by show l' i0 * lam i + (-(lam i0)) * l' i = 0; rw [hc.sp i hi, o.c.sp i hi]; simp, fun j hj => by
      have e : FF g r j = l' i0 * FF g lam j + FF g (fun i => (-(lam i0)) * l' i) j := FF_lin g _ _ _ j
      have e2 : FF g (fun i => (-(lam i0)) * l' i) j = (-(lam i0)) * FF g l' j := by
        have := FF_lin g (-(lam i0)) l' (fun _ => 0) j
        simp only [Int.add_zero] at this
        rw [this]
        have : FF g (fun _ => 0) j = 0 := dotn_zero _ _
        omega
      rw [e, e2, hc.z j hj, o.c.z j hj]; simp⟩
    have r0 : r i0 = 0 := by show l' i0 * lam i0 + (-(lam i0)) * l' i0 = 0; rw [Int.neg_mul, Int.mul_comm]; omega
    have rs : ∀ i, r i ≠ 0 → lam i ≠ 0 := fun i h z => by
      apply h
      have h1 : 0 ≤ r i := rnn i
      have h2 : r i = -(lam i0 * l' i) := by show l' i0 * lam i + (-(lam i0)) * l' i = _; rw [z, Int.neg_mul]; simp
      have := Int.mul_nonneg (Int.le_of_lt a0p) (o.c.nn i)
      omega
    have i0g : i0 < g.length := by
      rcases Nat.lt_or_ge i0 g.length with h | h
      · exact h
      · exact absurd (hc.sp i0 h) a0
    have hcnt : cntN r g.length < cntN lam g.length := (cntN_lt rs r0 a0 g.length).2 i0g
    -- the functional
    have glin : dotn m (FF g r) y = l' i0 * dotn m (FF g lam) y + (-(lam i0)) * dotn m (FF g l') y := by
      have e : FF g r = fun j => l' i0 * FF g lam j + ((-(lam i0)) * FF g l' j + 0) := by
        funext j
        have e1 : FF g r j = l' i0 * FF g lam j + FF g (fun i => (-(lam i0)) * l' i) j := FF_lin g _ _ _ j
        have e2 := FF_lin g (-(lam i0)) l' (fun _ => 0) j
        simp only [Int.add_zero] at e2
        have : FF g (fun _ => 0) j = 0 := dotn_zero _ _
        rw [e1, e2, this]
      rw [e, dotn_lin, dotn_lin]
      have : dotn m (fun _ => 0) y = 0 := dotn_zero _ _
      omega
    have gl' : dotn m (FF g l') y = α * dotn m (vf p.1) y := by
      have : dotn m (FF g l') y = dotn m (fun j => α * vf p.1 j + 0) y := dotn_congr (fun j hj => by rw [o.row j hj]; simp) fun _ _ => rfl
      rw [this]
      have h2 := dotn_lin m α (vf p.1) (fun _ => 0) y
      have : dotn m (fun _ => 0) y = 0 := dotn_zero _ _
      rw [h2, this]; simp
    have pp : 0 < dotn m (FF g l') y := by rw [gl']; exact Int.mul_pos o.pos (hp p hpL hin)
    have rge : 0 ≤ dotn m (FF g r) y := by
      by_cases hr : ∃ i, r i ≠ 0
      · match k, hk with
        | 0, hk => omega
        | k + 1, hk => exact Int.le_of_lt (MI.gen M y k r (by omega) rc hr fun q hq hi => hp q hq fun i h => rs i (hi i h))
      · have : r = fun _ => 0 := by
          funext i
          exact Classical.byContradiction fun h => hr ⟨i, h⟩
        have e : FF g r = fun _ => 0 := by funext j; rw [this]; exact dotn_zero _ _
        rw [e, dotn_zero]; exact Int.le_refl _
    have q := Int.mul_pos a0p pp
    rw [Int.neg_mul] at glin
    have : 0 < l' i0 * dotn m (FF g lam) y := by omega
    exact pos_of_mul this (Int.le_of_lt b0)
/-- at the start each row is marked by its own place -/
def mk0 (g : List (List Int)) : List Mk := g.zipIdx.map fun p => (p.1, [(p.2 : Int)])
theorem FF_unit {g : List (List Int)} {i : Nat} (hi : i < g.length) (j : Nat) : FF g (fun t => if t = i then 1 else 0) j = vf g[i] j := by
  unfold FF
  rw [dotn_comm, dotn_unit g.length i, if_pos hi, List.getD_eq_getElem?_getD, List.getElem?_eq_getElem hi]
  simp
theorem MI.start {g : List (List Int)} {m : Nat} (hl : ∀ r ∈ g, r.length = m) : MI g m (mk0 g) where
  mks := fun p hp => by
    obtain ⟨⟨r, i⟩, hr, rfl⟩ := List.mem_map.mp hp
    obtain ⟨hi, e⟩ := List.mem_zipIdx' hr
    refine ⟨fun t => if t = i then 1 else 0, 1, ⟨⟨fun t => by show 0 ≤ (if t = i then (1 : Int) else 0); split <;> omega, fun t ht => by show (if t = i then (1 : Int) else 0) = 0; rw [if_neg (by omega)], fun j hj => ?_⟩, fun t => ?_, fun z hz => ⟨i, by simpa using hz⟩, by simp, by omega, fun j hj => ?_, ?_⟩⟩
    · rw [FF_unit hi, vf_ge]
      rw [hl _ (List.getElem_mem _)]; exact hj
    · by_cases h : t = i
      · subst h; simp
      · simp only [if_neg h]
        constructor
        · intro h'; exact absurd rfl h'
        · intro h'
          have : (t : Int) = (i : Int) := by simpa using h'
          exact absurd (by omega) h
    · rw [FF_unit hi, ← e]; simp
    · rw [e]; exact hl _ (List.getElem_mem _)
  full := fun lam hc ⟨i, hi⟩ => by
    have ig : i < g.length := by
      rcases Nat.lt_or_ge i g.length with h | h
      · exact h
      · exact absurd (hc.sp i h) hi
    refine ⟨(g[i], [(i : Int)]), List.mem_map.mpr ⟨(g[i], i), List.mem_iff_getElem?.mpr ⟨i, by rw [List.getElem?_zipIdx, List.getElem?_eq_getElem ig]; simp⟩, rfl⟩, fun t ht => ?_⟩
    have : (t : Int) = (i : Int) := by simpa using ht
    have : t = i := by omega
    rw [this]; exact hi
end K8
set_option linter.all false
namespace K8
/-- what is found when the place t is taken away -/
structure Fnd (t : Nat) (L Fd : List Mk) : Prop where
  from' : ∀ e ∈ Fd, e.1.length = t ∧ ((∃ p ∈ L, vf p.1 t = 0 ∧ (∀ z, z ∈ e.2 ↔ z ∈ p.2) ∧ ∀ j, j < t → vf e.1 j = vf p.1 j) ∨
    ∃ p ∈ L, ∃ q ∈ L, 0 < vf p.1 t ∧ vf q.1 t < 0 ∧ (∀ z, z ∈ e.2 ↔ z ∈ p.2 ∨ z ∈ q.2) ∧ ∃ by' : Int, 0 < by' ∧ ∀ j, j < t → by' * vf e.1 j = vf p.1 t * vf q.1 j - vf q.1 t * vf p.1 j)
  all0 : ∀ p ∈ L, vf p.1 t = 0 → ∃ e ∈ Fd, ∀ z, z ∈ e.2 ↔ z ∈ p.2
  allc : ∀ p ∈ L, ∀ q ∈ L, 0 < vf p.1 t → vf q.1 t < 0 → ∃ e ∈ Fd, ∀ z, z ∈ e.2 ↔ z ∈ p.2 ∨ z ∈ q.2
def Less (a b : List Int) : Prop := a.length < b.length ∧ ∀ z ∈ a, z ∈ b
theorem dotn_ek (m t : Nat) (v : Vec) (c : Int) (h : t < m) : dotn m v (fun i => if i = t then c else 0) = v t * c := by
  rw [dotn_unit m t, if_pos h]
theorem MI.step {g : List (List Int)} {t : Nat} {L Fd L' : List Mk} (M : MI g (t + 1) L) (F : Fnd t L Fd) (hk : ∀ e ∈ L', e ∈ Fd) (hk2 : ∀ e ∈ Fd, (¬ ∃ f ∈ Fd, Less f.2 e.2) → ∃ e' ∈ L', e'.2 = e.2) : MI g t L' where
  mks := fun e he => by
    have he1 := hk e he
    obtain ⟨hlen, h⟩ := F.from' e he1
    rcases h with ⟨p, hp, hz, hm, hr⟩ | ⟨p, hp, q, hq, h1, h2, hm, by', hb, hr⟩
    · obtain ⟨lam, α, o⟩ := M.mks p hp
      refine ⟨lam, α, ⟨⟨o.c.nn, o.c.sp, fun j hj => ?_⟩, fun i => by rw [o.supp, hm], fun z hz' => o.nat z ((hm z).mp hz'), fun hne => ?_, o.pos, fun j hj => by rw [o.row j (by omega), hr j hj], hlen⟩⟩
      · by_cases e' : j = t
        · rw [e', o.row t (by omega), hz]; simp
        · exact o.c.z j (by omega)
      · obtain ⟨z, l, e'⟩ := List.exists_cons_of_ne_nil o.ne
        have := (hm z).mpr (by rw [e']; exact List.mem_cons_self ..)
        rw [hne] at this; cases this
    · obtain ⟨lp, αp, op⟩ := M.mks p hp
      obtain ⟨lq, αq, oq⟩ := M.mks q hq
      have cp : 0 < αq * (-(vf q.1 t)) := Int.mul_pos oq.pos (by omega)
      have cq : 0 < αp * vf p.1 t := Int.mul_pos op.pos h1
      have lin : ∀ j, FF g (fun i => (αp * vf p.1 t) * lq i + (αq * (-(vf q.1 t))) * lp i) j = (αp * vf p.1 t) * FF g lq j + (αq * (-(vf q.1 t))) * FF g lp j := fun j => by
        have e1 := FF_lin g (αp * vf p.1 t) lq (fun i => (αq * (-(vf q.1 t))) * lp i) j
        have e2 := FF_lin g (αq * (-(vf q.1 t))) lp (fun _ => 0) j
        simp only [Int.add_zero] at e2
        have e3 : FF g (fun _ => 0) j = 0 := dotn_zero _ _
        rw [e1, e2, e3, Int.add_zero]
      have rw' : ∀ j, j < t + 1 → (αp * vf p.1 t) * FF g lq j + (αq * (-(vf q.1 t))) * FF g lp j = (αp * αq) * (vf p.1 t * vf q.1 j - vf q.1 t * vf p.1 j) := fun j hj => by
        rw [op.row j hj, oq.row j hj, Int.mul_sub]
        have a1 : αp * vf p.1 t * (αq * vf q.1 j) = αp * αq * (vf p.1 t * vf q.1 j) := by
          rw [Int.mul_assoc, Int.mul_assoc, ← Int.mul_assoc (vf p.1 t) αq, Int.mul_comm (vf p.1 t) αq, Int.mul_assoc]
        have a2 : αq * -(vf q.1 t) * (αp * vf p.1 j) = -(αp * αq * (vf q.1 t * vf p.1 j)) := by
          rw [Int.mul_neg, Int.neg_mul]
          congr 1
          rw [Int.mul_comm αp αq, Int.mul_assoc, Int.mul_assoc, ← Int.mul_assoc (vf q.1 t) αp, Int.mul_comm (vf q.1 t) αp, Int.mul_assoc]
        rw [a1, a2]; omega
      refine ⟨fun i => (αp * vf p.1 t) * lq i + (αq * (-(vf q.1 t))) * lp i, αp * αq * by', ⟨⟨fun i => ?_, fun i hi => ?_, fun j hj => ?_⟩, fun i => ?_, fun z hz => ?_, fun hne => ?_, Int.mul_pos (Int.mul_pos op.pos oq.pos) hb, fun j hj => ?_, hlen⟩⟩
      · have := Int.mul_nonneg (Int.le_of_lt cq) (oq.c.nn i)
        have := Int.mul_nonneg (Int.le_of_lt cp) (op.c.nn i)
        show 0 ≤ _ + _
        omega
      · show _ * lq i + _ * lp i = 0
        rw [op.c.sp i hi, oq.c.sp i hi]; simp
      · rw [lin]
        by_cases e' : j = t
        · rw [e', rw' t (by omega)]
          rw [Int.mul_comm (vf p.1 t) (vf q.1 t)]; simp
        · rw [op.c.z j (by omega), oq.c.z j (by omega)]; simp
      · rw [hm, ← op.supp, ← oq.supp]
        have n1 := Int.mul_nonneg (Int.le_of_lt cq) (oq.c.nn i)
        have n2 := Int.mul_nonneg (Int.le_of_lt cp) (op.c.nn i)
        constructor
        · intro h
          refine Classical.byContradiction fun hno => h ?_
          have z1 : lp i = 0 := Classical.byContradiction fun z => hno (.inl z)
          have z2 : lq i = 0 := Classical.byContradiction fun z => hno (.inr z)
          show _ * lq i + _ * lp i = 0
          rw [z1, z2]; simp
        · intro h hs
          have hs' : αp * vf p.1 t * lq i + αq * (-(vf q.1 t)) * lp i = 0 := hs
          rcases h with h | h
          · have : αq * (-(vf q.1 t)) * lp i = 0 := by omega
            rcases Int.mul_eq_zero.mp this with z | z
            · omega
            · exact h z
          · have : αp * vf p.1 t * lq i = 0 := by omega
            rcases Int.mul_eq_zero.mp this with z | z
            · omega
            · exact h z
      · rcases (hm z).mp hz with h | h
        · exact op.nat z h
        · exact oq.nat z h
      · obtain ⟨z, l, e'⟩ := List.exists_cons_of_ne_nil op.ne
        have := (hm z).mpr (.inl (by rw [e']; exact List.mem_cons_self ..))
        rw [hne] at this; cases this
      · rw [lin, rw' j (by omega), ← hr j hj, Int.mul_assoc (αp * αq)]
  full := fun lam hc hne => by
    have hc' : Cone g (t + 1) lam := ⟨hc.nn, hc.sp, fun j hj => hc.z j (by omega)⟩
    have gt : FF g lam t = 0 := hc.z t (Nat.le_refl _)
    -- one that is found, inside lam
    obtain ⟨e, he, hin⟩ : ∃ e ∈ Fd, In e lam := by
      by_cases h0 : ∃ p ∈ L, In p lam ∧ vf p.1 t = 0
      · obtain ⟨p, hp, hi, hz⟩ := h0
        obtain ⟨e, he, hm⟩ := F.all0 p hp hz
        exact ⟨e, he, fun i h => hi i ((hm _).mp h)⟩
      · by_cases hpos : ∃ p ∈ L, In p lam ∧ 0 < vf p.1 t
        · by_cases hneg : ∃ p ∈ L, In p lam ∧ vf p.1 t < 0
          · obtain ⟨p, hp, hi, h1⟩ := hpos
            obtain ⟨q, hq, hi2, h2⟩ := hneg
            obtain ⟨e, he, hm⟩ := F.allc p hp q hq h1 h2
            refine ⟨e, he, fun i h => ?_⟩
            rcases (hm _).mp h with h | h
            · exact hi i h
            · exact hi2 i h
          · exfalso
            have := M.gen (fun i => if i = t then 1 else 0) _ lam (Nat.le_refl _) hc' hne fun p hp hi => by
              rw [dotn_ek _ _ _ _ (Nat.lt_succ_self t), Int.mul_one]
              rcases Int.lt_trichotomy (vf p.1 t) 0 with h | h | h
              · exact absurd ⟨p, hp, hi, h⟩ hneg
              · exact absurd ⟨p, hp, hi, h⟩ h0
              · exact h
            rw [dotn_ek _ _ _ _ (Nat.lt_succ_self t), gt] at this
            simp at this
        · exfalso
          have := M.gen (fun i => if i = t then -1 else 0) _ lam (Nat.le_refl _) hc' hne fun p hp hi => by
            rw [dotn_ek _ _ _ _ (Nat.lt_succ_self t)]
            rcases Int.lt_trichotomy (vf p.1 t) 0 with h | h | h
            · omega
            · exact absurd ⟨p, hp, hi, h⟩ h0
            · exact absurd ⟨p, hp, hi, h⟩ hpos
          rw [dotn_ek _ _ _ _ (Nat.lt_succ_self t), gt] at this
          simp at this
    -- a shortest one is kept
    have key : ∀ n, ∀ e ∈ Fd, e.2.length ≤ n → In e lam → ∃ e' ∈ L', In e' lam := fun n => by
      induction n with
      | zero =>
        intro e he hl hi
        obtain ⟨e', h1, h2⟩ := hk2 e he fun ⟨f, _, hf⟩ => by
          have := hf.1
          omega
        exact ⟨e', h1, fun i h => hi i (by rw [← h2]; exact h)⟩
      | succ n ih =>
        intro e he hl hi
        by_cases h : ∃ f ∈ Fd, Less f.2 e.2
        · obtain ⟨f, hf, hl2⟩ := h
          exact ih f hf (by have := hl2.1; omega) fun i h => hi i (hl2.2 _ h)
        · obtain ⟨e', h1, h2⟩ := hk2 e he h
          exact ⟨e', h1, fun i h => hi i (by rw [← h2]; exact h)⟩
    exact key _ e he (Nat.le_refl _) hin
/-- the point: positive on all that is left makes positive on all combinations -/
theorem MI.comb {g : List (List Int)} {t : Nat} {L L' : List Mk} (M : MI g (t + 1) L) (M' : MI g t L') (y : Vec) (hy : ∀ e ∈ L', 0 < dotn t (vf e.1) y) {p q : Mk} (hp : p ∈ L) (hq : q ∈ L) (h1 : 0 < vf p.1 t) (h2 : vf q.1 t < 0) :
    0 < vf p.1 t * dotn t (vf q.1) y - vf q.1 t * dotn t (vf p.1) y := by
  obtain ⟨lp, αp, op⟩ := M.mks p hp
  obtain ⟨lq, αq, oq⟩ := M.mks q hq
  have cp : 0 < αq * (-(vf q.1 t)) := Int.mul_pos oq.pos (by omega)
  have cq : 0 < αp * vf p.1 t := Int.mul_pos op.pos h1
  let lam : Vec := fun i => (αp * vf p.1 t) * lq i + (αq * (-(vf q.1 t))) * lp i
  have lin : ∀ j, FF g lam j = (αp * vf p.1 t) * FF g lq j + (αq * (-(vf q.1 t))) * FF g lp j := fun j => by
    have e1 := FF_lin g (αp * vf p.1 t) lq (fun i => (αq * (-(vf q.1 t))) * lp i) j
    have e2 := FF_lin g (αq * (-(vf q.1 t))) lp (fun _ => 0) j
    simp only [Int.add_zero] at e2
    have e3 : FF g (fun _ => 0) j = 0 := dotn_zero _ _
    show FF g (fun i => (αp * vf p.1 t) * lq i + (αq * (-(vf q.1 t))) * lp i) j = _
    rw [e1, e2, e3, Int.add_zero]
  have rw' : ∀ j, j < t + 1 → FF g lam j = (αp * αq) * (vf p.1 t * vf q.1 j - vf q.1 t * vf p.1 j) := fun j hj => by
    rw [lin, op.row j hj, oq.row j hj, Int.mul_sub]
    have a1 : αp * vf p.1 t * (αq * vf q.1 j) = αp * αq * (vf p.1 t * vf q.1 j) := by
      rw [Int.mul_assoc, Int.mul_assoc, ← Int.mul_assoc (vf p.1 t) αq, Int.mul_comm (vf p.1 t) αq, Int.mul_assoc]
    have a2 : αq * -(vf q.1 t) * (αp * vf p.1 j) = -(αp * αq * (vf q.1 t * vf p.1 j)) := by
      rw [Int.mul_neg, Int.neg_mul]
      congr 1
      rw [Int.mul_comm αp αq, Int.mul_assoc, Int.mul_assoc, ← Int.mul_assoc (vf q.1 t) αp, Int.mul_comm (vf q.1 t) αp, Int.mul_assoc]
    rw [a1, a2]; omega
  have hc : Cone g t lam := ⟨fun i => by
      have := Int.mul_nonneg (Int.le_of_lt cq) (oq.c.nn i)
      have := Int.mul_nonneg (Int.le_of_lt cp) (op.c.nn i)
      show 0 ≤ _ + _
      omega, fun i hi => by
      show _ * lq i + _ * lp i = 0
      rw [op.c.sp i hi, oq.c.sp i hi]; simp, fun j hj => by
      by_cases e' : j = t
      · rw [e', rw' t (by omega), Int.mul_comm (vf p.1 t) (vf q.1 t)]; simp
      · rw [lin, op.c.z j (by omega), oq.c.z j (by omega)]; simp⟩
  have hne : ∃ i, lam i ≠ 0 := by
    obtain ⟨z, l, e'⟩ := List.exists_cons_of_ne_nil op.ne
    have hz : z ∈ p.2 := by rw [e']; exact List.mem_cons_self ..
    obtain ⟨i, rfl⟩ := op.nat z hz
    refine ⟨i, fun h => ?_⟩
    have h' : αp * vf p.1 t * lq i + αq * (-(vf q.1 t)) * lp i = 0 := h
    have n1 := Int.mul_nonneg (Int.le_of_lt cq) (oq.c.nn i)
    have n2 : 0 < αq * (-(vf q.1 t)) * lp i := Int.mul_pos cp (by have := op.c.nn i; have := (op.supp i).mpr hz; omega)
    omega
  have := M'.gen y _ lam (Nat.le_refl _) hc hne fun e he _ => hy e he
  have e1 : dotn t (FF g lam) y = (αp * αq) * (vf p.1 t * dotn t (vf q.1) y - vf q.1 t * dotn t (vf p.1) y) := by
    have : dotn t (FF g lam) y = dotn t (fun j => (αp * αq * vf p.1 t) * vf q.1 j + (αp * αq * (-(vf q.1 t))) * vf p.1 j) y := dotn_congr (fun j hj => by
      rw [rw' j (by omega)]
      simp only [Int.mul_sub, Int.mul_neg, Int.neg_mul, Int.mul_assoc]; omega) fun _ _ => rfl
    rw [this]
    have l1 := dotn_lin t (αp * αq * vf p.1 t) (vf q.1) (fun j => (αp * αq * (-(vf q.1 t))) * vf p.1 j) y
    have l2 := dotn_lin t (αp * αq * (-(vf q.1 t))) (vf p.1) (fun _ => 0) y
    simp only [Int.add_zero] at l2
    rw [l1, l2, dotn_zero]
    simp only [Int.mul_sub, Int.mul_neg, Int.neg_mul, Int.mul_assoc]; omega
  rw [e1] at this
  exact pos_of_mul this (Int.le_of_lt (Int.mul_pos op.pos oq.pos))
end K8
set_option linter.all false
namespace K8
def dotp (a b : List Int) : Int := (List.zipWith (· * ·) a b).sum
theorem dotn_cons (n : Nat) (u v : Vec) : dotn (n + 1) u v = u 0 * v 0 + dotn n (fun i => u (i + 1)) (fun i => v (i + 1)) := by
  induction n with
  | zero => simp [dotn]
  | succ n ih =>
    have e1 : dotn (n + 1 + 1) u v = dotn (n + 1) u v + u (n + 1) * v (n + 1) := rfl
    have e2 : dotn (n + 1) (fun i => u (i + 1)) (fun i => v (i + 1)) = dotn n (fun i => u (i + 1)) (fun i => v (i + 1)) + u (n + 1) * v (n + 1) := rfl
    rw [e1, ih, e2]; omega
theorem vf_cons (x : Int) (r : List Int) (i : Nat) : vf (x :: r) (i + 1) = vf r i := by unfold vf; simp
theorem dotp_eq : ∀ {a b : List Int} {n : Nat}, a.length = n → b.length = n → dotp a b = dotn n (vf a) (vf b)
  | [], [], _, rfl, _ => rfl
  | [], y :: b, _, rfl, h => by simp at h
  | x :: a, [], _, rfl, h => by simp at h
  | x :: a, y :: b, _, rfl, h => by
    have ih := dotp_eq (a := a) (b := b) rfl (by simpa using h)
    show (x * y :: List.zipWith (· * ·) a b).sum = _
    rw [List.sum_cons, List.length_cons, dotn_cons]
    have e : (List.zipWith (· * ·) a b).sum = dotp a b := rfl
    rw [e, ih]
    have e1 : (fun i => vf (x :: a) (i + 1)) = vf a := by funext i; exact vf_cons x a i
    have e2 : (fun i => vf (y :: b) (i + 1)) = vf b := by funext i; exact vf_cons y b i
    rw [e1, e2]
    rfl
theorem dotn_abs {u v : Vec} {A B : Nat} (hu : ∀ i, (u i).natAbs ≤ A) (hv : ∀ i, (v i).natAbs ≤ B) : ∀ n, (dotn n u v).natAbs ≤ n * (A * B)
  | 0 => by simp [dotn]
  | n + 1 => by
    have h1 := dotn_abs hu hv n
    have h2 : (u n * v n).natAbs ≤ A * B := by rw [Int.natAbs_mul]; exact Nat.mul_le_mul (hu n) (hv n)
    have e : dotn (n + 1) u v = dotn n u v + u n * v n := rfl
    rw [e, Nat.add_mul, Nat.one_mul]
    omega
def absS (u : Vec) : Nat → Int
  | 0 => 0
  | n + 1 => absS u n + ((u n).natAbs : Int)
theorem absS_nn (u : Vec) : ∀ n, 0 ≤ absS u n
  | 0 => Int.le_refl _
  | n + 1 => by have := absS_nn u n; unfold absS; omega
theorem absS_le {u : Vec} {A : Nat} (hu : ∀ i, (u i).natAbs ≤ A) : ∀ n : Nat, absS u n ≤ (n * A : Nat)
  | 0 => by simp [absS]
  | n + 1 => by
    have h1 := absS_le hu n
    have h2 := hu n
    unfold absS
    rw [Nat.add_mul, Nat.one_mul]
    omega
theorem low_terms {u : Vec} {n : Int} (hn : 1 ≤ n) : ∀ t : Nat, ((dotn t u (fun j => n ^ j)).natAbs : Int) * n ≤ absS u t * n ^ t
  | 0 => by simp [dotn, absS]
  | t + 1 => by
    have ih := low_terms (u := u) hn t
    have e : dotn (t + 1) u (fun j => n ^ j) = dotn t u (fun j => n ^ j) + u t * n ^ t := rfl
    have hp : 0 ≤ n ^ t := Int.pow_nonneg (by omega)
    have hS := absS_nn u t
    have h1 : ((dotn (t + 1) u (fun j => n ^ j)).natAbs : Int) ≤ ((dotn t u (fun j => n ^ j)).natAbs : Int) + ((u t).natAbs : Int) * n ^ t := by
      rw [e]
      have h2 : ((u t * n ^ t).natAbs : Int) = ((u t).natAbs : Int) * n ^ t := by
        rw [Int.natAbs_mul, Int.natCast_mul]
        congr 1
        omega
      omega
    have h3 : ((dotn (t + 1) u (fun j => n ^ j)).natAbs : Int) * n ≤ (((dotn t u (fun j => n ^ j)).natAbs : Int) + ((u t).natAbs : Int) * n ^ t) * n := Int.mul_le_mul_of_nonneg_right h1 (by omega)
    have h4 : absS u t * n ^ t ≤ absS u t * n ^ t * n := by
      have : 0 ≤ absS u t * n ^ t := Int.mul_nonneg hS hp
      have := Int.mul_le_mul_of_nonneg_left hn this
      omega
    have e5 : absS u (t + 1) * n ^ (t + 1) = absS u t * n ^ t * n + ((u t).natAbs : Int) * n ^ t * n := by
      have eS : absS u (t + 1) = absS u t + ((u t).natAbs : Int) := rfl
      rw [eS, Int.pow_succ, Int.add_mul, Int.mul_assoc, Int.mul_assoc]
    rw [Int.add_mul] at h3
    omega
theorem poly_ne {u : Vec} {n : Int} (hn : 1 ≤ n) : ∀ m : Nat, (∃ j, j < m ∧ u j ≠ 0) → absS u m < n → dotn m u (fun j => n ^ j) ≠ 0
  | 0, ⟨j, h, _⟩, _ => absurd h (Nat.not_lt_zero _)
  | m + 1, ⟨j, hj, hne⟩, hS => by
    have e : dotn (m + 1) u (fun j => n ^ j) = dotn m u (fun j => n ^ j) + u m * n ^ m := rfl
    have eS : absS u (m + 1) = absS u m + ((u m).natAbs : Int) := rfl
    by_cases hm : u m = 0
    · rw [e, hm, Int.zero_mul, Int.add_zero]
      exact poly_ne hn m ⟨j, by
        rcases Nat.lt_or_ge j m with h | h
        · exact h
        · have : j = m := by omega
          rw [this] at hne; exact absurd hm hne, hne⟩ (by omega)
    · have l := low_terms (u := u) hn m
      have hp : 0 < n ^ m := Int.pow_pos (by omega)
      have h1 : absS u m * n ^ m < n * n ^ m := Int.mul_lt_mul_of_pos_right (by omega) hp
      have h2 : ((dotn m u (fun j => n ^ j)).natAbs : Int) < n ^ m := by
        have : ((dotn m u (fun j => n ^ j)).natAbs : Int) * n < n ^ m * n := by rw [Int.mul_comm (n ^ m)]; omega
        exact Int.lt_of_mul_lt_mul_right this (by omega)
      have h3 : n ^ m ≤ ((u m * n ^ m).natAbs : Int) := by
        rw [Int.natAbs_mul, Int.natCast_mul]
        have e1 : ((n ^ m).natAbs : Int) = n ^ m := by omega
        rw [e1]
        have : (1 : Int) ≤ ((u m).natAbs : Int) := by omega
        have := Int.mul_le_mul_of_nonneg_right this (Int.le_of_lt hp)
        omega
      rw [e]
      intro z
      omega
theorem dotn_comb (m : Nat) (u p s : Vec) (c : Int) : dotn m u (fun i => c * p i + s i) = c * dotn m u p + dotn m u s := dotn_linr m c p s u
/-- what moved does keeps goals above and frees bars -/
theorem moved_goal {m : Nat} {g p s : Vec} {c : Int} (hp : 0 < dotn m g p) (hc : ((dotn m g s).natAbs : Int) < c) : 0 < dotn m g (fun i => c * p i + s i) := by
  rw [dotn_comb]
  have : c * 1 ≤ c * dotn m g p := Int.mul_le_mul_of_nonneg_left (by omega) (by omega)
  omega
theorem moved_bar {m : Nat} {u p s : Vec} {c : Int} (hs : dotn m u s ≠ 0) (hc : ((dotn m u s).natAbs : Int) < c) : dotn m u (fun i => c * p i + s i) ≠ 0 := by
  rw [dotn_comb]
  by_cases h : dotn m u p = 0
  · rw [h]; simpa using hs
  · have h1 : c ≤ ((c * dotn m u p).natAbs : Int) := by
      rw [Int.natAbs_mul, Int.natCast_mul]
      have e1 : ((c.natAbs : Nat) : Int) = c := by omega
      rw [e1]
      have : c * 1 ≤ c * ((dotn m u p).natAbs : Int) := Int.mul_le_mul_of_nonneg_left (by omega) (by omega)
      omega
    intro z
    omega
end K8
set_option linter.all false
namespace K8
theorem MI.zero {g : List (List Int)} {t : Nat} {L L' : List Mk} (M : MI g (t + 1) L) (M' : MI g t L') (y : Vec) (hy : ∀ e ∈ L', 0 < dotn t (vf e.1) y) {p : Mk} (hp : p ∈ L) (h1 : vf p.1 t = 0) : 0 < dotn t (vf p.1) y := by
  obtain ⟨lam, α, o⟩ := M.mks p hp
  have hc : Cone g t lam := ⟨o.c.nn, o.c.sp, fun j hj => by
    by_cases e : j = t
    · rw [e, o.row t (by omega), h1]; simp
    · exact o.c.z j (by omega)⟩
  have hne : ∃ i, lam i ≠ 0 := by
    obtain ⟨z, l, e'⟩ := List.exists_cons_of_ne_nil o.ne
    have hz : z ∈ p.2 := by rw [e']; exact List.mem_cons_self ..
    obtain ⟨i, rfl⟩ := o.nat z hz
    exact ⟨i, (o.supp i).mpr hz⟩
  have := M'.gen y _ lam (Nat.le_refl _) hc hne fun e he _ => hy e he
  have e1 : dotn t (FF g lam) y = α * dotn t (vf p.1) y := by
    have : dotn t (FF g lam) y = dotn t (fun j => α * vf p.1 j + 0) y := dotn_congr (fun j hj => by rw [o.row j (by omega)]; simp) fun _ _ => rfl
    rw [this]
    have h2 := dotn_lin t α (vf p.1) (fun _ => 0) y
    rw [h2, dotn_zero]; simp
  rw [e1] at this
  exact pos_of_mul this (Int.le_of_lt o.pos)
/-- the best bound so far: of those rows that say so -/
structure Low (t : Nat) (y : Vec) (L : List Mk) (seen : Mk → Prop) (o : Option (Int × Int)) : Prop where
  src : ∀ l, o = some l → ∃ p ∈ L, 0 < vf p.1 t ∧ l = (-(dotn t (vf p.1) y), vf p.1 t)
  all : ∀ p, seen p → 0 < vf p.1 t → ∃ l, o = some l ∧ -(dotn t (vf p.1) y) * l.2 ≤ l.1 * vf p.1 t
structure Upp (t : Nat) (y : Vec) (L : List Mk) (seen : Mk → Prop) (o : Option (Int × Int)) : Prop where
  src : ∀ l, o = some l → ∃ p ∈ L, vf p.1 t < 0 ∧ l = (dotn t (vf p.1) y, -(vf p.1 t))
  all : ∀ p, seen p → vf p.1 t < 0 → ∃ l, o = some l ∧ l.1 * (-(vf p.1 t)) ≤ dotn t (vf p.1) y * l.2
def gtr : Option (Int × Int) → Int × Int → Int × Int
  | none, o => o
  | some p, o => if p.1 * o.2 < o.1 * p.2 then o else p
def lsr : Option (Int × Int) → Int × Int → Int × Int
  | none, o => o
  | some p, o => if p.1 * o.2 > o.1 * p.2 then o else p
theorem gtr_s (p o : Int × Int) : gtr (some p) o = if p.1 * o.2 < o.1 * p.2 then o else p := rfl
theorem lsr_s (p o : Int × Int) : lsr (some p) o = if p.1 * o.2 > o.1 * p.2 then o else p := rfl
theorem cross_le {a b c d e f : Int} (hb : 0 < b) (hd : 0 < d) (hf : 0 < f) (h1 : a * d ≤ c * b) (h2 : c * f ≤ e * d) : a * f ≤ e * b := by
  have e1 : a * f * d ≤ e * b * d := by
    calc a * f * d = (a * d) * f := by rw [Int.mul_assoc, Int.mul_comm f d, ← Int.mul_assoc]
      _ ≤ (c * b) * f := Int.mul_le_mul_of_nonneg_right h1 (Int.le_of_lt hf)
      _ = (c * f) * b := by rw [Int.mul_assoc, Int.mul_comm b f, ← Int.mul_assoc]
      _ ≤ (e * d) * b := Int.mul_le_mul_of_nonneg_right h2 (Int.le_of_lt hb)
      _ = e * b * d := by rw [Int.mul_assoc, Int.mul_comm d b, ← Int.mul_assoc]
  exact Int.le_of_mul_le_mul_right e1 hd
theorem Low.step {t : Nat} {y : Vec} {L : List Mk} {seen : Mk → Prop} {o : Option (Int × Int)} (h : Low t y L seen o) {p : Mk} (hp : p ∈ L) (hpos : 0 < vf p.1 t) {seen' : Mk → Prop} (hs : ∀ q, seen' q → seen q ∨ q = p) :
    Low t y L seen' (some (gtr o (-(dotn t (vf p.1) y), vf p.1 t))) where
  src := fun l hl => by
    cases hl
    cases o with
    | none => exact ⟨p, hp, hpos, rfl⟩
    | some q =>
      rw [gtr_s]
      split
      · exact ⟨p, hp, hpos, rfl⟩
      · exact h.src q rfl
  all := fun q hq hqp => by
    refine ⟨_, rfl, ?_⟩
    cases o with
    | none =>
      rcases hs q hq with h1 | rfl
      · obtain ⟨l, hl, _⟩ := h.all q h1 hqp
        cases hl
      · exact Int.le_refl _
    | some r =>
      obtain ⟨p', hp', hp1, hr⟩ := h.src r rfl
      have rp : 0 < r.2 := by rw [hr]; exact hp1
      rw [gtr_s]
      split
      · next c =>
        rcases hs q hq with h1 | rfl
        · obtain ⟨l, hl, h2⟩ := h.all q h1 hqp
          cases hl
          exact cross_le hqp rp hpos h2 (Int.le_of_lt c)
        · exact Int.le_refl _
      · next c =>
        rcases hs q hq with h1 | rfl
        · obtain ⟨l, hl, h2⟩ := h.all q h1 hqp
          cases hl
          exact h2
        · exact Int.not_lt.mp c
theorem Upp.step {t : Nat} {y : Vec} {L : List Mk} {seen : Mk → Prop} {o : Option (Int × Int)} (h : Upp t y L seen o) {p : Mk} (hp : p ∈ L) (hneg : vf p.1 t < 0) {seen' : Mk → Prop} (hs : ∀ q, seen' q → seen q ∨ q = p) :
    Upp t y L seen' (some (lsr o (dotn t (vf p.1) y, -(vf p.1 t)))) where
  src := fun l hl => by
    cases hl
    cases o with
    | none => exact ⟨p, hp, hneg, rfl⟩
    | some q =>
      rw [lsr_s]
      split
      · exact ⟨p, hp, hneg, rfl⟩
      · exact h.src q rfl
  all := fun q hq hqp => by
    refine ⟨_, rfl, ?_⟩
    cases o with
    | none =>
      rcases hs q hq with h1 | rfl
      · obtain ⟨l, hl, _⟩ := h.all q h1 hqp
        cases hl
      · exact Int.le_refl _
    | some r =>
      obtain ⟨p', hp', hp1, hr⟩ := h.src r rfl
      have rp : 0 < r.2 := by rw [hr]; show 0 < -(vf p'.1 t); omega
      rw [lsr_s]
      split
      · next c =>
        rcases hs q hq with h1 | rfl
        · obtain ⟨l, hl, h2⟩ := h.all q h1 hqp
          cases hl
          exact cross_le (b := -(vf p.1 t)) (d := r.2) (f := -(vf q.1 t)) (by omega) rp (by omega) (by have := c; show dotn t (vf p.1) y * r.2 ≤ r.1 * -(vf p.1 t); exact Int.le_of_lt c) h2
        · exact Int.le_refl _
      · next c =>
        rcases hs q hq with h1 | rfl
        · obtain ⟨l, hl, h2⟩ := h.all q h1 hqp
          cases hl
          exact h2
        · exact Int.not_lt.mp c
/-- the point of one place more -/
theorem point_more {g : List (List Int)} {t : Nat} {L L' : List Mk} (M : MI g (t + 1) L) (M' : MI g t L') {y : List Int} (yl : y.length = t) (hy : ∀ e ∈ L', 0 < dotn t (vf e.1) (vf y)) {o u : Option (Int × Int)}
    (hl : Low t (vf y) L (· ∈ L) o) (hu : Upp t (vf y) L (· ∈ L) u) {a b : Int} (b0 : 0 < b) (h1 : ∀ q, o = some q → q.1 * b < a * q.2) (h2 : ∀ q, u = some q → a * q.2 < q.1 * b) {p : Mk} (hp : p ∈ L) :
    0 < dotn (t + 1) (vf p.1) (vf (y.map (b * ·) ++ [a])) := by
  have e : dotn (t + 1) (vf p.1) (vf (y.map (b * ·) ++ [a])) = b * dotn t (vf p.1) (vf y) + vf p.1 t * a := by
    have e1 : dotn (t + 1) (vf p.1) (vf (y.map (b * ·) ++ [a])) = dotn t (vf p.1) (vf (y.map (b * ·) ++ [a])) + vf p.1 t * vf (y.map (b * ·) ++ [a]) t := rfl
    have e2 : vf (y.map (b * ·) ++ [a]) t = a := by
      rw [vf_append, if_neg (by rw [List.length_map, yl]; omega), List.length_map, yl, Nat.sub_self]; rfl
    have e3 : dotn t (vf p.1) (vf (y.map (b * ·) ++ [a])) = dotn t (vf p.1) (fun i => b * vf y i + 0) := dotn_congr (fun _ _ => rfl) fun i hi => by
      rw [vf_append, if_pos (by rw [List.length_map, yl]; exact hi), vf_map]; simp
    rw [e1, e2, e3]
    have := dotn_linr t b (vf y) (fun _ => 0) (vf p.1)
    rw [this, dotn_comm t (vf p.1) (fun _ => 0), dotn_zero]; omega
  rw [e]
  rcases Int.lt_trichotomy (vf p.1 t) 0 with h | h | h
  · obtain ⟨q, hq, hle⟩ := hu.all p hp h
    obtain ⟨p', _, hp1, hr⟩ := hu.src q hq
    have q2 : 0 < q.2 := by rw [hr]; show 0 < -(vf p'.1 t); omega
    have k1 := h2 q hq
    -- a q2 (-r) < q1 b (-r) <= here q2 b
    have k2 : a * q.2 * (-(vf p.1 t)) < q.1 * b * (-(vf p.1 t)) := Int.mul_lt_mul_of_pos_right k1 (by omega)
    have k3 : q.1 * (-(vf p.1 t)) * b ≤ dotn t (vf p.1) (vf y) * q.2 * b := Int.mul_le_mul_of_nonneg_right hle (Int.le_of_lt b0)
    have k4 : q.1 * b * (-(vf p.1 t)) = q.1 * (-(vf p.1 t)) * b := by rw [Int.mul_assoc, Int.mul_comm b, ← Int.mul_assoc]
    have k5 : 0 < q.2 * (b * dotn t (vf p.1) (vf y) + vf p.1 t * a) := by
      have e1 : q.2 * (b * dotn t (vf p.1) (vf y) + vf p.1 t * a) = dotn t (vf p.1) (vf y) * q.2 * b - a * q.2 * (-(vf p.1 t)) := by
        rw [Int.mul_add, Int.mul_neg, Int.sub_neg]
        congr 1
        · rw [Int.mul_comm b, ← Int.mul_assoc, Int.mul_comm q.2]
        · rw [Int.mul_comm (vf p.1 t) a, ← Int.mul_assoc, Int.mul_comm q.2 a]
      rw [e1]; omega
    exact pos_of_mul k5 (Int.le_of_lt q2)
  · have := M.zero M' (vf y) hy hp h
    rw [h, Int.zero_mul, Int.add_zero]
    exact Int.mul_pos b0 this
  · obtain ⟨q, hq, hle⟩ := hl.all p hp h
    obtain ⟨p', _, hp1, hr⟩ := hl.src q hq
    have q2 : 0 < q.2 := by rw [hr]; exact hp1
    have k1 := h1 q hq
    have k2 : q.1 * b * vf p.1 t < a * q.2 * vf p.1 t := Int.mul_lt_mul_of_pos_right k1 h
    have k3 : -(dotn t (vf p.1) (vf y)) * q.2 * b ≤ q.1 * vf p.1 t * b := Int.mul_le_mul_of_nonneg_right hle (Int.le_of_lt b0)
    have k4 : q.1 * b * vf p.1 t = q.1 * vf p.1 t * b := by rw [Int.mul_assoc, Int.mul_comm b, ← Int.mul_assoc]
    have k5 : 0 < q.2 * (b * dotn t (vf p.1) (vf y) + vf p.1 t * a) := by
      have e1 : q.2 * (b * dotn t (vf p.1) (vf y) + vf p.1 t * a) = a * q.2 * vf p.1 t - -(dotn t (vf p.1) (vf y)) * q.2 * b := by
        rw [Int.mul_add, Int.neg_mul, Int.neg_mul, Int.sub_neg, Int.add_comm]
        congr 1
        · rw [Int.mul_comm (vf p.1 t) a, ← Int.mul_assoc, Int.mul_comm q.2 a]
        · rw [Int.mul_comm b, ← Int.mul_assoc, Int.mul_comm q.2]
      rw [e1]; omega
    exact pos_of_mul k5 (Int.le_of_lt q2)
theorem cross_ok {g : List (List Int)} {t : Nat} {L L' : List Mk} (M : MI g (t + 1) L) (M' : MI g t L') {y : Vec} (hy : ∀ e ∈ L', 0 < dotn t (vf e.1) y) {o u : Option (Int × Int)} {s1 s2 : Mk → Prop}
    (hl : Low t y L s1 o) (hu : Upp t y L s2 u) (q r : Int × Int) (h1 : o = some q) (h2 : u = some r) : q.1 * r.2 < r.1 * q.2 := by
  obtain ⟨p, hp, hp1, e1⟩ := hl.src q h1
  obtain ⟨p', hp', hp2, e2⟩ := hu.src r h2
  have := M.comb M' y hy hp hp' hp1 hp2
  rw [e1, e2]
  show -(dotn t (vf p.1) y) * -(vf p'.1 t) < dotn t (vf p'.1) y * vf p.1 t
  rw [Int.neg_mul_neg, Int.mul_comm (dotn t (vf p'.1) y), Int.mul_comm (dotn t (vf p.1) y)]
  omega
end K8
set_option Elab.async false
set_option linter.all false
set_option maxRecDepth 100000
set_option maxHeartbeats 4000000
/-! how a reading is answered: loops, comprehensions -/
namespace K8
open PySem PySem.Spec PyProof.Rows L2
theorem PX.weak {X : Cx} {e : Expr} {f f' : DE} (h : PX X e f) (w : ∀ bg ds P, f' bg ds P → f bg ds P) (m : ∀ bg ds P P', (∀ d, P d → P' d) → f' bg ds P → f' bg ds P') : PX X e f' :=
  ⟨h.pe.weak fun σ H Q ⟨B, K, ds, S, p⟩ => ⟨B, K, ds, S, w _ _ _ p⟩, m⟩
theorem x_neg {X : Cx} {i : Int} {j : Nat} {p1 p2 : Pos} : PX X (.UnaryOp .USub (.Constant (.int i) j p1) p2) (dC (.int (-i))) :=
  (x_un un_neg u1_I x_int).weak (fun bg ds P p => ⟨_, ⟨i, rfl, rfl⟩, p⟩) fun _ _ _ _ m p => m _ p
section
variable {bg : BG} {g : DG} {t : DT} {fe : DE} {ds : DS} {db : DSm} {E : DEn}
inductive All2 {α β : Type} (R : α → β → Prop) : List α → List β → Prop
  | nil : All2 R [] []
  | cons {a : α} {b : β} {as : List α} {bs : List β} (h : R a b) (t : All2 R as bs) : All2 R (a :: as) (b :: bs)
/-- a comprehension, by its items' kind -/
theorem lcW_rel {α β : Type} (emb : α → D) (emb' : β → D) (c : α → Bool) (R : α → β → Prop) : ∀ (items : List α) (acc : List D) (P : List D → Prop),
    (∀ x ∈ items, ∀ (Y : D → Prop) (N : Prop), (c x = true → ∀ y, R x y → Y (emb' y)) → (c x = false → N) → g (emb x) ds fun ds2 => t bg ds2 fun b => if b = true then fe bg ds2 Y else N) →
    (∀ ys, All2 R (items.filter c) ys → P (acc ++ ys.map emb')) → lcW bg g t fe ds (items.map emb) acc P
  | [], acc, P, _, h => by
    have := h [] .nil
    simp only [List.map_nil, List.append_nil] at this
    exact this
  | x :: xs, acc, P, hs, h => by
    rw [List.map_cons]
    unfold lcW
    refine hs x (List.mem_cons_self ..) _ _ (fun hc y r => ?_) (fun hc => ?_)
    · refine lcW_rel emb emb' c R xs (acc ++ [emb' y]) P (fun z hz => hs z (List.mem_cons_of_mem _ hz)) fun ys r2 => ?_
      have := h (y :: ys) (by rw [List.filter_cons_of_pos hc]; exact .cons r r2)
      rw [List.map_cons] at this
      rw [List.append_assoc]
      exact this
    · refine lcW_rel emb emb' c R xs acc P (fun z hz => hs z (List.mem_cons_of_mem _ hz)) fun ys r2 => h ys ?_
      rw [List.filter_cons_of_neg (by rw [hc]; exact Bool.false_ne_true)]
      exact r2
theorem All2.eq_map {α β : Type} {f : α → β} : ∀ {xs : List α} {ys : List β}, All2 (fun x y => y = f x) xs ys → ys = xs.map f
  | _, _, .nil => rfl
  | _, _, .cons h t => by rw [List.map_cons, h, All2.eq_map t]
theorem All2.length {α β : Type} {R : α → β → Prop} : ∀ {xs : List α} {ys : List β}, All2 R xs ys → ys.length = xs.length
  | _, _, .nil => rfl
  | _, _, .cons _ t => congrArg (· + 1) (All2.length t)
theorem All2.right {α β : Type} {R : α → β → Prop} : ∀ {xs : List α} {ys : List β}, All2 R xs ys → ∀ y ∈ ys, ∃ x ∈ xs, R x y
  | _, _, .nil, y, h => nomatch h
  | _, _, .cons h t, y, hy => by
    rcases List.mem_cons.mp hy with rfl | hy
    · exact ⟨_, List.mem_cons_self .., h⟩
    · obtain ⟨x, hx, r⟩ := All2.right t y hy
      exact ⟨x, List.mem_cons_of_mem _ hx, r⟩
theorem All2.left {α β : Type} {R : α → β → Prop} : ∀ {xs : List α} {ys : List β}, All2 R xs ys → ∀ x ∈ xs, ∃ y ∈ ys, R x y
  | _, _, .nil, y, h => nomatch h
  | _, _, .cons h t, y, hy => by
    rcases List.mem_cons.mp hy with rfl | hy
    · exact ⟨_, List.mem_cons_self .., h⟩
    · obtain ⟨x, hx, r⟩ := All2.left t y hy
      exact ⟨x, List.mem_cons_of_mem _ hx, r⟩
/-- each item to a value -/
theorem lcW_map {α β : Type} (emb : α → D) (emb' : β → D) (f : α → β) (items : List α) (acc : List D) (P : List D → Prop)
    (hs : ∀ x ∈ items, ∀ (Y : D → Prop) (N : Prop), Y (emb' (f x)) → g (emb x) ds fun ds2 => t bg ds2 fun b => if b = true then fe bg ds2 Y else N)
    (h : P (acc ++ (items.map f).map emb')) : lcW bg g t fe ds (items.map emb) acc P := by
  refine lcW_rel emb emb' (fun _ => true) (fun x y => y = f x) items acc P (fun x hx Y N y1 _ => hs x hx Y N (y1 rfl _ rfl)) fun ys r => ?_
  rw [List.filter_eq_self.mpr (fun _ _ => rfl)] at r
  rw [r.eq_map]
  exact h
/-- some of the items to values -/
theorem lcW_fil {α β : Type} (emb : α → D) (emb' : β → D) (c : α → Bool) (f : α → β) (items : List α) (acc : List D) (P : List D → Prop)
    (hs : ∀ x ∈ items, ∀ (Y : D → Prop) (N : Prop), (c x = true → Y (emb' (f x))) → (c x = false → N) → g (emb x) ds fun ds2 => t bg ds2 fun b => if b = true then fe bg ds2 Y else N)
    (h : P (acc ++ ((items.filter c).map f).map emb')) : lcW bg g t fe ds (items.map emb) acc P := by
  refine lcW_rel emb emb' c (fun x y => y = f x) items acc P (fun x hx Y N y1 n1 => hs x hx Y N (fun hc => y1 hc _ rfl) n1) fun ys r => ?_
  rw [r.eq_map]
  exact h
/-- a for loop by an invariant -/
theorem forW_run (I : Nat → DS → Prop) : ∀ (items : List D) (k : Nat) (ds : DS), I k ds →
    (∀ i x ds, items[i]? = some x → I (k + i) ds → ∀ N : DS → Prop, (∀ ds', I (k + i + 1) ds' → N ds') → g x ds fun ds2 => db bg { E with nx := N, ct := N, bk := E.nx } ds2) →
    (∀ ds, I (k + items.length) ds → E.nx ds) → forW bg g db E items ds
  | [], k, ds, h0, _, he => he ds h0
  | x :: xs, k, ds, h0, hs, he => by
    unfold forW
    refine hs 0 x ds rfl h0 _ fun ds' h' => ?_
    refine forW_run I xs (k + 1) ds' h' (fun i y ds hi hI N hN => ?_) fun ds hI => he ds ?_
    · refine hs (i + 1) y ds hi ?_ N fun ds' h => hN ds' ?_
      · rw [show k + (i + 1) = k + 1 + i by omega]; exact hI
      · rw [show k + 1 + i + 1 = k + (i + 1) + 1 by omega]; exact h
    · rw [List.length_cons, show k + (xs.length + 1) = k + 1 + xs.length by omega]; exact hI
/-- a while loop by an invariant and a measure -/
theorem whileW_run {α : Type} (st : α → DS) (I : α → Prop) (μ : α → Nat)
    (hs : ∀ a, I a → ∀ N : DS → Prop, (∀ a', I a' → μ a' < μ a → N (st a')) → t bg (st a) fun b => if b = true then db bg { E with nx := N, ct := N, bk := E.nx } (st a) else E.nx (st a)) :
    ∀ (n : Nat) (a : α), I a → μ a < n → whileW bg t db E n (st a)
  | 0, a, _, h => absurd h (Nat.not_lt_zero _)
  | n + 1, a, ha, h => hs a ha _ fun a' h' l => whileW_run st I μ hs n a' h' (by omega)
theorem while_run {α : Type} (st : α → DS) (I : α → Prop) (μ : α → Nat)
    (hs : ∀ a, I a → ∀ N : DS → Prop, (∀ a', I a' → μ a' < μ a → N (st a')) → t bg (st a) fun b => if b = true then db bg { E with nx := N, ct := N, bk := E.nx } (st a) else E.nx (st a))
    (a : α) (ha : I a) : dWhile t db bg E (st a) := ⟨_, whileW_run st I μ hs _ a ha (Nat.lt_succ_self _)⟩
end
/-! ### kinds of data -/
def row (r : List Int) : D := .tup (r.map .int)
def rows (rs : List (List Int)) : D := .lst (rs.map row)
theorem int_inj {a b : List Int} : (a.map D.int = b.map D.int) ↔ a = b := List.map_inj_right (fun _ _ h => by cases h; rfl)
theorem str_inj {a b : List Str} : (a.map D.str = b.map D.str) ↔ a = b := List.map_inj_right (fun _ _ h => by cases h; rfl)
theorem bl_inj {a b : List Bool} : (a.map D.bl = b.map D.bl) ↔ a = b := List.map_inj_right (fun _ _ h => by cases h; rfl)
def pr (p : Pr) : D := .tup [row p.1, row p.2]
def prs (l : List Pr) : D := .lst (l.map pr)
theorem row_inj {a b : List Int} : row a = row b ↔ a = b := by
  unfold row
  rw [D.tup.injEq, int_inj]
theorem pr_inj {a b : Pr} : pr a = pr b ↔ a = b := by
  unfold pr
  rw [D.tup.injEq, List.cons.injEq, List.cons.injEq, row_inj, row_inj]
  constructor
  · rintro ⟨h1, h2, _⟩; exact Prod.ext h1 h2
  · rintro rfl; exact ⟨rfl, rfl, rfl⟩
theorem mulOk {x y : Int} {b c : Nat} (hx : x.natAbs < 2 ^ b) (hy : y.natAbs < 2 ^ c) (h : b + c ≤ 999990) : IntMulOk x y :=
  (wide_mul (a := b + 1) (b := c + 1) (Nat.lt_of_lt_of_le hx (Nat.pow_le_pow_right (by decide) (Nat.le_succ _))) (Nat.lt_of_lt_of_le hy (Nat.pow_le_pow_right (by decide) (Nat.le_succ _))) (by omega) (by omega) (by omega)).ok
theorem divOk {x j : Int} {b : Nat} (h0 : j ≠ 0) (h : j.natAbs < 2 ^ b) (h9 : b ≤ 8990) : CDivX x j :=
  ⟨h0, Nat.lt_of_lt_of_le (PySem.Flt.log2_lt_of (Nat.succ_pos b) (Nat.lt_of_lt_of_le h (Nat.pow_le_pow_right (by decide) (Nat.le_succ _)))) (by omega)⟩
theorem first_ix {ns : List Int} {m : Int} (h : m ∈ ns) : ∃ j : Nat, ns[j]? = some m ∧ ∀ k, k < j → ns[k]? ≠ some m := by
  induction ns with
  | nil => cases h
  | cons x ns ih =>
    by_cases e : x = m
    · exact ⟨0, by rw [e]; rfl, fun k hk => absurd hk (Nat.not_lt_zero _)⟩
    · obtain ⟨j, h1, h2⟩ := ih (by rcases List.mem_cons.mp h with h | h; exact absurd h.symm e; exact h)
      refine ⟨j + 1, by simpa using h1, fun k hk => ?_⟩
      cases k with
      | zero => simpa using e
      | succ k => simpa using h2 k (by omega)
theorem cut_to {α : Type} (xs : List α) (k : Nat) : cutD xs none (some (k : Int)) = xs.take k := by
  unfold cutD
  rw [HT.sIx_none, HT.sIx_nat, List.drop_zero, Nat.sub_zero]
  rcases Nat.le_total k xs.length with h | h
  · rw [Nat.min_eq_left h]
  · rw [Nat.min_eq_right h, List.take_length, List.take_of_length_le h]
theorem cut_from {α : Type} (xs : List α) (k : Nat) : cutD xs (some (k : Int)) none = xs.drop k := by
  unfold cutD
  rw [HT.sIx_none, HT.sIx_nat]
  rcases Nat.le_total k xs.length with h | h
  · rw [Nat.min_eq_left h, List.take_of_length_le (by rw [List.length_drop]; omega)]
  · rw [Nat.min_eq_right h, List.drop_length, List.drop_eq_nil_of_le h, List.take_nil]
theorem cut_last {α : Type} (xs : List α) : cutD xs none (some (-1)) = xs.dropLast := by
  unfold cutD
  rw [HT.sIx_none, List.drop_zero, Nat.sub_zero, List.dropLast_eq_take]
  congr 1
  unfold HT.sIx
  simp
  omega
end K8
set_option Elab.async false
set_option linter.all false
set_option maxRecDepth 100000
set_option maxHeartbeats 4000000
/-! == of nested data -/
namespace K8
open PySem PySem.Spec PyProof.Rows L2
def okN (k : Nat) (d : D) : Prop := pyOk d = true ∧ (py d).canLay0 = true ∧ (py d).depth ≤ k
theorem okN.ok {k : Nat} {d : D} (h : okN k d) (hk : k ≤ 64) : okD d := ⟨h.1, by
  unfold SeqAt.shaped
  rw [h.2.1, Bool.true_and]
  exact decide_eq_true (Nat.le_trans h.2.2 hk)⟩
theorem okN.up {k j : Nat} {d : D} (h : okN k d) (hk : k ≤ j) : okN j d := ⟨h.1, h.2.1, Nat.le_trans h.2.2 hk⟩
theorem okN.int (i : Int) : okN 0 (.int i) := ⟨rfl, by simp [py, PyData.canLay0], by simp [py, PyData.depth]⟩
theorem okN.all {k : Nat} : ∀ {l : List D}, (∀ d ∈ l, okN k d) → pysOk l = true ∧ PyData.canLayAll0 (pys l) = true ∧ PyData.depthAll (pys l) ≤ k
  | [], _ => ⟨rfl, by simp [pys, PyData.canLayAll0], by simp [pys, PyData.depthAll]⟩
  | d :: l, h => by
    obtain ⟨h1, h2, h3⟩ := h d (List.mem_cons_self ..)
    obtain ⟨i1, i2, i3⟩ := okN.all fun x hx => h x (List.mem_cons_of_mem _ hx)
    exact ⟨by simp [pysOk, h1, i1], by simp [pys, PyData.canLayAll0, h2, i2], by simp only [pys, PyData.depthAll]; omega⟩
theorem okN.tup {k : Nat} {l : List D} (h : ∀ d ∈ l, okN k d) : okN (k + 1) (.tup l) := by
  obtain ⟨i1, i2, i3⟩ := okN.all h
  exact ⟨by simp [pyOk, i1], by simp [py, PyData.canLay0, i2], by simp only [py, PyData.depth]; omega⟩
theorem okN.sol {k : Nat} {l : List D} (h : ∀ d ∈ l, okN k d) : okN (k + 1) (.sol l) := by
  obtain ⟨i1, i2, i3⟩ := okN.all h
  exact ⟨by simp [pyOk, i1], by simp [py, PyData.canLay0, i2], by simp only [py, PyData.depth]; omega⟩
theorem okN.lst {k : Nat} {l : List D} (h : ∀ d ∈ l, okN k d) : okN (k + 1) (.lst l) := by
  obtain ⟨i1, i2, i3⟩ := okN.all h
  exact ⟨by simp [pyOk, i1], by simp [py, PyData.canLay0, i2], by simp only [py, PyData.depth]; omega⟩
theorem okN.row (r : List Int) : okN 1 (row r) := okN.tup fun d hd => by
  obtain ⟨i, _, rfl⟩ := List.mem_map.mp hd
  exact .int i
theorem okN.pr (p : Pr) : okN 2 (pr p) := okN.tup fun d hd => by
  simp only [List.mem_cons, List.not_mem_nil, or_false] at hd
  rcases hd with rfl | rfl <;> exact .row _
theorem eqv_ints : ∀ a b : List Int, PyData.eqvAll (pys (a.map .int)) (pys (b.map .int)) = decide (a = b)
  | [], [] => by simp [pys, PyData.eqvAll]
  | [], y :: b => by simp [pys, PyData.eqvAll]
  | x :: a, [] => by simp [pys, PyData.eqvAll]
  | x :: a, y :: b => by
    have := eqv_ints a b
    simp only [List.map_cons, pys, PyData.eqvAll, py, PyData.eqv, this, List.cons.injEq, Bool.decide_and]
    rfl
theorem eqv_row (a b : List Int) : PyData.eqv (py (row a)) (py (row b)) = decide (a = b) := by
  unfold row
  simp only [py, PyData.eqv, eqv_ints]
theorem eqv_pr (a b : Pr) : PyData.eqv (py (pr a)) (py (pr b)) = decide (a = b) := by
  unfold pr
  have h1 := eqv_row a.1 b.1
  have h2 := eqv_row a.2 b.2
  have e : ∀ l m : List D, PyData.eqv (py (.tup l)) (py (.tup m)) = PyData.eqvAll (pys l) (pys m) := fun l m => by simp only [py, PyData.eqv]
  rw [e]
  simp only [pys, PyData.eqvAll, h1, h2, Bool.and_true]
  rw [← Bool.decide_and]
  congr 1
  rw [eq_iff_iff]
  constructor
  · rintro ⟨h1, h2⟩; exact Prod.ext h1 h2
  · rintro rfl; exact ⟨rfl, rfl⟩
end K8
set_option Elab.async false
set_option linter.all false
set_option maxRecDepth 100000
set_option maxHeartbeats 4000000
namespace K8
open PySem PySem.Spec PyProof.Rows L2
section
variable {P : Program} {w : World} {K : PySem.W.Frag} {mg : Str → Option Value} {base : Heap}
theorem zipD_ints (a b : List Int) : zipD (a.map .int) (b.map .int) = (a.zip b).map fun p : Int × Int => D.tup [.int p.1, .int p.2] := by
  unfold zipD
  rw [List.zipWith_map, List.zip_eq_zipWith, List.map_zipWith]
theorem List.map_zip_eq_zipWith {α β γ : Type} (f : α × β → γ) (a : List α) (b : List β) : (a.zip b).map f = List.zipWith (fun x y => f (x, y)) a b := by
  rw [List.zip_eq_zipWith, List.map_zipWith]
def W_dot : DW := fun _ l P => ∃ a b, l = [row a, row b] ∧ (∀ p ∈ a.zip b, IntMulOk p.1 p.2) ∧ P = (· = .int (dotp a b))
theorem G_dot (T : Txt K mg) : FnOk P w K mg base CX0 1 (He.ga K "dot") T.d_dot.fd ["one", "other"] (spW K W_dot) := by
  refine fn_okD (k := 0) T.d_dot.F sc_dot ?_ (by decide) (fun cdv A outer s H E hr => ?_)
  · intro bg l P h
    obtain ⟨a, b, rfl, _⟩ := h; rfl
  · refine ⟨_, (xs_one (xs_ret (x_callB (cr_sum rfl) c1_sum (by rfl) T.t_sum bt_sum (xa_cons (x_lc (own := [("mine", 2), ("its", 3)]) (gs := [2, 3]) rfl sc_dot.nd (xi_zip (by rfl) T.t_zip (xa_cons (x_var (pv 0)) (xa_cons (x_var (pv 1)) xa_nil))) (blkOk_by (by kernel_rfl)) (fun _ _ _ _ _ => (xg_two rfl (xg_name (pg_name (i := 2) sc_dot.nd rfl (.inl rfl))) (xg_name (pg_name (i := 3) sc_dot.nd rfl (.inl rfl))))) (fun _ _ _ _ _ => xts_nil) (fun _ _ _ _ _ => (x_op op_mulX r2_IC (x_var (pv 2)) (x_var (pv 3))))) xa_nil)))), ?_⟩
    intro bg l P h
    obtain ⟨a, b, rfl, hb, rfl⟩ := h
    simp [row, and_assoc]
    rw [zipD_ints]
    refine lcW_map (fun p : Int × Int => D.tup [.int p.1, .int p.2]) D.int (fun p => p.1 * p.2) _ [] _ (fun x hx Y N y => ?_) ?_
    · simp [and_assoc]
      exact ⟨hb x hx, y⟩
    · simp [int_inj, dotp, -List.map_map, -List.map_zipWith, List.map_zip_eq_zipWith]

def W_times : DW := fun _ l P => ∃ r n, l = [row r, .int n] ∧ (∀ p ∈ r, IntMulOk n p) ∧ P = (· = row (r.map (n * ·)))
theorem G_times (T : Txt K mg) : FnOk P w K mg base CX0 1 (He.ga K "times") T.d_times.fd ["row", "number"] (spW K W_times) := by
  refine fn_okD (k := 0) T.d_times.F sc_times ?_ (by decide) (fun cdv A outer s H E hr => ?_)
  · intro bg l P h
    obtain ⟨r, n, rfl, _⟩ := h; rfl
  · refine ⟨_, (xs_one (xs_ret (x_callTy call_tuple_of c1_tup (by rfl) T.t_tuple bt_tuple (xa_cons (x_lc (own := [("part", 2)]) (gs := [2]) rfl sc_times.nd (xi_tup (x_var (pv 0))) (blkOk_by (by kernel_rfl)) (fun _ _ _ _ _ => (xg_name (pg_name (i := 2) sc_times.nd rfl (.inl rfl)))) (fun _ _ _ _ _ => xts_nil) (fun _ _ _ _ _ => (x_op op_mulX r2_IC (x_var (pv 1)) (x_var (pv 2))))) xa_nil)))), ?_⟩
    intro bg l P h
    obtain ⟨r, n, rfl, hb, rfl⟩ := h
    simp [row, and_assoc]
    refine lcW_map D.int D.int (n * ·) r [] _ (fun x hx Y N y => ?_) ?_
    · simp [and_assoc]
      exact ⟨hb x hx, y⟩
    · simp [and_assoc]

def W_added : DW := fun _ l P => ∃ a b, l = [row a, row b] ∧ P = (· = row (List.zipWith (fun x y => x + y) a b))
theorem G_added (T : Txt K mg) : FnOk P w K mg base CX0 1 (He.ga K "added") T.d_added.fd ["one", "other"] (spW K W_added) := by
  refine fn_okD (k := 0) T.d_added.F sc_added ?_ (by decide) (fun cdv A outer s H E hr => ?_)
  · intro bg l P h
    obtain ⟨a, b, rfl, _⟩ := h; rfl
  · refine ⟨_, (xs_one (xs_ret (x_callTy call_tuple_of c1_tup (by rfl) T.t_tuple bt_tuple (xa_cons (x_lc (own := [("mine", 2), ("its", 3)]) (gs := [2, 3]) rfl sc_added.nd (xi_zip (by rfl) T.t_zip (xa_cons (x_var (pv 0)) (xa_cons (x_var (pv 1)) xa_nil))) (blkOk_by (by kernel_rfl)) (fun _ _ _ _ _ => (xg_two rfl (xg_name (pg_name (i := 2) sc_added.nd rfl (.inl rfl))) (xg_name (pg_name (i := 3) sc_added.nd rfl (.inl rfl))))) (fun _ _ _ _ _ => xts_nil) (fun _ _ _ _ _ => (x_op op_add r2_I0 (x_var (pv 2)) (x_var (pv 3))))) xa_nil)))), ?_⟩
    intro bg l P h
    obtain ⟨a, b, rfl, rfl⟩ := h
    simp [row, and_assoc]
    rw [zipD_ints]
    refine lcW_map (fun p : Int × Int => D.tup [.int p.1, .int p.2]) D.int (fun p => p.1 + p.2) _ [] _ (fun x hx Y N y => ?_) ?_
    · simp [and_assoc]
      exact y
    · simp [List.map_zip_eq_zipWith]

def W_taken : DW := fun _ l P => ∃ a b, l = [row a, row b] ∧ P = (· = row (List.zipWith (fun x y => x - y) a b))
theorem G_taken (T : Txt K mg) : FnOk P w K mg base CX0 1 (He.ga K "taken") T.d_taken.fd ["one", "other"] (spW K W_taken) := by
  refine fn_okD (k := 0) T.d_taken.F sc_taken ?_ (by decide) (fun cdv A outer s H E hr => ?_)
  · intro bg l P h
    obtain ⟨a, b, rfl, _⟩ := h; rfl
  · refine ⟨_, (xs_one (xs_ret (x_callTy call_tuple_of c1_tup (by rfl) T.t_tuple bt_tuple (xa_cons (x_lc (own := [("mine", 2), ("its", 3)]) (gs := [2, 3]) rfl sc_taken.nd (xi_zip (by rfl) T.t_zip (xa_cons (x_var (pv 0)) (xa_cons (x_var (pv 1)) xa_nil))) (blkOk_by (by kernel_rfl)) (fun _ _ _ _ _ => (xg_two rfl (xg_name (pg_name (i := 2) sc_taken.nd rfl (.inl rfl))) (xg_name (pg_name (i := 3) sc_taken.nd rfl (.inl rfl))))) (fun _ _ _ _ _ => xts_nil) (fun _ _ _ _ _ => (x_op op_sub r2_I0 (x_var (pv 2)) (x_var (pv 3))))) xa_nil)))), ?_⟩
    intro bg l P h
    obtain ⟨a, b, rfl, rfl⟩ := h
    simp [row, and_assoc]
    rw [zipD_ints]
    refine lcW_map (fun p : Int × Int => D.tup [.int p.1, .int p.2]) D.int (fun p => p.1 - p.2) _ [] _ (fun x hx Y N y => ?_) ?_
    · simp [and_assoc]
      exact y
    · simp [List.map_zip_eq_zipWith]
end
end K8
set_option Elab.async false
set_option linter.all false
set_option maxRecDepth 100000
set_option maxHeartbeats 4000000
namespace K8
open PySem PySem.Spec PyProof.Rows L2
section
variable {P : Program} {w : World} {K : PySem.W.Frag} {mg : Str → Option Value} {base : Heap}
def rowOf (ts a b : List Str) : List Int := ts.map fun n => (a.count n : Int) - (b.count n : Int)
def W_row_of : DW := fun _ l P => ∃ (x : D) (ts a b : List Str), l = [x, .tup [.sol (a.map .str), .sol (b.map .str)]] ∧ IsT x (ts.map .str) ∧ P = (· = row (rowOf ts a b))
theorem G_row_of (T : Txt K mg) : FnOk P w K mg base CX0 1 (He.ga K "row_of") T.d_row_of.fd ["things", "pair"] (spW K W_row_of) := by
  refine fn_okD (k := 0) T.d_row_of.F sc_row_of ?_ (by decide) (fun cdv A outer s H E hr => ?_)
  · intro bg l P h
    obtain ⟨x, ts, a, b, rfl, _⟩ := h; rfl
  · refine ⟨_, (xs_one (xs_ret (x_callTy call_tuple_of c1_tup (by rfl) T.t_tuple bt_tuple (xa_cons (x_lc (own := [("name", 2)]) (gs := [2]) rfl sc_row_of.nd (xi_tup (x_var (pv 0))) (blkOk_by (by kernel_rfl)) (fun _ _ _ _ _ => (xg_name (pg_name (i := 2) sc_row_of.nd rfl (.inl rfl)))) (fun _ _ _ _ _ => xts_nil) (fun _ _ _ _ _ => (x_op op_sub r2_I0 (x_cnt (x_ix ix_seq r2_ix (x_var (pv 1)) x_int (fun _ _ => rfl)) (x_var (pv 2))) (x_cnt (x_ix ix_seq r2_ix (x_var (pv 1)) x_int (fun _ _ => rfl)) (x_var (pv 2)))))) xa_nil)))), ?_⟩
    intro bg l P h
    obtain ⟨x, ts, a, b, rfl, hx, rfl⟩ := h
    simp [row, and_assoc]
    refine ⟨_, hx, ?_⟩
    refine lcW_map D.str D.int (fun n => (a.count n : Int) - (b.count n : Int)) ts [] _ (fun n hn Y N y => ?_) ?_
    · simp [and_assoc, atI, ixN, str_inj]
      exact y
    · simp [rowOf]

def W_unit : DW := fun _ l P => ∃ (i n : Nat), l = [.int (i : Int), .int (n : Int)] ∧ n ≤ 1000 ∧ P = (· = row (unitL i n))
theorem G_unit (T : Txt K mg) : FnOk P w K mg base CX0 1 (He.ga K "unit") T.d_unit.fd ["at", "many"] (spW K W_unit) := by
  refine fn_okD (k := 0) T.d_unit.F sc_unit ?_ (by decide) (fun cdv A outer s H E hr => ?_)
  · intro bg l P h
    obtain ⟨x, ts, rfl, _⟩ := h; rfl
  · refine ⟨_, (xs_one (xs_ret (x_callTy call_tuple_of c1_tup (by rfl) T.t_tuple bt_tuple (xa_cons (x_lc (own := [("spot", 2)]) (gs := [2]) rfl sc_unit.nd (xi_range (by rfl) T.t_range (xa_cons (x_var (pv 1)) xa_nil)) (blkOk_by (by kernel_rfl)) (fun _ _ _ _ _ => (xg_name (pg_name (i := 2) sc_unit.nd rfl (.inl rfl)))) (fun _ _ _ _ _ => xts_nil) (fun _ _ _ _ _ => (x_callTy call_int1 c1_int (by rfl) T.t_int bt_int (xa_cons (x_cmp op_eq r2_eq (x_var (pv 2)) (x_var (pv 0)) (nomark _)) xa_nil)))) xa_nil)))), ?_⟩
    intro bg l P h
    obtain ⟨i, n, rfl, hn, rfl⟩ := h
    simp [row, and_assoc]
    refine ⟨n, rfl, Nat.le_trans hn (by decide), ?_⟩
    refine lcW_map (fun j : Nat => D.int (j : Int)) D.int (fun j => if j = i then 1 else 0) _ [] _ (fun j hj Y N y => ?_) ?_
    · simp [and_assoc, sEq]
      by_cases e : j = i
      · subst e; simpa using y
      · simp [e] at y
        have : ((j : Int) = (i : Int)) = False := by simp; omega
        simp [this, e]
        exact y
    · simp [unitL]

def W_less_times : DW := fun _ l P => ∃ (p q : Pr) (n : Int), l = [pr p, pr q, .int n] ∧ (∀ x ∈ q.1, IntMulOk n x) ∧ (∀ x ∈ q.2, IntMulOk n x) ∧ P = (· = pr (lessT p q n))
theorem G_less_times (T : Txt K mg) : FnOk P w K mg base CX0 2 (He.ga K "less_times") T.d_less_times.fd ["pair", "lead", "number"] (spW K W_less_times) := by
  refine fn_okD (k := 1) T.d_less_times.F sc_less_times ?_ (by decide) (fun cdv A outer s H E hr => ?_)
  · intro bg l P h
    obtain ⟨x, ts, n, rfl, _⟩ := h; rfl
  · refine ⟨_, (xs_one (xs_ret (x_tup (xa_cons (x_call (G_taken T) (hr.mono (by decide)) (by rfl) T.d_taken.g T.d_taken.F.kp T.d_taken.b (xa_cons (x_ix ix_seq r2_ix (x_var (pv 0)) x_int (fun _ _ => rfl)) (xa_cons (x_call (G_times T) (hr.mono (by decide)) (by rfl) T.d_times.g T.d_times.F.kp T.d_times.b (xa_cons (x_ix ix_seq r2_ix (x_var (pv 1)) x_int (fun _ _ => rfl)) (xa_cons (x_var (pv 2)) xa_nil))) xa_nil))) (xa_cons (x_call (G_taken T) (hr.mono (by decide)) (by rfl) T.d_taken.g T.d_taken.F.kp T.d_taken.b (xa_cons (x_ix ix_seq r2_ix (x_var (pv 0)) x_int (fun _ _ => rfl)) (xa_cons (x_call (G_times T) (hr.mono (by decide)) (by rfl) T.d_times.g T.d_times.F.kp T.d_times.b (xa_cons (x_ix ix_seq r2_ix (x_var (pv 1)) x_int (fun _ _ => rfl)) (xa_cons (x_var (pv 2)) xa_nil))) xa_nil))) xa_nil))))), ?_⟩
    intro bg l P h
    obtain ⟨p, q, n, rfl, h1, h2, rfl⟩ := h
    simp [pr, and_assoc, atI, ixN]
    
    refine ⟨_, ⟨_, _, rfl, h1, rfl⟩, ?_⟩
    rintro _ rfl
    refine ⟨_, ⟨_, _, rfl, rfl⟩, ?_⟩
    rintro _ rfl
    refine ⟨_, ⟨_, _, rfl, h2, rfl⟩, ?_⟩
    rintro _ rfl
    refine ⟨_, ⟨_, _, rfl, rfl⟩, ?_⟩
    rintro _ rfl
    exact ⟨by decide, rfl, rfl⟩

def mixL (rs : List (List Int)) (ns : List Int) (many : Nat) : List Int := (rs.zip ns).foldl (fun f p => List.zipWith (fun x y => x + y) f (p.1.map (p.2 * ·))) (List.replicate many 0)
def W_mixture : DW := fun _ l P => ∃ (rs : List (List Int)) (ns : List Int) (many : Nat), l = [rows rs, row ns, .int (many : Int)] ∧ 2 ≤ many ∧ many ≤ 1000 ∧ (∀ p ∈ rs.zip ns, ∀ x ∈ p.1, IntMulOk p.2 x) ∧ P = (· = row (mixL rs ns many))
theorem G_mixture (T : Txt K mg) : FnOk P w K mg base CX0 2 (He.ga K "mixture") T.d_mixture.fd ["rows", "numbers", "many"] (spW K W_mixture) := by
  refine fn_okD (k := 1) T.d_mixture.F sc_mixture ?_ (by decide) (fun cdv A outer s H E hr => ?_)
  · intro bg l P h
    obtain ⟨x, ts, n, rfl, _⟩ := h; rfl
  · refine ⟨_, (xs_cons (xs_set (i := 3) sc_mixture.nd rfl (.inl rfl) (x_op op_repT r2_repT (x_tup (xa_cons x_int xa_nil)) (x_var (pv 2))))
    (xs_cons (xs_for PassesOwn.never rfl (xi_zipM (by rfl) T.t_zip (xa_cons (x_var (pv 0)) (xa_cons (x_var (pv 1)) xa_nil))) (xg_two rfl (xg_name (pg_name (i := 4) sc_mixture.nd rfl (.inl rfl))) (xg_name (pg_name (i := 5) sc_mixture.nd rfl (.inl rfl)))) (xs_one (xs_set (i := 3) sc_mixture.nd rfl (.inl rfl) (x_call (G_added T) (hr.mono (by decide)) (by rfl) T.d_added.g T.d_added.F.kp T.d_added.b (xa_cons (x_var (pv 3)) (xa_cons (x_call (G_times T) (hr.mono (by decide)) (by rfl) T.d_times.g T.d_times.F.kp T.d_times.b (xa_cons (x_var (pv 4)) (xa_cons (x_var (pv 5)) xa_nil))) xa_nil))))))
    (xs_one (xs_ret (x_var (pv 3)))))), ?_⟩
    intro bg l P h
    obtain ⟨rs, ns, many, rfl, m1, m2, hm, hP⟩ := h
    simp [rows, and_assoc]
    refine ⟨by decide, _, ⟨many, rfl, m1, m2, rfl⟩, _, .inl rfl, ?_⟩
    rw [show zipD (rs.map row) (ns.map D.int) = (rs.zip ns).map (fun p : List Int × Int => D.tup [row p.1, .int p.2]) by unfold zipD; rw [List.zipWith_map, List.zip_eq_zipWith, List.map_zipWith]]
    rw [show D.tup (List.replicate many (D.int 0)) = row (List.replicate many 0) by unfold row; rw [List.map_replicate]]
    refine forW_run (fun k ds => ∃ (x4 x5 : Sl), ds = [Sl.val (D.lst (rs.map row)), Sl.val (row ns), Sl.val (.int many), Sl.val (row (((rs.zip ns).take k).foldl (fun f p => List.zipWith (fun x y => x + y) f (p.1.map (p.2 * ·))) (List.replicate many 0))), x4, x5]) _ 0 _ ⟨.no, .no, rfl⟩ (fun k x ds hx hI M hM => ?_) (fun ds hI => ?_)
    · obtain ⟨x4, x5, rfl⟩ := hI
      rw [Nat.zero_add] at hM ⊢
      rw [List.getElem?_map] at hx
      obtain ⟨p, hp, rfl⟩ := Option.map_eq_some_iff.mp hx
      simp [and_assoc]
      refine ⟨_, ⟨p.1, p.2, rfl, hm p (List.mem_of_getElem? hp), rfl⟩, ?_⟩
      rintro _ rfl
      refine ⟨_, ⟨_, _, rfl, rfl⟩, ?_⟩
      rintro _ rfl
      have e : ((rs.zip ns).take (k + 1)).foldl (fun f p => List.zipWith (fun x y => x + y) f (p.1.map (p.2 * ·))) (List.replicate many 0) = List.zipWith (fun x y => x + y) (((rs.zip ns).take k).foldl (fun f p => List.zipWith (fun x y => x + y) f (p.1.map (p.2 * ·))) (List.replicate many 0)) (p.1.map (p.2 * ·)) := by
        rw [List.take_add_one, hp, List.foldl_append]
        rfl
      rw [← e]
      exact hM _ ⟨_, _, rfl⟩
    · obtain ⟨x4, x5, rfl⟩ := hI
      rw [Nat.zero_add, List.length_map]
      simp [and_assoc]
      rw [hP, List.take_of_length_le (by simp)]
      rfl
end
end K8
set_option Elab.async false
set_option linter.all false
set_option maxRecDepth 100000
set_option maxHeartbeats 4000000
namespace K8
open PySem PySem.Spec PyProof.Rows L2
section
variable {P : Program} {w : World} {K : PySem.W.Frag} {mg : Str → Option Value} {base : Heap}

theorem least_ex : ∀ (ns : List Int), ns ≠ [] → ∃ m, m ∈ ns ∧ ∀ y ∈ ns, m ≤ y
  | [], h => absurd rfl h
  | [x], _ => ⟨x, by simp, by simp⟩
  | x :: y :: ns, _ => by
    obtain ⟨m, h1, h2⟩ := least_ex (y :: ns) (by simp)
    by_cases e : x ≤ m
    · refine ⟨x, List.mem_cons_self .., fun z hz => ?_⟩
      rcases List.mem_cons.mp hz with h | h
      · omega
      · have := h2 z h; omega
    · refine ⟨m, List.mem_cons_of_mem _ h1, fun z hz => ?_⟩
      rcases List.mem_cons.mp hz with h | h
      · omega
      · exact h2 z h

theorem prsItem {L : List Pr} {d : D} (P : List D → Prop) : True := trivial
theorem abs_val (a : Nat) (u : Pr) : (if at' a u < 0 then - at' a u else at' a u) = ((val a u : Nat) : Int) := by
  unfold val
  by_cases h : at' a u < 0
  · rw [if_pos h]; omega
  · rw [if_neg h]; omega
theorem atI_ofNat {α : Type} {xs : List α} {j : Nat} {v : α} (h : xs[j]? = Option.some v) : atI xs (j : Int) = Option.some v := atI_nat h
theorem row_at {r : List Int} {a : Nat} (h : a < r.length) : atI (r.map D.int) (a : Int) = Option.some (.int (vf r a)) := by
  refine atI_nat ?_
  rw [List.getElem?_map, List.getElem?_eq_getElem h, vf_lt h]; rfl
theorem mem_nat {p : List Int} {M b : Nat} {x : Int} (h : ∀ i, (vf p i).natAbs ≤ M) (hM : M < 2 ^ b) (hx : x ∈ p) : x.natAbs < 2 ^ b := by
  obtain ⟨i, hi, rfl⟩ := List.mem_iff_getElem.mp hx
  have := h i
  rw [vf_lt hi] at this
  omega
theorem EL.l1 {w N M : Nat} {p : Pr} (hw : Wd w N p) (h : ∀ i, (jv p i).natAbs ≤ M) (i : Nat) : (vf p.1 i).natAbs ≤ M := by
  by_cases hi : i < p.1.length
  · have := h i
    unfold jv at this
    rw [vf_append, if_pos hi] at this
    exact this
  · rw [vf_ge (by omega)]; simp
theorem EL.l2 {w N M : Nat} {p : Pr} (hw : Wd w N p) (h : ∀ i, (jv p i).natAbs ≤ M) (i : Nat) : (vf p.2 i).natAbs ≤ M := by
  have := h (p.1.length + i)
  unfold jv at this
  rw [vf_append, if_neg (by omega)] at this
  simpa using this
def W_brought_down : DW := fun _ l P => ∃ (L : List Pr) (a w N b M0 : Nat), l = [prs L, .int (a : Int)] ∧ BdIn a w N b M0 L ∧ P = fun d => ∃ lead rest, d = .tup [pr lead, prs rest] ∧ BdOut a w N M0 L lead rest
theorem G_brought_down (T : Txt K mg) : FnOk P w K mg base CX0 3 (He.ga K "brought_down") T.d_brought_down.fd ["some", "at"] (spW K W_brought_down) := by
  refine fn_okD (k := 2) T.d_brought_down.F sc_brought_down ?_ (by decide) (fun cdv A outer s H E hr => ?_)
  · intro bg l P h
    obtain ⟨x, ts, n, w, b, m, rfl, _⟩ := h; rfl
  · refine ⟨_, (xs_cons (xs_ownNew (i := 2) sc_brought_down.nd rfl (.inl rfl) xa_nil)
    (xs_cons (xs_while PassesOwn.never (xt_cmp op_gt r2_B0 (x_callB call_len c1_len (by rfl) T.t_len bt_len (xa_cons (x_var (pv 0)) xa_nil)) x_int (nomark _)) (xs_cons (xs_setLc (i := 3) (own := [("pair", 6)]) (gs := [6]) rfl sc_brought_down.nd rfl rfl (sw_true rfl rfl rfl (by decide +kernel)) (xi_list (x_var (pv 0))) (blkOk_by (by kernel_rfl)) (fun _ _ _ _ _ => (xg_name (pg_name (i := 6) sc_brought_down.nd rfl (.inl rfl)))) (fun _ _ _ _ _ => xts_nil) (fun _ _ _ _ _ => (x_callB call_abs c1_abs (by rfl) T.t_abs bt_abs (xa_cons (x_ix ix_seq r2_ix (x_ix ix_seq r2_ix (x_var (pv 6)) x_int (fun _ _ => rfl)) (x_var (pv 1)) (fun _ _ => rfl)) xa_nil))))
    (xs_cons (xs_set (i := 4) sc_brought_down.nd rfl (.inr rfl) (x_ix ix_seq r2_ix (x_var (pv 0)) (x_bm F.plainAttrs_list F.slot_list_index rfl mt_index m1_index (x_var (pv 3)) (xa_cons (x_callB (cr_min rfl) c1_min (by rfl) T.t_min bt_min (xa_cons (x_var (pv 3)) xa_nil)) xa_nil)) (fun _ _ => rfl)))
    (xs_cons (xs_setLc (i := 5) (own := [("pair", 6)]) (gs := [6]) rfl sc_brought_down.nd rfl rfl (sw_true rfl rfl rfl (by decide +kernel)) (xi_list (x_var (pv 0))) (blkOk_by (by kernel_rfl)) (fun _ _ _ _ _ => (xg_name (pg_name (i := 6) sc_brought_down.nd rfl (.inl rfl)))) (fun _ _ _ _ _ => (xts_one (xt_cmp (op_neD hr.units) r2_neD (x_var (pv 6)) (x_var (pv 4)) (nomark _)))) (fun _ _ _ _ _ => (x_call (G_less_times T) (hr.mono (by decide)) (by rfl) T.d_less_times.g T.d_less_times.F.kp T.d_less_times.b (xa_cons (x_var (pv 6)) (xa_cons (x_var (pv 4)) (xa_cons (x_op op_fdivX r2_IC (x_ix ix_seq r2_ix (x_ix ix_seq r2_ix (x_var (pv 6)) x_int (fun _ _ => rfl)) (x_var (pv 1)) (fun _ _ => rfl)) (x_ix ix_seq r2_ix (x_ix ix_seq r2_ix (x_var (pv 4)) x_int (fun _ _ => rfl)) (x_var (pv 1)) (fun _ _ => rfl))) xa_nil))))))
    (xs_cons (xs_extend (i := 2) (pv 2) (x_lc (own := [("pair", 6)]) (gs := [6]) rfl sc_brought_down.nd (xi_list (x_var (pv 5))) (blkOk_by (by kernel_rfl)) (fun _ _ _ _ _ => (xg_name (pg_name (i := 6) sc_brought_down.nd rfl (.inl rfl)))) (fun _ _ _ _ _ => (xts_one (xt_cmp op_eq r2_eq (x_ix ix_seq r2_ix (x_ix ix_seq r2_ix (x_var (pv 6)) x_int (fun _ _ => rfl)) (x_var (pv 1)) (fun _ _ => rfl)) x_int (nomark _)))) (fun _ _ _ _ _ => (x_var (pv 6)))))
    (xs_one (xs_set (i := 0) sc_brought_down.nd rfl (.inl rfl) (x_lst (xa_cons (x_var (pv 4)) (xa_star (x_lc (own := [("pair", 6)]) (gs := [6]) rfl sc_brought_down.nd (xi_list (x_var (pv 5))) (blkOk_by (by kernel_rfl)) (fun _ _ _ _ _ => (xg_name (pg_name (i := 6) sc_brought_down.nd rfl (.inl rfl)))) (fun _ _ _ _ _ => (xts_one (xt_cmp op_ne r2_ne (x_ix ix_seq r2_ix (x_ix ix_seq r2_ix (x_var (pv 6)) x_int (fun _ _ => rfl)) (x_var (pv 1)) (fun _ _ => rfl)) x_int (nomark _)))) (fun _ _ _ _ _ => (x_var (pv 6)))) xa_nil))))))))))
    (xs_one (xs_frz 2 (xs_ret (x_tup (xa_cons (x_ix ix_seq r2_ix (x_var (pv 0)) x_int (fun _ _ => rfl)) (xa_cons (x_var (pv 2)) xa_nil)))))))), ?_⟩
    intro bg l P h
    obtain ⟨L0, a, wd, N, b, M0, rfl, hin, hP⟩ := h
    simp [prs, and_assoc]
    have h9 := hin.b9
    refine while_run (α := List Pr × List Pr × Sl × Sl × Sl) (fun s => [Sl.val (D.lst (s.1.map pr)), Sl.val (.int a), .own (s.2.1.map pr), s.2.2.1, s.2.2.2.1, s.2.2.2.2, .no]) (fun s => BDI a wd N M0 L0 s.1 s.2.1) (fun s => sz a s.1) ?_ (L0, [], .no, .no, .no) (BDI.start hin)
    rintro ⟨L, rest, x1, x2, x3⟩ hI M hM
    have hI' : BDI a wd N M0 L0 L rest := hI
    have hlL : L.length ≤ 1000 := by have := hI'.len; have := hin.len; omega
    simp [and_assoc]
    by_cases hlen : 1 < L.length
    · right
      refine ⟨by omega, ?_⟩
      have atu : ∀ u, Wd wd N u → atI (u.1.map D.int) (a : Int) = Option.some (.int (at' a u)) := fun u hu => row_at (by rw [hu.1]; exact hin.aw)
      have ix0 : ∀ u : Pr, atI [D.tup (u.1.map D.int), D.tup (u.2.map D.int)] 0 = Option.some (D.tup (u.1.map D.int)) := fun u => by simp [atI, ixN]
      refine lcW_map pr D.int (fun u => ((val a u : Nat) : Int)) L [] _ (fun u hu Y N' y => ?_) ?_
      · simp [and_assoc, pr, row, ix0, atu u (hI'.wd u hu), abs_val]
        exact y
      · simp only [List.nil_append]
        -- the least one
        obtain ⟨u0, hu0⟩ : ∃ u0, u0 ∈ L := by
          cases L with
          | nil => exact absurd rfl hI'.ne
          | cons u L => exact ⟨u, List.mem_cons_self ..⟩
        obtain ⟨m, hm1, hm2⟩ := least_ex (L.map fun u => ((val a u : Nat) : Int)) (by simp; exact hI'.ne)
        obtain ⟨j, hj1, hj2⟩ := first_ix hm1
        rw [List.getElem?_map] at hj1
        obtain ⟨lead, hlead, hm⟩ := Option.map_eq_some_iff.mp hj1
        have hl : lead ∈ L := List.mem_of_getElem? hlead
        have hmin : ∀ u ∈ L, val a lead ≤ val a u := fun u hu => by
          have := hm2 _ (List.mem_map_of_mem (f := fun u => ((val a u : Nat) : Int)) hu)
          omega
        refine ⟨.int m, ⟨_, rfl, m, hm1, hm2, rfl⟩, .int j, ⟨_, rfl, m, rfl, j, by rw [List.getElem?_map, hlead, ← hm]; rfl, fun k hk => hj2 k hk, rfl⟩, pr lead, ⟨j, rfl, atI_nat (by rw [List.getElem?_map, hlead]; rfl)⟩, ?_⟩
        have wl := hI'.wd lead hl
        have ln := hI'.nz lead hl
        have bits := BDI.bits hin
        have EL2 : ∀ u ∈ L, ∀ i, (jv u i).natAbs ≤ 2 * (3 * M0 ^ 4) := fun u hu => hI'.el u (List.mem_append_left _ hu)
        have av : ∀ u ∈ L, (at' a u).natAbs < 2 ^ (4 * b + 3) := fun u hu => by
          have := EL2 u hu a
          rw [jv_at (hI'.wd u hu) hin.aw] at this
          omega
        refine lcW_fil pr pr (fun u => decide (u ≠ lead)) (fun u => lessT u lead ((at' a u).fdiv (at' a lead))) L [] _ (fun u hu Y N' y n => ?_) ?_
        · have qb : ((at' a u).fdiv (at' a lead)).natAbs < 2 ^ (4 * b + 3) := Nat.lt_of_le_of_lt (fdiv_abs _ ln) (av u hu)
          simp [and_assoc]
          refine ⟨(okN.pr u).ok (by decide), (okN.pr lead).ok (by decide), ?_⟩
          rw [eqv_pr]
          by_cases e : u = lead
          · left; exact ⟨by simp [e], n (by simp [e])⟩
          · right
            refine ⟨by simp [e], ?_⟩
            simp [pr, row, ix0, atu u (hI'.wd u hu), atu lead wl, and_assoc]
            refine ⟨divOk ln (av lead hl) (by omega), _, ⟨u, lead, _, rfl, fun x hx => ?_, fun x hx => ?_, rfl⟩, ?_⟩
            · exact mulOk qb (mem_nat (EL.l1 wl (EL2 lead hl)) bits hx) (by omega)
            · exact mulOk qb (mem_nat (EL.l2 wl (EL2 lead hl)) bits hx) (by omega)
            · rintro _ rfl
              exact y (by simpa using e)
        · simp only [List.nil_append]
          have wlat : ∀ u ∈ bdLater a L lead, Wd wd N u := bd_wd hI'.wd hl
          refine lcW_fil pr pr (fun u => decide (at' a u = 0)) id (bdLater a L lead) [] _ (fun u hu Y N' y n => ?_) ?_
          · by_cases e : at' a u = 0
            · simp [and_assoc, pr, row, ix0, atu u (wlat u hu), sEq, e]
              exact y (by simp [e])
            · simp [and_assoc, pr, row, ix0, atu u (wlat u hu), sEq, e]
              exact n (by simp [e])
          · simp only [List.nil_append, List.map_id]
            have lenL : (bdLater a L lead).length ≤ L.length := by
              unfold bdLater
              rw [List.length_map]
              exact List.length_filter_le ..
            have lenT := hI'.len
            have lenO := hin.len
            have lenF := List.length_filter_le (fun u => decide (at' a u = 0)) (bdLater a L lead)
            have lenF2 := List.length_filter_le (fun u => decide (at' a u ≠ 0)) (bdLater a L lead)
            refine ⟨by simp only [List.length_map]; exact Nat.le_trans (show _ ≤ 2000 by omega) (by decide), ?_⟩
            refine lcW_fil pr pr (fun u => decide (at' a u ≠ 0)) id (bdLater a L lead) [] _ (fun u hu Y N' y n => ?_) ?_
            · by_cases e : at' a u = 0
              · simp [and_assoc, pr, row, ix0, atu u (wlat u hu), sEq, e]
                exact n (by simp [e])
              · simp [and_assoc, pr, row, ix0, atu u (wlat u hu), sEq, e]
                exact y (by simp [e])
            · simp only [List.nil_append, List.map_id]
              refine ⟨by simp only [List.length_map]; exact Nat.le_trans (show _ ≤ 2000 by omega) (by decide), ?_⟩
              obtain ⟨t1, t2⟩ := hI'.turn hin hlen hl hmin
              have := fun y1 y2 y3 => hM (bdSome a L lead, rest ++ bdRest a L lead, y1, y2, y3) t1 t2
              simp only [List.map_append, bdSome, List.map_cons] at this
              exact this _ _ _
    · left
      have l1 : L.length = 1 := by
        have := List.length_pos_iff.mpr hI'.ne
        omega
      obtain ⟨lead, rfl⟩ := List.length_eq_one_iff.mp l1
      refine ⟨by simp, pr lead, by simp [atI, ixN], by decide, ?_⟩
      rw [hP]
      exact ⟨lead, rest, rfl, hI'.fin⟩
end
end K8
set_option Elab.async false
set_option linter.all false
set_option maxRecDepth 100000
set_option maxHeartbeats 4000000
namespace K8
open PySem PySem.Spec PyProof.Rows L2
section
variable {P : Program} {w : World} {K : PySem.W.Frag} {mg : Str → Option Value} {base : Heap}

def bigB : Nat := 320040
theorem bigB_eq : bigB = 320040 := rfl
theorem rngD_nat {n i : Nat} {x : D} (h : (rngD n)[i]? = Option.some x) : i < n ∧ x = .int (i : Int) := rngD_get h
theorem rngD_len (n : Nat) : (rngD n).length = n := by unfold rngD; simp
theorem row_at' {r : List Int} {a : Nat} {w : Nat} (h : r.length = w) (ha : a < w) : atI (r.map D.int) (a : Int) = Option.some (.int (vf r a)) := row_at (by omega)
theorem intmul_neg1 (x : Int) : IntMulOk (-1) x := IntMulOk.of_left (by decide)
def W_steps_led : DW := fun _ l P => ∃ (rs : List (List Int)) (w b : Nat), l = [rows rs, .int (w : Int)] ∧ SlIn rs w b ∧ P = fun d => ∃ found waiting : List Pr, d = .tup [prs found, rows (waiting.map (·.2))] ∧ SLI w rs.length b (initP rs) w found waiting
theorem G_steps_led (T : Txt K mg) : FnOk P w K mg base CX0 4 (He.ga K "steps_led") T.d_steps_led.fd ["rows", "many"] (spW K W_steps_led) := by
  refine fn_okD (k := 3) T.d_steps_led.F sc_steps_led ?_ (by decide) (fun cdv A outer s H E hr => ?_)
  · intro bg l P h
    obtain ⟨x, ts, n, rfl, _⟩ := h; rfl
  · refine ⟨_, (xs_cons (xs_par (i := 2) (j := 3) rfl sc_steps_led.nd rfl rfl (by decide) rfl rfl (xa_cons (x_lc (own := [("at", 4), ("row", 8)]) (gs := [4, 8]) rfl sc_steps_led.nd (xi_enum (by rfl) T.t_enumerate (xa_cons (x_var (pv 0)) xa_nil)) (blkOk_by (by kernel_rfl)) (fun _ _ _ _ _ => (xg_two rfl (xg_name (pg_name (i := 4) sc_steps_led.nd rfl (.inl rfl))) (xg_name (pg_name (i := 8) sc_steps_led.nd rfl (.inl rfl))))) (fun _ _ _ _ _ => xts_nil) (fun _ _ _ _ _ => (x_tup (xa_cons (x_var (pv 8)) (xa_cons (x_call (G_unit T) (hr.mono (by decide)) (by rfl) T.d_unit.g T.d_unit.F.kp T.d_unit.b (xa_cons (x_var (pv 4)) (xa_cons (x_callB call_len c1_len (by rfl) T.t_len bt_len (xa_cons (x_var (pv 0)) xa_nil)) xa_nil))) xa_nil))))) (xa_cons (x_lst xa_nil) xa_nil)) (by rfl))
    (xs_cons (xs_for PassesOwn.never rfl (xi_range (by rfl) T.t_range (xa_cons (x_var (pv 1)) xa_nil)) (xg_name (pg_name (i := 4) sc_steps_led.nd rfl (.inr rfl))) (xs_cons (xs_setLc (i := 5) (own := [("pair", 9)]) (gs := [9]) rfl sc_steps_led.nd rfl rfl (sw_true rfl rfl rfl (by decide +kernel)) (xi_list (x_var (pv 2))) (blkOk_by (by kernel_rfl)) (fun _ _ _ _ _ => (xg_name (pg_name (i := 9) sc_steps_led.nd rfl (.inl rfl)))) (fun _ _ _ _ _ => (xts_one (xt_cmp op_ne r2_ne (x_ix ix_seq r2_ix (x_ix ix_seq r2_ix (x_var (pv 9)) x_int (fun _ _ => rfl)) (x_var (pv 4)) (fun _ _ => rfl)) x_int (nomark _)))) (fun _ _ _ _ _ => (x_var (pv 9))))
    (xs_one (xs_if (xt_truth (x_var (pv 5))) (xs_cons (xs_asg (x_call (G_brought_down T) (hr.mono (by decide)) (by rfl) T.d_brought_down.g T.d_brought_down.F.kp T.d_brought_down.b (xa_cons (x_var (pv 5)) (xa_cons (x_var (pv 4)) xa_nil))) (xg_two rfl (xg_name (pg_name (i := 6) sc_steps_led.nd rfl (.inr rfl))) (xg_name (pg_name (i := 7) sc_steps_led.nd rfl (.inl rfl)))))
    (xs_cons (xs_if (xt_cmp op_lt r2_B0 (x_ix ix_seq r2_ix (x_ix ix_seq r2_ix (x_var (pv 6)) x_int (fun _ _ => rfl)) (x_var (pv 4)) (fun _ _ => rfl)) x_int (nomark _)) (xs_one (xs_set (i := 6) sc_steps_led.nd rfl (.inr rfl) (x_tup (xa_cons (x_call (G_times T) (hr.mono (by decide)) (by rfl) T.d_times.g T.d_times.F.kp T.d_times.b (xa_cons (x_ix ix_seq r2_ix (x_var (pv 6)) x_int (fun _ _ => rfl)) (xa_cons (x_un un_neg u1_I x_int) xa_nil))) (xa_cons (x_call (G_times T) (hr.mono (by decide)) (by rfl) T.d_times.g T.d_times.F.kp T.d_times.b (xa_cons (x_ix ix_seq r2_ix (x_var (pv 6)) x_int (fun _ _ => rfl)) (xa_cons (x_un un_neg u1_I x_int) xa_nil))) xa_nil))))) xs_nil)
    (xs_cons (xs_set (i := 3) sc_steps_led.nd rfl (.inl rfl) (x_lst (xa_star (x_lc (own := [("pair", 9)]) (gs := [9]) rfl sc_steps_led.nd (xi_list (x_var (pv 3))) (blkOk_by (by kernel_rfl)) (fun _ _ _ _ _ => (xg_name (pg_name (i := 9) sc_steps_led.nd rfl (.inl rfl)))) (fun _ _ _ _ _ => xts_nil) (fun _ _ _ _ _ => (x_call (G_less_times T) (hr.mono (by decide)) (by rfl) T.d_less_times.g T.d_less_times.F.kp T.d_less_times.b (xa_cons (x_var (pv 9)) (xa_cons (x_var (pv 6)) (xa_cons (x_op op_fdivX r2_IC (x_ix ix_seq r2_ix (x_ix ix_seq r2_ix (x_var (pv 9)) x_int (fun _ _ => rfl)) (x_var (pv 4)) (fun _ _ => rfl)) (x_ix ix_seq r2_ix (x_ix ix_seq r2_ix (x_var (pv 6)) x_int (fun _ _ => rfl)) (x_var (pv 4)) (fun _ _ => rfl))) xa_nil)))))) (xa_cons (x_var (pv 6)) xa_nil))))
    (xs_one (xs_set (i := 2) sc_steps_led.nd rfl (.inl rfl) (x_lst (xa_star (x_lc (own := [("pair", 9)]) (gs := [9]) rfl sc_steps_led.nd (xi_list (x_var (pv 2))) (blkOk_by (by kernel_rfl)) (fun _ _ _ _ _ => (xg_name (pg_name (i := 9) sc_steps_led.nd rfl (.inl rfl)))) (fun _ _ _ _ _ => (xts_one (xt_cmp op_eq r2_eq (x_ix ix_seq r2_ix (x_ix ix_seq r2_ix (x_var (pv 9)) x_int (fun _ _ => rfl)) (x_var (pv 4)) (fun _ _ => rfl)) x_int (nomark _)))) (fun _ _ _ _ _ => (x_var (pv 9)))) (xa_star (x_var (pv 7)) xa_nil)))))))) xs_nil))))
    (xs_one (xs_ret (x_tup (xa_cons (x_var (pv 3)) (xa_cons (x_lc (own := [("row", 8), ("numbers", 10)]) (gs := [8, 10]) rfl sc_steps_led.nd (xi_list (x_var (pv 2))) (blkOk_by (by kernel_rfl)) (fun _ _ _ _ _ => (xg_two rfl (xg_name (pg_name (i := 8) sc_steps_led.nd rfl (.inl rfl))) (xg_name (pg_name (i := 10) sc_steps_led.nd rfl (.inl rfl))))) (fun _ _ _ _ _ => xts_nil) (fun _ _ _ _ _ => (x_var (pv 10)))) xa_nil))))))), ?_⟩
    intro bg l P h
    obtain ⟨rs, wd, b, rfl, hin, hP⟩ := h
    simp [rows, and_assoc]
    rw [show enumD (rs.map row) = rs.zipIdx.map (fun p : List Int × Nat => D.tup [.int ((p.2 : Nat) : Int), row p.1]) by unfold enumD; rw [List.zipIdx_map, List.map_map]; rfl]
    refine lcW_map (fun p : List Int × Nat => D.tup [.int ((p.2 : Nat) : Int), row p.1]) pr (fun p => (p.1, unitL p.2 rs.length)) _ [] _ (fun p hp Y N' y => ?_) ?_
    · simp [and_assoc]
      refine ⟨_, ⟨p.2, rs.length, rfl, Nat.le_trans hin.n (by decide), rfl⟩, ?_⟩
      rintro _ rfl
      exact ⟨by decide, y⟩
    · simp only [List.nil_append]
      refine ⟨wd, rfl, Nat.le_trans hin.w (by decide), ?_⟩
      have e0 : (rs.zipIdx.map fun p => (p.1, unitL p.2 rs.length)) = initP rs := rfl
      rw [e0]
      have lw := initP_wd hin.len
      have ll := initP_len rs
      refine forW_run (fun k ds => ∃ (found waiting : List Pr) (x4 x5 x6 x7 : Sl), ds = [Sl.val (D.lst (rs.map row)), Sl.val (.int wd), Sl.val (D.lst (waiting.map pr)), Sl.val (D.lst (found.map pr)), x4, x5, x6, x7, .no, .no, .no] ∧ SLI wd rs.length b (initP rs) k found waiting) _ 0 _ ⟨[], initP rs, .no, .no, .no, .no, rfl, SLI.start lw (initP_bl hin.b1 hin.bl)⟩ (fun k x ds hx hI M hM => ?_) (fun ds hI => ?_)
      · obtain ⟨hk, rfl⟩ := rngD_nat hx
        obtain ⟨found, waiting, x4, x5, x6, x7, rfl, hS⟩ := hI
        rw [Nat.zero_add] at hS hM
        simp [and_assoc]
        have atu : ∀ u, Wd wd rs.length u → atI (u.1.map D.int) (k : Int) = Option.some (.int (at' k u)) := fun u hu => row_at' hu.1 hk
        have ix0 : ∀ u : Pr, atI [D.tup (u.1.map D.int), D.tup (u.2.map D.int)] 0 = Option.some (D.tup (u.1.map D.int)) := fun u => by simp [atI, ixN]
        have ix1 : ∀ u : Pr, atI [D.tup (u.1.map D.int), D.tup (u.2.map D.int)] 1 = Option.some (D.tup (u.2.map D.int)) := fun u => by simp [atI, ixN]
        refine lcW_fil pr pr (fun u => decide (at' k u ≠ 0)) id waiting [] _ (fun u hu Y N' y n => ?_) ?_
        · by_cases e : at' k u = 0
          · simp [and_assoc, pr, row, ix0, atu u (hS.ww u hu), sEq, e]
            exact n (by simp [e])
          · simp [and_assoc, pr, row, ix0, atu u (hS.ww u hu), sEq, e]
            exact y (by simp [e])
        · simp only [List.nil_append, List.map_id]
          by_cases hne : waiting.filter (fun u => decide (at' k u ≠ 0)) = []
          · rw [hne]
            left
            refine ⟨rfl, hM _ ⟨found, waiting, _, _, _, _, rfl, hS.skip hk fun u hu => ?_⟩⟩
            have := List.filter_eq_nil_iff.mp hne u hu
            simpa using this
          · right
            refine ⟨by simpa using hne, _, ⟨_, k, wd, rs.length, _, _, rfl, hS.bdIn hk hne (by rw [ll]; exact hin.g) (by rw [ll]; exact hin.n), rfl⟩, ?_⟩
            rintro _ ⟨lead, rest, rfl, hout⟩
            have hout' := hS.turn hk hne rfl hout
            rw [ll] at hout'
            obtain ⟨hS', ldb, ldp, ldw, hfl⟩ := hout'
            refine ⟨pr lead, prs rest, .inl rfl, row lead.1, ⟨_, .inr (.inl rfl), by simp [atI, ixN]⟩, .int (at' k lead), ⟨_, .inr (.inl rfl), atu lead hout.wl⟩, .bl (decide (at' k lead < 0)), ⟨_, rfl, rfl⟩, ?_⟩
            have G8 : gr (rs.length - 1) b ≤ 8000 := Nat.le_trans (gr_le (Nat.sub_le _ _) b) hin.g
            have Fb : ∀ u ∈ found, ∀ i, (jv u i).natAbs < 2 ^ bigB := fun u hu i => by
              have h1 := hS.fb u hu i
              rw [ll] at h1
              refine Nat.lt_of_lt_of_le h1 (Nat.pow_le_pow_right (by decide) ?_)
              rw [bigB_eq]
              have : found.length * (gr (rs.length - 1) b + 1) ≤ 40 * 8001 := Nat.mul_le_mul (by have := hS.len; rw [ll] at this; have := hin.n; omega) (by omega)
              omega
            have lenF := hS.len
            have lenN := hin.n
            rw [ll] at lenF
            by_cases sg : at' k lead < 0
            · right
              refine ⟨by rw [decide_eq_true sg], row lead.1, ⟨_, .inr (.inl rfl), by simp [atI, ixN]⟩, _, ⟨lead.1, -1, rfl, fun x _ => intmul_neg1 x, rfl⟩, ?_⟩
              rintro _ rfl
              refine ⟨row lead.2, ⟨_, .inr (.inl rfl), by simp [atI, ixN]⟩, _, ⟨lead.2, -1, rfl, fun x _ => intmul_neg1 x, rfl⟩, ?_⟩
              rintro _ rfl
              have el : ldOf k lead = negT lead := if_pos sg
              rw [el] at ldb ldp ldw hS'
              refine ⟨by decide, ?_⟩
              rw [show D.tup [row (List.map (fun x => -1 * x) lead.fst), row (List.map (fun x => -1 * x) lead.snd)] = pr (negT lead) from rfl]
              refine lcW_map pr pr (fun u => lessT u (negT lead) ((at' k u).fdiv (at' k (negT lead)))) found [] _ (fun u hu Y N' y => ?_) ?_
              · have uw := hS.wf u hu
                have q1 : ((at' k u).fdiv (at' k (negT lead))).natAbs < 2 ^ bigB := Nat.lt_of_le_of_lt (fdiv_abs _ (by omega)) (by have := Fb u hu k; rw [jv_at uw hk] at this; exact this)
                have q2 : (at' k (negT lead)).natAbs < 2 ^ gr (rs.length - 1) b := by have := ldb k; rw [jv_at ldw hk] at this; exact this
                have q3 : ∀ r : List Int, (∀ x ∈ r, x.natAbs < 2 ^ gr (rs.length - 1) b) → ∀ x ∈ r, IntMulOk ((at' k u).fdiv (at' k (negT lead))) x := fun r hr x hx => mulOk q1 (hr x hx) (by rw [bigB_eq]; omega)
                have q4 : ∀ x ∈ (negT lead).1, x.natAbs < 2 ^ gr (rs.length - 1) b := fun x hx => mem_nat (M := 2 ^ gr (rs.length - 1) b - 1) (EL.l1 ldw fun i => Nat.le_sub_one_of_lt (ldb i)) (by have := Nat.two_pow_pos (gr (rs.length - 1) b); omega) hx
                have q5 : ∀ x ∈ (negT lead).2, x.natAbs < 2 ^ gr (rs.length - 1) b := fun x hx => mem_nat (M := 2 ^ gr (rs.length - 1) b - 1) (EL.l2 ldw fun i => Nat.le_sub_one_of_lt (ldb i)) (by have := Nat.two_pow_pos (gr (rs.length - 1) b); omega) hx
                have a1 := atu u uw
                have a2 := atu (negT lead) ldw
                simp [pr, row, ix0, a1, a2, and_assoc]
                refine ⟨divOk (by omega) q2 (by omega), _, ⟨u, (negT lead), _, rfl, q3 _ q4, q3 _ q5, rfl⟩, ?_⟩
                rintro _ rfl
                exact y
              · simp only [List.nil_append]
                refine ⟨by simp only [List.length_map]; exact Nat.le_trans (show _ ≤ 50 by omega) (by decide), ?_⟩
                refine lcW_fil pr pr (fun u => decide (at' k u = 0)) id waiting [] _ (fun u hu Y N' y n => ?_) ?_
                · by_cases e : at' k u = 0
                  · simp [and_assoc, pr, row, ix0, atu u (hS.ww u hu), sEq, e]
                    exact y (by simp [e])
                  · simp [and_assoc, pr, row, ix0, atu u (hS.ww u hu), sEq, e]
                    exact n (by simp [e])
                · simp only [List.nil_append, List.map_id]
                  have lenW := filter_split k waiting
                  have lenR := hout.len
                  refine ⟨rest.map pr, .inl rfl, by simp only [List.length_map]; exact Nat.le_trans (show _ ≤ 50 by omega) (by decide), ?_⟩
                  have f1 : List.map pr (List.map (fun u => lessT u (negT lead) ((at' k u).fdiv (at' k (negT lead)))) found) ++ [pr (negT lead)] = List.map pr (flOf k found (negT lead)) := by unfold flOf; rw [List.map_append]; rfl
                  rw [f1, ← List.map_append]
                  exact hM _ ⟨_, _, _, _, _, _, rfl, hS'⟩
            · left
              have el : ldOf k lead = lead := if_neg sg
              rw [el] at ldb ldp ldw hS'
              refine ⟨by rw [decide_eq_false sg], ?_⟩
              refine lcW_map pr pr (fun u => lessT u lead ((at' k u).fdiv (at' k lead))) found [] _ (fun u hu Y N' y => ?_) ?_
              · have uw := hS.wf u hu
                have q1 : ((at' k u).fdiv (at' k lead)).natAbs < 2 ^ bigB := Nat.lt_of_le_of_lt (fdiv_abs _ (by omega)) (by have := Fb u hu k; rw [jv_at uw hk] at this; exact this)
                have q2 : (at' k lead).natAbs < 2 ^ gr (rs.length - 1) b := by have := ldb k; rw [jv_at ldw hk] at this; exact this
                have q3 : ∀ r : List Int, (∀ x ∈ r, x.natAbs < 2 ^ gr (rs.length - 1) b) → ∀ x ∈ r, IntMulOk ((at' k u).fdiv (at' k lead)) x := fun r hr x hx => mulOk q1 (hr x hx) (by rw [bigB_eq]; omega)
                have q4 : ∀ x ∈ lead.1, x.natAbs < 2 ^ gr (rs.length - 1) b := fun x hx => mem_nat (M := 2 ^ gr (rs.length - 1) b - 1) (EL.l1 ldw fun i => Nat.le_sub_one_of_lt (ldb i)) (by have := Nat.two_pow_pos (gr (rs.length - 1) b); omega) hx
                have q5 : ∀ x ∈ lead.2, x.natAbs < 2 ^ gr (rs.length - 1) b := fun x hx => mem_nat (M := 2 ^ gr (rs.length - 1) b - 1) (EL.l2 ldw fun i => Nat.le_sub_one_of_lt (ldb i)) (by have := Nat.two_pow_pos (gr (rs.length - 1) b); omega) hx
                have a1 := atu u uw
                have a2 := atu lead ldw
                simp [pr, row, ix0, a1, a2, and_assoc]
                refine ⟨divOk (by omega) q2 (by omega), _, ⟨u, lead, _, rfl, q3 _ q4, q3 _ q5, rfl⟩, ?_⟩
                rintro _ rfl
                exact y
              · simp only [List.nil_append]
                refine ⟨by simp only [List.length_map]; exact Nat.le_trans (show _ ≤ 50 by omega) (by decide), ?_⟩
                refine lcW_fil pr pr (fun u => decide (at' k u = 0)) id waiting [] _ (fun u hu Y N' y n => ?_) ?_
                · by_cases e : at' k u = 0
                  · simp [and_assoc, pr, row, ix0, atu u (hS.ww u hu), sEq, e]
                    exact y (by simp [e])
                  · simp [and_assoc, pr, row, ix0, atu u (hS.ww u hu), sEq, e]
                    exact n (by simp [e])
                · simp only [List.nil_append, List.map_id]
                  have lenW := filter_split k waiting
                  have lenR := hout.len
                  refine ⟨rest.map pr, .inl rfl, by simp only [List.length_map]; exact Nat.le_trans (show _ ≤ 50 by omega) (by decide), ?_⟩
                  have f1 : List.map pr (List.map (fun u => lessT u lead ((at' k u).fdiv (at' k lead))) found) ++ [pr lead] = List.map pr (flOf k found lead) := by unfold flOf; rw [List.map_append]; rfl
                  rw [f1, ← List.map_append]
                  exact hM _ ⟨_, _, _, _, _, _, rfl, hS'⟩
      · obtain ⟨found, waiting, x4, x5, x6, x7, rfl, hS⟩ := hI
        simp only [List.length_map, List.length_range, Nat.zero_add] at hS
        simp [and_assoc]
        rw [show waiting.map pr = waiting.map (fun u => D.tup [row u.1, row u.2]) from rfl]
        refine lcW_map (fun u : Pr => D.tup [row u.1, row u.2]) row (fun u => u.2) waiting [] _ (fun u hu Y N' y => ?_) ?_
        · simp [and_assoc]
          exact y
        · refine ⟨by decide, ?_⟩
          rw [hP]
          exact ⟨found, waiting, rfl, hS⟩
end
end K8
set_option Elab.async false
set_option linter.all false
set_option maxRecDepth 100000
set_option maxHeartbeats 4000000
namespace K8
open PySem PySem.Spec PyProof.Rows L2
section
variable {P : Program} {w : World} {K : PySem.W.Frag} {mg : Str → Option Value} {base : Heap}
def W_width_of : DW := fun _ l P => ∃ (rs : List (List Int)), l = [rows rs] ∧ rs.length ≤ 1000 ∧ (∀ r ∈ rs, r.length ≤ 1000) ∧ P = (· = .int ((wid rs : Nat) : Int))
theorem G_width_of (T : Txt K mg) : FnOk P w K mg base CX0 1 (He.ga K "width_of") T.d_width_of.fd ["rows"] (spW K W_width_of) := by
  refine fn_okD (k := 0) T.d_width_of.F sc_width_of ?_ (by decide) (fun cdv A outer s H E hr => ?_)
  · intro bg l P h
    obtain ⟨x, rfl, _⟩ := h; rfl
  · refine ⟨_, (xs_one (xs_ret (x_if (xt_truth (x_var (pv 0))) (x_callB call_len c1_len (by rfl) T.t_len bt_len (xa_cons (x_ix ix_seq r2_ix (x_var (pv 0)) x_int (fun _ _ => rfl)) xa_nil)) x_int))), ?_⟩
    intro bg l P h
    obtain ⟨rs, rfl, hl, hr, rfl⟩ := h
    simp [rows, and_assoc]
    cases rs with
    | nil => left; simp [wid]
    | cons r rs =>
      right
      refine ⟨by simp, row r, by simp [atI, ixN], .inl ⟨r.map D.int, .inr (.inl rfl), by simp [wid]⟩⟩

def W_steps : DW := fun _ l P => ∃ (rs : List (List Int)) (b : Nat), l = [rows rs] ∧ SlIn rs (wid rs) b ∧ P = fun d => ∃ found waiting : List Pr, d = rows (found.map (·.1)) ∧ SLI (wid rs) rs.length b (initP rs) (wid rs) found waiting
theorem G_steps (T : Txt K mg) : FnOk P w K mg base CX0 5 (He.ga K "steps") T.d_steps.fd ["rows"] (spW K W_steps) := by
  refine fn_okD (k := 4) T.d_steps.F sc_steps ?_ (by decide) (fun cdv A outer s H E hr => ?_)
  · intro bg l P h
    obtain ⟨x, b, rfl, _⟩ := h; rfl
  · refine ⟨_, (xs_one (xs_ret (x_lc (own := [("row", 1), ("numbers", 2)]) (gs := [1, 2]) rfl sc_steps.nd (xi_list (x_ix ix_seq r2_ix (x_call (G_steps_led T) (hr.mono (by decide)) (by rfl) T.d_steps_led.g T.d_steps_led.F.kp T.d_steps_led.b (xa_cons (x_var (pv 0)) (xa_cons (x_call (G_width_of T) (hr.mono (by decide)) (by rfl) T.d_width_of.g T.d_width_of.F.kp T.d_width_of.b (xa_cons (x_var (pv 0)) xa_nil)) xa_nil))) x_int (fun _ _ => rfl))) (blkOk_by (by kernel_rfl)) (fun _ _ _ _ _ => (xg_two rfl (xg_name (pg_name (i := 1) sc_steps.nd rfl (.inl rfl))) (xg_name (pg_name (i := 2) sc_steps.nd rfl (.inl rfl))))) (fun _ _ _ _ _ => xts_nil) (fun _ _ _ _ _ => (x_var (pv 1)))))), ?_⟩
    intro bg l P h
    obtain ⟨rs, b, rfl, hin, hP⟩ := h
    simp [and_assoc]
    refine ⟨_, ⟨rs, rfl, Nat.le_trans hin.n (by decide), fun r hr => by rw [hin.len r hr]; exact Nat.le_trans hin.w (by decide), rfl⟩, ?_⟩
    rintro _ rfl
    refine ⟨_, ⟨rs, wid rs, b, rfl, hin, rfl⟩, ?_⟩
    rintro _ ⟨found, waiting, rfl, hS⟩
    refine ⟨_, ⟨_, .inr (.inl rfl), by simp [atI, ixN]; rfl⟩, found.map pr, rfl, ?_⟩
    rw [show found.map pr = found.map (fun u => D.tup [row u.1, row u.2]) from rfl]
    refine lcW_map (fun u : Pr => D.tup [row u.1, row u.2]) row (fun u => u.1) found [] _ (fun u hu Y N' y => ?_) ?_
    · simp [and_assoc]
      exact y
    · rw [hP]
      exact ⟨found, waiting, rfl, hS⟩

def W_rank : DW := fun _ l P => ∃ (rs : List (List Int)) (b : Nat), l = [rows rs] ∧ SlIn rs (wid rs) b ∧ P = fun d => ∃ found waiting : List Pr, d = .int (found.length : Int) ∧ SLI (wid rs) rs.length b (initP rs) (wid rs) found waiting
theorem G_rank (T : Txt K mg) : FnOk P w K mg base CX0 6 (He.ga K "rank") T.d_rank.fd ["rows"] (spW K W_rank) := by
  refine fn_okD (k := 5) T.d_rank.F sc_rank ?_ (by decide) (fun cdv A outer s H E hr => ?_)
  · intro bg l P h
    obtain ⟨x, b, rfl, _⟩ := h; rfl
  · refine ⟨_, (xs_one (xs_ret (x_callB call_len c1_len (by rfl) T.t_len bt_len (xa_cons (x_call (G_steps T) (hr.mono (by decide)) (by rfl) T.d_steps.g T.d_steps.F.kp T.d_steps.b (xa_cons (x_var (pv 0)) xa_nil)) xa_nil)))), ?_⟩
    intro bg l P h
    obtain ⟨rs, b, rfl, hin, hP⟩ := h
    simp [and_assoc]
    refine ⟨_, ⟨rs, b, rfl, hin, rfl⟩, ?_⟩
    rintro _ ⟨found, waiting, rfl, hS⟩
    refine ⟨_, .inl ⟨_, .inl rfl, rfl⟩, ?_⟩
    rw [hP]
    exact ⟨found, waiting, by simp, hS⟩

def W_is_held : DW := fun _ l P => ∃ (rs : List (List Int)) (r : List Int) (w b : Nat), l = [rows rs, row r] ∧ SlIn (rs ++ [r]) w b ∧ P = fun d => ∃ k : Bool, d = .bl k ∧ (k = true ↔ Orth w rs r)
theorem G_is_held (T : Txt K mg) : FnOk P w K mg base CX0 7 (He.ga K "is_held") T.d_is_held.fd ["rows", "row"] (spW K W_is_held) := by
  refine fn_okD (k := 6) T.d_is_held.F sc_is_held ?_ (by decide) (fun cdv A outer s H E hr => ?_)
  · intro bg l P h
    obtain ⟨x, b, c, d, rfl, _⟩ := h; rfl
  · refine ⟨_, (xs_one (xs_ret (x_cmp op_eq r2_eq (x_call (G_rank T) (hr.mono (by decide)) (by rfl) T.d_rank.g T.d_rank.F.kp T.d_rank.b (xa_cons (x_lst (xa_star (x_var (pv 0)) (xa_cons (x_var (pv 1)) xa_nil))) xa_nil)) (x_call (G_rank T) (hr.mono (by decide)) (by rfl) T.d_rank.g T.d_rank.F.kp T.d_rank.b (xa_cons (x_var (pv 0)) xa_nil)) (nomark _)))), ?_⟩
    intro bg l P h
    obtain ⟨rs, r, wd, b, rfl, hin, hP⟩ := h
    have w1 : wid (rs ++ [r]) = wd := by
      cases rs with
      | nil => exact hin.len r (by simp)
      | cons u rs => exact hin.len u (by simp)
    have g1 : gr rs.length b ≤ 8000 := Nat.le_trans (gr_le (by simp) b) hin.g
    have n1 : rs.length ≤ 40 := by have := hin.n; simp at this; omega
    have l2 : rs ≠ [] → wid rs = wd := fun h => by
      cases rs with
      | nil => exact absurd rfl h
      | cons u rs => exact hin.len u (by simp)
    have l3 : wid rs ≤ wd := by
      cases rs with
      | nil => exact Nat.zero_le _
      | cons u rs => exact Nat.le_of_eq (l2 (by simp))
    have hin1 : SlIn rs (wid rs) b := ⟨fun u hu => by rw [l2 (List.ne_nil_of_mem hu)]; exact hin.len u (List.mem_append_left _ hu), hin.b1, fun u hu => hin.bl u (List.mem_append_left _ hu), g1, n1, Nat.le_trans l3 hin.w⟩
    simp [rows, and_assoc]
    refine ⟨Nat.le_trans (Nat.succ_le_succ n1) (by decide), _, ⟨rs ++ [r], b, by simp [rows], w1.symm ▸ hin, rfl⟩, ?_⟩
    rintro _ ⟨f2, w2, rfl, hS2⟩
    refine ⟨_, ⟨rs, b, rfl, hin1, rfl⟩, ?_⟩
    rintro _ ⟨f1, w1', rfl, hS1⟩
    rw [w1] at hS2
    have := held_iff l2 l3 hin.len hS1 hS2
    by_cases e : f2.length = f1.length
    · refine ⟨.bl true, by simp [sEq, e], ?_⟩
      rw [hP]
      exact ⟨true, rfl, by simp [← this, e]⟩
    · have e' : ¬ ((f2.length : Int) = (f1.length : Int)) := by omega
      refine ⟨.bl false, by simp [sEq, e'], ?_⟩
      rw [hP]
      exact ⟨false, rfl, by simp [← this, e]⟩

def W_frame : DW := fun _ l P => ∃ (rs : List (List Int)) (n b : Nat), l = [rows rs, .int (n : Int)] ∧ (∀ r ∈ rs, r.length = n) ∧ 1 ≤ b ∧ (∀ r ∈ rs, ∀ i, (vf r i).natAbs < 2 ^ b) ∧ gr n b ≤ 8000 ∧ n ≤ 40 ∧ rs.length ≤ 40 ∧ P = fun d => ∃ fr, d = rows fr ∧ Frm n b rs fr
theorem G_frame (T : Txt K mg) : FnOk P w K mg base CX0 6 (He.ga K "frame") T.d_frame.fd ["rows", "many"] (spW K W_frame) := by
  refine fn_okD (k := 5) T.d_frame.F sc_frame ?_ (by decide) (fun cdv A outer s H E hr => ?_)
  · intro bg l P h
    obtain ⟨x, b, c, rfl, _⟩ := h; rfl
  · refine ⟨_, (xs_cons (xs_setLc (i := 2) (own := [("at", 3)]) (gs := [3]) rfl sc_frame.nd rfl rfl (sw_true rfl rfl rfl (by decide +kernel)) (xi_range (by rfl) T.t_range (xa_cons (x_var (pv 1)) xa_nil)) (blkOk_by (by kernel_rfl)) (fun _ _ _ _ _ => (xg_name (pg_name (i := 3) sc_frame.nd rfl (.inr rfl)))) (fun _ _ _ _ _ => xts_nil) (fun _ _ _ _ _ => (x_callTy call_tuple_of c1_tup (by rfl) T.t_tuple bt_tuple (xa_cons (x_lc (own := [("row", 4)]) (gs := [4]) rfl sc_frame.nd (xi_list (x_var (pv 0))) (blkOk_by (by kernel_rfl)) (fun _ _ _ _ _ => (xg_name (pg_name (i := 4) sc_frame.nd rfl (.inl rfl)))) (fun _ _ _ _ _ => xts_nil) (fun _ _ _ _ _ => (x_ix ix_seq r2_ix (x_var (pv 4)) (x_var (pv 3)) (fun _ _ => rfl)))) xa_nil))))
    (xs_one (xs_ret (x_call (G_steps T) (hr.mono (by decide)) (by rfl) T.d_steps.g T.d_steps.F.kp T.d_steps.b (xa_cons (x_ix ix_seq r2_ix (x_call (G_steps_led T) (hr.mono (by decide)) (by rfl) T.d_steps_led.g T.d_steps_led.F.kp T.d_steps_led.b (xa_cons (x_var (pv 2)) (xa_cons (x_callB call_len c1_len (by rfl) T.t_len bt_len (xa_cons (x_var (pv 0)) xa_nil)) xa_nil))) x_int (fun _ _ => rfl)) xa_nil))))), ?_⟩
    intro bg l P h
    obtain ⟨rs, n, b, rfl, hl, b1, hb, hg, hn, hr, hP⟩ := h
    simp [rows, and_assoc]
    refine ⟨n, rfl, Nat.le_trans hn (by decide), ?_⟩
    refine lcW_map (fun i : Nat => D.int (i : Int)) row (fun i => rs.map fun r => vf r i) _ [] _ (fun i hi Y N' y => ?_) ?_
    · have hi' : i < n := by simpa using hi
      simp [and_assoc]
      rw [show (rs.map row) = rs.map (fun r => D.tup (r.map D.int)) from rfl]
      refine lcW_map (fun r : List Int => D.tup (r.map D.int)) D.int (fun r => vf r i) rs [] _ (fun r hr' Y' N'' y' => ?_) ?_
      · simp [and_assoc, row_at' (hl r hr') hi']
        exact y'
      · exact y
    · simp only [List.nil_append]
      have ecol : ((List.range n).map fun i => rs.map fun r => vf r i) = colsOf rs n := rfl
      rw [ecol]
      have hcl : ∀ c ∈ colsOf rs n, c.length = rs.length := fun c hc => by
        unfold colsOf at hc
        obtain ⟨i, _, rfl⟩ := List.mem_map.mp hc
        simp
      have hcb : ∀ c ∈ colsOf rs n, ∀ j, (vf c j).natAbs < 2 ^ b := fun c hc j => by
        unfold colsOf at hc
        obtain ⟨i, _, rfl⟩ := List.mem_map.mp hc
        by_cases hj : j < rs.length
        · rw [vf_cols hj]; exact hb _ (List.getElem_mem _) i
        · rw [vf_ge (by rw [List.length_map]; omega)]; simp [Nat.two_pow_pos]
      refine ⟨_, ⟨colsOf rs n, rs.length, b, rfl, ⟨hcl, b1, hcb, by rw [colsOf_len]; exact hg, by rw [colsOf_len]; exact hn, hr⟩, rfl⟩, ?_⟩
      rintro _ ⟨found, waiting, rfl, hS⟩
      refine ⟨_, ⟨_, .inr (.inl rfl), by simp [atI, ixN]; rfl⟩, ?_⟩
      have nw := hS.len
      rw [initP_len, colsOf_len] at nw
      have w2 : waiting ≠ [] → wid (waiting.map (·.2)) = n := fun h => by
        cases waiting with
        | nil => exact absurd rfl h
        | cons u l => 
          have := (hS.ww u (List.mem_cons_self ..)).2
          rw [colsOf_len] at this
          exact this
      have w3 : wid (waiting.map (·.2)) ≤ 40 := by
        cases waiting with
        | nil => exact Nat.zero_le _
        | cons u l => rw [w2 (by simp)]; exact hn
      refine ⟨_, ⟨waiting.map (·.2), gr (n - waiting.length) b, rfl, ⟨fun r hr => ?_, ?_, fun r hr i => ?_, ?_, by rw [List.length_map]; omega, w3⟩, rfl⟩, ?_⟩
      · obtain ⟨u, hu, rfl⟩ := List.mem_map.mp hr
        rw [w2 (List.ne_nil_of_mem hu), (hS.ww u hu).2, colsOf_len]
      · exact Nat.le_trans b1 (gr_le (Nat.zero_le _) b)
      · obtain ⟨u, hu, rfl⟩ := List.mem_map.mp hr
        have := hS.wb u hu (rs.length + i)
        rw [initP_len, colsOf_len] at this
        rw [← congrFun (shW_jv (hS.ww u hu)) i]
        exact this
      · rw [List.length_map, gr_add]
        exact Nat.le_trans (gr_le (by omega) b) hg
      · rintro _ ⟨f2, w2', rfl, hS2⟩
        rw [hP]
        exact ⟨_, rfl, frm_of hS w2 rfl hS2⟩
end
end K8
set_option Elab.async false
set_option linter.all false
set_option maxRecDepth 100000
set_option maxHeartbeats 4000000
namespace K8
open PySem PySem.Spec PyProof.Rows L2
section
variable {P : Program} {w : World} {K : PySem.W.Frag} {mg : Str → Option Value} {base : Heap}
def W_common_part : DW := fun _ l P => ∃ (x : D) (ns : List Int), l = [x] ∧ IsT x (ns.map .int) ∧ P = fun d => ∃ c : Nat, d = .int (c : Int) ∧ (∀ z ∈ ns, (c : Int) ∣ z) ∧ (c = 0 ∨ ∃ z ∈ ns, z ≠ 0)
theorem G_common_part (T : Txt K mg) : FnOk P w K mg base CX0 1 (He.ga K "common_part") T.d_common_part.fd ["numbers"] (spW K W_common_part) := by
  refine fn_okD (k := 0) T.d_common_part.F sc_common_part ?_ (by decide) (fun cdv A outer s H E hr => ?_)
  · intro bg l P h
    obtain ⟨x, ns, rfl, _⟩ := h; rfl
  · refine ⟨_, (xs_cons (xs_set (i := 1) sc_common_part.nd rfl (.inl rfl) x_int)
    (xs_cons (xs_for PassesOwn.never rfl (xi_tup (x_var (pv 0))) (xg_name (pg_name (i := 2) sc_common_part.nd rfl (.inl rfl))) (xs_cons (xs_set (i := 3) sc_common_part.nd rfl (.inl rfl) (x_callB call_abs c1_abs (by rfl) T.t_abs bt_abs (xa_cons (x_var (pv 2)) xa_nil)))
    (xs_one (xs_while PassesOwn.never (xt_cmp op_gt r2_B0 (x_var (pv 3)) x_int (nomark _)) (xs_one (xs_par (i := 1) (j := 3) rfl sc_common_part.nd rfl rfl (by decide) rfl rfl (xa_cons (x_var (pv 3)) (xa_cons (x_op op_modX r2_IC (x_var (pv 1)) (x_var (pv 3))) xa_nil)) (by rfl)))))))
    (xs_one (xs_ret (x_var (pv 1)))))), ?_⟩
    intro bg l P h
    obtain ⟨x, ns, rfl, hx, hP⟩ := h
    simp [and_assoc]
    refine ⟨_, hx, ?_⟩
    refine forW_run (fun k ds => ∃ (c : Nat) (x2 x3 : Sl), ds = [Sl.val x, Sl.val (.int (c : Int)), x2, x3] ∧ (∀ i, i < k → ∀ z, ns[i]? = some z → (c : Int) ∣ z) ∧ (c = 0 ∨ ∃ z ∈ ns, z ≠ 0)) _ 0 _ ⟨0, .no, .no, rfl, fun i hi => absurd hi (Nat.not_lt_zero _), .inl rfl⟩ (fun k y ds hy hI M hM => ?_) (fun ds hI => ?_)
    · obtain ⟨c, x2, x3, rfl, hc, hz⟩ := hI
      rw [Nat.zero_add] at hM hc
      rw [List.getElem?_map] at hy
      obtain ⟨z, hzk, rfl⟩ := Option.map_eq_some_iff.mp hy
      simp [and_assoc]
      rw [show (if z < 0 then -z else z) = ((z.natAbs : Nat) : Int) by split <;> omega]
      refine while_run (α := Nat × Nat) (fun s => [Sl.val x, Sl.val (.int (s.1 : Int)), Sl.val (.int z), Sl.val (.int (s.2 : Int))]) (fun s => Nat.gcd s.1 s.2 = Nat.gcd c z.natAbs) (fun s => s.2) ?_ (c, z.natAbs) rfl
      rintro ⟨f, r⟩ hI M' hM'
      have hI' : Nat.gcd f r = Nat.gcd c z.natAbs := hI
      simp [and_assoc]
      by_cases hr : r = 0
      · left
        subst hr
        refine ⟨by simp, ?_⟩
        rw [Nat.gcd_zero_right] at hI'
        refine hM _ ⟨f, _, _, rfl, fun i hi w hw => ?_, ?_⟩
        · rw [hI']
          by_cases e : i = k
          · rw [e, hzk] at hw
            cases hw
            exact Int.ofNat_dvd_left.mpr (Nat.gcd_dvd_right ..)
          · have := hc i (by omega) w hw
            exact Int.dvd_trans (Int.natCast_dvd_natCast.mpr (Nat.gcd_dvd_left ..)) this
        · by_cases e : z = 0
          · rw [hI', e]
            simpa using hz
          · exact .inr ⟨z, List.mem_of_getElem? hzk, e⟩
      · right
        refine ⟨by omega, hr, ?_⟩
        rw [show (f : Int).fmod (r : Int) = ((f % r : Nat) : Int) by rw [Int.fmod_eq_emod_of_nonneg _ (by omega)]; simp]
        refine hM' (r, f % r) ?_ (Nat.mod_lt _ (by omega))
        show Nat.gcd r (f % r) = _
        rw [← hI', Nat.gcd_comm r, ← Nat.gcd_rec, Nat.gcd_comm]
    · obtain ⟨c, x2, x3, rfl, hc, hz⟩ := hI
      rw [Nat.zero_add, List.length_map] at hc
      simp [and_assoc]
      rw [hP]
      refine ⟨c, rfl, fun z hz' => ?_, hz⟩
      obtain ⟨i, hi, e⟩ := List.mem_iff_getElem.mp hz'
      exact hc i hi z (by rw [List.getElem?_eq_getElem hi, e])

def W_shortened : DW := fun _ l P => ∃ (r : List Int) (b : Nat), l = [row r] ∧ (∀ z ∈ r, z.natAbs < 2 ^ b) ∧ (b ≤ 8990 ∨ r = []) ∧ P = fun d => ∃ (r' : List Int) (by' : Int), d = row r' ∧ 0 < by' ∧ r'.length = r.length ∧ (∀ j, by' * vf r' j = vf r j) ∧ ∀ z ∈ r', z.natAbs < 2 ^ b
theorem G_shortened (T : Txt K mg) : FnOk P w K mg base CX0 2 (He.ga K "shortened") T.d_shortened.fd ["row"] (spW K W_shortened) := by
  refine fn_okD (k := 1) T.d_shortened.F sc_shortened ?_ (by decide) (fun cdv A outer s H E hr => ?_)
  · intro bg l P h
    obtain ⟨x, ns, rfl, _⟩ := h; rfl
  · refine ⟨_, (xs_cons (xs_set (i := 1) sc_shortened.nd rfl (.inr rfl) (x_call (G_common_part T) (hr.mono (by decide)) (by rfl) T.d_common_part.g T.d_common_part.F.kp T.d_common_part.b (xa_cons (x_var (pv 0)) xa_nil)))
    (xs_one (xs_ret (x_if (xt_cmp op_eq r2_eq (x_var (pv 1)) x_int (nomark _)) (x_var (pv 0)) (x_callTy call_tuple_of c1_tup (by rfl) T.t_tuple bt_tuple (xa_cons (x_lc (own := [("part", 2)]) (gs := [2]) rfl sc_shortened.nd (xi_tup (x_var (pv 0))) (blkOk_by (by kernel_rfl)) (fun _ _ _ _ _ => (xg_name (pg_name (i := 2) sc_shortened.nd rfl (.inl rfl)))) (fun _ _ _ _ _ => xts_nil) (fun _ _ _ _ _ => (x_op op_fdivX r2_IC (x_var (pv 2)) (x_var (pv 1))))) xa_nil)))))), ?_⟩
    intro bg l P h
    obtain ⟨r, b, rfl, hb, b9, hP⟩ := h
    simp [and_assoc]
    refine ⟨_, ⟨row r, r, rfl, .inl rfl, rfl⟩, ?_⟩
    rintro _ ⟨c, rfl, hd, hc⟩
    by_cases c0 : c = 0
    · subst c0
      simp [sEq, and_assoc]
      rw [hP]
      exact ⟨r, 1, rfl, by decide, rfl, fun j => Int.one_mul _, hb⟩
    · have c0' : ¬ ((c : Int) = 0) := by omega
      simp [sEq, and_assoc, c0, row]
      obtain ⟨z0, hz0, hne⟩ := hc.resolve_left c0
      have cb : (c : Int).natAbs < 2 ^ b := by
        have h1 : c ≤ z0.natAbs := Nat.le_of_dvd (by omega) (Int.ofNat_dvd_left.mp (hd z0 hz0))
        have h2 := hb z0 hz0
        simp
        omega
      refine lcW_map D.int D.int (fun z => z.fdiv (c : Int)) r [] _ (fun z hz Y N y => ?_) ?_
      · simp [and_assoc]
        exact ⟨divOk (x := z) c0' cb (by rcases b9 with h | h; exact h; rw [h] at hz; cases hz), y⟩
      · rw [hP]
        have ex : ∀ z ∈ r, (c : Int) * z.fdiv (c : Int) = z := fun z hz => by
          obtain ⟨k, rfl⟩ := hd z hz
          rw [Int.mul_fdiv_cancel_left _ c0']
        refine ⟨r.map fun z => z.fdiv (c : Int), c, rfl, by omega, by simp, fun j => ?_, fun z hz => ?_⟩
        · by_cases hj : j < r.length
          · rw [vf_lt (by simpa using hj), vf_lt hj]
            simp only [List.getElem_map]
            exact ex _ (List.getElem_mem _)
          · rw [vf_ge (by simp; omega), vf_ge (by omega)]; simp
        · obtain ⟨y, hy, rfl⟩ := List.mem_map.mp hz
          exact Nat.lt_of_le_of_lt (fdiv_abs y c0') (hb y hy)

def W_is_less : DW := fun _ l P => ∃ (a b : List Int), l = [row a, row b] ∧ P = fun d => ∃ k : Bool, d = .bl k ∧ (k = true ↔ Less a b)
theorem G_is_less (T : Txt K mg) : FnOk P w K mg base CX0 1 (He.ga K "is_less") T.d_is_less.fd ["one", "other"] (spW K W_is_less) := by
  refine fn_okD (k := 0) T.d_is_less.F sc_is_less ?_ (by decide) (fun cdv A outer s H E hr => ?_)
  · intro bg l P h
    obtain ⟨x, ns, rfl, _⟩ := h; rfl
  · refine ⟨_, (xs_one (xs_ret (x_and (x_cmp op_lt r2_B0 (x_callB call_len c1_len (by rfl) T.t_len bt_len (xa_cons (x_var (pv 0)) xa_nil)) (x_callB call_len c1_len (by rfl) T.t_len bt_len (xa_cons (x_var (pv 1)) xa_nil)) (nomark _)) (x_one (x_callB (cr_all rfl) c1_all (by rfl) T.t_all bt_all (xa_cons (x_lc (own := [("at", 2)]) (gs := [2]) rfl sc_is_less.nd (xi_tup (x_var (pv 0))) (blkOk_by (by kernel_rfl)) (fun _ _ _ _ _ => (xg_name (pg_name (i := 2) sc_is_less.nd rfl (.inl rfl)))) (fun _ _ _ _ _ => xts_nil) (fun _ _ _ _ _ => (x_cmp op_in_seq r2_in (x_var (pv 2)) (x_var (pv 1)) (by rfl)))) xa_nil)))))), ?_⟩
    intro bg l P h
    obtain ⟨a, b, rfl, hP⟩ := h
    simp [and_assoc, row]
    by_cases hl : a.length < b.length
    · right
      refine ⟨by omega, ?_⟩
      refine lcW_map D.int D.bl (fun z => decide (z ∈ b)) a [] _ (fun z hz Y N y => ?_) ?_
      · simp [and_assoc]
        refine ⟨_, ⟨b, rfl, rfl⟩, ?_⟩
        simpa using y
      · refine ⟨_, ⟨a.map fun z => decide (z ∈ b), by simp, rfl⟩, ?_⟩
        rw [hP]
        refine ⟨_, rfl, ?_⟩
        simp [Less, hl]
    · left
      refine ⟨by omega, ?_⟩
      rw [hP]
      exact ⟨false, rfl, by simp [Less, hl]⟩

def two (p : Int × Int) : D := .tup [.int p.1, .int p.2]
def opD : Option (Int × Int) → D
  | none => .non
  | some p => two p
def W_greater : DW := fun _ l P => ∃ (o : Option (Int × Int)) (p : Int × Int) (b : Nat), l = [opD o, two p] ∧ b ≤ 400000 ∧ (∀ q, o = some q → q.1.natAbs < 2 ^ b ∧ q.2.natAbs < 2 ^ b) ∧ p.1.natAbs < 2 ^ b ∧ p.2.natAbs < 2 ^ b ∧ P = (· = two (gtr o p))
theorem G_greater (T : Txt K mg) : FnOk P w K mg base CX0 1 (He.ga K "greater") T.d_greater.fd ["one", "other"] (spW K W_greater) := by
  refine fn_okD (k := 0) T.d_greater.F sc_greater ?_ (by decide) (fun cdv A outer s H E hr => ?_)
  · intro bg l P h
    obtain ⟨x, ns, b, rfl, _⟩ := h; rfl
  · refine ⟨_, (xs_one (xs_ret (x_if (PXW.xt (xw_or (xt_cmp op_isN r2_isN (x_var (pv 0)) x_non (nomark _)) (xw_or1 (xt_cmp op_lt r2_B0 (x_op op_mulX r2_IC (x_ix ix_seq r2_ix (x_var (pv 0)) x_int (fun _ _ => rfl)) (x_ix ix_seq r2_ix (x_var (pv 1)) x_int (fun _ _ => rfl))) (x_op op_mulX r2_IC (x_ix ix_seq r2_ix (x_var (pv 1)) x_int (fun _ _ => rfl)) (x_ix ix_seq r2_ix (x_var (pv 0)) x_int (fun _ _ => rfl))) (nomark _))))) (x_var (pv 1)) (x_var (pv 0))))), ?_⟩
    intro bg l P h
    obtain ⟨o, p, b, rfl, hb, ho, p1, p2, rfl⟩ := h
    cases o with
    | none => simp [and_assoc, opD, isNon, two, gtr]
    | some q =>
      obtain ⟨q1, q2⟩ := ho q rfl
      have m1 : IntMulOk q.1 p.2 := mulOk q1 p2 (by omega)
      have m2 : IntMulOk p.1 q.2 := mulOk p1 q2 (by omega)
      by_cases c : q.1 * p.2 < p.1 * q.2
      · simp [and_assoc, opD, isNon, two, gtr, atI, ixN, m1, m2, c]
      · simp [and_assoc, opD, isNon, two, gtr, atI, ixN, m1, m2, c]

def W_lesser : DW := fun _ l P => ∃ (o : Option (Int × Int)) (p : Int × Int) (b : Nat), l = [opD o, two p] ∧ b ≤ 400000 ∧ (∀ q, o = some q → q.1.natAbs < 2 ^ b ∧ q.2.natAbs < 2 ^ b) ∧ p.1.natAbs < 2 ^ b ∧ p.2.natAbs < 2 ^ b ∧ P = (· = two (lsr o p))
theorem G_lesser (T : Txt K mg) : FnOk P w K mg base CX0 1 (He.ga K "lesser") T.d_lesser.fd ["one", "other"] (spW K W_lesser) := by
  refine fn_okD (k := 0) T.d_lesser.F sc_lesser ?_ (by decide) (fun cdv A outer s H E hr => ?_)
  · intro bg l P h
    obtain ⟨x, ns, b, rfl, _⟩ := h; rfl
  · refine ⟨_, (xs_one (xs_ret (x_if (PXW.xt (xw_or (xt_cmp op_isN r2_isN (x_var (pv 0)) x_non (nomark _)) (xw_or1 (xt_cmp op_gt r2_B0 (x_op op_mulX r2_IC (x_ix ix_seq r2_ix (x_var (pv 0)) x_int (fun _ _ => rfl)) (x_ix ix_seq r2_ix (x_var (pv 1)) x_int (fun _ _ => rfl))) (x_op op_mulX r2_IC (x_ix ix_seq r2_ix (x_var (pv 1)) x_int (fun _ _ => rfl)) (x_ix ix_seq r2_ix (x_var (pv 0)) x_int (fun _ _ => rfl))) (nomark _))))) (x_var (pv 1)) (x_var (pv 0))))), ?_⟩
    intro bg l P h
    obtain ⟨o, p, b, rfl, hb, ho, p1, p2, rfl⟩ := h
    cases o with
    | none => simp [and_assoc, opD, isNon, two, lsr]
    | some q =>
      obtain ⟨q1, q2⟩ := ho q rfl
      have m1 : IntMulOk q.1 p.2 := mulOk q1 p2 (by omega)
      have m2 : IntMulOk p.1 q.2 := mulOk p1 q2 (by omega)
      by_cases c : q.1 * p.2 > p.1 * q.2
      · simp [and_assoc, opD, isNon, two, lsr, atI, ixN, m1, m2, c]
      · simp [and_assoc, opD, isNon, two, lsr, atI, ixN, m1, m2, c]
end
end K8
set_option Elab.async false
set_option linter.all false
set_option maxRecDepth 100000
set_option maxHeartbeats 4000000
namespace K8
open PySem PySem.Spec PyProof.Rows L2
section
variable {P : Program} {w : World} {K : PySem.W.Frag} {mg : Str → Option Value} {base : Heap}
def W_between : DW := fun _ l P => ∃ (o u : Option (Int × Int)) (p c : Nat), l = [opD o, opD u] ∧ p + c ≤ 400000 ∧ c ≤ 8000 ∧ (∀ q, o = some q → q.1.natAbs < 2 ^ p ∧ q.2.natAbs < 2 ^ c ∧ 0 < q.2) ∧ (∀ q, u = some q → q.1.natAbs < 2 ^ p ∧ q.2.natAbs < 2 ^ c ∧ 0 < q.2) ∧ (∀ q r, o = some q → u = some r → q.1 * r.2 < r.1 * q.2) ∧ P = fun d => ∃ a b, d = two (a, b) ∧ 0 < b ∧ (∀ q, o = some q → q.1 * b < a * q.2) ∧ (∀ q, u = some q → a * q.2 < q.1 * b) ∧ a.natAbs < 2 ^ (p + c + 1) ∧ b.natAbs < 2 ^ (2 * c + 1)
theorem G_between (T : Txt K mg) : FnOk P w K mg base CX0 1 (He.ga K "between") T.d_between.fd ["lower", "upper"] (spW K W_between) := by
  refine fn_okD (k := 0) T.d_between.F sc_between ?_ (by decide) (fun cdv A outer s H E hr => ?_)
  · intro bg l P h
    obtain ⟨x, ns, b, c, rfl, _⟩ := h; rfl
  · refine ⟨_, (xs_cons (xs_if (PXW.xt (xw_and (xt_cmp op_isN r2_isN (x_var (pv 0)) x_non (nomark _)) (xw_and1 (xt_cmp op_isN r2_isN (x_var (pv 1)) x_non (nomark _))))) (xs_one (xs_ret (x_tup (xa_cons x_int (xa_cons x_int xa_nil))))) xs_nil)
    (xs_cons (xs_if (xt_cmp op_isN r2_isN (x_var (pv 0)) x_non (nomark _)) (xs_one (xs_ret (x_tup (xa_cons (x_op op_fdivX r2_IC (x_op op_sub r2_I0 (x_ix ix_seq r2_ix (x_var (pv 1)) x_int (fun _ _ => rfl)) x_int) (x_ix ix_seq r2_ix (x_var (pv 1)) x_int (fun _ _ => rfl))) (xa_cons x_int xa_nil))))) xs_nil)
    (xs_cons (xs_if (xt_cmp op_isN r2_isN (x_var (pv 1)) x_non (nomark _)) (xs_one (xs_ret (x_tup (xa_cons (x_op op_add r2_I0 (x_op op_fdivX r2_IC (x_ix ix_seq r2_ix (x_var (pv 0)) x_int (fun _ _ => rfl)) (x_ix ix_seq r2_ix (x_var (pv 0)) x_int (fun _ _ => rfl))) x_int) (xa_cons x_int xa_nil))))) xs_nil)
    (xs_one (xs_ret (x_tup (xa_cons (x_op op_add r2_I0 (x_op op_mulX r2_IC (x_ix ix_seq r2_ix (x_var (pv 0)) x_int (fun _ _ => rfl)) (x_ix ix_seq r2_ix (x_var (pv 1)) x_int (fun _ _ => rfl))) (x_op op_mulX r2_IC (x_ix ix_seq r2_ix (x_var (pv 1)) x_int (fun _ _ => rfl)) (x_ix ix_seq r2_ix (x_var (pv 0)) x_int (fun _ _ => rfl)))) (xa_cons (x_op op_mulX r2_IC (x_op op_mulX r2_IC x_int (x_ix ix_seq r2_ix (x_var (pv 0)) x_int (fun _ _ => rfl))) (x_ix ix_seq r2_ix (x_var (pv 1)) x_int (fun _ _ => rfl))) xa_nil)))))))), ?_⟩
    intro bg l P h
    obtain ⟨o, u, p, c, rfl, hpc, hc, ho, hu, hou, hP⟩ := h
    have pw : ∀ k : Nat, 1 ≤ 2 ^ k := fun k => Nat.two_pow_pos k
    cases o with
    | none =>
      cases u with
      | none =>
        simp [and_assoc, opD, isNon]
        refine ⟨by decide, ?_⟩
        rw [hP]
        refine ⟨0, 1, rfl, by decide, fun q h => (nomatch h), fun q h => (nomatch h), ?_, ?_⟩
        · simp [Nat.two_pow_pos]
        · exact Nat.one_lt_two_pow (by omega)
      | some r =>
        obtain ⟨r1, r2, r3⟩ := hu r rfl
        have r0 : r.2 ≠ 0 := by omega
        simp [and_assoc, opD, isNon, two, atI, ixN]
        refine ⟨divOk (x := r.1 - 1) r0 r2 (by omega), by decide, ?_⟩
        rw [hP]
        refine ⟨(r.1 - 1).fdiv r.2, 1, rfl, by decide, fun q h => (nomatch h), fun q h => ?_, ?_, Nat.one_lt_two_pow (by omega)⟩
        · cases h
          have h1 := Int.mul_fdiv_add_fmod (r.1 - 1) r.2
          have h2 := Int.fmod_nonneg_of_pos (r.1 - 1) r3
          rw [Int.mul_comm] at h1
          omega
        · have h1 := fdiv_abs (r.1 - 1) r0
          have h2 : 2 ^ p ≤ 2 ^ (p + c) := Nat.pow_le_pow_right (by decide) (by omega)
          rw [Nat.pow_succ]
          have := pw p
          omega
    | some q =>
      obtain ⟨q1, q2, q3⟩ := ho q rfl
      have q0 : q.2 ≠ 0 := by omega
      cases u with
      | none =>
        simp [and_assoc, opD, isNon, two, atI, ixN]
        refine ⟨divOk (x := q.1) q0 q2 (by omega), by decide, ?_⟩
        rw [hP]
        refine ⟨q.1.fdiv q.2 + 1, 1, rfl, by decide, fun q' h => ?_, fun q h => (nomatch h), ?_, Nat.one_lt_two_pow (by omega)⟩
        · cases h
          have h1 := Int.mul_fdiv_add_fmod q.1 q.2
          have h2 := Int.fmod_lt_of_pos q.1 q3
          rw [Int.mul_comm] at h1
          rw [Int.add_mul]
          omega
        · have h1 := fdiv_abs q.1 q0
          have h2 : 2 ^ p ≤ 2 ^ (p + c) := Nat.pow_le_pow_right (by decide) (by omega)
          rw [Nat.pow_succ]
          have := pw p
          omega
      | some r =>
        obtain ⟨r1, r2, r3⟩ := hu r rfl
        have r0 : r.2 ≠ 0 := by omega
        have m1 : IntMulOk q.1 r.2 := mulOk q1 r2 (by omega)
        have m2 : IntMulOk r.1 q.2 := mulOk r1 q2 (by omega)
        have m3 : IntMulOk 2 q.2 := IntMulOk.of_left (by decide)
        have b3 : (2 * q.2).natAbs < 2 ^ (c + 1) := by rw [Nat.pow_succ]; omega
        have m4 : IntMulOk (2 * q.2) r.2 := mulOk b3 r2 (by omega)
        simp [and_assoc, opD, isNon, two, atI, ixN, m1, m2, m3, m4]
        refine ⟨by decide, ?_⟩
        rw [hP]
        have hlt := hou q r rfl rfl
        refine ⟨q.1 * r.2 + r.1 * q.2, 2 * q.2 * r.2, rfl, Int.mul_pos (by omega) r3, fun q' h => ?_, fun r' h => ?_, ?_, ?_⟩
        · cases h
          have e1 : q.1 * (2 * q.2 * r.2) = (q.1 * r.2) * q.2 + (q.1 * r.2) * q.2 := by
            have : q.1 * (2 * q.2 * r.2) = 2 * ((q.1 * r.2) * q.2) := by
              rw [Int.mul_assoc 2, Int.mul_left_comm, Int.mul_comm q.2 r.2, ← Int.mul_assoc q.1]
            omega
          have e2 := Int.mul_lt_mul_of_pos_right hlt q3
          rw [e1, Int.add_mul]
          omega
        · cases h
          have e1 : r.1 * (2 * q.2 * r.2) = (r.1 * q.2) * r.2 + (r.1 * q.2) * r.2 := by
            have : r.1 * (2 * q.2 * r.2) = 2 * ((r.1 * q.2) * r.2) := by
              rw [Int.mul_assoc 2, Int.mul_left_comm, ← Int.mul_assoc r.1]
            omega
          have e2 := Int.mul_lt_mul_of_pos_right hlt r3
          rw [e1, Int.add_mul]
          omega
        · have h1 : (q.1 * r.2).natAbs < 2 ^ (p + c) := wide_lt q1 r2
          have h2 : (r.1 * q.2).natAbs < 2 ^ (p + c) := wide_lt r1 q2
          rw [Nat.pow_succ]
          omega
        · have h1 := wide_lt b3 r2
          rw [show c + 1 + c = 2 * c + 1 by omega] at h1
          exact h1

def W_seen_by : DW := fun _ l P => ∃ (fr : List (List Int)) (r : List Int), l = [rows fr, row r] ∧ (∀ f ∈ fr, ∀ p ∈ r.zip f, IntMulOk p.1 p.2) ∧ P = (· = row (fr.map (dotp r ·)))
theorem G_seen_by (T : Txt K mg) : FnOk P w K mg base CX0 2 (He.ga K "seen_by") T.d_seen_by.fd ["frame_rows", "row"] (spW K W_seen_by) := by
  refine fn_okD (k := 1) T.d_seen_by.F sc_seen_by ?_ (by decide) (fun cdv A outer s H E hr => ?_)
  · intro bg l P h
    obtain ⟨x, ns, rfl, _⟩ := h; rfl
  · refine ⟨_, (xs_one (xs_ret (x_callTy call_tuple_of c1_tup (by rfl) T.t_tuple bt_tuple (xa_cons (x_lc (own := [("one", 2)]) (gs := [2]) rfl sc_seen_by.nd (xi_list (x_var (pv 0))) (blkOk_by (by kernel_rfl)) (fun _ _ _ _ _ => (xg_name (pg_name (i := 2) sc_seen_by.nd rfl (.inl rfl)))) (fun _ _ _ _ _ => xts_nil) (fun _ _ _ _ _ => (x_call (G_dot T) (hr.mono (by decide)) (by rfl) T.d_dot.g T.d_dot.F.kp T.d_dot.b (xa_cons (x_var (pv 1)) (xa_cons (x_var (pv 2)) xa_nil))))) xa_nil)))), ?_⟩
    intro bg l P h
    obtain ⟨fr, r, rfl, hm, rfl⟩ := h
    simp [rows, and_assoc]
    refine lcW_map row D.int (fun f => dotp r f) fr [] _ (fun f hf Y N y => ?_) ?_
    · simp [and_assoc]
      refine ⟨_, ⟨r, f, rfl, hm f hf, rfl⟩, ?_⟩
      rintro _ rfl
      exact y
    · simp [row]

def W_powers : DW := fun _ l P => ∃ (n m b : Nat), l = [.int (n : Int), .int (m : Int)] ∧ n < 2 ^ b ∧ m ≤ 100 ∧ b ≤ 5000 ∧ P = (· = row ((List.range m).map fun j => (n : Int) ^ j))
theorem G_powers (T : Txt K mg) : FnOk P w K mg base CX0 1 (He.ga K "powers") T.d_powers.fd ["number", "many"] (spW K W_powers) := by
  refine fn_okD (k := 0) T.d_powers.F sc_powers ?_ (by decide) (fun cdv A outer s H E hr => ?_)
  · intro bg l P h
    obtain ⟨x, ns, b, rfl, _⟩ := h; rfl
  · refine ⟨_, (xs_cons (xs_ownNew (i := 2) sc_powers.nd rfl (.inl rfl) (xa_cons x_int xa_nil))
    (xs_cons (xs_for PassesOwn.never rfl (xi_range (by rfl) T.t_range (xa_cons (x_var (pv 1)) xa_nil)) (xg_name (pg_name (i := 3) sc_powers.nd rfl (.inl rfl))) (xs_one (xs_append (i := 2) (pv 2) (x_op op_mulX r2_IC (x_ownIx (i := 2) (k := (-1)) (pv 2) x_neg (fun _ _ => rfl)) (x_var (pv 0))))))
    (xs_one (xs_frz 2 (xs_ret (x_callTy call_tuple_of c1_tup (by rfl) T.t_tuple bt_tuple (xa_cons (x_slice sl_list s3_L (x_var (pv 2)) xo_none (xo_some (x_var (pv 1)))) xa_nil))))))), ?_⟩
    intro bg l P h
    obtain ⟨n, m, b, rfl, hn, hm, hb, rfl⟩ := h
    simp [and_assoc]
    refine ⟨by decide, m, rfl, Nat.le_trans hm (by decide), ?_⟩
    refine forW_run (fun k ds => ∃ (x3 : Sl), ds = [Sl.val (.int (n : Int)), Sl.val (.int (m : Int)), .own ((List.range (k + 1)).map fun j => D.int ((n : Int) ^ j)), x3] ∧ k ≤ m) _ 0 _ ⟨.no, by simp, Nat.zero_le _⟩ (fun k x ds hx hI M hM => ?_) (fun ds hI => ?_)
    · obtain ⟨x3, rfl, hk⟩ := hI
      obtain ⟨hkm, rfl⟩ := rngD_nat hx
      rw [Nat.zero_add] at hM ⊢
      have hlast : atI ((List.range (k + 1)).map fun j => D.int ((n : Int) ^ j)) (-1) = Option.some (.int ((n : Int) ^ k)) := by
        rw [List.range_succ, List.map_append]
        exact atI_last _ _
      have mo : IntMulOk ((n : Int) ^ k) (n : Int) := mulOk (b := b * k + 1) (c := b) (by
        rw [show ((n : Int) ^ k).natAbs = n ^ k by rw [Int.natAbs_pow]; simp]
        refine Nat.lt_of_le_of_lt (Nat.pow_le_pow_left (Nat.le_of_lt hn) k) ?_
        rw [← Nat.pow_mul]
        exact Nat.pow_lt_pow_right (by decide) (Nat.lt_succ_self _)) (by simpa using hn) (by
          have : b * k ≤ 5000 * 100 := Nat.mul_le_mul hb (by omega)
          omega)
      simp [and_assoc, hlast, mo]
      refine ⟨Nat.lt_of_le_of_lt (show _ ≤ 100 by omega) (by decide), ?_⟩
      have e : (List.range (k + 1)).map (fun j => D.int ((n : Int) ^ j)) ++ [D.int ((n : Int) ^ k * (n : Int))] = (List.range (k + 1 + 1)).map fun j => D.int ((n : Int) ^ j) := by
        rw [List.range_succ (n := k + 1), List.map_append]
        simp only [List.map_cons, List.map_nil, Int.pow_succ]
      rw [e]
      exact hM _ ⟨_, rfl, by omega⟩
    · obtain ⟨x3, rfl, hk⟩ := hI
      simp [and_assoc]
      rw [cut_to, List.range_succ, List.map_append, List.take_append_of_le_length (by simp), List.take_of_length_le (by simp)]
      unfold row
      rw [List.map_map]
      rfl
end
end K8
set_option Elab.async false
set_option linter.all false
set_option maxRecDepth 100000
set_option maxHeartbeats 4000000
namespace K8
open PySem PySem.Spec PyProof.Rows L2
section
variable {P : Program} {w : World} {K : PySem.W.Frag} {mg : Str → Option Value} {base : Heap}

structure MvIn (m e f : Nat) (p : List Int) (goals bars : List (List Int)) : Prop where
  pl : p.length = m
  m8 : m ≤ 8
  gl : ∀ g ∈ goals, g.length = m
  bl : ∀ u ∈ bars, u.length = m
  ge : ∀ g ∈ goals, ∀ i, (vf g i).natAbs < 2 ^ e
  be : ∀ u ∈ bars, ∀ i, (vf u i).natAbs < 2 ^ e
  pf : ∀ i, (vf p i).natAbs < 2 ^ f
  e1 : e ≤ 1000
  f4 : f ≤ 400000
  gp : ∀ g ∈ goals, 0 < dotn m (vf g) (vf p)
  bn : ∀ u ∈ bars, ∃ j, j < m ∧ vf u j ≠ 0
  few : goals.length + bars.length ≤ 1000
structure MvOut (m e f : Nat) (goals bars : List (List Int)) (y : List Int) : Prop where
  yl : y.length = m
  gp : ∀ g ∈ goals, 0 < dotn m (vf g) (vf y)
  yf : ∀ i, (vf y i).natAbs < 2 ^ (f + 8 * e + 34)
structure MvI (m e f : Nat) (p : List Int) (goals bars : List (List Int)) (n : Nat) (y : List Int) : Prop where
  o : MvOut m e f goals bars y
  z : n = 0 → y = p
  b : 0 < n → ∀ u ∈ bars, absS (vf u) m < n → dotn m (vf u) (vf y) ≠ 0
  n : n ≤ m * 2 ^ e + 1
theorem pow_up {a b : Nat} (h : a ≤ b) : 2 ^ a ≤ 2 ^ b := Nat.pow_le_pow_right (by decide) h
theorem mem_vf {r : List Int} {x : Int} {B : Nat} (h : ∀ i, (vf r i).natAbs < B) (hx : x ∈ r) : x.natAbs < B := by
  obtain ⟨i, hi, rfl⟩ := List.mem_iff_getElem.mp hx
  rw [← vf_lt hi]; exact h i
theorem zip_ok {r s : List Int} {a b : Nat} (hr : ∀ i, (vf r i).natAbs < 2 ^ a) (hs : ∀ i, (vf s i).natAbs < 2 ^ b) (h : a + b ≤ 999990) : ∀ p ∈ r.zip s, IntMulOk p.1 p.2 := fun p hp =>
  mulOk (mem_vf hr (List.of_mem_zip (a := p.1) (b := p.2) hp).1) (mem_vf hs (List.of_mem_zip (a := p.1) (b := p.2) hp).2) h
theorem dot_bits {m a b : Nat} (hm : m ≤ 8) {u v : Vec} (hu : ∀ i, (u i).natAbs < 2 ^ a) (hv : ∀ i, (v i).natAbs < 2 ^ b) : (dotn m u v).natAbs < 2 ^ (a + b + 3) + 1 := by
  have h1 := dotn_abs (A := 2 ^ a) (B := 2 ^ b) (fun i => Nat.le_of_lt (hu i)) (fun i => Nat.le_of_lt (hv i)) m
  rw [← Nat.pow_add] at h1
  have h2 : m * 2 ^ (a + b) ≤ 8 * 2 ^ (a + b) := Nat.mul_le_mul_right _ hm
  rw [Nat.pow_add 2 (a + b) 3]
  omega
def powL (n m : Nat) : List Int := (List.range m).map fun j => (n : Int) ^ j
theorem powL_vf (n m j : Nat) : vf (powL n m) j = if j < m then (n : Int) ^ j else 0 := by
  unfold powL
  by_cases h : j < m
  · rw [vf_lt (by simpa using h), if_pos h]; simp
  · rw [vf_ge (by simp; omega), if_neg h]
theorem powL_bits {n m c : Nat} (hm : m ≤ 8) (hn : n ≤ 2 ^ c) (j : Nat) : (vf (powL n m) j).natAbs < 2 ^ (7 * c + 1) := by
  rw [powL_vf]
  by_cases h : j < m
  · rw [if_pos h, Int.natAbs_pow]
    have h1 : ((n : Int).natAbs) ^ j ≤ (2 ^ c) ^ j := Nat.pow_le_pow_left (by simpa using hn) j
    rw [← Nat.pow_mul] at h1
    refine Nat.lt_of_le_of_lt h1 (Nat.pow_lt_pow_right (by decide) ?_)
    have : c * j ≤ c * 7 := Nat.mul_le_mul_left _ (by omega)
    omega
  · rw [if_neg h]; simp [Nat.two_pow_pos]
theorem max_ex : ∀ (ns : List Int), ns ≠ [] → ∃ m, m ∈ ns ∧ ∀ y ∈ ns, y ≤ m := fun ns h => by
  obtain ⟨m, h1, h2⟩ := least_ex (ns.map fun x => -x) (by simpa using h)
  obtain ⟨x, hx, rfl⟩ := List.mem_map.mp h1
  refine ⟨x, hx, fun y hy => ?_⟩
  have := h2 (-y) (List.mem_map_of_mem (f := fun x : Int => -x) hy)
  omega
theorem test_then {F : (Bool → Prop) → Prop} {R : Bool → Prop} (c : Bool) (h : ∀ Q, Q c → F Q) (hr : R c) : F R := h R hr
/-- one turn of moved -/
theorem MvI.turn {m e f : Nat} {p : List Int} {goals bars : List (List Int)} {n : Nat} {c : Int} (h : MvIn m e f p goals bars) (hn : n + 1 ≤ m * 2 ^ e + 1) {y : List Int} (hyp : ∀ g ∈ goals, 0 < dotn m (vf g) (vf y)) (hyl : y.length = m)
    (hyf : ∀ i, (vf y i).natAbs < 2 ^ f) (hc : ∀ u ∈ goals ++ bars, ((dotn m (vf u) (vf (powL (n + 1) m))).natAbs : Int) < c) (c0 : 0 < c) (hcb : c.natAbs ≤ 2 ^ (8 * e + 33)) :
    MvI m e f p goals bars (n + 1) (List.zipWith (fun a b => c * a + b) y (powL (n + 1) m)) := by
  have ll : y.length = (powL (n + 1) m).length := by unfold powL; simp [hyl]
  have ev : vf (List.zipWith (fun a b => c * a + b) y (powL (n + 1) m)) = fun i => c * vf y i + vf (powL (n + 1) m) i := by
    funext i
    rw [vf_zip (fun a b => c * a + b) (by simp) ll]
  have nb : n + 1 ≤ 2 ^ (e + 4) := by
    have h1 : m * 2 ^ e ≤ 8 * 2 ^ e := Nat.mul_le_mul_right _ h.m8
    have h2 := Nat.two_pow_pos e
    rw [Nat.pow_add]; omega
  have sb := powL_bits h.m8 nb
  refine ⟨⟨by rw [List.length_zipWith, ← ll, hyl]; simp, fun g hg => ?_, fun i => ?_⟩, fun z => by omega, fun _ u hu ha => ?_, hn⟩
  · rw [ev]
    exact moved_goal (hyp g hg) (hc g (List.mem_append_left _ hg))
  · rw [ev]
    show (c * vf y i + vf (powL (n + 1) m) i).natAbs < _
    have h1 : (c * vf y i).natAbs ≤ 2 ^ (8 * e + 33) * (2 ^ f - 1) := by
      rw [Int.natAbs_mul]
      exact Nat.mul_le_mul hcb (Nat.le_sub_one_of_lt (hyf i))
    have h2 := sb i
    have h3 : 2 ^ (7 * (e + 4) + 1) ≤ 2 ^ (8 * e + 33) := pow_up (by omega)
    have h4 : 2 ^ (8 * e + 33) * (2 ^ f - 1) + 2 ^ (8 * e + 33) = 2 ^ (8 * e + 33 + f) := by
      rw [Nat.pow_add 2 (8 * e + 33) f, ← Nat.mul_succ]
      congr 1
      have := Nat.two_pow_pos f
      omega
    have h5 : 2 ^ (8 * e + 33 + f) ≤ 2 ^ (f + 8 * e + 34) := pow_up (by omega)
    omega
  · rw [ev]
    refine moved_bar ?_ (hc u (List.mem_append_right _ hu))
    have := poly_ne (u := vf u) (n := ((n + 1 : Nat) : Int)) (by omega) m (h.bn u hu) (by omega)
    rw [dotn_congr (u' := vf u) (v' := fun j => ((n + 1 : Nat) : Int) ^ j) (fun _ _ => rfl) (fun i hi => by rw [powL_vf, if_pos hi])]
    exact this
def W_moved : DW := fun _ l P => ∃ (p : List Int) (goals bars : List (List Int)) (m e f : Nat), l = [row p, rows goals, rows bars] ∧ MvIn m e f p goals bars ∧ P = fun d => ∃ y, d = row y ∧ MvOut m e f goals bars y ∧ ∀ u ∈ bars, dotn m (vf u) (vf y) ≠ 0
theorem G_moved (T : Txt K mg) : FnOk P w K mg base CX0 2 (He.ga K "moved") T.d_moved.fd ["point", "goals", "bars"] (spW K W_moved) := by
  refine fn_okD (k := 1) T.d_moved.F sc_moved ?_ (by decide) (fun cdv A outer s H E hr => ?_)
  · intro bg l P h
    obtain ⟨x, ns, b, c, d, e, rfl, _⟩ := h; rfl
  · refine ⟨_, (xs_cons (xs_asg (x_tup (xa_cons x_int (xa_cons (x_var (pv 0)) xa_nil))) (xg_two rfl (xg_name (pg_name (i := 3) sc_moved.nd rfl (.inl rfl))) (xg_name (pg_name (i := 4) sc_moved.nd rfl (.inr rfl)))))
    (xs_cons (xs_while PassesOwn.never (PXW.xt (xw_or (xt_cmp op_eq r2_eq (x_var (pv 3)) x_int (nomark _)) (xw_or1 (xt_not (xt_val (x_callB (cr_all rfl) c1_all (by rfl) T.t_all bt_all (xa_cons (x_lc (own := [("row", 9)]) (gs := [9]) rfl sc_moved.nd (xi_list (x_var (pv 2))) (blkOk_by (by kernel_rfl)) (fun _ _ _ _ _ => (xg_name (pg_name (i := 9) sc_moved.nd rfl (.inl rfl)))) (fun _ _ _ _ _ => xts_nil) (fun _ _ _ _ _ => (x_cmp op_ne r2_ne (x_call (G_dot T) (hr.mono (by decide)) (by rfl) T.d_dot.g T.d_dot.F.kp T.d_dot.b (xa_cons (x_var (pv 9)) (xa_cons (x_var (pv 4)) xa_nil))) x_int (nomark _)))) xa_nil))))))) (xs_cons (xs_aug (i := 3) sc_moved.nd rfl (.inl rfl) x_int ip_add)
    (xs_cons (xs_set (i := 5) sc_moved.nd rfl (.inr rfl) (x_call (G_powers T) (hr.mono (by decide)) (by rfl) T.d_powers.g T.d_powers.F.kp T.d_powers.b (xa_cons (x_var (pv 3)) (xa_cons (x_callB call_len c1_len (by rfl) T.t_len bt_len (xa_cons (x_var (pv 0)) xa_nil)) xa_nil))))
    (xs_cons (xs_set (i := 6) sc_moved.nd rfl (.inr rfl) (x_op op_add r2_I0 x_int (x_callB (cr_max rfl) c1_max (by rfl) T.t_max bt_max (xa_cons (x_op op_cat r2_catL (x_lst (xa_cons x_int xa_nil)) (x_lc (own := [("row", 9)]) (gs := [9]) rfl sc_moved.nd (xi_list (x_op op_cat r2_catL (x_var (pv 1)) (x_var (pv 2)))) (blkOk_by (by kernel_rfl)) (fun _ _ _ _ _ => (xg_name (pg_name (i := 9) sc_moved.nd rfl (.inl rfl)))) (fun _ _ _ _ _ => xts_nil) (fun _ _ _ _ _ => (x_callB call_abs c1_abs (by rfl) T.t_abs bt_abs (xa_cons (x_call (G_dot T) (hr.mono (by decide)) (by rfl) T.d_dot.g T.d_dot.F.kp T.d_dot.b (xa_cons (x_var (pv 9)) (xa_cons (x_var (pv 5)) xa_nil))) xa_nil))))) xa_nil))))
    (xs_one (xs_set (i := 4) sc_moved.nd rfl (.inr rfl) (x_callTy call_tuple_of c1_tup (by rfl) T.t_tuple bt_tuple (xa_cons (x_lc (own := [("part", 7), ("more", 8)]) (gs := [7, 8]) rfl sc_moved.nd (xi_zip (by rfl) T.t_zip (xa_cons (x_var (pv 0)) (xa_cons (x_var (pv 5)) xa_nil))) (blkOk_by (by kernel_rfl)) (fun _ _ _ _ _ => (xg_two rfl (xg_name (pg_name (i := 7) sc_moved.nd rfl (.inl rfl))) (xg_name (pg_name (i := 8) sc_moved.nd rfl (.inl rfl))))) (fun _ _ _ _ _ => xts_nil) (fun _ _ _ _ _ => (x_op op_add r2_I0 (x_op op_mulX r2_IC (x_var (pv 6)) (x_var (pv 7))) (x_var (pv 8))))) xa_nil))))))))
    (xs_one (xs_ret (x_var (pv 4)))))), ?_⟩
    intro bg l P h
    obtain ⟨p, goals, bars, m, e, f, rfl, hin, hP⟩ := h
    have few := hin.few
    simp [rows, and_assoc]
    refine ⟨by decide, ?_⟩
    refine while_run (α := Nat × List Int × Sl × Sl) (fun s => [Sl.val (row p), Sl.val (D.lst (goals.map row)), Sl.val (D.lst (bars.map row)), Sl.val (.int (s.1 : Int)), Sl.val (row s.2.1), s.2.2.1, s.2.2.2, .no, .no, .no]) (fun s => MvI m e f p goals bars s.1 s.2.1) (fun s => m * 2 ^ e + 1 - s.1) ?_ (0, p, .no, .no) ?_
    · rintro ⟨n, y, x1, x2⟩ hI M hM
      have hI' : MvI m e f p goals bars n y := hI
      have yb := hI'.o.yf
      have dW : ∀ u ∈ bars, ∀ p' ∈ u.zip y, IntMulOk p'.1 p'.2 := fun u hu => zip_ok (hin.be u hu) yb (by have := hin.e1; have := hin.f4; omega)
      refine test_then (F := fun Q => dOr _ _ bg _ Q) (decide (n = 0) || !(bars.all fun u => decide (dotn m (vf u) (vf y) ≠ 0))) (fun Q hQ => ?_) ?_
      · by_cases n0 : n = 0
        · simp [and_assoc, sEq, n0]
          simp [n0] at hQ
          exact hQ
        · have n0' : ¬ ((n : Int) = 0) := by omega
          simp [and_assoc, sEq, n0]
          refine lcW_map row D.bl (fun u => decide (dotn m (vf u) (vf y) ≠ 0)) bars [] _ (fun u hu Y N' y' => ?_) ?_
          · simp [and_assoc]
            refine ⟨_, ⟨u, y, rfl, dW u hu, rfl⟩, ?_⟩
            rintro _ rfl
            rw [dotp_eq (hin.bl u hu) hI'.o.yl]
            by_cases e : dotn m (vf u) (vf y) = 0
            · simp [sEq, e]; simpa [e] using y'
            · simp [sEq, e]; simpa [e] using y'
          · simp [n0] at hQ
            refine ⟨_, ⟨_, rfl, rfl⟩, ?_⟩
            have ea : (List.map (fun u => decide (dotn m (vf u) (vf y) ≠ 0)) bars).all id = bars.all fun u => decide (dotn m (vf u) (vf y) ≠ 0) := by rw [List.all_map]; rfl
            rw [ea]
            cases hb : (bars.all fun u => decide (dotn m (vf u) (vf y) ≠ 0)) with
            | false =>
              left
              refine ⟨rfl, ?_⟩
              have hb2 : (bars.all fun u => !decide (dotn m (vf u) (vf y) = 0)) = false := by rw [← hb]; congr 1; funext u; simp
              first
                | exact hQ
                | (simp [hb2] at hQ; exact hQ)
                | (rw [hb2] at hQ; exact hQ)
            | true =>
              right
              refine ⟨rfl, ?_⟩
              have hb2 : (bars.all fun u => !decide (dotn m (vf u) (vf y) = 0)) = true := by rw [← hb]; congr 1; funext u; simp
              first
                | exact hQ
                | (simp [hb2] at hQ; exact hQ)
                | (rw [hb2] at hQ; exact hQ)
      · by_cases c : (decide (n = 0) || !(bars.all fun u => decide (dotn m (vf u) (vf y) ≠ 0))) = true
        · rw [if_pos c]
          have hlt : n + 1 ≤ m * 2 ^ e + 1 := by
            refine Classical.byContradiction fun hge => ?_
            have h1 := hI'.n
            have h2 : n = m * 2 ^ e + 1 := by omega
            have h3 : ∀ u ∈ bars, dotn m (vf u) (vf y) ≠ 0 := fun u hu => hI'.b (by omega) u hu (by
              have := absS_le (u := vf u) (A := 2 ^ e) (fun i => Nat.le_of_lt (hin.be u hu i)) m
              omega)
            simp [h2] at c
            obtain ⟨u, hu, hz⟩ := c
            exact h3 u hu hz
          have nb : n + 1 ≤ 2 ^ (e + 4) := by
            have h1 : m * 2 ^ e ≤ 8 * 2 ^ e := Nat.mul_le_mul_right _ hin.m8
            have h2 := Nat.two_pow_pos e
            rw [Nat.pow_add]; omega
          have sb := powL_bits hin.m8 nb
          simp [and_assoc]
          refine ⟨.int (m : Int), .inl ⟨p.map D.int, .inr (.inl rfl), by simp [hin.pl]⟩, _, ⟨n + 1, m, e + 5, by simp, Nat.lt_of_le_of_lt nb (Nat.pow_lt_pow_right (by decide) (by omega)), Nat.le_trans hin.m8 (by decide), by have := hin.e1; omega, rfl⟩, ?_⟩
          rintro _ rfl
          rw [show (List.range m).map (fun j => ((n + 1 : Nat) : Int) ^ j) = powL (n + 1) m from rfl]
          refine ⟨by decide, Nat.le_trans few (by decide), ?_⟩
          rw [← List.map_append]
          have al : ∀ u ∈ goals ++ bars, u.length = m := fun u hu => by
            rcases List.mem_append.mp hu with h | h
            · exact hin.gl u h
            · exact hin.bl u h
          have ab : ∀ u ∈ goals ++ bars, ∀ i, (vf u i).natAbs < 2 ^ e := fun u hu => by
            rcases List.mem_append.mp hu with h | h
            · exact hin.ge u h
            · exact hin.be u h
          have pl : (powL (n + 1) m).length = m := by unfold powL; simp
          refine lcW_map row D.int (fun u => (((dotn m (vf u) (vf (powL (n + 1) m))).natAbs : Nat) : Int)) (goals ++ bars) [] _ (fun u hu Y N' y' => ?_) ?_
          · simp [and_assoc]
            refine ⟨_, ⟨u, _, rfl, zip_ok (ab u hu) sb (by have := hin.e1; omega), rfl⟩, ?_⟩
            rintro _ rfl
            rw [dotp_eq (al u hu) pl]
            refine ⟨_, ⟨_, rfl, rfl⟩, ?_⟩
            rw [show ∀ z : Int, (if z < 0 then -z else z) = ((z.natAbs : Nat) : Int) from fun z => by split <;> omega]
            exact y'
          · simp only [List.nil_append]
            refine ⟨by simp only [List.length_map, List.length_append]; exact Nat.le_trans (show _ ≤ 1001 by omega) (by decide), ?_⟩
            obtain ⟨mx, mx1, mx2⟩ := max_ex ((0 : Int) :: ((goals ++ bars).map fun u => (((dotn m (vf u) (vf (powL (n + 1) m))).natAbs : Nat) : Int))) (by simp)
            refine ⟨.int mx, ⟨_, rfl, mx, mx1, mx2, rfl⟩, .int (1 + mx), ⟨mx, rfl, rfl⟩, p.map D.int, (powL (n + 1) m).map D.int, .inr ⟨.inl rfl, .inl rfl⟩, ?_⟩
            rw [zipD_ints]
            have mxb : mx.natAbs ≤ 2 ^ (8 * e + 32) ∧ 0 ≤ mx := by
              rcases List.mem_cons.mp mx1 with h | h
              · rw [h]; exact ⟨Nat.zero_le _, Int.le_refl _⟩
              · obtain ⟨u, hu, rfl⟩ := List.mem_map.mp h
                refine ⟨?_, by omega⟩
                have h1 := dot_bits hin.m8 (ab u hu) sb
                rw [show e + (7 * (e + 4) + 1) + 3 = 8 * e + 32 by omega] at h1
                omega
            refine lcW_map (fun q : Int × Int => D.tup [.int q.1, .int q.2]) D.int (fun q => (1 + mx) * q.1 + q.2) _ [] _ (fun q hq Y N' y' => ?_) ?_
            · have hq1 : q.1 ∈ p := (List.of_mem_zip (a := q.1) (b := q.2) hq).1
              have hm : IntMulOk (1 + mx) q.1 := mulOk (b := 8 * e + 34) (c := f) (by
                have := Nat.two_pow_pos (8 * e + 32)
                have e1 : 2 ^ (8 * e + 34) = 4 * 2 ^ (8 * e + 32) := by rw [show 8 * e + 34 = (8 * e + 32) + 2 by omega, Nat.pow_add]; omega
                omega) (mem_vf hin.pf hq1) (by have := hin.e1; have := hin.f4; omega)
              simp [and_assoc, hm]
              exact y'
            · simp only [List.nil_append]
              have hT := MvI.turn (c := 1 + mx) hin hlt hin.gp hin.pl hin.pf (fun u hu => by
                have := mx2 _ (List.mem_cons_of_mem _ (List.mem_map_of_mem (f := fun u => (((dotn m (vf u) (vf (powL (n + 1) m))).natAbs : Nat) : Int)) hu))
                omega) (by omega) (by
                have e1 : 2 ^ (8 * e + 33) = 2 * 2 ^ (8 * e + 32) := by rw [show 8 * e + 33 = (8 * e + 32) + 1 by omega, Nat.pow_succ]; omega
                have := Nat.two_pow_pos (8 * e + 32)
                omega)
              have := fun x1 x2 => hM (n + 1, _, x1, x2) hT (by show m * 2 ^ e + 1 - (n + 1) < m * 2 ^ e + 1 - n; omega)
              have ez : (List.map (fun q : Int × Int => (1 + mx) * q.1 + q.2) (p.zip (powL (n + 1) m))) = List.zipWith (fun a b => (1 + mx) * a + b) p (powL (n + 1) m) := by rw [List.zip_eq_zipWith, List.map_zipWith]
              rw [ez]
              exact this _ _
        · rw [if_neg c]
          simp [and_assoc]
          rw [hP]
          refine ⟨y, rfl, hI'.o, fun u hu => ?_⟩
          simp at c
          exact c.2 u hu
    · exact ⟨⟨hin.pl, hin.gp, fun i => Nat.lt_of_lt_of_le (hin.pf i) (pow_up (by omega))⟩, fun _ => rfl, fun h => absurd h (Nat.lt_irrefl _), Nat.zero_le _⟩
end
end K8
set_option Elab.async false
set_option linter.all false
set_option maxRecDepth 100000
set_option maxHeartbeats 4000000
namespace K8
open PySem PySem.Spec PyProof.Rows L2
section
variable {P : Program} {w : World} {K : PySem.W.Frag} {mg : Str → Option Value} {base : Heap}

theorem noSl_name {x : Str} {p : Pos} : NoSl (.Name x p) := fun _ _ => rfl
theorem mem_putD {kvs : KD} {k : List Int} {d : D} {x : List Int × D} (h : x ∈ putD kvs k d) : x ∈ kvs ∨ x = (k, d) := by
  unfold putD at h
  split at h
  · obtain ⟨y, hy, e⟩ := List.mem_map.mp h
    by_cases c : y.1 = k
    · rw [if_pos c] at e
      right; rw [← e, c]
    · rw [if_neg c] at e
      left; rw [← e]; exact hy
  · rcases List.mem_append.mp h with h | h
    · exact .inl h
    · exact .inr (List.mem_singleton.mp h)
theorem key_putD {kvs : KD} {k : List Int} {d : D} (k' : List Int) : (∃ x ∈ putD kvs k d, x.1 = k') ↔ k' = k ∨ ∃ x ∈ kvs, x.1 = k' := by
  unfold putD
  split
  · next hc =>
    constructor
    · rintro ⟨x, hx, rfl⟩
      obtain ⟨y, hy, e⟩ := List.mem_map.mp hx
      right
      refine ⟨y, hy, ?_⟩
      rw [← e]
      split <;> rfl
    · rintro (rfl | ⟨x, hx, rfl⟩)
      · unfold hasD at hc
        obtain ⟨y, hy, e⟩ := List.any_eq_true.mp hc
        have e' : y.1 = k' := of_decide_eq_true e
        exact ⟨_, List.mem_map_of_mem hy, by rw [if_pos e']; exact e'⟩
      · refine ⟨_, List.mem_map_of_mem hx, ?_⟩
        split <;> rfl
  · constructor
    · rintro ⟨x, hx, rfl⟩
      rcases List.mem_append.mp hx with h | h
      · exact .inr ⟨x, h, rfl⟩
      · left; rw [List.mem_singleton.mp h]
    · rintro (rfl | ⟨x, hx, rfl⟩)
      · exact ⟨_, List.mem_append_right _ (List.mem_cons_self ..), rfl⟩
      · exact ⟨x, List.mem_append_left _ hx, rfl⟩
theorem hasD_iff {kvs : KD} {k : List Int} : hasD kvs k = true ↔ ∃ x ∈ kvs, x.1 = k := by
  unfold hasD
  rw [List.any_eq_true]
  constructor
  · rintro ⟨x, hx, e⟩; exact ⟨x, hx, of_decide_eq_true e⟩
  · rintro ⟨x, hx, e⟩; exact ⟨x, hx, decide_eq_true e⟩
theorem getD_mem {kvs : KD} {k : List Int} (h : ∃ x ∈ kvs, x.1 = k) : ∃ d, getD' kvs k = Option.some d ∧ (k, d) ∈ kvs := by
  unfold getD'
  cases e : kvs.find? (fun p => decide (p.1 = k)) with
  | none =>
    obtain ⟨x, hx, hk⟩ := h
    have := List.find?_eq_none.mp e x hx
    simp [hk] at this
  | some y =>
    have h1 := List.mem_of_find?_eq_some e
    have h2 := List.find?_some e
    have h3 : y.1 = k := of_decide_eq_true h2
    exact ⟨y.2, rfl, by rw [← h3]; exact h1⟩
theorem dcW_run {α : Type} {bg : BG} {g : DG} {t : DT} {fk fv : DE} {ds : DS} (emb : α → D) (c : α → Bool) (kf : α → List Int) (df : α → D) : ∀ (items : List α) (acc : KD) (P : KD → Prop),
    (∀ x ∈ items, ∀ (Y : KD → Prop) (N : Prop) (acc : KD), (c x = true → Y (putD acc (kf x) (df x))) → (c x = false → N) → g (emb x) ds fun ds2 => t bg ds2 fun b => if b = true then fk bg ds2 fun k => fv bg ds2 fun v => ∃ ks, k = .tup (ks.map .int) ∧ Y (putD acc ks v) else N) →
    P (items.foldl (fun acc x => if c x = true then putD acc (kf x) (df x) else acc) acc) → dcW bg g t fk fv ds (items.map emb) acc P
  | [], acc, P, _, h => h
  | x :: xs, acc, P, hs, h => by
    rw [List.map_cons]
    unfold dcW
    rw [List.foldl_cons] at h
    refine hs x (List.mem_cons_self ..) (fun a => dcW bg g t fk fv ds (xs.map emb) a P) _ acc (fun hc => ?_) (fun hc => ?_)
    · rw [if_pos hc] at h
      exact dcW_run emb c kf df xs _ P (fun z hz => hs z (List.mem_cons_of_mem _ hz)) h
    · rw [if_neg (by rw [hc]; exact Bool.false_ne_true)] at h
      exact dcW_run emb c kf df xs _ P (fun z hz => hs z (List.mem_cons_of_mem _ hz)) h
structure WlIn (g : List (List Int)) (t c e : Nat) (L : List Mk) : Prop where
  mi : MI g (t + 1) L
  len : L.length ≤ c
  c4 : c ≤ 400
  be : ∀ p ∈ L, ∀ i, (vf p.1 i).natAbs < 2 ^ e
  e4 : e ≤ 4000 ∨ t = 0
  e8 : e ≤ 8000
  ml : ∀ p ∈ L, p.2.length ≤ g.length
  gn : g.length ≤ 30
  t1 : t ≤ 100
structure WlOut (g : List (List Int)) (t c e : Nat) (L' : List Mk) : Prop where
  mi : MI g t L'
  len : 4 * L'.length ≤ (c + 1) * (c + 1)
  be : ∀ p ∈ L', ∀ i, (vf p.1 i).natAbs < 2 ^ (2 * e + 1)
  ml : ∀ p ∈ L', p.2.length ≤ g.length
/-- an entry as it should be -/
structure Good (g : List (List Int)) (t e : Nat) (L : List Mk) (r k : List Int) : Prop where
  len : r.length = t
  src : (∃ p ∈ L, vf p.1 t = 0 ∧ (∀ z, z ∈ k ↔ z ∈ p.2) ∧ ∀ j, j < t → vf r j = vf p.1 j) ∨
    ∃ p ∈ L, ∃ q ∈ L, 0 < vf p.1 t ∧ vf q.1 t < 0 ∧ (∀ z, z ∈ k ↔ z ∈ p.2 ∨ z ∈ q.2) ∧ ∃ by' : Int, 0 < by' ∧ ∀ j, j < t → by' * vf r j = vf p.1 t * vf q.1 j - vf q.1 t * vf p.1 j
  be : ∀ i, (vf r i).natAbs < 2 ^ (2 * e + 1)
  ml : k.length ≤ g.length
def GoodK (g : List (List Int)) (t e : Nat) (L : List Mk) (kvs : KD) : Prop := ∀ x ∈ kvs, ∃ r, x.2 = row r ∧ Good g t e L r x.1
theorem GoodK.put {g : List (List Int)} {t e : Nat} {L : List Mk} {kvs : KD} {k r : List Int} (h : GoodK g t e L kvs) (hg : Good g t e L r k) : GoodK g t e L (putD kvs k (row r)) := fun x hx => by
  rcases mem_putD hx with h1 | rfl
  · exact h x h1
  · exact ⟨r, rfl, hg⟩
theorem vf_dropLast {r : List Int} {t : Nat} (h : r.length = t + 1) {j : Nat} : vf r.dropLast j = if j < t then vf r j else 0 := by
  by_cases hj : j < t
  · rw [if_pos hj, vf_lt (by simp [h]; exact hj), vf_lt (by omega)]
    simp
  · rw [if_neg hj, vf_ge (by simp [h]; omega)]
theorem row_drop (r : List Int) : D.tup ((r.map D.int).dropLast) = row r.dropLast := by
  unfold row; rw [List.map_dropLast]
theorem last_at {r : List Int} {t : Nat} (h : r.length = t + 1) : atI (r.map D.int) (-1) = Option.some (.int (vf r t)) := by
  have hne : r ≠ [] := fun z => by rw [z] at h; simp at h
  have e : r.map D.int = r.dropLast.map D.int ++ [.int (vf r t)] := by
    conv => lhs; rw [← List.dropLast_concat_getLast hne]
    rw [List.map_append]
    congr 1
    simp only [List.map_cons, List.map_nil, List.cons.injEq, and_true, D.int.injEq]
    rw [vf_lt (by omega), List.getLast_eq_getElem]
    congr 1; omega
  rw [e]
  exact atI_last _ _
/-- what the comprehension finds -/
def zerosK (t : Nat) (L : List Mk) : KD := L.foldl (fun acc p => if decide (vf p.1 t = 0) = true then putD acc p.2 (row p.1.dropLast) else acc) []
theorem zeros_aux {g : List (List Int)} {t c e : Nat} {L : List Mk} (h : WlIn g t c e L) : ∀ (M : List Mk) (acc : KD), (∀ p ∈ M, p ∈ L) → GoodK g t e L acc →
    GoodK g t e L (M.foldl (fun acc p => if decide (vf p.1 t = 0) = true then putD acc p.2 (row p.1.dropLast) else acc) acc) ∧
    (∀ k, (∃ x ∈ M.foldl (fun acc p => if decide (vf p.1 t = 0) = true then putD acc p.2 (row p.1.dropLast) else acc) acc, x.1 = k) ↔ (∃ x ∈ acc, x.1 = k) ∨ ∃ p ∈ M, vf p.1 t = 0 ∧ p.2 = k) ∧
    (M.foldl (fun acc p => if decide (vf p.1 t = 0) = true then putD acc p.2 (row p.1.dropLast) else acc) acc).length ≤ acc.length + (M.filter fun p => decide (vf p.1 t = 0)).length
  | [], acc, _, hg => ⟨hg, fun k => by simp, by simp⟩
  | p :: M, acc, hM, hg => by
    rw [List.foldl_cons]
    have hp := hM p (List.mem_cons_self ..)
    obtain ⟨lam, α, o⟩ := h.mi.mks p hp
    by_cases z : vf p.1 t = 0
    · rw [if_pos (by simp [z])]
      have hgood : Good g t e L p.1.dropLast p.2 := ⟨by simp [o.len], .inl ⟨p, hp, z, fun _ => Iff.rfl, fun j hj => by rw [vf_dropLast o.len, if_pos hj]⟩, fun i => by
        rw [vf_dropLast o.len]
        have h1 := h.be p hp i
        have h2 : 2 ^ e ≤ 2 ^ (2 * e + 1) := pow_up (by omega)
        have := Nat.two_pow_pos (2 * e + 1)
        split
        · omega
        · simpa using this, h.ml p hp⟩
      obtain ⟨i1, i2, i3⟩ := zeros_aux h M (putD acc p.2 (row p.1.dropLast)) (fun q hq => hM q (List.mem_cons_of_mem _ hq)) (hg.put hgood)
      refine ⟨i1, fun k => ?_, ?_⟩
      · rw [i2, key_putD]
        constructor
        · rintro ((rfl | h1) | ⟨q, hq, h2⟩)
          · exact .inr ⟨p, List.mem_cons_self .., z, rfl⟩
          · exact .inl h1
          · exact .inr ⟨q, List.mem_cons_of_mem _ hq, h2⟩
        · rintro (h1 | ⟨q, hq, h2, h3⟩)
          · exact .inl (.inr h1)
          · rcases List.mem_cons.mp hq with rfl | hq
            · exact .inl (.inl h3.symm)
            · exact .inr ⟨q, hq, h2, h3⟩
      · have := putD_len acc p.2 (row p.1.dropLast)
        rw [List.filter_cons_of_pos (by simp [z]), List.length_cons]
        omega
    · rw [if_neg (by simp [z])]
      obtain ⟨i1, i2, i3⟩ := zeros_aux h M acc (fun q hq => hM q (List.mem_cons_of_mem _ hq)) hg
      refine ⟨i1, fun k => ?_, ?_⟩
      · rw [i2]
        constructor
        · rintro (h1 | ⟨q, hq, h2⟩)
          · exact .inl h1
          · exact .inr ⟨q, List.mem_cons_of_mem _ hq, h2⟩
        · rintro (h1 | ⟨q, hq, h2, h3⟩)
          · exact .inl h1
          · rcases List.mem_cons.mp hq with rfl | hq
            · exact absurd h2 z
            · exact .inr ⟨q, hq, h2, h3⟩
      · rw [List.filter_cons_of_neg (by simp [z])]
        exact i3
theorem tri_count (t : Nat) (L : List Mk) : (L.filter fun p => decide (vf p.1 t = 0)).length + (L.filter fun p => decide (0 < vf p.1 t)).length + (L.filter fun p => decide (vf p.1 t < 0)).length = L.length := by
  induction L with
  | nil => rfl
  | cons x l ih =>
    rcases Int.lt_trichotomy (vf x.1 t) 0 with h | h | h
    · rw [List.filter_cons_of_neg (by simp; omega), List.filter_cons_of_neg (by simp; omega), List.filter_cons_of_pos (by simpa using h)]
      simp only [List.length_cons]; omega
    · rw [List.filter_cons_of_pos (by simpa using h), List.filter_cons_of_neg (by simp; omega), List.filter_cons_of_neg (by simp; omega)]
      simp only [List.length_cons]; omega
    · rw [List.filter_cons_of_neg (by simp; omega), List.filter_cons_of_pos (by simpa using h), List.filter_cons_of_neg (by simp; omega)]
      simp only [List.length_cons]; omega
/-- the state of the two loops: i of the positive ones done, j of the negative ones with the next -/
structure WlI (g : List (List Int)) (t e : Nat) (L ps qs : List Mk) (i j : Nat) (kvs : KD) : Prop where
  good : GoodK g t e L kvs
  all0 : ∀ p ∈ L, vf p.1 t = 0 → ∃ x ∈ kvs, ∀ z, z ∈ x.1 ↔ z ∈ p.2
  allc : ∀ (a b : Nat) (p q : Mk), ps[a]? = some p → qs[b]? = some q → (a < i ∨ a = i ∧ b < j) → ∃ x ∈ kvs, ∀ z, z ∈ x.1 ↔ z ∈ p.2 ∨ z ∈ q.2
  len : kvs.length ≤ (L.filter fun p => decide (vf p.1 t = 0)).length + i * qs.length + j
theorem WlI.put {g : List (List Int)} {t e : Nat} {L ps qs : List Mk} {i j : Nat} {kvs : KD} {p q : Mk} {k : List Int} (h : WlI g t e L ps qs i j kvs) (hp : ps[i]? = some p) (hq : qs[j]? = some q) (hk : ∀ z, z ∈ k ↔ z ∈ p.2 ∨ z ∈ q.2) {kvs' : KD}
    (h1 : GoodK g t e L kvs') (h2 : ∀ k', (∃ x ∈ kvs, x.1 = k') → ∃ x ∈ kvs', x.1 = k') (h3 : ∃ x ∈ kvs', x.1 = k) (h4 : kvs'.length ≤ kvs.length + 1) : WlI g t e L ps qs i (j + 1) kvs' where
  good := h1
  all0 := fun p' hp' hz => by
    obtain ⟨x, hx, hm⟩ := h.all0 p' hp' hz
    obtain ⟨y, hy, e⟩ := h2 x.1 ⟨x, hx, rfl⟩
    exact ⟨y, hy, by rw [e]; exact hm⟩
  allc := fun a b p' q' ha hb hab => by
    by_cases c : a = i ∧ b = j
    · obtain ⟨rfl, rfl⟩ := c
      rw [hp] at ha; rw [hq] at hb
      cases ha; cases hb
      obtain ⟨y, hy, e⟩ := h3
      exact ⟨y, hy, by rw [e]; exact hk⟩
    · obtain ⟨x, hx, hm⟩ := h.allc a b p' q' ha hb (by omega)
      obtain ⟨y, hy, e⟩ := h2 x.1 ⟨x, hx, rfl⟩
      exact ⟨y, hy, by rw [e]; exact hm⟩
  len := by have := h.len; omega
theorem WlI.next {g : List (List Int)} {t e : Nat} {L ps qs : List Mk} {i : Nat} {kvs : KD} (h : WlI g t e L ps qs i qs.length kvs) : WlI g t e L ps qs (i + 1) 0 kvs where
  good := h.good
  all0 := h.all0
  allc := fun a b p q ha hb hab => h.allc a b p q ha hb (by
    have := (List.getElem?_eq_some_iff.mp hb).1
    omega)
  len := by have := h.len; rw [Nat.add_mul]; omega
theorem noTs_prs : ∀ (L : List Mk), noTs (L.map pr) = true
  | [] => rfl
  | p :: L => by
    have ri : ∀ r : List Int, noTs (r.map D.int) = true := fun r => by
      induction r with
      | nil => rfl
      | cons x r ih => exact ih
    show (noT (pr p) && noTs (L.map pr)) = true
    rw [noTs_prs L, Bool.and_true]
    show (noTs (p.1.map D.int) && (noTs (p.2.map D.int) && true)) = true
    rw [ri, ri]; rfl
theorem noT_prs (L : List Mk) : noT (.lst (L.map pr)) = true := noTs_prs L
def unint : D → Int
  | .int i => i
  | _ => 0
def unrow : D → List Int
  | .tup l => l.map unint
  | _ => []
theorem unrow_row (r : List Int) : unrow (row r) = r := by
  unfold unrow row
  show (r.map D.int).map unint = r
  rw [List.map_map]
  exact List.map_id' r
theorem sq_len (z p q : Nat) : 4 * (z + p * q) ≤ (z + p + q + 1) * (z + p + q + 1) := by
  have h1 : 4 * (p * q) ≤ (p + q) * (p + q) := by
    rcases Nat.le_total p q with h | h
    · obtain ⟨d, rfl⟩ := Nat.le.dest h
      simp only [Nat.add_mul, Nat.mul_add]
      rw [Nat.mul_comm d p]
      omega
    · obtain ⟨d, rfl⟩ := Nat.le.dest h
      simp only [Nat.add_mul, Nat.mul_add]
      rw [Nat.mul_comm d q]
      omega
  have h2 : 4 * z ≤ (z + 1) * (z + 1) := by
    simp only [Nat.add_mul, Nat.mul_add]
    have : z * z + 1 ≥ 2 * z := by
      rcases Nat.lt_or_ge z 2 with h | h
      · have : z = 0 ∨ z = 1 := by omega
        rcases this with rfl | rfl <;> decide
      · have : z * 2 ≤ z * z := Nat.mul_le_mul_left _ h
        omega
    omega
  have e : (z + p + q + 1) * (z + p + q + 1) = (z + 1) * (z + 1) + 2 * ((z + 1) * (p + q)) + (p + q) * (p + q) := by
    rw [show z + p + q + 1 = (z + 1) + (p + q) by omega]
    generalize z + 1 = a
    generalize p + q = b
    simp only [Nat.add_mul, Nat.mul_add]
    rw [Nat.mul_comm b a]
    omega
  omega
noncomputable def keepC (kvs : KD) (x : List Int × D) : Bool := @decide (¬ ∃ f ∈ kvs, Less f.1 x.1) (Classical.propDecidable _)
theorem keepC_t {kvs : KD} {x : List Int × D} (h : ¬ ∃ f ∈ kvs, Less f.1 x.1) : keepC kvs x = true := @decide_eq_true _ (Classical.propDecidable _) h
theorem keepC_f {kvs : KD} {x : List Int × D} (h : ∃ f ∈ kvs, Less f.1 x.1) : keepC kvs x = false := @decide_eq_false _ (Classical.propDecidable _) (fun z => z h)
theorem wl_fin {g : List (List Int)} {t c e : Nat} {L ps qs : List Mk} {kvs : KD} {L' : List Mk} (h : WlIn g t c e L) (hps : ps = L.filter fun p => decide (0 < vf p.1 t)) (hqs : qs = L.filter fun p => decide (vf p.1 t < 0)) (hW : WlI g t e L ps qs ps.length 0 kvs)
    (h1 : ∀ y ∈ L', (y.2, row y.1) ∈ kvs) (h2 : ∀ x ∈ kvs, (¬ ∃ f ∈ kvs, Less f.1 x.1) → ∃ y ∈ L', y.2 = x.1) (h3 : L'.length ≤ kvs.length) : WlOut g t c e L' := by
  have mem : ∀ e' : Mk, e' ∈ kvs.map (fun x => (unrow x.2, x.1)) → ∃ x ∈ kvs, x.2 = row e'.1 ∧ x.1 = e'.2 := fun e' he => by
    obtain ⟨x, hx, rfl⟩ := List.mem_map.mp he
    obtain ⟨r, hr, _⟩ := hW.good x hx
    exact ⟨x, hx, by rw [hr, unrow_row], rfl⟩
  have F : Fnd t L (kvs.map fun x => (unrow x.2, x.1)) := by
    refine ⟨fun e' he => ?_, fun p hp hz => ?_, fun p hp q hq z1 z2 => ?_⟩
    · obtain ⟨x, hx, e1, e2⟩ := mem e' he
      obtain ⟨r, hr, o⟩ := hW.good x hx
      rw [hr] at e1
      have er := row_inj.mp e1
      subst er
      rw [e2] at o
      exact ⟨o.len, o.src⟩
    · obtain ⟨x, hx, hm⟩ := hW.all0 p hp hz
      exact ⟨_, List.mem_map_of_mem hx, hm⟩
    · obtain ⟨a, ha, e1⟩ := List.mem_iff_getElem.mp (show p ∈ ps by rw [hps]; exact List.mem_filter.mpr ⟨hp, by simpa using z1⟩)
      obtain ⟨b, hb, e2⟩ := List.mem_iff_getElem.mp (show q ∈ qs by rw [hqs]; exact List.mem_filter.mpr ⟨hq, by simpa using z2⟩)
      obtain ⟨x, hx, hm⟩ := hW.allc a b p q (by rw [List.getElem?_eq_getElem ha, e1]) (by rw [List.getElem?_eq_getElem hb, e2]) (.inl ha)
      exact ⟨_, List.mem_map_of_mem hx, hm⟩
  have sub : ∀ y ∈ L', y ∈ kvs.map fun x => (unrow x.2, x.1) := fun y hy => by
    refine List.mem_map.mpr ⟨_, h1 y hy, ?_⟩
    rw [unrow_row]
  refine ⟨h.mi.step F sub (fun e' he hno => ?_), ?_, fun y hy => ?_, fun y hy => ?_⟩
  · obtain ⟨x, hx, _, e2⟩ := mem e' he
    obtain ⟨y, hy, hy2⟩ := h2 x hx fun ⟨f, hf, hl⟩ => hno ⟨_, List.mem_map_of_mem hf, by rw [← e2]; exact hl⟩
    exact ⟨y, hy, by rw [hy2, e2]⟩
  · have l1 := hW.len
    have l2 := tri_count t L
    rw [← hps, ← hqs] at l2
    have l3 := h.len
    have l4 := sq_len (L.filter fun p => decide (vf p.1 t = 0)).length ps.length qs.length
    have l5 : (L.filter fun p => decide (vf p.1 t = 0)).length + ps.length + qs.length + 1 ≤ c + 1 := by omega
    have l6 := Nat.mul_le_mul l5 l5
    omega
  · obtain ⟨r, hr, o⟩ := hW.good _ (h1 y hy)
    have er := row_inj.mp (show row y.1 = row r from hr)
    rw [er]; exact o.be
  · obtain ⟨r, hr, o⟩ := hW.good _ (h1 y hy)
    exact o.ml
theorem mark_len {g : List (List Int)} {t c e : Nat} {L : List Mk} (h : WlIn g t c e L) {p q : Mk} (hp : p ∈ L) (hq : q ∈ L) {ms : List Int} (hw : ms.Pairwise (· < ·)) (hm : ∀ z, z ∈ ms ↔ z ∈ p.2 ∨ z ∈ q.2) : ms.length ≤ g.length := by
  obtain ⟨lp, ap, op⟩ := h.mi.mks p hp
  obtain ⟨lq, aq, oq⟩ := h.mi.mks q hq
  have inr : ∀ z ∈ ms, ∃ i : Nat, z = (i : Int) ∧ i < g.length := fun z hz => by
    rcases (hm z).mp hz with h1 | h1
    · obtain ⟨i, rfl⟩ := op.nat z h1
      refine ⟨i, rfl, ?_⟩
      rcases Nat.lt_or_ge i g.length with h2 | h2
      · exact h2
      · exact absurd (op.c.sp i h2) ((op.supp i).mpr h1)
    · obtain ⟨i, rfl⟩ := oq.nat z h1
      refine ⟨i, rfl, ?_⟩
      rcases Nat.lt_or_ge i g.length with h2 | h2
      · exact h2
      · exact absurd (oq.c.sp i h2) ((oq.supp i).mpr h1)
  have nd : (ms.map Int.toNat).Nodup := by
    clear hm
    induction ms with
    | nil => exact List.nodup_nil
    | cons x ms ih =>
      rw [List.map_cons]
      refine List.nodup_cons.mpr ⟨fun hx => ?_, ih (List.Pairwise.of_cons hw) fun z hz => inr z (List.mem_cons_of_mem _ hz)⟩
      obtain ⟨y, hy, e⟩ := List.mem_map.mp hx
      have hxy := List.rel_of_pairwise_cons hw hy
      obtain ⟨i, e1, _⟩ := inr x (List.mem_cons_self ..)
      obtain ⟨j, e2, _⟩ := inr y (List.mem_cons_of_mem _ hy)
      subst e1 e2
      simp at e
      omega
  have := nodup_len (b := List.range g.length) nd fun x hx => by
    obtain ⟨z, hz, rfl⟩ := List.mem_map.mp hx
    obtain ⟨i, rfl, hi⟩ := inr z hz
    simpa using hi
  simpa using this
def W_without_last : DW := fun _ l P => ∃ (g : List (List Int)) (t c e : Nat) (L : List Mk), l = [prs L] ∧ WlIn g t c e L ∧ P = fun d => ∃ L' : List Mk, d = prs L' ∧ WlOut g t c e L'
theorem G_without_last (T : Txt K mg) : FnOk P w K mg base CX0 3 (He.ga K "without_last") T.d_without_last.fd ["marked"] (spW K W_without_last) := by
  refine fn_okD (k := 2) T.d_without_last.F sc_without_last ?_ (by decide) (fun cdv A outer s H E hr => ?_)
  · intro bg l P h
    obtain ⟨x, ns, b, c, d, rfl, _⟩ := h; rfl
  · refine ⟨_, (xs_cons (xs_setDct (i := 1) (own := [("row", 7), ("mark", 6)]) (gs := [7, 6]) (Nat.lt_of_le_of_lt (Nat.add_le_add_left (show 2 ≤ 64 by decide) _) hr.units) rfl sc_without_last.nd rfl (.inr rfl) (xi_list (x_var (pv 0))) (blkOk_by (by kernel_rfl)) (fun _ _ _ _ _ => (xg_two rfl (xg_name (pg_name (i := 7) sc_without_last.nd rfl (.inl rfl))) (xg_name (pg_name (i := 6) sc_without_last.nd rfl (.inl rfl))))) (fun _ _ _ _ _ => (xts_one (xt_cmp op_eq r2_eq (x_ix ix_seq r2_ix (x_var (pv 7)) (x_un un_neg u1_I x_int) (fun _ _ => rfl)) x_int (nomark _)))) (fun _ _ _ _ _ => (x_var (pv 6))) (fun _ _ _ _ _ => (x_slice sl_tupA s3_T (x_var (pv 7)) xo_none (xo_some (x_un un_neg u1_I x_int)))))
    (xs_cons (xs_for PassesOwn.never rfl (xi_list (x_lc (own := [("row", 7), ("mark", 6)]) (gs := [7, 6]) rfl sc_without_last.nd (xi_list (x_var (pv 0))) (blkOk_by (by kernel_rfl)) (fun _ _ _ _ _ => (xg_two rfl (xg_name (pg_name (i := 7) sc_without_last.nd rfl (.inl rfl))) (xg_name (pg_name (i := 6) sc_without_last.nd rfl (.inl rfl))))) (fun _ _ _ _ _ => (xts_one (xt_cmp op_gt r2_B0 (x_ix ix_seq r2_ix (x_var (pv 7)) (x_un un_neg u1_I x_int) (fun _ _ => rfl)) x_int (nomark _)))) (fun _ _ _ _ _ => (x_tup (xa_cons (x_var (pv 7)) (xa_cons (x_var (pv 6)) xa_nil)))))) (xg_two rfl (xg_name (pg_name (i := 2) sc_without_last.nd rfl (.inr rfl))) (xg_name (pg_name (i := 3) sc_without_last.nd rfl (.inl rfl)))) (xs_one (xs_for PassesOwn.never rfl (xi_list (x_lc (own := [("row", 7), ("mark", 6)]) (gs := [7, 6]) rfl sc_without_last.nd (xi_list (x_var (pv 0))) (blkOk_by (by kernel_rfl)) (fun _ _ _ _ _ => (xg_two rfl (xg_name (pg_name (i := 7) sc_without_last.nd rfl (.inl rfl))) (xg_name (pg_name (i := 6) sc_without_last.nd rfl (.inl rfl))))) (fun _ _ _ _ _ => (xts_one (xt_cmp op_lt r2_B0 (x_ix ix_seq r2_ix (x_var (pv 7)) (x_un un_neg u1_I x_int) (fun _ _ => rfl)) x_int (nomark _)))) (fun _ _ _ _ _ => (x_tup (xa_cons (x_var (pv 7)) (xa_cons (x_var (pv 6)) xa_nil)))))) (xg_two rfl (xg_name (pg_name (i := 4) sc_without_last.nd rfl (.inr rfl))) (xg_name (pg_name (i := 5) sc_without_last.nd rfl (.inl rfl)))) (xs_cons (xs_set (i := 6) sc_without_last.nd rfl (.inl rfl) (x_callTy call_tuple_of c1_tup (by rfl) T.t_tuple bt_tuple (xa_cons (x_sset rfl (by rfl) T.t_sorted (by rfl) T.t_set (x_op op_catA r2_catT (x_var (pv 3)) (x_var (pv 5)))) xa_nil)))
    (xs_one (xs_if (xt_notinT (i := 1) (Nat.lt_of_le_of_lt (Nat.add_le_add_left (show 1 ≤ 64 by decide) _) hr.units) (pv 1) (x_var (pv 6))) (xs_one (xs_putT (i := 1) (Nat.lt_of_le_of_lt (Nat.add_le_add_left (show 1 ≤ 64 by decide) _) hr.units) (pv 1) (x_var (pv 6)) (x_call (G_shortened T) (hr.mono (by decide)) (by rfl) T.d_shortened.g T.d_shortened.F.kp T.d_shortened.b (xa_cons (x_callTy call_tuple_of c1_tup (by rfl) T.t_tuple bt_tuple (xa_cons (x_lc (own := [("a", 8), ("b", 9)]) (gs := [8, 9]) rfl sc_without_last.nd (xi_zip (by rfl) T.t_zip (xa_cons (x_slice sl_tupA s3_T (x_var (pv 2)) xo_none (xo_some (x_un un_neg u1_I x_int))) (xa_cons (x_slice sl_tupA s3_T (x_var (pv 4)) xo_none (xo_some (x_un un_neg u1_I x_int))) xa_nil))) (blkOk_by (by kernel_rfl)) (fun _ _ _ _ _ => (xg_two rfl (xg_name (pg_name (i := 8) sc_without_last.nd rfl (.inl rfl))) (xg_name (pg_name (i := 9) sc_without_last.nd rfl (.inl rfl))))) (fun _ _ _ _ _ => xts_nil) (fun _ _ _ _ _ => (x_op op_sub r2_I0 (x_op op_mulX r2_IC (x_ix ix_seq r2_ix (x_var (pv 2)) (x_un un_neg u1_I x_int) (fun _ _ => rfl)) (x_var (pv 9))) (x_op op_mulX r2_IC (x_ix ix_seq r2_ix (x_var (pv 4)) (x_un un_neg u1_I x_int) (fun _ _ => rfl)) (x_var (pv 8)))))) xa_nil)) xa_nil)))) xs_nil))))))
    (xs_one (xs_lockR 1 (xs_ret (x_lc (own := [("mark", 6)]) (gs := [6]) rfl sc_without_last.nd (xi_keysT (x_var (pv 1))) (blkOk_by (by kernel_rfl)) (fun _ _ _ _ _ => (xg_name (pg_name (i := 6) sc_without_last.nd rfl (.inr rfl)))) (fun _ _ _ _ _ => (xts_one (xt_not (xt_val (x_callB (cr_any rfl) c1_any (by rfl) T.t_any bt_any (xa_cons (x_lc (own := [("one", 2)]) (gs := [2]) rfl sc_without_last.nd (xi_keysT (x_var (pv 1))) (blkOk_by (by kernel_rfl)) (fun _ _ _ _ _ => (xg_name (pg_name (i := 2) sc_without_last.nd rfl (.inl rfl)))) (fun _ _ _ _ _ => xts_nil) (fun _ _ _ _ _ => (x_call (G_is_less T) (hr.mono (by decide)) (by rfl) T.d_is_less.g T.d_is_less.F.kp T.d_is_less.b (xa_cons (x_var (pv 2)) (xa_cons (x_var (pv 6)) xa_nil))))) xa_nil)))))) (fun _ _ _ _ _ => (x_tup (xa_cons (x_getT (Nat.lt_of_le_of_lt (Nat.add_le_add_left (show 1 ≤ 64 by decide) _) hr.units) (x_var (pv 1)) (x_var (pv 6)) noSl_name) (xa_cons (x_var (pv 6)) xa_nil)))))))))), ?_⟩
    intro bg l P h
    obtain ⟨g, t, c, e, L, rfl, hin, hP⟩ := h
    have rl : ∀ p ∈ L, p.1.length = t + 1 := fun p hp => by obtain ⟨_, _, o⟩ := hin.mi.mks p hp; exact o.len
    simp [prs, and_assoc]
    refine dcW_run pr (fun p => decide (vf p.1 t = 0)) (fun p => p.2) (fun p => row p.1.dropLast) L [] _ (fun p hp Y N' acc y n => ?_) ?_
    · by_cases z : vf p.1 t = 0
      · simp [and_assoc, pr, row, last_at (rl p hp), sEq, z, cut_last]
        rw [row_drop]
        exact ⟨_, rfl, y (by simp [z])⟩
      · simp [and_assoc, pr, row, last_at (rl p hp), sEq, z]
        exact n (by simp [z])
    · obtain ⟨z1, z2, z3⟩ := zeros_aux hin L [] (fun p hp => hp) (fun x hx => nomatch hx)
      refine lcW_fil pr pr (fun p => decide (0 < vf p.1 t)) id L [] _ (fun p hp Y N' y n => ?_) ?_
      · by_cases z : 0 < vf p.1 t
        · simp [and_assoc, pr, row, last_at (rl p hp), z]
          exact ⟨by decide, y (by simp [z])⟩
        · simp [and_assoc, pr, row, last_at (rl p hp), z]
          exact n (by simp [z])
      · simp only [List.nil_append, List.map_id]
        generalize hps : L.filter (fun p => decide (0 < vf p.1 t)) = ps
        generalize hqs : L.filter (fun p => decide (vf p.1 t < 0)) = qs
        have psL : ∀ p ∈ ps, p ∈ L ∧ 0 < vf p.1 t := fun p hp => by
          rw [← hps] at hp
          have := List.mem_filter.mp hp
          exact ⟨this.1, by simpa using this.2⟩
        have qsL : ∀ p ∈ qs, p ∈ L ∧ vf p.1 t < 0 := fun p hp => by
          rw [← hqs] at hp
          have := List.mem_filter.mp hp
          exact ⟨this.1, by simpa using this.2⟩
        have cnt : (L.filter fun p => decide (vf p.1 t = 0)).length + ps.length + qs.length = L.length := by
          rw [← hps, ← hqs]
          exact tri_count t L
        have Llen := hin.len
        have c4 := hin.c4
        refine forW_run (fun i ds => ∃ (kvs : KD) (x2 x3 x4 x5 x6 : Sl), ds = [Sl.val (D.lst (L.map pr)), .ownT kvs, x2, x3, x4, x5, x6, .no, .no, .no] ∧ WlI g t e L ps qs i 0 kvs) _ 0 _ ⟨_, .no, .no, .no, .no, .no, rfl, ⟨z1, fun p hp hz => ?_, fun a b p q _ _ h => by omega, by simpa using z3⟩⟩ (fun i x ds hx hI M hM => ?_) (fun ds hI => ?_)
        · obtain ⟨x, hx, e⟩ := (z2 p.2).mpr (.inr ⟨p, hp, hz, rfl⟩)
          exact ⟨x, hx, fun z => by rw [e]⟩
        · obtain ⟨kvs, x2, x3, x4, x5, x6, rfl, hW⟩ := hI
          rw [Nat.zero_add] at hW hM
          rw [List.getElem?_map] at hx
          obtain ⟨p, hp, rfl⟩ := Option.map_eq_some_iff.mp hx
          have hpm := psL p (List.mem_of_getElem? hp)
          simp [and_assoc, pr]
          refine lcW_fil pr pr (fun p => decide (vf p.1 t < 0)) id L [] _ (fun q hq Y N' y n => ?_) ?_
          · by_cases z : vf q.1 t < 0
            · simp [and_assoc, pr, row, last_at (rl q hq), z]
              exact ⟨by decide, y (by simp [z])⟩
            · simp [and_assoc, pr, row, last_at (rl q hq), z]
              exact n (by simp [z])
          · simp only [List.nil_append, List.map_id]
            rw [hqs]
            refine forW_run (fun j ds => ∃ (kvs : KD) (x4 x5 x6 : Sl), ds = [Sl.val (D.lst (L.map pr)), .ownT kvs, Sl.val (row p.1), Sl.val (row p.2), x4, x5, x6, .no, .no, .no] ∧ WlI g t e L ps qs i j kvs) _ 0 _ ⟨kvs, _, _, _, rfl, hW⟩ (fun j x ds hx hI M' hM' => ?_) (fun ds hI => ?_)
            · obtain ⟨kvs, x4, x5, x6, rfl, hW⟩ := hI
              rw [Nat.zero_add] at hW hM'
              rw [List.getElem?_map] at hx
              obtain ⟨q, hq, rfl⟩ := Option.map_eq_some_iff.mp hx
              have hqm := qsL q (List.mem_of_getElem? hq)
              simp [and_assoc, pr]
              have mp := hin.ml p hpm.1
              have mq := hin.ml q hqm.1
              have g30 := hin.gn
              refine ⟨.tup ((p.2 ++ q.2).map D.int), ⟨p.2.map D.int, rfl, q.2.map D.int, rfl, by simp only [List.length_map]; exact Nat.le_trans (show _ ≤ 60 by omega) (by decide), by rw [List.map_append]⟩, p.2 ++ q.2, .inl rfl, by rw [List.length_append]; omega, fun ms hpw hmm => ?_⟩
              have hmm' : ∀ z, z ∈ ms ↔ z ∈ p.2 ∨ z ∈ q.2 := fun z => by rw [hmm, List.mem_append]
              have msl : ms.length ≤ g.length := mark_len hin hpm.1 hqm.1 hpw hmm'
              refine ⟨ms, rfl, ?_⟩
              by_cases hd : hasD kvs ms = true
              · rw [if_pos hd]
                exact hM' _ ⟨kvs, _, _, _, rfl, hW.put hp hq hmm' hW.good (fun _ h => h) (hasD_iff.mp hd) (Nat.le_succ _)⟩
              · rw [if_neg hd]
                have rp := rl p hpm.1
                have rq := rl q hqm.1
                refine ⟨row p.1.dropLast, ⟨_, rfl, by rw [cut_last, row_drop]⟩, row q.1.dropLast, ⟨_, rfl, by rw [cut_last, row_drop]⟩, p.1.dropLast.map D.int, q.1.dropLast.map D.int, .inr ⟨.inl rfl, .inl rfl⟩, ?_⟩
                rw [zipD_ints]
                have e4 := hin.e8
                have bp := hin.be p hpm.1
                have bq := hin.be q hqm.1
                have dp : ∀ i, (vf p.1.dropLast i).natAbs < 2 ^ e := fun i => by
                  rw [vf_dropLast rp]
                  split
                  · exact bp i
                  · simp [Nat.two_pow_pos]
                have dq : ∀ i, (vf q.1.dropLast i).natAbs < 2 ^ e := fun i => by
                  rw [vf_dropLast rq]
                  split
                  · exact bq i
                  · simp [Nat.two_pow_pos]
                refine lcW_map (fun s : Int × Int => D.tup [.int s.1, .int s.2]) D.int (fun s => vf p.1 t * s.2 - vf q.1 t * s.1) _ [] _ (fun s hs Y N' y => ?_) ?_
                · have m1 : IntMulOk (vf p.1 t) s.2 := mulOk (bp t) (mem_vf dq (List.of_mem_zip (a := s.1) (b := s.2) hs).2) (by omega)
                  have m2 : IntMulOk (vf q.1 t) s.1 := mulOk (bq t) (mem_vf dp (List.of_mem_zip (a := s.1) (b := s.2) hs).1) (by omega)
                  simp [and_assoc, row, last_at rp, last_at rq, m1, m2]
                  exact y
                · simp only [List.nil_append]
                  have ez : List.map (fun s : Int × Int => vf p.1 t * s.2 - vf q.1 t * s.1) (p.1.dropLast.zip q.1.dropLast) = List.zipWith (fun a b => vf p.1 t * b - vf q.1 t * a) p.1.dropLast q.1.dropLast := by rw [List.zip_eq_zipWith, List.map_zipWith]
                  have el : p.1.dropLast.length = q.1.dropLast.length := by simp [rp, rq]
                  have ev : ∀ j, vf (List.zipWith (fun a b => vf p.1 t * b - vf q.1 t * a) p.1.dropLast q.1.dropLast) j = vf p.1 t * vf q.1.dropLast j - vf q.1 t * vf p.1.dropLast j := fun j => vf_zip (fun a b => vf p.1 t * b - vf q.1 t * a) (by simp) el j
                  have eb : ∀ j, (vf (List.zipWith (fun a b => vf p.1 t * b - vf q.1 t * a) p.1.dropLast q.1.dropLast) j).natAbs < 2 ^ (2 * e + 1) := fun j => by
                    rw [ev]
                    have h1 := wide_lt (bp t) (dq j)
                    have h2 := wide_lt (bq t) (dp j)
                    rw [show 2 * e + 1 = (e + e) + 1 by omega, Nat.pow_succ]
                    omega
                  rw [ez]
                  have klen : kvs.length < sizeLine := by
                    have h1 := hW.len
                    have hi := (List.getElem?_eq_some_iff.mp hp).1
                    have hj := (List.getElem?_eq_some_iff.mp hq).1
                    have h2 : i * qs.length ≤ 400 * 400 := Nat.mul_le_mul (by omega) (by omega)
                    exact Nat.lt_of_le_of_lt (show _ ≤ 200000 by omega) (by decide)
                  refine ⟨_, ⟨_, 2 * e + 1, rfl, fun z hz => mem_vf eb hz, ?_, rfl⟩, ?_⟩
                  · rcases hin.e4 with h4 | h4
                    · exact .inl (by omega)
                    · right
                      have : p.1.dropLast = [] := by
                        apply List.eq_nil_of_length_eq_zero
                        rw [List.length_dropLast, rp, h4]
                      rw [this]; rfl
                  rintro _ ⟨r', by', rfl, b0, rlen, rby, rbits⟩
                  refine ⟨klen, ms, rfl, ?_⟩
                  have good : Good g t e L r' ms := by
                    refine ⟨by rw [rlen, List.length_zipWith, ← el]; simp [rp], .inr ⟨p, hpm.1, q, hqm.1, hpm.2, hqm.2, hmm', by', b0, fun j hj => ?_⟩, fun i => ?_, msl⟩
                    · rw [rby, ev, vf_dropLast rp, vf_dropLast rq, if_pos hj, if_pos hj]
                    · by_cases hi : i < r'.length
                      · rw [vf_lt hi]; exact rbits _ (List.getElem_mem _)
                      · rw [vf_ge (by omega)]; simp [Nat.two_pow_pos]
                  refine hM' _ ⟨_, _, _, _, rfl, hW.put hp hq hmm' (hW.good.put good) (fun k' h => (key_putD k').mpr (.inr h)) ((key_putD ms).mpr (.inl rfl)) (putD_len _ _ _)⟩
            · obtain ⟨kvs, x4, x5, x6, rfl, hW⟩ := hI
              rw [Nat.zero_add, List.length_map] at hW
              exact hM _ ⟨kvs, _, _, _, _, _, rfl, hW.next⟩
        · obtain ⟨kvs, x2, x3, x4, x5, x6, rfl, hW⟩ := hI
          rw [Nat.zero_add, List.length_map] at hW
          simp [and_assoc]
          have klen : kvs.length ≤ 200000 := by
            have h1 := hW.len
            have h2 : ps.length * qs.length ≤ 400 * 400 := Nat.mul_le_mul (by omega) (by omega)
            omega
          have kml : ∀ x ∈ kvs, x.1.length ≤ g.length := fun x hx => by obtain ⟨r, _, o⟩ := hW.good x hx; exact o.ml
          refine ⟨Nat.le_trans klen (by decide), fun k x hx => Nat.le_trans (kml _ hx) (Nat.le_trans hin.gn (by decide)), ?_⟩
          refine lcW_rel (fun x : List Int × D => row x.1) pr (keepC kvs) (fun x (y : Mk) => y.2 = x.1 ∧ getD' kvs x.1 = Option.some (row y.1)) kvs [] _ (fun x hx Y N' y n => ?_) (fun ys hys => ?_)
          · simp [and_assoc]
            refine ⟨Nat.le_trans klen (by decide), fun k x hx => Nat.le_trans (kml _ hx) (Nat.le_trans hin.gn (by decide)), ?_⟩
            refine lcW_rel (fun x : List Int × D => row x.1) D.bl (fun _ => true) (fun f (b : Bool) => (b = true ↔ Less f.1 x.1)) kvs [] _ (fun f hf Y' N'' y' _ => ?_) (fun bs hbs => ?_)
            · simp [and_assoc]
              refine ⟨_, ⟨f.1, x.1, rfl, rfl⟩, ?_⟩
              rintro _ ⟨b, rfl, hb⟩
              exact y' rfl b hb
            · rw [List.filter_eq_self.mpr (fun _ _ => rfl)] at hbs
              refine ⟨_, ⟨bs, rfl, rfl⟩, ?_⟩
              have anyIff : bs.any id = true ↔ ∃ f ∈ kvs, Less f.1 x.1 := by
                rw [List.any_eq_true]
                constructor
                · rintro ⟨b, hb, hbt⟩
                  obtain ⟨f, hf, r⟩ := hbs.right b hb
                  exact ⟨f, hf, r.mp hbt⟩
                · rintro ⟨f, hf, hl⟩
                  obtain ⟨b, hb, r⟩ := hbs.left f hf
                  exact ⟨b, hb, r.mpr hl⟩
              by_cases any : ∃ f ∈ kvs, Less f.1 x.1
              · have hb := anyIff.mpr any
                right
                refine ⟨by rw [hb], n ?_⟩
                exact keepC_f any
              · have hb : bs.any id = false := by
                  cases hc : bs.any id with
                  | false => rfl
                  | true => exact absurd (anyIff.mp hc) any
                left
                refine ⟨by rw [hb], ?_⟩
                obtain ⟨d, hd, hmem⟩ := getD_mem ⟨x, hx, rfl⟩
                obtain ⟨r, hr, _⟩ := hW.good _ hmem
                have hr' : d = row r := hr
                subst hr'
                refine ⟨kvs, rfl, rfl, x.1, rfl, _, hd, by decide, ?_⟩
                exact y (keepC_t any) (r, x.1) ⟨rfl, hd⟩
          · simp only [List.nil_append]
            refine ⟨noT_prs ys, ?_⟩
            rw [hP]
            refine ⟨ys, rfl, wl_fin hin hps.symm hqs.symm hW (fun y hy => ?_) (fun x hx hno => ?_) ?_⟩
            · obtain ⟨x, hx, h1, h2⟩ := hys.right y hy
              have hx' := (List.mem_filter.mp hx).1
              obtain ⟨d, hd, hmem⟩ := getD_mem ⟨x, hx', rfl⟩
              rw [h2] at hd
              cases hd
              rw [h1]; exact hmem
            · obtain ⟨y, hy, h1, _⟩ := hys.left x (List.mem_filter.mpr ⟨hx, keepC_t hno⟩)
              exact ⟨y, hy, h1⟩
            · rw [hys.length]
              exact List.length_filter_le ..
end
end K8
set_option Elab.async false
set_option linter.all false
set_option maxRecDepth 100000
set_option maxHeartbeats 4000000
namespace K8
open PySem PySem.Spec PyProof.Rows L2
section
variable {P : Program} {w : World} {K : PySem.W.Frag} {mg : Str → Option Value} {base : Heap}

def cOk : Nat → Nat → Prop
  | 0, _ => True
  | n + 1, c => c ≤ 400 ∧ cOk n ((c + 1) * (c + 1) / 4)
def eOk : Nat → Nat → Prop
  | 0, _ => True
  | 1, e => e ≤ 8000
  | n + 2, e => e ≤ 4000 ∧ eOk (n + 1) (2 * e + 1)
def fB : Nat → Nat → Nat
  | 0, _ => 0
  | n + 1, e => fB n (2 * e + 1) + 2 * e + 9
theorem eOk.le {n e : Nat} (h : eOk (n + 1) e) : e ≤ 8000 ∧ (e ≤ 4000 ∨ n = 0) ∧ eOk n (2 * e + 1) := by
  cases n with
  | zero => exact ⟨h, .inr rfl, trivial⟩
  | succ n => exact ⟨by have := h.1; omega, .inl h.1, h.2⟩
structure PbIn (g : List (List Int)) (n c e : Nat) (L : List Mk) : Prop where
  mi : MI g n L
  len : L.length ≤ c
  co : cOk n c
  be : ∀ p ∈ L, ∀ i, (vf p.1 i).natAbs < 2 ^ e
  eo : eOk n e
  ml : ∀ p ∈ L, p.2.length ≤ g.length
  gn : g.length ≤ 30
  n1 : n ≤ 100
  fb : fB n e ≤ 300000
  few : L.length ≤ 100000
def PbOut (g : List (List Int)) (n e : Nat) (L : List Mk) (d : D) : Prop :=
  (d = .non ∧ ∃ lam, Cone g 0 lam ∧ ∃ i, lam i ≠ 0) ∨ ∃ y : List Int, d = row y ∧ y.length = n ∧ (∀ p ∈ L, 0 < dotn n (vf p.1) (vf y)) ∧ ∀ i, (vf y i).natAbs < 2 ^ fB n e
def W_pb : Nat → DW
  | 0 => fun _ _ _ => False
  | N + 1 => fun _ l P => ∃ (g : List (List Int)) (n c e : Nat) (L : List Mk), l = [prs L, .int (n : Int)] ∧ n ≤ N ∧ PbIn g n c e L ∧ P = PbOut g n e L
theorem okN.prs (L : List Mk) : okN 3 (prs L) := okN.lst fun d hd => by
  obtain ⟨p, _, rfl⟩ := List.mem_map.mp hd
  exact .pr p
theorem eqv_nil (L : List Mk) : PyData.eqv (py (prs L)) (py (.lst [])) = decide (L = []) := by
  cases L with
  | nil => simp [prs, py, pys, PyData.eqv, PyData.eqvAll]
  | cons p L => simp [prs, py, pys, PyData.eqv, PyData.eqvAll]


theorem G_point_by (T : Txt K mg) : ∀ N : Nat, FnOk P w K mg base CX0 (N + 4) (He.ga K "point_by") T.d_point_by.fd ["marked", "many"] (spW K (W_pb N))
  | 0 => ⟨fun vs H Q E ⟨_, _, _, _, _, _, _, w, _⟩ => w.elim, fun A outer s H args us vs Q E _ _ _ _ ⟨_, _, _, _, _, _, _, w, _⟩ => w.elim⟩
  | N + 1 => by
    have ih := G_point_by T N
    refine fn_okD (k := N + 4) T.d_point_by.F sc_point_by ?_ (by decide) (fun cdv A outer s H E hr => ?_)
    · intro bg l P h
      obtain ⟨x, ns, b, c, d, rfl, _⟩ := h; rfl
    · refine ⟨_, (xs_cons (xs_if (xt_cmp op_eq r2_eq (x_var (pv 1)) x_int (nomark _)) (xs_one (xs_ret (x_if (xt_cmp (op_eqD hr.units) r2_eqD (x_var (pv 0)) (x_lst xa_nil) (nomark _)) (x_tup xa_nil) x_non))) xs_nil)
    (xs_cons (xs_set (i := 2) sc_point_by.nd rfl (.inl rfl) (x_call ih (hr.mono (by omega)) (by rfl) T.d_point_by.g T.d_point_by.F.kp T.d_point_by.b (xa_cons (x_call (G_without_last T) (hr.mono (by omega)) (by rfl) T.d_without_last.g T.d_without_last.F.kp T.d_without_last.b (xa_cons (x_var (pv 0)) xa_nil)) (xa_cons (x_op op_sub r2_I0 (x_var (pv 1)) x_int) xa_nil))))
    (xs_cons (xs_if (xt_cmp op_isN r2_isN (x_var (pv 2)) x_non (nomark _)) (xs_one (xs_ret x_non)) xs_nil)
    (xs_cons (xs_asg (x_tup (xa_cons x_non (xa_cons x_non xa_nil))) (xg_two rfl (xg_name (pg_name (i := 3) sc_point_by.nd rfl (.inl rfl))) (xg_name (pg_name (i := 4) sc_point_by.nd rfl (.inl rfl)))))
    (xs_cons (xs_for PassesOwn.never rfl (xi_list (x_var (pv 0))) (xg_two rfl (xg_name (pg_name (i := 5) sc_point_by.nd rfl (.inl rfl))) (xg_name (pg_name (i := 6) sc_point_by.nd rfl (.inl rfl)))) (xs_cons (xs_set (i := 7) sc_point_by.nd rfl (.inl rfl) (x_call (G_dot T) (hr.mono (by omega)) (by rfl) T.d_dot.g T.d_dot.F.kp T.d_dot.b (xa_cons (x_slice sl_tupA s3_T (x_var (pv 5)) xo_none (xo_some (x_un un_neg u1_I x_int))) (xa_cons (x_var (pv 2)) xa_nil))))
    (xs_one (xs_if (xt_cmp op_gt r2_B0 (x_ix ix_seq r2_ix (x_var (pv 5)) (x_un un_neg u1_I x_int) (fun _ _ => rfl)) x_int (nomark _)) (xs_one (xs_set (i := 3) sc_point_by.nd rfl (.inl rfl) (x_call (G_greater T) (hr.mono (by omega)) (by rfl) T.d_greater.g T.d_greater.F.kp T.d_greater.b (xa_cons (x_var (pv 3)) (xa_cons (x_tup (xa_cons (x_un un_neg u1_I (x_var (pv 7))) (xa_cons (x_ix ix_seq r2_ix (x_var (pv 5)) (x_un un_neg u1_I x_int) (fun _ _ => rfl)) xa_nil))) xa_nil))))) (xs_one (xs_if (xt_cmp op_lt r2_B0 (x_ix ix_seq r2_ix (x_var (pv 5)) (x_un un_neg u1_I x_int) (fun _ _ => rfl)) x_int (nomark _)) (xs_one (xs_set (i := 4) sc_point_by.nd rfl (.inl rfl) (x_call (G_lesser T) (hr.mono (by omega)) (by rfl) T.d_lesser.g T.d_lesser.F.kp T.d_lesser.b (xa_cons (x_var (pv 4)) (xa_cons (x_tup (xa_cons (x_var (pv 7)) (xa_cons (x_un un_neg u1_I (x_ix ix_seq r2_ix (x_var (pv 5)) (x_un un_neg u1_I x_int) (fun _ _ => rfl))) xa_nil))) xa_nil))))) xs_nil))))))
    (xs_cons (xs_asg (x_call (G_between T) (hr.mono (by omega)) (by rfl) T.d_between.g T.d_between.F.kp T.d_between.b (xa_cons (x_var (pv 3)) (xa_cons (x_var (pv 4)) xa_nil))) (xg_two rfl (xg_name (pg_name (i := 8) sc_point_by.nd rfl (.inl rfl))) (xg_name (pg_name (i := 9) sc_point_by.nd rfl (.inr rfl)))))
    (xs_one (xs_ret (x_tup (xa_star (x_lc (own := [("part", 10)]) (gs := [10]) rfl sc_point_by.nd (xi_tup (x_var (pv 2))) (blkOk_by (by kernel_rfl)) (fun _ _ _ _ _ => (xg_name (pg_name (i := 10) sc_point_by.nd rfl (.inl rfl)))) (fun _ _ _ _ _ => xts_nil) (fun _ _ _ _ _ => (x_op op_mulX r2_IC (x_var (pv 10)) (x_var (pv 9))))) (xa_cons (x_var (pv 8)) xa_nil))))))))))), ?_⟩
      intro bg l P h
      obtain ⟨g, n, c, e, L, rfl, hN, hin, hP⟩ := h
      cases n with
      | zero =>
        simp [and_assoc, sEq]
        refine ⟨(okN.prs L).ok (by decide), (okN.lst (k := 0) (l := []) (fun d hd => nomatch hd)).ok (by decide), ?_⟩
        rw [eqv_nil]
        cases L with
        | nil =>
          right
          refine ⟨by simp, ?_⟩
          rw [hP]
          exact .inr ⟨[], rfl, rfl, (fun p hp => nomatch hp), fun i => by simp [vf, Nat.two_pow_pos]⟩
        | cons p L =>
          left
          refine ⟨by simp, ?_⟩
          rw [hP]
          obtain ⟨lam, α, o⟩ := hin.mi.mks p (List.mem_cons_self ..)
          left
          refine ⟨rfl, lam, o.c, ?_⟩
          obtain ⟨z, l, e'⟩ := List.exists_cons_of_ne_nil o.ne
          have hz : z ∈ p.2 := by rw [e']; exact List.mem_cons_self ..
          obtain ⟨i, rfl⟩ := o.nat z hz
          exact ⟨i, (o.supp i).mpr hz⟩
      | succ t =>
        obtain ⟨e8, e4, eo⟩ := hin.eo.le
        have rl : ∀ p ∈ L, p.1.length = t + 1 := fun p hp => by obtain ⟨_, _, o⟩ := hin.mi.mks p hp; exact o.len
        have n1 := hin.n1
        have hfb : fB t (2 * e + 1) + 2 * e + 9 ≤ 300000 := hin.fb
        have n0 : ¬ ((t : Int) + 1 = 0) := by omega
        simp [and_assoc, sEq, n0]
        refine ⟨_, ⟨g, t, c, e, L, rfl, ⟨hin.mi, hin.len, hin.co.1, hin.be, e4, e8, hin.ml, hin.gn, by omega⟩, rfl⟩, ?_⟩
        rintro _ ⟨L', rfl, hout⟩
        cases N with
        | zero => omega
        | succ N =>
        refine ⟨_, ⟨g, t, (c + 1) * (c + 1) / 4, 2 * e + 1, L', rfl, by omega, ⟨hout.mi, by have := hout.len; omega, hin.co.2, hout.be, eo, hout.ml, hin.gn, by omega, by omega, ?_⟩, rfl⟩, ?_⟩
        · have h1 := hout.len
          have h2 : (c + 1) * (c + 1) ≤ 401 * 401 := Nat.mul_le_mul (by have := hin.co.1; omega) (by have := hin.co.1; omega)
          omega
        rintro _ (⟨rfl, hlam⟩ | ⟨y, rfl, yl, hy, yb⟩)
        · right
          refine ⟨by simp [isNon], ?_⟩
          rw [hP]
          exact .inl ⟨rfl, hlam⟩
        · left
          refine ⟨by simp [isNon, row], ?_⟩
          refine ⟨by decide, L.map pr, rfl, ?_⟩
          generalize hf : fB t (2 * e + 1) = f at hfb yb
          have hd : ∀ p ∈ L, ∀ i, (vf p.1.dropLast i).natAbs < 2 ^ e := fun p hp i => by
            rw [vf_dropLast (rl p hp)]
            split
            · exact hin.be p hp i
            · simp [Nat.two_pow_pos]
          have hdot : ∀ p ∈ L, dotp p.1.dropLast y = dotn t (vf p.1) (vf y) := fun p hp => by
            rw [dotp_eq (n := t) (by rw [List.length_dropLast, rl p hp]; rfl) yl]
            exact dotn_congr (fun i hi => by rw [vf_dropLast (rl p hp), if_pos hi]) fun _ _ => rfl
          have hbits : ∀ p ∈ L, (dotn t (vf p.1) (vf y)).natAbs < 2 ^ (e + f + 8) := fun p hp => by
            have h1 := dotn_abs (fun i => Nat.le_of_lt (hin.be p hp i)) (fun i => Nat.le_of_lt (yb i)) t
            have h2 : t * (2 ^ e * 2 ^ f) ≤ 100 * (2 ^ e * 2 ^ f) := Nat.mul_le_mul_right _ (by omega)
            rw [Nat.pow_add, Nat.pow_add]
            have := Nat.mul_pos (Nat.two_pow_pos e) (Nat.two_pow_pos f)
            omega
          have lowB : ∀ {o : Option (Int × Int)} {S : Mk → Prop}, Low t (vf y) L S o → ∀ q, o = some q → q.1.natAbs < 2 ^ (e + f + 8) ∧ q.2.natAbs < 2 ^ e ∧ 0 < q.2 := fun {o S} h q hq => by
            obtain ⟨p, hp, h1, rfl⟩ := h.src q hq
            exact ⟨by simpa using hbits p hp, hin.be p hp t, h1⟩
          have uppB : ∀ {o : Option (Int × Int)} {S : Mk → Prop}, Upp t (vf y) L S o → ∀ q, o = some q → q.1.natAbs < 2 ^ (e + f + 8) ∧ q.2.natAbs < 2 ^ e ∧ 0 < q.2 := fun {o S} h q hq => by
            obtain ⟨p, hp, h1, rfl⟩ := h.src q hq
            exact ⟨hbits p hp, by simpa using hin.be p hp t, by show 0 < -(vf p.1 t); omega⟩
          have pe : 2 ^ e ≤ 2 ^ (e + f + 8) := pow_up (by omega)
          refine forW_run (fun k ds => ∃ (o u : Option (Int × Int)) (x5 x6 x7 : Sl), ds = [Sl.val (prs L), Sl.val (.int ((t : Int) + 1)), Sl.val (row y), Sl.val (opD o), Sl.val (opD u), x5, x6, x7, .no, .no, .no] ∧ Low t (vf y) L (fun p => ∃ i, i < k ∧ L[i]? = some p) o ∧ Upp t (vf y) L (fun p => ∃ i, i < k ∧ L[i]? = some p) u) _ 0 _ ⟨none, none, .no, .no, .no, rfl, ⟨(fun l h => nomatch h), fun p ⟨i, hi, _⟩ => absurd hi (Nat.not_lt_zero _)⟩, ⟨(fun l h => nomatch h), fun p ⟨i, hi, _⟩ => absurd hi (Nat.not_lt_zero _)⟩⟩ (fun k x ds hx hI M hM => ?_) (fun ds hI => ?_)
          · obtain ⟨o, u, x5, x6, x7, rfl, hlo, hup⟩ := hI
            rw [Nat.zero_add] at hM hlo hup
            rw [List.getElem?_map] at hx
            obtain ⟨p, hp, rfl⟩ := Option.map_eq_some_iff.mp hx
            have hpL := List.mem_of_getElem? hp
            have grow : ∀ q : Mk, (∃ i, i < k + 1 ∧ L[i]? = some q) → (∃ i, i < k ∧ L[i]? = some q) ∨ q = p := fun q ⟨i, hi, hq⟩ => by
              by_cases ei : i = k
              · right
                rw [ei, hp] at hq
                exact (Option.some.inj hq).symm
              · exact .inl ⟨i, by omega, hq⟩
            simp [and_assoc, pr]
            refine ⟨row p.1.dropLast, ⟨_, rfl, by rw [cut_last, row_drop]⟩, _, ⟨p.1.dropLast, y, rfl, zip_ok (hd p hpL) yb (by omega), rfl⟩, ?_⟩
            rintro _ rfl
            rw [hdot p hpL]
            refine ⟨.int (vf p.1 t), ⟨p.1.map D.int, .inr (.inl rfl), last_at (rl p hpL)⟩, .bl (decide (0 < vf p.1 t)), ⟨_, rfl, rfl⟩, ?_⟩
            rcases Int.lt_trichotomy (vf p.1 t) 0 with z | z | z
            · left
              refine ⟨by simp; omega, .int (vf p.1 t), ⟨p.1.map D.int, .inr (.inl rfl), last_at (rl p hpL)⟩, .bl (decide (vf p.1 t < 0)), ⟨_, rfl, rfl⟩, ?_⟩
              right
              refine ⟨by simp [z], .int (vf p.1 t), ⟨p.1.map D.int, .inr (.inl rfl), last_at (rl p hpL)⟩, .int (-(vf p.1 t)), ⟨_, rfl, rfl⟩, by decide, ?_⟩
              refine ⟨_, ⟨u, (dotn t (vf p.1) (vf y), -(vf p.1 t)), e + f + 8, rfl, by omega, fun q hq => ⟨(uppB hup q hq).1, Nat.lt_of_lt_of_le (uppB hup q hq).2.1 pe⟩, hbits p hpL, by simpa using Nat.lt_of_lt_of_le (hin.be p hpL t) pe, rfl⟩, ?_⟩
              rintro _ rfl
              exact hM _ ⟨o, some (lsr u (dotn t (vf p.1) (vf y), -(vf p.1 t))), _, _, _, rfl, ⟨hlo.src, fun q hq hqp => by
                rcases grow q hq with h1 | rfl
                · exact hlo.all q h1 hqp
                · omega⟩, hup.step hpL z grow⟩
            · left
              refine ⟨by simp [z], .int (vf p.1 t), ⟨p.1.map D.int, .inr (.inl rfl), last_at (rl p hpL)⟩, .bl (decide (vf p.1 t < 0)), ⟨_, rfl, rfl⟩, ?_⟩
              left
              refine ⟨by simp [z], ?_⟩
              exact hM _ ⟨o, u, _, _, _, rfl, ⟨hlo.src, fun q hq hqp => by
                rcases grow q hq with h1 | rfl
                · exact hlo.all q h1 hqp
                · omega⟩, ⟨hup.src, fun q hq hqp => by
                rcases grow q hq with h1 | rfl
                · exact hup.all q h1 hqp
                · omega⟩⟩
            · right
              refine ⟨by simp [z], .int (-(dotn t (vf p.1) (vf y))), ⟨_, rfl, rfl⟩, .int (vf p.1 t), ⟨p.1.map D.int, .inr (.inl rfl), last_at (rl p hpL)⟩, by decide, ?_⟩
              refine ⟨_, ⟨o, (-(dotn t (vf p.1) (vf y)), vf p.1 t), e + f + 8, rfl, by omega, fun q hq => ⟨(lowB hlo q hq).1, Nat.lt_of_lt_of_le (lowB hlo q hq).2.1 pe⟩, by simpa using hbits p hpL, Nat.lt_of_lt_of_le (hin.be p hpL t) pe, rfl⟩, ?_⟩
              rintro _ rfl
              exact hM _ ⟨some (gtr o (-(dotn t (vf p.1) (vf y)), vf p.1 t)), u, _, _, _, rfl, hlo.step hpL z grow, ⟨hup.src, fun q hq hqp => by
                rcases grow q hq with h1 | rfl
                · exact hup.all q h1 hqp
                · omega⟩⟩
          · obtain ⟨o, u, x5, x6, x7, rfl, hlo, hup⟩ := hI
            rw [Nat.zero_add, List.length_map] at hlo hup
            have seen : ∀ p ∈ L, ∃ i, i < L.length ∧ L[i]? = some p := fun p hp => by
              obtain ⟨i, hi, ei⟩ := List.mem_iff_getElem.mp hp
              exact ⟨i, hi, by rw [List.getElem?_eq_getElem hi, ei]⟩
            have hlo' : Low t (vf y) L (· ∈ L) o := ⟨hlo.src, fun p hp => hlo.all p (seen p hp)⟩
            have hup' : Upp t (vf y) L (· ∈ L) u := ⟨hup.src, fun p hp => hup.all p (seen p hp)⟩
            simp [and_assoc]
            refine ⟨_, ⟨o, u, e + f + 8, e, rfl, by omega, by omega, lowB hlo, uppB hup, cross_ok hin.mi hout.mi hy hlo' hup', rfl⟩, ?_⟩
            rintro _ ⟨a, b, rfl, b0, k1, k2, ab, bb⟩
            refine ⟨.int a, .int b, .inl rfl, y.map D.int, .inl rfl, ?_⟩
            refine lcW_map D.int D.int (fun z => b * z) y [] _ (fun z hz Y N' y' => ?_) ?_
            · have m1 : IntMulOk z b := mulOk (mem_vf yb hz) bb (by omega)
              simp [and_assoc, m1]
              rw [Int.mul_comm]
              exact y'
            · simp only [List.nil_append]
              refine ⟨Nat.le_trans (show _ ≤ 200 by simp [yl]; omega) (by decide), ?_⟩
              rw [hP]
              right
              refine ⟨y.map (b * ·) ++ [a], by unfold row; rw [List.map_append]; rfl, by simp [yl], fun p hp => point_more hin.mi hout.mi yl hy hlo' hup' b0 k1 k2 hp, fun i => ?_⟩
              show _ < 2 ^ (fB t (2 * e + 1) + 2 * e + 9)
              rw [hf, vf_append, List.length_map, yl]
              split
              · rw [vf_map]
                have h1 := wide_lt bb (yb i)
                exact Nat.lt_of_lt_of_le h1 (pow_up (by omega))
              · have h1 : (vf [a] (i - t)).natAbs < 2 ^ (e + f + 8 + e + 1) := by
                  by_cases h0 : i - t = 0
                  · rw [h0]; exact ab
                  · rw [vf_ge (by simp; omega)]; simp [Nat.two_pow_pos]
                exact Nat.lt_of_lt_of_le h1 (pow_up (by omega))
end
end K8
set_option Elab.async false
set_option linter.all false
set_option maxRecDepth 100000
set_option maxHeartbeats 4000000
/-! instances, by data -/
namespace K8
open PySem PySem.Spec PyProof.Rows L2
open Evl (Ex ex_l ex_t ex_rd)
def lookD (ns : List Str) (l : List D) (f : Str) : Option D := (ns.zip l).lookup f
theorem look_rep {F : PySem.W.Frag} {K : Hp} {f : Str} : ∀ {ns : List Str} {vs : List V} {l : List D} {d : D}, Reps F K vs l → lookD ns l f = some d → ∃ v, (ns.zip vs).lookup f = some v ∧ Rep F K v d
  | [], _, _, d, _, h => by unfold lookD at h; simp at h
  | n :: ns, _, _, d, .nil, h => by unfold lookD at h; simp at h
  | n :: ns, _, _, d, .cons v d' vs l hr r, h => by
    unfold lookD at h
    rw [List.zip_cons_cons, List.lookup_cons] at h
    rw [List.zip_cons_cons, List.lookup_cons]
    by_cases e : f == n
    · rw [e] at h ⊢
      cases h
      exact ⟨v, rfl, hr⟩
    · have e' : (f == n) = false := by simpa using e
      rw [e'] at h ⊢
      exact look_rep r h
theorem look_none {f : Str} : ∀ {ns : List Str} {vs : List V}, f ∉ ns → (ns.zip vs).lookup f = none
  | [], _, _ => rfl
  | n :: ns, [], _ => rfl
  | n :: ns, v :: vs, h => by
    rw [List.zip_cons_cons, List.lookup_cons]
    have e : (f == n) = false := beq_eq_false_iff_ne.mpr fun z => h (by rw [z]; exact List.mem_cons_self ..)
    rw [e]
    exact look_none fun z => h (List.mem_cons_of_mem _ z)
section
variable {X : Cx} {pos apos : Pos} {o e : Expr} {es : List Expr} {fo : DE} {f : DA} {C fn p0 : Addr} {m x : Str} {k : Nat} {fd : FuncData} {ps : List Str} {W : DW} {CX : CXT} {p : Pos}
@[simp] def dGetF (C : Addr) (m : Str) (fo : DE) : DE := fun bg ds P => fo bg ds fun x => ∃ ns l d, x = .ins C ns l ∧ lookD ns l m = some d ∧ P d
theorem x_fld (c : Cls X.K C) (n : NoAttr X.K C m) (ho : PX X o fo) (hb : attributeBase o m X.env (eval o X.env) = eval o X.env := by rfl) : PX X (.Attribute o m pos) (dGetF C m fo) := by
  refine ⟨(pe_fld ho.pe hb).weak fun σ H Q ⟨B, K, ds, S, p⟩ => ?_, fun bg ds P P' m p => ho.mono _ _ _ _ (fun x ⟨ns, l, d, e, h, q⟩ => ⟨ns, l, d, e, h, m _ q⟩) p⟩
  refine ⟨B, K, ds, S, ho.mono _ _ _ _ (fun x ⟨ns, l, d, ex, hl, q⟩ v K1 H1 n1 r1 => ?_) p⟩
  subst ex
  cases r1 with
  | ins a _ dx vs _ _ hn h r =>
  obtain ⟨v, hv, rv⟩ := look_rep r hl
  exact ⟨a, C, dx, _, v, rfl, n1.kh _ _ h, c, n, hv, q v K1 H1 n1 rv⟩
theorem x_prop {g : Addr} (c : Cls X.K C) (hp : PropOf X.K C m p0 g) (F : FnOk X.prog X.w X.K X.mg X.base CX0 k g fd ps (getSp C x)) (hr : Room (k + 1) X.A) (hb : Binds X.K fd ps []) (ho : PX X o fo) (hab : attributeBase o m X.env (eval o X.env) = eval o X.env := by rfl) :
    PX X (.Attribute o m pos) (dGetF C x fo) := by
  refine ⟨(pe_prop (dvs := []) ho.pe c hp F hr hb .nil pass0 hab).weak fun σ H Q ⟨B, K, ds, S, p⟩ => ?_, fun bg ds P P' m p => ho.mono _ _ _ _ (fun x ⟨ns, l, d, e, h, q⟩ => ⟨ns, l, d, e, h, m _ q⟩) p⟩
  refine ⟨B, K, ds, S, ho.mono _ _ _ _ (fun x ⟨ns, l, d, ex, hl, q⟩ v K1 H1 n1 r1 => ?_) p⟩
  subst ex
  cases r1 with
  | ins a _ dx vs _ _ hn h r =>
  obtain ⟨v, hv, rv⟩ := look_rep r hl
  exact ⟨a, dx, _, rfl, n1.kh _ _ h, a, dx, _, v, rfl, n1.kh _ _ h, hv, q v K1 H1 n1 rv⟩
@[simp] def dMeth (C : Addr) (m : Str) (W : DW) (fo : DE) (f : DA) : DE := fun bg ds P => fo bg ds fun x => ∃ ns l, x = .ins C ns l ∧ m ∉ ns ∧ f bg ds fun args => ∃ P', W none (x :: args) P' ∧ ∀ d, P' d → P d
theorem x_meth {pl : Sem Bool} (c : Cls X.K C) (hm : Meth X.K C m fn) (F : FnOk X.prog X.w X.K X.mg X.base CX0 k fn fd ps (spW X.K W)) (hr : Room k X.A) (hb : Binds X.K fd ps []) (ho : PX X o fo) (ha : PXA X (e :: es) f)
    (hst : starEach (e :: es) X.env = (false, eval e X.env) :: starEach es X.env := by rfl) (hpl : (backTo pos (starEach es X.env)).any (·.1) = false := by rfl)
    (ht : eval (.Call (.Attribute o m apos) (e :: es) [] pos) X.env = (do
      let ov ← eval o X.env
      standAt apos.atName
      let (f, first) ← holding [ov] (getMethod ov m pl)
      callWith pos f first (backTo pos (starEach (e :: es) X.env)) (backToKw pos (keywordEach [] X.env))) := by rfl) :
    PX X (.Call (.Attribute o m apos) (e :: es) [] pos) (dMeth C m W fo f) := by
  refine ⟨(pe_meth (dvs := []) ho.pe c hm F hr hb .nil pass0 ha.pa hst hpl ht).weak fun σ H Q ⟨B, K, ds, S, p⟩ => ?_, fun bg ds P P' m p => ho.mono _ _ _ _ (fun x ⟨ns, l, e, h, q⟩ => ⟨ns, l, e, h, ha.mono _ _ _ _ (fun args ⟨P0, w, hh⟩ => ⟨P0, w, fun d z => m _ (hh d z)⟩) q⟩) p⟩
  refine ⟨B, K, ds, S, ho.mono _ _ _ _ (fun x ⟨ns, l, ex, hm, q⟩ v K1 H1 n1 r1 => ?_) p⟩
  have r1' := r1
  subst ex
  cases r1 with
  | ins a _ dx vs _ _ hn h r =>
  have S1 := S.next n1
  refine ⟨a, dx, _, rfl, n1.kh _ _ h, look_none hm, B, K1, ds, S1, ha.mono _ _ _ _ (fun args ⟨P', w, hh⟩ us K2 H2 n2 r2 => ?_) q⟩
  show spW X.K W (V.ref a :: (us ++ [])) H2 Q _
  rw [List.append_nil]
  exact ⟨none, K2, _ :: args, P', n2.kh, fun b z => (nomatch z), .cons _ _ _ _ (r1'.mono n2.kk) r2, w, fun d v K3 H3 pd n3 r3 => hh d pd v K3 H3 (Nx.trans S.bag (Nx.trans S.bag n1 n2) (Nx.of0 n3)) r3⟩
@[simp] def dMeth0 (C : Addr) (m : Str) (W : DW) (fo : DE) : DE := fun bg ds P => fo bg ds fun x => ∃ ns l, x = .ins C ns l ∧ m ∉ ns ∧ ∃ P', W none [x] P' ∧ ∀ d, P' d → P d
theorem x_meth0 {pl : Sem Bool} (c : Cls X.K C) (hm : Meth X.K C m fn) (F : FnOk X.prog X.w X.K X.mg X.base CX0 k fn fd ps (spW X.K W)) (hr : Room k X.A) (hb : Binds X.K fd ps []) (ho : PX X o fo)
    (ht : eval (.Call (.Attribute o m apos) [] [] pos) X.env = (do
      let ov ← eval o X.env
      standAt apos.atName
      let (f, first) ← holding [ov] (getMethod ov m pl)
      callWith pos f first (backTo pos (starEach [] X.env)) (backToKw pos (keywordEach [] X.env))) := by rfl) :
    PX X (.Call (.Attribute o m apos) [] [] pos) (dMeth0 C m W fo) := by
  refine ⟨(pe_meth0 (dvs := []) ho.pe c hm F hr hb .nil pass0 ht).weak fun σ H Q ⟨B, K, ds, S, p⟩ => ?_, fun bg ds P P' m p => ho.mono _ _ _ _ (fun x ⟨ns, l, e, h, P0, w, hh⟩ => ⟨ns, l, e, h, P0, w, fun d z => m _ (hh d z)⟩) p⟩
  refine ⟨B, K, ds, S, ho.mono _ _ _ _ (fun x ⟨ns, l, ex, hm, P', w, hh⟩ v K1 H1 n1 r1 => ?_) p⟩
  have r1' := r1
  subst ex
  cases r1 with
  | ins a _ dx vs _ _ hn h r =>
  refine ⟨a, dx, _, rfl, n1.kh _ _ h, look_none hm, ?_⟩
  show spW X.K W [.ref a] H1 Q E0
  exact ⟨none, K1, [_], P', n1.kh, fun b z => (nomatch z), .cons _ _ _ _ r1' .nil, w, fun d v K3 H3 pd n3 r3 => hh d pd v K3 H3 (Nx.trans S.bag n1 (Nx.of0 n3)) r3⟩
/-- what __init__ promises: of two arguments, the second a list or a tuple that is copied to a list -/
def spInit (F : PySem.W.Frag) (C : Addr) (ns : List Str) (W : D → List D → Prop) : L2.Sp := fun vs H Q _ => ∃ (x dx : Addr) (v1 v2 : V) (K : Hp) (d1 : D) (d2 : D) (l2 : List D), vs = [.ref x, v1, v2] ∧ H x = some (.ins C dx []) ∧ Ex K H ∧ K x = none ∧ Rep F K v1 d1 ∧ Rep F K v2 d2 ∧ d2 = .lst l2 ∧ W d1 l2 ∧
  ∀ K4 H4, (∀ a o, a ≠ x → H a = some o → H4 a = some o) → Ex K K4 → (∀ a, a ≠ x → Pin (H a) → K4 a = K a) → Ex K4 H4 → Rep F K4 (.ref x) (.ins C ns [d1, .lst l2]) → Q .non H4
@[simp] def dMake (C : Addr) (ns : List Str) (W : D → List D → Prop) (f : DA) : DE := fun bg ds P => f bg ds fun args => ∃ d1 d2 l2, args = [d1, d2] ∧ d2 = .lst l2 ∧ W d1 l2 ∧ P (.ins C ns [d1, .lst l2])
theorem x_make {fi : Addr} {ns : List Str} {W : D → List D → Prop} (M : L2.Mk X.K C fi) (F : FnOk X.prog X.w X.K X.mg X.base CX0 k fi fd ps (spInit X.K C ns W)) (hr : Room (k + 1) X.A) (hg : Gl X x) (hm : X.mg x = some (.ref C)) (hb : Binds X.K fd ps []) (ha : PXA X (e :: es) f)
    (hdb : (x == ("__debug__" : Str)) = false := by decide) (he : starEach (e :: es) X.env = (false, eval e X.env) :: starEach es X.env := by rfl) (hpl : (backTo pos (starEach es X.env)).any (·.1) = false := by rfl) :
    PX X (.Call (.Name x p) (e :: es) [] pos) (dMake C ns W f) := by
  refine ⟨(pe_make (dvs := []) M F hr hg hm hb .nil pass0 ha.pa hdb he hpl).weak fun σ H Q ⟨B, K, ds, S, p⟩ => ?_, fun bg ds P P' m p => ha.mono _ _ _ _ (fun args ⟨d1, d2, l2, e, h, w, q⟩ => ⟨d1, d2, l2, e, h, w, m _ q⟩) p⟩
  refine ⟨B, K, ds, S, ha.mono _ _ _ _ (fun args ⟨d1, d2, l2, ea, h2, w, q⟩ us K1 H1 n1 r1 => ?_) p⟩
  subst ea
  intro x dx hx hdx hne
  cases r1 with
  | cons v1 _ _ _ r1 r =>
  cases r with
  | cons v2 _ _ _ r2 r =>
  cases r
  have kx : K1 x = none := by
    cases q : K1 x with
    | none => rfl
    | some u => rw [n1.kh x u q] at hx; cases hx
  have kdx : K1 dx = none := by
    cases q : K1 dx with
    | none => rfl
    | some u => rw [n1.kh dx u q] at hdx; cases hdx
  have old : ∀ a o, H1 a = some o → (upd (upd H1 dx (.own x)) x (.ins C dx [])) a = some o := fun a o h => by
    rw [upd_ne (ne_of_none h hx), upd_ne (ne_of_none h hdx)]; exact h
  refine ⟨x, dx, v1, v2, K1, d1, d2, l2, rfl, upd_same, fun a o h => old a o (n1.kh a o h), kx, r1, r2, h2, w, fun K4 H4 le kk fr kh rep => ⟨rfl, q _ K4 H4 (Nx.trans S.bag n1 (Nx.of0 ⟨fun a o _ h => le a o (ne_of_none h hx) (old a o h), fun _ _ z => (nomatch z), kk, fun a h => ?_, kh⟩)) rep⟩⟩
  have na : a ≠ x := fun z => by rw [z, hx] at h; exact h
  have nd : a ≠ dx := fun z => by rw [z, hdx] at h; exact h
  refine fr a na ?_
  rw [upd_ne na, upd_ne nd]
  exact h
end
end K8
set_option Elab.async false
set_option linter.all false
set_option maxRecDepth 100000
set_option maxHeartbeats 4000000
/-! isinstance, written tuples, constants -/
namespace K8
open PySem PySem.Spec PyProof.Rows L2
open Evl (Ex ex_l ex_t ex_rd)
section
variable {X : Cx} {pos p : Pos} {e o : Expr} {es : List Expr} {fe : DE} {f : DA} {x : Str}
theorem x_bltT {n : String} (hg : Gl X x) (hm : X.mg x = none) (hv : bootBuiltins x = some (.type n)) (hn : x ≠ "__name__" := by decide) (hd : (x == ("__debug__" : Str)) = false := by decide) : PX X (.Name x pos) (dC (.ty n)) :=
  x_c (pe_bltn (v := .ty n) hg hm hv rfl hn hd) fun _ => .ty n
theorem x_gstr {s : Str} (hg : Gl X x) (hm : ∃ t, X.mg x = some (.str s t)) (hd : (x == ("__debug__" : Str)) = false := by decide) : PX X (.Name x pos) (dC (.str s)) := by
  obtain ⟨t, ht⟩ := hm
  exact x_c (pe_glob (v := .str s) hg ht ⟨t, rfl⟩ hd) fun _ => .str s
theorem x_gint {s : Int} (hg : Gl X x) (hm : ∃ t, X.mg x = some (.int s t)) (hd : (x == ("__debug__" : Str)) = false := by decide) : PX X (.Name x pos) (dC (.int s)) := by
  obtain ⟨t, ht⟩ := hm
  exact x_c (pe_glob (v := .int s) hg ht ⟨t, rfl⟩ hd) fun _ => .int s
def tyN : D → Option String
  | .str _ => some "str"
  | .tup _ => some "tuple"
  | .sol _ => some "tuple"
  | .lst _ => some "list"
  | _ => none
@[simp] def RIsi (l : List D) (z : D) : Prop := ∃ d n, l = [d, .ty n] ∧ tyN d = some n ∧ z = .bl true
@[simp] def RIsi2 (l : List D) (z : D) : Prop := ∃ m : List D, l = [.lst m, .tup [.ty "list", .ty "tuple"]] ∧ z = .bl true
theorem kit_same {K : PySem.W.Frag} (n : String) : PySem.W.kitOne K (.type n) (.type n) = some true := kit_ty (by unfold kitB; rw [if_pos (by simp)])
theorem tyx_of {F : PySem.W.Frag} {K H : Hp} {v : V} {d : D} {n : String} (kh : Ex K H) (r : Rep F K v d) (h : tyN d = some n) : TyX F H v (.type n) := by
  cases r with
  | str x => cases h; exact .base (.str x)
  | tup a vs l z hh r => cases h; exact .base (.tup (kh _ _ hh))
  | sol a vs l o hd z hh r => cases h; exact .fTuple (kh _ _ hh)
  | lst a vs l z hh r => cases h; exact .base (.lst (kh _ _ hh))
  | _ => cases h
theorem c1_isi {F : PySem.W.Frag} : C1d F (rIsi F) RIsi := by
  rintro K H xs l z Q kh rl ⟨d, n, rfl, ht, rfl⟩ q
  cases rl with
  | cons v _ _ _ rv rl =>
  cases rl with
  | cons u _ _ _ ru rl =>
  cases rl
  cases ru
  exact ⟨v, .ty n, .type n, .type n, true, rfl, .ty n, tyx_of kh rv ht, kit_same n, q _ K H (Nx.refl kh) (.bl true)⟩
theorem c1_isi2 {F : PySem.W.Frag} : C1d F (rIsiT F) RIsi2 := by
  rintro K H xs l z Q kh rl ⟨m, rfl, rfl⟩ q
  cases rl with
  | cons v _ _ _ rv rl =>
  cases rl with
  | cons u _ _ _ ru rl =>
  cases rl
  cases ru with
  | tup a vs _ z h r =>
  cases r with
  | cons v1 _ _ _ r1 r =>
  cases r with
  | cons v2 _ _ _ r2 r =>
  cases r
  cases r1
  cases r2
  exact ⟨v, a, _, .type "list", [.type "list", .type "tuple"], true, rfl, kh _ _ h, .cons (.ty _) (.cons (.ty _) .nil), tyx_of kh rv rfl, kitAny_cons (kit_same "list") (fun z => nomatch z) (fun _ => rfl), q _ K H (Nx.refl kh) (.bl true)⟩
/-- s in W, W a written tuple of texts -/
@[simp] def dInW (ss : List Str) (fe : DE) : DE := fun bg ds P => fe bg ds fun d => ∃ s, d = .str s ∧ P (.bl (decide (s ∈ ss)))
theorem x_inW {a : Addr} {ss : List Str} (ho : PE X o (tC (.ref a))) (hW : ∀ H, SqT X.K H a (ss.map V.str)) (he : PX X e fe) (hm : behindInMarks .In o = false := by rfl) : PX X (.Compare e [.In] [o] pos) (dInW ss fe) := by
  refine ⟨(pe_cmpR op_in_seq he.pe ho hm).weak fun σ H Q ⟨B, K, ds, S, p⟩ => ?_, fun bg ds P P' m p => he.mono _ _ _ _ (fun d ⟨s, e, q⟩ => ⟨s, e, m _ q⟩) p⟩
  refine ⟨B, K, ds, S, he.mono _ _ _ _ (fun d ⟨s, ed, q⟩ v K1 H1 n1 r1 => ?_) p⟩
  subst ed
  cases r1
  show rIn X.K false (.str s) (.ref a) H1 Q
  refine ⟨a, _, rfl, .inr (hW H1), rfl, by simp [flatV], ?_⟩
  simp only [Bool.false_eq_true, if_false]
  rw [inV_str]
  exact q _ K1 H1 n1 (.bl _)
/-- range of any int, a negative one is nothing -/
@[simp] def dItRZ (f : DA) : DA := fun bg ds P => f bg ds fun l => ∃ n : Int, l = [.int n] ∧ -1000 ≤ n ∧ n.toNat ≤ 1000 ∧ P (rngD n.toNat)
theorem xi_rangeZ {tg : Expr} (hg : Gl X "range") (hm : X.mg "range" = none) (ha : PXA X [e] f) (hs : starEach [e] X.env = [(false, eval e X.env)] := by rfl) : PXI X tg (.Call (.Name "range" p) [e] [] pos) (dItRZ f) := by
  refine ⟨(pi_range1 hg hm ha.pa hs).weak fun σ H Q ⟨B, K, ds, S, p⟩ => ?_, fun bg ds P P' m p => ha.mono _ _ _ _ (fun d ⟨l, e, y, z, q⟩ => ⟨l, e, y, z, m _ q⟩) p⟩
  refine ⟨B, K, ds, S, ha.mono _ _ _ _ (fun l ⟨n, el, y, z, q⟩ vs K1 H1 n1 r1 => ?_) p⟩
  subst el
  obtain ⟨v, rfl, rv⟩ := reps1 r1
  cases rv
  refine ⟨n, rfl, by omega, by omega, q _ K1 H1 n1 (fun K2 H2 k2 h2 => ⟨fun i d hd => ?_, fun i hi => ?_⟩) (by unfold rngD; rw [List.length_map, List.length_range]; exact Nat.le_trans z (show 1000 ≤ sizeLine by decide))⟩
  · obtain ⟨hi, rfl⟩ := rngD_get hd
    refine ⟨by simpa [Itr] using hi, fun x H' ⟨e, y⟩ => ?_⟩
    subst e y
    exact ⟨K2, Nx.refl h2, by rw [Int.zero_add]; exact .int _⟩
  · unfold rngD at hi
    simp at hi
    have hi' := Nat.le_of_eq hi.symm
    simpa [Itr] using hi'
end
end K8
set_option Elab.async false
set_option linter.all false
set_option maxRecDepth 100000
set_option maxHeartbeats 4000000
/-! the class of the program, its constants -/
namespace K8
open PySem PySem.Spec PyProof.Rows L2
def inC (st : Stmt) (j : Nat) : Stmt := match st with
  | .ClassDef _ _ _ body .. => body.getD j (.Pass ⟨0, 0, 0, 0⟩)
  | _ => .Pass ⟨0, 0, 0, 0⟩
structure Dm (K : PySem.W.Frag) (m qual : Str) (st : Stmt) (ps : List Str) where
  fd : FuncData
  F : FunD K m qual (defArgs st) (defBody st) (defScope st) [] [] (He.ma K (He.ga K "Told") m) fd
  b : Binds K fd ps []
abbrev s_Told_init : Stmt := inC (topS 57) 0
theorem sc_Told_init : FnScope ["self", "things", "tellings"] ["self", "things", "tellings"] (defScope s_Told_init) := ⟨rfl, rfl, rfl, by decide +kernel, rfl, by decide +kernel, by decide +kernel⟩
abbrev s_Told_tellings : Stmt := inC (topS 57) 2
theorem sc_Told_tellings : FnScope ["self"] ["self"] (defScope s_Told_tellings) := ⟨rfl, rfl, rfl, by decide +kernel, rfl, by decide +kernel, by decide +kernel⟩
abbrev s_Told_rows : Stmt := inC (topS 57) 8
theorem sc_Told_rows : FnScope ["self", "word", "telling"] ["self", "word"] (defScope s_Told_rows) := ⟨rfl, rfl, rfl, by decide +kernel, rfl, by decide +kernel, by decide +kernel⟩
abbrev s_Told_with_telling : Stmt := inC (topS 57) 12
theorem sc_Told_with_telling : FnScope ["self", "telling"] ["self", "telling"] (defScope s_Told_with_telling) := ⟨rfl, rfl, rfl, by decide +kernel, rfl, by decide +kernel, by decide +kernel⟩
def wordsL : List Str := ["alike", "heavier", "unlike"]
def letters : Str := "abcdefghijklmnopqrstuvwxyz"
structure Tx (K : PySem.W.Frag) (mg : Str → Option Value) extends Txt K mg where
  m_init : Dm K "__init__" "Told.__init__" s_Told_init ["self", "things", "tellings"]
  m_tellings : Dm K "tellings" "Told.tellings" s_Told_tellings ["self"]
  h_tellings : Meth K (He.ga K "Told") "tellings" (He.ma K (He.ga K "Told") "tellings")
  m_rows : Dm K "rows" "Told.rows" s_Told_rows ["self", "word"]
  h_rows : Meth K (He.ga K "Told") "rows" (He.ma K (He.ga K "Told") "rows")
  m_with_telling : Dm K "with_telling" "Told.with_telling" s_Told_with_telling ["self", "telling"]
  h_with_telling : Meth K (He.ga K "Told") "with_telling" (He.ma K (He.ga K "Told") "with_telling")
  h_init : L2.Mk K (He.ga K "Told") (He.ma K (He.ga K "Told") "__init__")
  g_Told : mg "Told" = some (.ref (He.ga K "Told"))
  cls : Cls K (He.ga K "Told")
  na1 : NoAttr K (He.ga K "Told") "its_things"
  na2 : NoAttr K (He.ga K "Told") "its_tellings"
  pp : Addr
  pg : Addr
  pfd : FuncData
  prop : PropOf K (He.ga K "Told") "things" pp pg
  pok : ∀ {P : Program} {w : World} {base : Heap} (k : Nat), FnOk P w K mg base CX0 (k + 1) pg pfd ["self"] (getSp (He.ga K "Told") "its_things")
  pb : Binds K pfd ["self"] []
  g_LETTERS : ∃ t, mg "LETTERS" = some (.str letters t)
  g_MOST_THINGS : ∃ t, mg "MOST_THINGS" = some (.int 6 t)
  g_MOST_IN_SUMS : ∃ t, mg "MOST_IN_SUMS" = some (.int 3 t)
  g_WORDS : mg "WORDS" = some (.ref (He.ga K "WORDS"))
  w_WORDS : ∀ H, SqT K H (He.ga K "WORDS") (wordsL.map V.str)
end K8
set_option Elab.async false
set_option linter.all false
set_option maxRecDepth 100000
set_option maxHeartbeats 4000000
namespace K8
open PySem PySem.Spec PyProof.Rows L2
section
variable {P : Program} {w : World} {K : PySem.W.Frag} {mg : Str → Option Value} {base : Heap}

abbrev Tel := Str × List Str × List Str
def solD (a : List Str) : D := .sol (a.map .str)
def telD (t : Tel) : D := .tup [.str t.1, solD t.2.1, solD t.2.2]
structure GName (s : Str) : Prop where
  pos : 0 < s.length
  few : s.length ≤ 8
  let' : ∀ c ∈ s.cps.toList, c ∈ letters.cps.toList
structure GThings (ts : List Str) : Prop where
  few : ts.length ≤ 6
  nm : ∀ s ∈ ts, GName s
  asc : ∀ (i : Nat) (a b : Str), ts[i]? = some a → ts[i + 1]? = some b → ltS a b = true
structure GSum (ts : List Str) : Prop where
  few : ts.length ≤ 3
  nm : ∀ s ∈ ts, GName s
  asc : ∀ (i : Nat) (a b : Str), ts[i]? = some a → ts[i + 1]? = some b → leS a b = true
structure GTel (ts : List Str) (t : Tel) : Prop where
  wd : t.1 ∈ wordsL
  l : GSum t.2.1
  r : GSum t.2.2
  il : ∀ s ∈ t.2.1, s ∈ ts
  ir : ∀ s ∈ t.2.2, s ∈ ts
theorem cut_from1 {α : Type} (xs : List α) : cutD xs (some 1) none = xs.drop 1 := cut_from xs 1
theorem all_true {α : Type} (l : List α) : (l.map fun _ => true).all id = true := by
  rw [List.all_map]
  exact List.all_eq_true.mpr fun _ _ => rfl
def W_is_name : DW := fun _ l P => ∃ s, l = [.str s] ∧ GName s ∧ P = (· = .bl true)
theorem G_is_name (T : Tx K mg) : FnOk P w K mg base CX0 1 (He.ga K "is_name") T.d_is_name.fd ["thing"] (spW K W_is_name) := by
  refine fn_okD (k := 0) T.d_is_name.F sc_is_name ?_ (by decide) (fun cdv A outer s H E hr => ?_)
  · intro bg l P h
    obtain ⟨x, rfl, _⟩ := h; rfl
  · refine ⟨_, (xs_one (xs_ret (x_and (x_callB call_isi c1_isi (by rfl) T.t_isinstance bt_isinstance (xa_cons (x_var (pv 0)) (xa_cons (x_bltT (by rfl) T.t_str bt_str) xa_nil))) (x_and (x_chain op_lt r2_B0 op_le r2_B0 x_int (x_callB call_len c1_len (by rfl) T.t_len bt_len (xa_cons (x_var (pv 0)) xa_nil)) x_int) (x_one (x_callB (cr_all rfl) c1_all (by rfl) T.t_all bt_all (xa_cons (x_lc (own := [("sign", 1)]) (gs := [1]) rfl sc_is_name.nd (xi_str (x_var (pv 0))) (blkOk_by (by kernel_rfl)) (fun _ _ _ _ _ => (xg_name (pg_name (i := 1) sc_is_name.nd rfl (.inl rfl)))) (fun _ _ _ _ _ => xts_nil) (fun _ _ _ _ _ => (x_cmp op_in_sign r2_inC (x_var (pv 1)) (x_gstr (by rfl) T.g_LETTERS) (by rfl)))) xa_nil))))))), ?_⟩
    intro bg l P h
    obtain ⟨s, rfl, hs, rfl⟩ := h
    have h1 := hs.pos
    have h2 := hs.few
    simp [and_assoc, tyN]
    refine ⟨Nat.le_trans h2 (by decide), ?_⟩
    refine ⟨h1, by omega, Nat.le_trans h2 (by decide), ?_⟩
    rw [show strD s = s.cps.toList.map (fun c => D.str ⟨#[c]⟩) from rfl]
    refine lcW_map (fun c : Nat => D.str ⟨#[c]⟩) D.bl (fun _ => true) s.cps.toList [] _ (fun c hc Y N y => ?_) ?_
    · simp [and_assoc, hs.let' c (by simpa using hc)]
      have := hs.let' c hc
      simp at this
      simpa [this] using y
    · exact ⟨s.cps.toList.map fun _ => true, rfl, by simp⟩

def W_are_things : DW := fun _ l P => ∃ ts, l = [solD ts] ∧ GThings ts ∧ P = (· = .bl true)
theorem G_are_things (T : Tx K mg) : FnOk P w K mg base CX0 2 (He.ga K "are_things") T.d_are_things.fd ["thing"] (spW K W_are_things) := by
  refine fn_okD (k := 1) T.d_are_things.F sc_are_things ?_ (by decide) (fun cdv A outer s H E hr => ?_)
  · intro bg l P h
    obtain ⟨x, rfl, _⟩ := h; rfl
  · refine ⟨_, (xs_cons (xs_if (PXW.xt (xw_or (xt_not (xt_val (x_callB call_isi c1_isi (by rfl) T.t_isinstance bt_isinstance (xa_cons (x_var (pv 0)) (xa_cons (x_bltT (by rfl) T.t_tuple bt_tuple) xa_nil))))) (xw_or (xt_cmp op_gt r2_B0 (x_callB call_len c1_len (by rfl) T.t_len bt_len (xa_cons (x_var (pv 0)) xa_nil)) (x_gint (by rfl) T.g_MOST_THINGS) (nomark _)) (xw_or1 (xt_not (xt_val (x_callB (cr_all rfl) c1_all (by rfl) T.t_all bt_all (xa_cons (x_lc (own := [("name", 2)]) (gs := [2]) rfl sc_are_things.nd (xi_tup (x_var (pv 0))) (blkOk_by (by kernel_rfl)) (fun _ _ _ _ _ => (xg_name (pg_name (i := 2) sc_are_things.nd rfl (.inl rfl)))) (fun _ _ _ _ _ => xts_nil) (fun _ _ _ _ _ => (x_call (G_is_name T) (hr.mono (by decide)) (by rfl) T.d_is_name.g T.d_is_name.F.kp T.d_is_name.b (xa_cons (x_var (pv 2)) xa_nil)))) xa_nil)))))))) (xs_one (xs_ret x_bl)) xs_nil)
    (xs_one (xs_ret (x_callB (cr_all rfl) c1_all (by rfl) T.t_all bt_all (xa_cons (x_lc (own := [("at", 1)]) (gs := [1]) rfl sc_are_things.nd (xi_rangeZ (by rfl) T.t_range (xa_cons (x_op op_sub r2_I0 (x_callB call_len c1_len (by rfl) T.t_len bt_len (xa_cons (x_var (pv 0)) xa_nil)) x_int) xa_nil)) (blkOk_by (by kernel_rfl)) (fun _ _ _ _ _ => (xg_name (pg_name (i := 1) sc_are_things.nd rfl (.inl rfl)))) (fun _ _ _ _ _ => xts_nil) (fun _ _ _ _ _ => (x_cmp op_lt_str r2_ltS (x_ix ix_seq r2_ix (x_var (pv 0)) (x_var (pv 1)) (fun _ _ => rfl)) (x_ix ix_seq r2_ix (x_var (pv 0)) (x_op op_add r2_I0 (x_var (pv 1)) x_int) (fun _ _ => rfl)) (nomark _)))) xa_nil))))), ?_⟩
    intro bg l P h
    obtain ⟨ts, rfl, hg, rfl⟩ := h
    have few := hg.few
    simp [and_assoc, tyN, solD]
    refine ⟨by omega, ?_⟩
    refine lcW_map D.str D.bl (fun _ => true) ts [] _ (fun s hs Y N y => ?_) ?_
    · simp [and_assoc]
      refine ⟨_, ⟨s, rfl, hg.nm s hs, rfl⟩, ?_⟩
      rintro _ rfl
      exact y
    · refine ⟨.bl true, ⟨ts.map fun _ => true, rfl, by simp⟩, rfl, ?_⟩
      refine ⟨by omega, by omega, ?_⟩
      refine lcW_map (fun i : Nat => D.int (i : Int)) D.bl (fun _ => true) (List.range (ts.length - 1)) [] _ (fun i hi Y N y => ?_) ?_
      · have hi' : i + 1 < ts.length := by have := List.mem_range.mp hi; omega
        have e1 : atI (ts.map D.str) (i : Int) = Option.some (.str ts[i]) := atI_nat (by rw [List.getElem?_map, List.getElem?_eq_getElem (by omega)]; rfl)
        have e2 : atI (ts.map D.str) ((i : Int) + 1) = Option.some (.str ts[i + 1]) := by
          rw [show (i : Int) + 1 = ((i + 1 : Nat) : Int) by omega]
          exact atI_nat (by rw [List.getElem?_map, List.getElem?_eq_getElem hi']; rfl)
        have e3 := hg.asc i ts[i] ts[i + 1] (List.getElem?_eq_getElem (by omega)) (List.getElem?_eq_getElem hi')
        simp [and_assoc, e1, e2, e3]
        exact y
      · exact ⟨(List.range (ts.length - 1)).map fun _ => true, rfl, by simp⟩

def W_is_sum : DW := fun _ l P => ∃ ts, l = [solD ts] ∧ GSum ts ∧ P = (· = .bl true)
theorem G_is_sum (T : Tx K mg) : FnOk P w K mg base CX0 2 (He.ga K "is_sum") T.d_is_sum.fd ["thing"] (spW K W_is_sum) := by
  refine fn_okD (k := 1) T.d_is_sum.F sc_is_sum ?_ (by decide) (fun cdv A outer s H E hr => ?_)
  · intro bg l P h
    obtain ⟨x, rfl, _⟩ := h; rfl
  · refine ⟨_, (xs_cons (xs_if (PXW.xt (xw_or (xt_not (xt_val (x_callB call_isi c1_isi (by rfl) T.t_isinstance bt_isinstance (xa_cons (x_var (pv 0)) (xa_cons (x_bltT (by rfl) T.t_tuple bt_tuple) xa_nil))))) (xw_or (xt_cmp op_gt r2_B0 (x_callB call_len c1_len (by rfl) T.t_len bt_len (xa_cons (x_var (pv 0)) xa_nil)) (x_gint (by rfl) T.g_MOST_IN_SUMS) (nomark _)) (xw_or1 (xt_not (xt_val (x_callB (cr_all rfl) c1_all (by rfl) T.t_all bt_all (xa_cons (x_lc (own := [("name", 2)]) (gs := [2]) rfl sc_is_sum.nd (xi_tup (x_var (pv 0))) (blkOk_by (by kernel_rfl)) (fun _ _ _ _ _ => (xg_name (pg_name (i := 2) sc_is_sum.nd rfl (.inl rfl)))) (fun _ _ _ _ _ => xts_nil) (fun _ _ _ _ _ => (x_call (G_is_name T) (hr.mono (by decide)) (by rfl) T.d_is_name.g T.d_is_name.F.kp T.d_is_name.b (xa_cons (x_var (pv 2)) xa_nil)))) xa_nil)))))))) (xs_one (xs_ret x_bl)) xs_nil)
    (xs_one (xs_ret (x_callB (cr_all rfl) c1_all (by rfl) T.t_all bt_all (xa_cons (x_lc (own := [("at", 1)]) (gs := [1]) rfl sc_is_sum.nd (xi_rangeZ (by rfl) T.t_range (xa_cons (x_op op_sub r2_I0 (x_callB call_len c1_len (by rfl) T.t_len bt_len (xa_cons (x_var (pv 0)) xa_nil)) x_int) xa_nil)) (blkOk_by (by kernel_rfl)) (fun _ _ _ _ _ => (xg_name (pg_name (i := 1) sc_is_sum.nd rfl (.inl rfl)))) (fun _ _ _ _ _ => xts_nil) (fun _ _ _ _ _ => (x_cmp op_le_str r2_leS (x_ix ix_seq r2_ix (x_var (pv 0)) (x_var (pv 1)) (fun _ _ => rfl)) (x_ix ix_seq r2_ix (x_var (pv 0)) (x_op op_add r2_I0 (x_var (pv 1)) x_int) (fun _ _ => rfl)) (nomark _)))) xa_nil))))), ?_⟩
    intro bg l P h
    obtain ⟨ts, rfl, hg, rfl⟩ := h
    have few := hg.few
    simp [and_assoc, tyN, solD]
    refine ⟨by omega, ?_⟩
    refine lcW_map D.str D.bl (fun _ => true) ts [] _ (fun s hs Y N y => ?_) ?_
    · simp [and_assoc]
      refine ⟨_, ⟨s, rfl, hg.nm s hs, rfl⟩, ?_⟩
      rintro _ rfl
      exact y
    · refine ⟨.bl true, ⟨ts.map fun _ => true, rfl, by simp⟩, rfl, ?_⟩
      refine ⟨by omega, by omega, ?_⟩
      refine lcW_map (fun i : Nat => D.int (i : Int)) D.bl (fun _ => true) (List.range (ts.length - 1)) [] _ (fun i hi Y N y => ?_) ?_
      · have hi' : i + 1 < ts.length := by have := List.mem_range.mp hi; omega
        have e1 : atI (ts.map D.str) (i : Int) = Option.some (.str ts[i]) := atI_nat (by rw [List.getElem?_map, List.getElem?_eq_getElem (by omega)]; rfl)
        have e2 : atI (ts.map D.str) ((i : Int) + 1) = Option.some (.str ts[i + 1]) := by
          rw [show (i : Int) + 1 = ((i + 1 : Nat) : Int) by omega]
          exact atI_nat (by rw [List.getElem?_map, List.getElem?_eq_getElem hi']; rfl)
        have e3 := hg.asc i ts[i] ts[i + 1] (List.getElem?_eq_getElem (by omega)) (List.getElem?_eq_getElem hi')
        simp [and_assoc, e1, e2, e3]
        exact y
      · exact ⟨(List.range (ts.length - 1)).map fun _ => true, rfl, by simp⟩

def W_is_pair : DW := fun _ l P => ∃ a b, l = [.tup [solD a, solD b]] ∧ GSum a ∧ GSum b ∧ P = (· = .bl true)
theorem G_is_pair (T : Tx K mg) : FnOk P w K mg base CX0 3 (He.ga K "is_pair") T.d_is_pair.fd ["thing"] (spW K W_is_pair) := by
  refine fn_okD (k := 2) T.d_is_pair.F sc_is_pair ?_ (by decide) (fun cdv A outer s H E hr => ?_)
  · intro bg l P h
    obtain ⟨x, y, rfl, _⟩ := h; rfl
  · refine ⟨_, (xs_one (xs_ret (x_and (x_callB call_isi c1_isi (by rfl) T.t_isinstance bt_isinstance (xa_cons (x_var (pv 0)) (xa_cons (x_bltT (by rfl) T.t_tuple bt_tuple) xa_nil))) (x_and (x_cmp op_eq r2_eq (x_callB call_len c1_len (by rfl) T.t_len bt_len (xa_cons (x_var (pv 0)) xa_nil)) x_int (nomark _)) (x_and (x_call (G_is_sum T) (hr.mono (by decide)) (by rfl) T.d_is_sum.g T.d_is_sum.F.kp T.d_is_sum.b (xa_cons (x_ix ix_seq r2_ix (x_var (pv 0)) x_int (fun _ _ => rfl)) xa_nil)) (x_one (x_call (G_is_sum T) (hr.mono (by decide)) (by rfl) T.d_is_sum.g T.d_is_sum.F.kp T.d_is_sum.b (xa_cons (x_ix ix_seq r2_ix (x_var (pv 0)) x_int (fun _ _ => rfl)) xa_nil)))))))), ?_⟩
    intro bg l P h
    obtain ⟨a, b, rfl, ha, hb, rfl⟩ := h
    simp [and_assoc, tyN, atI, ixN, sEq]
    refine ⟨_, ⟨a, rfl, ha, rfl⟩, ?_⟩
    rintro _ rfl
    refine ⟨rfl, ?_⟩
    refine ⟨_, ⟨b, rfl, hb, rfl⟩, ?_⟩
    rintro _ rfl
    rfl

def W_is_telling : DW := fun _ l P => ∃ t : Tel, l = [telD t] ∧ t.1 ∈ wordsL ∧ GSum t.2.1 ∧ GSum t.2.2 ∧ P = (· = .bl true)
theorem G_is_telling (T : Tx K mg) : FnOk P w K mg base CX0 4 (He.ga K "is_telling") T.d_is_telling.fd ["thing"] (spW K W_is_telling) := by
  refine fn_okD (k := 3) T.d_is_telling.F sc_is_telling ?_ (by decide) (fun cdv A outer s H E hr => ?_)
  · intro bg l P h
    obtain ⟨x, rfl, _⟩ := h; rfl
  · refine ⟨_, (xs_cons (xs_if (PXW.xt (xw_or (xt_not (xt_val (x_callB call_isi c1_isi (by rfl) T.t_isinstance bt_isinstance (xa_cons (x_var (pv 0)) (xa_cons (x_bltT (by rfl) T.t_tuple bt_tuple) xa_nil))))) (xw_or (xt_cmp op_ne r2_ne (x_callB call_len c1_len (by rfl) T.t_len bt_len (xa_cons (x_var (pv 0)) xa_nil)) x_int (nomark _)) (xw_or1 (xt_not (xt_val (x_callB call_isi c1_isi (by rfl) T.t_isinstance bt_isinstance (xa_cons (x_ix ix_seq r2_ix (x_var (pv 0)) x_int (fun _ _ => rfl)) (xa_cons (x_bltT (by rfl) T.t_str bt_str) xa_nil))))))))) (xs_one (xs_ret x_bl)) xs_nil)
    (xs_one (xs_ret (x_and (x_inW (pe_glob (v := .ref (He.ga K "WORDS")) (by rfl) T.g_WORDS rfl) T.w_WORDS (x_ix ix_seq r2_ix (x_var (pv 0)) x_int (fun _ _ => rfl))) (x_one (x_call (G_is_pair T) (hr.mono (by decide)) (by rfl) T.d_is_pair.g T.d_is_pair.F.kp T.d_is_pair.b (xa_cons (x_slice sl_tupA s3_T (x_var (pv 0)) (xo_some x_int) xo_none) xa_nil))))))), ?_⟩
    intro bg l P h
    obtain ⟨t, rfl, hw, ha, hb, rfl⟩ := h
    simp [and_assoc, tyN, atI, ixN, telD, hw, sEq, cut_from1]
    refine ⟨_, ⟨t.2.1, t.2.2, rfl, ha, hb, rfl⟩, ?_⟩
    rintro _ rfl
    rfl

def W_is_telling_of : DW := fun _ l P => ∃ (x : D) (ts : List Str) (t : Tel), l = [x, telD t] ∧ IsT x (ts.map .str) ∧ GTel ts t ∧ P = (· = .bl true)
theorem G_is_telling_of (T : Tx K mg) : FnOk P w K mg base CX0 5 (He.ga K "is_telling_of") T.d_is_telling_of.fd ["things", "thing"] (spW K W_is_telling_of) := by
  refine fn_okD (k := 4) T.d_is_telling_of.F sc_is_telling_of ?_ (by decide) (fun cdv A outer s H E hr => ?_)
  · intro bg l P h
    obtain ⟨x, y, z, rfl, _⟩ := h; rfl
  · refine ⟨_, (xs_one (xs_ret (x_and (x_call (G_is_telling T) (hr.mono (by decide)) (by rfl) T.d_is_telling.g T.d_is_telling.F.kp T.d_is_telling.b (xa_cons (x_var (pv 1)) xa_nil)) (x_one (x_callB (cr_all rfl) c1_all (by rfl) T.t_all bt_all (xa_cons (x_lc (own := [("name", 2)]) (gs := [2]) rfl sc_is_telling_of.nd (xi_list (x_lst (xa_star (x_ix ix_seq r2_ix (x_var (pv 1)) x_int (fun _ _ => rfl)) (xa_star (x_ix ix_seq r2_ix (x_var (pv 1)) x_int (fun _ _ => rfl)) xa_nil)))) (blkOk_by (by kernel_rfl)) (fun _ _ _ _ _ => (xg_name (pg_name (i := 2) sc_is_telling_of.nd rfl (.inl rfl)))) (fun _ _ _ _ _ => xts_nil) (fun _ _ _ _ _ => (x_cmp op_in_seq r2_in (x_var (pv 2)) (x_var (pv 0)) (by rfl)))) xa_nil)))))), ?_⟩
    intro bg l P h
    obtain ⟨x, ts, t, rfl, hx, hg, rfl⟩ := h
    simp [and_assoc]
    refine ⟨_, ⟨t, rfl, hg.wd, hg.l, hg.r, rfl⟩, ?_⟩
    rintro _ rfl
    refine ⟨rfl, ?_⟩
    simp [telD, atI, ixN, solD, and_assoc]
    refine ⟨Nat.le_trans (show _ ≤ 6 by have := hg.l.few; have := hg.r.few; omega) (by decide), ?_⟩
    rw [← List.map_append]
    refine lcW_map D.str D.bl (fun _ => true) (t.2.1 ++ t.2.2) [] _ (fun s hs Y N y => ?_) ?_
    · have hm : s ∈ ts := by
        rcases List.mem_append.mp hs with h | h
        · exact hg.il s h
        · exact hg.ir s h
      simp [and_assoc]
      rcases hx with rfl | rfl
      · simp [str_inj]
        simpa [hm] using y
      · simp [str_inj]
        simpa [hm] using y
    · exact ⟨(t.2.1 ++ t.2.2).map fun _ => true, rfl, by simp⟩

def W_are_tellings_of : DW := fun _ l P => ∃ (x : D) (ts : List Str) (tl : List Tel), l = [x, .lst (tl.map telD)] ∧ IsT x (ts.map .str) ∧ (∀ t ∈ tl, GTel ts t) ∧ P = (· = .bl true)
theorem G_are_tellings_of (T : Tx K mg) : FnOk P w K mg base CX0 6 (He.ga K "are_tellings_of") T.d_are_tellings_of.fd ["things", "thing"] (spW K W_are_tellings_of) := by
  refine fn_okD (k := 5) T.d_are_tellings_of.F sc_are_tellings_of ?_ (by decide) (fun cdv A outer s H E hr => ?_)
  · intro bg l P h
    obtain ⟨x, y, z, rfl, _⟩ := h; rfl
  · refine ⟨_, (xs_one (xs_ret (x_and (x_callB call_isiT c1_isi2 (by rfl) T.t_isinstance bt_isinstance (xa_cons (x_var (pv 1)) (xa_cons (x_tup (xa_cons (x_bltT (by rfl) T.t_list bt_list) (xa_cons (x_bltT (by rfl) T.t_tuple bt_tuple) xa_nil))) xa_nil))) (x_one (x_callB (cr_all rfl) c1_all (by rfl) T.t_all bt_all (xa_cons (x_lc (own := [("telling", 2)]) (gs := [2]) rfl sc_are_tellings_of.nd (xi_list (x_var (pv 1))) (blkOk_by (by kernel_rfl)) (fun _ _ _ _ _ => (xg_name (pg_name (i := 2) sc_are_tellings_of.nd rfl (.inl rfl)))) (fun _ _ _ _ _ => xts_nil) (fun _ _ _ _ _ => (x_call (G_is_telling_of T) (hr.mono (by decide)) (by rfl) T.d_is_telling_of.g T.d_is_telling_of.F.kp T.d_is_telling_of.b (xa_cons (x_var (pv 0)) (xa_cons (x_var (pv 2)) xa_nil))))) xa_nil)))))), ?_⟩
    intro bg l P h
    obtain ⟨x, ts, tl, rfl, hx, hg, rfl⟩ := h
    simp [and_assoc, tyN]
    refine ⟨by decide, ?_⟩
    refine lcW_map telD D.bl (fun _ => true) tl [] _ (fun t ht Y N y => ?_) ?_
    · simp [and_assoc]
      refine ⟨_, ⟨x, ts, t, rfl, hx, hg t ht, rfl⟩, ?_⟩
      rintro _ rfl
      exact y
    · exact ⟨tl.map fun _ => true, rfl, by simp⟩
end
end K8
set_option Elab.async false
set_option linter.all false
set_option maxRecDepth 100000
set_option maxHeartbeats 4000000
namespace K8
open PySem PySem.Spec PyProof.Rows L2
section
variable {P : Program} {w : World} {K : PySem.W.Frag} {mg : Str → Option Value} {base : Heap}

def toldD (K : PySem.W.Frag) (ts : List Str) (tl : List Tel) : D := .ins (He.ga K "Told") ["its_things", "its_tellings"] [solD ts, .lst (tl.map telD)]
theorem look1 (a b : D) : lookD ["its_things", "its_tellings"] [a, b] "its_things" = Option.some a := by
  unfold lookD
  rw [List.zip_cons_cons, List.lookup_cons, beq_self_eq_true]
theorem look2 (a b : D) : lookD ["its_things", "its_tellings"] [a, b] "its_tellings" = Option.some b := by
  unfold lookD
  rw [List.zip_cons_cons, List.lookup_cons, show ((("its_tellings" : Str) == ("its_things" : Str)) = false) by decide +kernel, List.zip_cons_cons, List.lookup_cons, beq_self_eq_true]
def rowsOf (ts : List Str) (tl : List Tel) (wd : Str) : List (List Int) := (tl.filter fun t => decide (t.1 = wd)).map fun t => rowOf ts t.2.1 t.2.2
def W_Told_rows (K : PySem.W.Frag) : DW := fun _ l P => ∃ ts tl wd, l = [toldD K ts tl, .str wd] ∧ P = (· = rows (rowsOf ts tl wd))
theorem G_Told_rows (T : Tx K mg) : FnOk P w K mg base CX0 2 (He.ma K (He.ga K "Told") "rows") T.m_rows.fd ["self", "word"] (spW K (W_Told_rows K)) := by
  refine fn_okD (k := 1) T.m_rows.F sc_Told_rows ?_ (by decide) (fun cdv A outer s H E hr => ?_)
  · intro bg l P h
    obtain ⟨x, y, z, rfl, _⟩ := h; rfl
  · refine ⟨_, (xs_one (xs_ret (x_lc (own := [("telling", 2)]) (gs := [2]) rfl sc_Told_rows.nd (xi_list (x_fld T.cls T.na2 (x_var (pv 0)))) (blkOk_by (by kernel_rfl)) (fun _ _ _ _ _ => (xg_name (pg_name (i := 2) sc_Told_rows.nd rfl (.inl rfl)))) (fun _ _ _ _ _ => (xts_one (xt_cmp op_eq r2_eq (x_ix ix_seq r2_ix (x_var (pv 2)) x_int (fun _ _ => rfl)) (x_var (pv 1)) (nomark _)))) (fun _ _ _ _ _ => (x_call (G_row_of T.toTxt) (hr.mono (by decide)) (by rfl) T.d_row_of.g T.d_row_of.F.kp T.d_row_of.b (xa_cons (x_fld T.cls T.na1 (x_var (pv 0))) (xa_cons (x_slice sl_tupA s3_T (x_var (pv 2)) (xo_some x_int) xo_none) xa_nil))))))), ?_⟩
    intro bg l P h
    obtain ⟨ts, tl, wd, rfl, rfl⟩ := h
    simp [toldD, look1, look2, and_assoc]
    refine lcW_fil telD row (fun t => decide (t.1 = wd)) (fun t => rowOf ts t.2.1 t.2.2) tl [] _ (fun t ht Y N y n => ?_) ?_
    · by_cases e : t.1 = wd
      · simp [telD, atI, ixN, sEq, e, and_assoc, cut_from1, toldD, look1, look2]
        refine ⟨_, ⟨solD ts, ts, t.2.1, t.2.2, rfl, .inr rfl, rfl⟩, ?_⟩
        rintro _ rfl
        exact y (by simp [e])
      · simp [telD, atI, ixN, sEq, e, and_assoc]
        exact n (by simp [e])
    · rfl

def W_Told_tellings (K : PySem.W.Frag) : DW := fun _ l P => ∃ ts tl, l = [toldD K ts tl] ∧ P = (· = .lst (tl.map telD))
theorem G_Told_tellings (T : Tx K mg) : FnOk P w K mg base CX0 1 (He.ma K (He.ga K "Told") "tellings") T.m_tellings.fd ["self"] (spW K (W_Told_tellings K)) := by
  refine fn_okD (k := 0) T.m_tellings.F sc_Told_tellings ?_ (by decide) (fun cdv A outer s H E hr => ?_)
  · intro bg l P h
    obtain ⟨x, y, rfl, _⟩ := h; rfl
  · refine ⟨_, (xs_one (xs_ret (x_callTy call_list_of c1_list (by rfl) T.t_list bt_list (xa_cons (x_fld T.cls T.na2 (x_var (pv 0))) xa_nil)))), ?_⟩
    intro bg l P h
    obtain ⟨ts, tl, rfl, rfl⟩ := h
    simp [toldD, look1, look2, and_assoc]
end
end K8
set_option Elab.async false
set_option linter.all false
set_option maxRecDepth 100000
set_option maxHeartbeats 4000000
namespace K8
open PySem PySem.Spec PyProof.Rows L2
section
variable {P : Program} {w : World} {K : PySem.W.Frag} {mg : Str → Option Value} {base : Heap}

def W_init (d1 : D) (l2 : List D) : Prop := ∃ (ts : List Str) (tl : List Tel), d1 = solD ts ∧ l2 = tl.map telD ∧ GThings ts ∧ ∀ t ∈ tl, GTel ts t
theorem G_Told_init (T : Tx K mg) : FnOk P w K mg base CX0 7 (He.ma K (He.ga K "Told") "__init__") T.m_init.fd ["self", "things", "tellings"] (spInit K (He.ga K "Told") ["its_things", "its_tellings"] W_init) := by
  refine FunD.ok (k := 6) T.m_init.F sc_Told_init (fun vs H Q E ⟨x, dx, v1, v2, _, _, _, _, e, _⟩ => by rw [e]; rfl) (fun cdv A outer s H vs Q E hr h => ?_)
  obtain ⟨x, dx, v1, v2, K0, d1, d2, l2, rfl, hx, kh, kx, r1, r2, h2, ⟨ts, tl, rfl, rfl, gts, gtl⟩, q⟩ := h
  refine ⟨_, pss_cons ((xs_if (xt_not (xt_val (x_call (G_are_things T) (hr.mono (by decide)) (by rfl) T.d_are_things.g T.d_are_things.F.kp T.d_are_things.b (xa_cons (x_var (pv 1)) xa_nil)))) (xs_one xs_never) xs_nil)).ps (pss_cons ((xs_if (xt_not (xt_val (x_call (G_are_tellings_of T) (hr.mono (by decide)) (by rfl) T.d_are_tellings_of.g T.d_are_tellings_of.F.kp T.d_are_tellings_of.b (xa_cons (x_var (pv 1)) (xa_cons (x_var (pv 2)) xa_nil))))) (xs_one xs_never) xs_nil)).ps (pss_cons (ps_fld (pv 0) (pv 1) rfl) (pss_one (ps_fld (pv 0) (pe_callTy call_list_of (by rfl) T.t_list bt_list (pa_cons (pv 2) pa_nil)) rfl)))), ?_⟩
  subst h2
  have s0 : SE K ⟨H, K0, none, 0⟩ K0 (L2.start ["self", "things", "tellings"] [.ref x, v1, v2]) H (startD ["self", "things", "tellings"] [.ref x, solD ts, .lst (tl.map telD)]) :=
    start_SE kh (fun b z => nomatch z) (.cons _ _ _ _ (.ref x) (.cons _ _ _ _ r1 (.cons _ _ _ _ r2 .nil))) (by simp)
  refine ⟨_, K0, _, s0, ?_⟩
  simp [solD]
  refine ⟨_, ⟨ts, rfl, gts, rfl⟩, ?_⟩
  rintro _ rfl
  refine ⟨rfl, ?_⟩
  intro σ1 K1 H1 S1
  refine ⟨_, K1, _, S1, ?_⟩
  simp
  refine ⟨_, ⟨.sol (ts.map D.str), ts, tl, rfl, .inr rfl, gtl, rfl⟩, ?_⟩
  rintro _ rfl
  refine ⟨rfl, ?_⟩
  intro σ2 K2 H2 S2
  obtain ⟨w0, e0, q0⟩ := S2.env 0 _ rfl
  obtain ⟨w1, e1, q1⟩ := S2.env 1 _ rfl
  obtain ⟨w2, e2, q2⟩ := S2.env 2 _ rfl
  cases q0
  have hx2 : H2 x = some (.ins (He.ga K "Told") dx []) := S2.le x _ (fun z => nomatch z) hx
  refine ⟨w1, e1, .ref x, e0, x, He.ga K "Told", dx, [], rfl, hx2, T.cls, T.na1, by decide, ?_⟩
  have kx2 : K2 x = none := (S2.fr x (by show Pin (H x); rw [hx]; trivial)).trans kx
  obtain ⟨a2, ws, rfl, hw, rw', zw⟩ := q2.seqL S2.kh
  refine ⟨_, e2, ?_⟩
  have ax : a2 ≠ x := fun z => by rw [z, hx2] at hw; cases hw
  refine ⟨a2, rfl, ws, .inl (.inl (.inl ((upd_ne ax).trans hw))), fun l hl => ?_⟩
  have lx : l ≠ x := fun z => by rw [z, upd_same] at hl; cases hl
  have hl2 : H2 l = none := by rw [upd_ne lx] at hl; exact hl
  have kl : K2 l = none := by
    cases q : K2 l with
    | none => rfl
    | some u => rw [S2.kh l u q] at hl2; cases hl2
  refine ⟨.ref x, e0, x, He.ga K "Told", dx, putF "its_things" w1 [], rfl, (upd_ne (Ne.symm lx)).trans upd_same, T.cls, T.na2, by simp [putF], ?_⟩
  have H0l : H l = none := S2.nodom hl2
  refine q (upd (upd K2 l (.lst ws)) x (.ins (He.ga K "Told") dx (putF "its_tellings" (.ref l) (putF "its_things" w1 [])))) _ (fun a o na ha => ?_) (fun a o ha => ?_) (fun a na ha => ?_) (fun a o ha => ?_) ?_
  · have nl : a ≠ l := fun z => by rw [z, H0l] at ha; cases ha
    rw [upd_ne na, upd_ne nl, upd_ne na]
    exact S2.le a o (fun z => nomatch z) ha
  · have k2 := S2.kk a o ha
    have na : a ≠ x := fun z => by rw [z, kx2] at k2; cases k2
    have nl : a ≠ l := fun z => by rw [z, kl] at k2; cases k2
    rw [upd_ne na, upd_ne nl]
    exact k2
  · have nl : a ≠ l := fun z => by rw [z, H0l] at ha; exact ha
    rw [upd_ne na, upd_ne nl]
    exact S2.fr a ha
  · by_cases na : a = x
    · subst na
      rw [upd_same] at ha ⊢
      exact ha
    · rw [upd_ne na] at ha ⊢
      by_cases nl : a = l
      · subst nl
        rw [upd_same] at ha ⊢
        exact ha
      · rw [upd_ne nl] at ha ⊢
        rw [upd_ne na]
        exact S2.kh a o ha
  · have up2 : Evl.Ex K2 (upd (upd K2 l (.lst ws)) x (.ins (He.ga K "Told") dx (putF "its_tellings" (.ref l) (putF "its_things" w1 [])))) := fun a o ha => by
      have na : a ≠ x := fun z => by rw [z, kx2] at ha; cases ha
      have nl : a ≠ l := fun z => by rw [z, kl] at ha; cases ha
      rw [upd_ne na, upd_ne nl]
      exact ha
    refine .ins x _ dx [w1, .ref l] ["its_things", "its_tellings"] [solD ts, .lst (tl.map telD)] rfl ?_ (.cons _ _ _ _ (q1.mono up2) (.cons _ _ _ _ (.lst l ws _ zw ((upd_ne lx).trans upd_same) (rw'.mono up2)) .nil))
    rw [upd_same]
    congr 1
end
end K8
set_option Elab.async false
set_option linter.all false
set_option maxRecDepth 100000
set_option maxHeartbeats 4000000
namespace K8
open PySem PySem.Spec PyProof.Rows L2
section
variable {P : Program} {w : World} {K : PySem.W.Frag} {mg : Str → Option Value} {base : Heap}
def W_Told_with_telling (K : PySem.W.Frag) : DW := fun _ l P => ∃ ts tl t, l = [toldD K ts tl, telD t] ∧ GThings ts ∧ (∀ u ∈ tl, GTel ts u) ∧ tl.length ≤ 1000 ∧ GTel ts t ∧ P = (· = toldD K ts (tl ++ [t]))
theorem G_Told_with_telling (T : Tx K mg) : FnOk P w K mg base CX0 9 (He.ma K (He.ga K "Told") "with_telling") T.m_with_telling.fd ["self", "telling"] (spW K (W_Told_with_telling K)) := by
  refine fn_okD (k := 8) T.m_with_telling.F sc_Told_with_telling ?_ (by decide) (fun cdv A outer s H E hr => ?_)
  · intro bg l P h
    obtain ⟨x, y, z, rfl, _⟩ := h; rfl
  · refine ⟨_, (xs_cons (xs_if (xt_not (xt_val (x_call (G_is_telling_of T) (hr.mono (by decide)) (by rfl) T.d_is_telling_of.g T.d_is_telling_of.F.kp T.d_is_telling_of.b (xa_cons (x_fld T.cls T.na1 (x_var (pv 0))) (xa_cons (x_var (pv 1)) xa_nil))))) (xs_one xs_never) xs_nil)
    (xs_one (xs_ret (x_make T.h_init (G_Told_init T) (hr.mono (by decide)) (by rfl) T.g_Told T.m_init.b (xa_cons (x_fld T.cls T.na1 (x_var (pv 0))) (xa_cons (x_lst (xa_star (x_fld T.cls T.na2 (x_var (pv 0))) (xa_cons (x_var (pv 1)) xa_nil))) xa_nil)))))), ?_⟩
    intro bg l P h
    obtain ⟨ts, tl, t, rfl, hts, htl, hlen, ht, rfl⟩ := h
    simp [toldD, look1, look2, and_assoc]
    refine ⟨_, ⟨solD ts, ts, t, rfl, .inr rfl, ht, rfl⟩, ?_⟩
    rintro _ rfl
    refine ⟨rfl, Nat.le_trans (show _ ≤ 1001 by omega) (by decide), ?_⟩
    refine ⟨ts, tl ++ [t], rfl, by rw [List.map_append]; rfl, hts, fun u hu => ?_⟩
    rcases List.mem_append.mp hu with h | h
    · exact htl u h
    · rw [List.mem_singleton.mp h]; exact ht


structure PaIn (g : List (List Int)) (n e : Nat) : Prop where
  gl : ∀ r ∈ g, r.length = n
  be : ∀ r ∈ g, ∀ i, (vf r i).natAbs < 2 ^ e
  co : cOk n g.length
  eo : eOk n e
  gn : g.length ≤ 30
  n6 : n ≤ 6
  fb : fB n e ≤ 300000
def PaOut (g : List (List Int)) (n e : Nat) (d : D) : Prop :=
  (d = .non ∧ ∃ lam, Cone g 0 lam ∧ ∃ i, lam i ≠ 0) ∨ ∃ y : List Int, d = row y ∧ y.length = n ∧ (∀ r ∈ g, 0 < dotn n (vf r) (vf y)) ∧ ∀ i, (vf y i).natAbs < 2 ^ fB n e
def W_point_above : DW := fun _ l P => ∃ (g : List (List Int)) (n e : Nat), l = [rows g, .int (n : Int)] ∧ PaIn g n e ∧ P = PaOut g n e
theorem G_point_above (T : Txt K mg) : FnOk P w K mg base CX0 12 (He.ga K "point_above") T.d_point_above.fd ["rows", "many"] (spW K W_point_above) := by
  refine fn_okD (k := 11) T.d_point_above.F sc_point_above ?_ (by decide) (fun cdv A outer s H E hr => ?_)
  · intro bg l P h
    obtain ⟨x, y, z, rfl, _⟩ := h; rfl
  · refine ⟨_, (xs_one (xs_ret (x_call (G_point_by T 7) (hr.mono (by decide)) (by rfl) T.d_point_by.g T.d_point_by.F.kp T.d_point_by.b (xa_cons (x_lc (own := [("at", 2), ("row", 3)]) (gs := [2, 3]) rfl sc_point_above.nd (xi_enum (by rfl) T.t_enumerate (xa_cons (x_var (pv 0)) xa_nil)) (blkOk_by (by kernel_rfl)) (fun _ _ _ _ _ => (xg_two rfl (xg_name (pg_name (i := 2) sc_point_above.nd rfl (.inl rfl))) (xg_name (pg_name (i := 3) sc_point_above.nd rfl (.inl rfl))))) (fun _ _ _ _ _ => xts_nil) (fun _ _ _ _ _ => (x_tup (xa_cons (x_var (pv 3)) (xa_cons (x_tup (xa_cons (x_var (pv 2)) xa_nil)) xa_nil))))) (xa_cons (x_var (pv 1)) xa_nil))))), ?_⟩
    intro bg l P h
    obtain ⟨g, n, e, rfl, hin, hP⟩ := h
    simp [rows, and_assoc]
    rw [show enumD (g.map row) = g.zipIdx.map (fun p : List Int × Nat => D.tup [.int ((p.2 : Nat) : Int), row p.1]) by unfold enumD; rw [List.zipIdx_map, List.map_map]; rfl]
    refine lcW_map (fun p : List Int × Nat => D.tup [.int ((p.2 : Nat) : Int), row p.1]) pr (fun p => (p.1, [(p.2 : Int)])) _ [] _ (fun p hp Y N' y => ?_) ?_
    · simp [and_assoc]
      exact ⟨by decide, by decide, y⟩
    · simp only [List.nil_append]
      have e0 : (g.zipIdx.map fun p => (p.1, [((p.2 : Nat) : Int)])) = mk0 g := rfl
      rw [e0]
      have l0 : (mk0 g).length = g.length := by unfold mk0; simp
      have mem0 : ∀ p ∈ mk0 g, p.1 ∈ g ∧ ∃ i : Nat, p.2 = [(i : Int)] := fun p hp => by
        obtain ⟨⟨r, i⟩, hr, rfl⟩ := List.mem_map.mp hp
        exact ⟨List.fst_mem_of_mem_zipIdx hr, i, rfl⟩
      refine ⟨_, ⟨g, n, g.length, e, mk0 g, rfl, hin.n6, ⟨MI.start hin.gl, Nat.le_of_eq l0, hin.co, fun p hp => hin.be _ (mem0 p hp).1, hin.eo, fun p hp => ?_, hin.gn, by have := hin.n6; omega, hin.fb, by have := hin.gn; omega⟩, rfl⟩, ?_⟩
      · obtain ⟨h1, i, h2⟩ := mem0 p hp
        rw [h2]
        exact List.length_pos_of_mem h1
      · rintro d (h | ⟨y, rfl, yl, hy, yb⟩)
        · rw [hP]; exact .inl h
        · rw [hP]
          refine .inr ⟨y, rfl, yl, fun r hr => ?_, yb⟩
          obtain ⟨i, hi, ei⟩ := List.mem_iff_getElem.mp hr
          exact hy (r, [(i : Int)]) (List.mem_map.mpr ⟨(r, i), List.mem_iff_getElem?.mpr ⟨i, by rw [List.getElem?_zipIdx, List.getElem?_eq_getElem hi, ei]; simp⟩, rfl⟩)
end
end K8
set_option linter.all false
namespace K8
/-! what fits: rows that give 0, more than 0, not 0; the frame's coordinates -/
def Fit (n : Nat) (A G U : List (List Int)) (x : Vec) : Prop := (∀ r ∈ A, dotn n (vf r) x = 0) ∧ (∀ r ∈ G, 0 < dotn n (vf r) x) ∧ ∀ r ∈ U, dotn n (vf r) x ≠ 0
def mixF (f : List Int) (rs : List (List Int)) (ns : List Int) : List Int := (rs.zip ns).foldl (fun f p => List.zipWith (fun x y => x + y) f (p.1.map (p.2 * ·))) f
theorem vf_add {a b : List Int} {n : Nat} (ha : a.length = n) (hb : b.length = n) (k : Int) : vf (List.zipWith (fun x y => x + y) a (b.map (k * ·))) = fun i => k * vf b i + vf a i := by
  funext i
  unfold vf
  by_cases h : i < n
  · have h1 : i < a.length := by omega
    have h2 : i < b.length := by omega
    simp [List.getD_eq_getElem?_getD, List.getElem?_zipWith, List.getElem?_eq_getElem h1, List.getElem?_eq_getElem h2]
    omega
  · have h1 : a.length ≤ i := by omega
    have h2 : b.length ≤ i := by omega
    simp [List.getD_eq_getElem?_getD, List.getElem?_zipWith, List.getElem?_eq_none h1, List.getElem?_eq_none h2]
theorem mixF_ok {n : Nat} : ∀ {rs : List (List Int)} {ns f : List Int}, f.length = n → (∀ r ∈ rs, r.length = n) → rs.length = ns.length →
    (mixF f rs ns).length = n ∧ ∀ u, dotn n u (vf (mixF f rs ns)) = dotn n u (vf f) + dotp (rs.map fun r => dotn n u (vf r)) ns
  | [], [], f, hf, _, _ => ⟨hf, fun u => by show dotn n u (vf f) = _ + 0; omega⟩
  | [], k :: ns, f, hf, _, h => by simp at h
  | r :: rs, [], f, hf, _, h => by simp at h
  | r :: rs, k :: ns, f, hf, hr, h => by
    have lr : r.length = n := hr r (List.mem_cons_self ..)
    have ih := mixF_ok (n := n) (rs := rs) (ns := ns) (f := List.zipWith (fun x y => x + y) f (r.map (k * ·))) (by simp [hf, lr]) (fun u hu => hr u (List.mem_cons_of_mem _ hu)) (by simpa using h)
    refine ⟨ih.1, fun u => ?_⟩
    show dotn n u (vf (mixF (List.zipWith (fun x y => x + y) f (r.map (k * ·))) rs ns)) = _
    rw [ih.2 u, vf_add hf lr, dotn_linr]
    show _ = dotn n u (vf f) + (List.zipWith (· * ·) (dotn n u (vf r) :: rs.map fun r => dotn n u (vf r)) (k :: ns)).sum
    rw [List.zipWith_cons_cons, List.sum_cons, Int.mul_comm k]
    have e : (List.zipWith (· * ·) (rs.map fun r => dotn n u (vf r)) ns).sum = dotp (rs.map fun r => dotn n u (vf r)) ns := rfl
    rw [e]
    omega
theorem vf_rep (n i : Nat) : vf (List.replicate n 0) i = 0 := by
  unfold vf
  by_cases h : i < n
  · simp [List.getD_eq_getElem?_getD, h]
  · simp [List.getD_eq_getElem?_getD, h]
theorem mix_ok {n : Nat} {rs : List (List Int)} {ns : List Int} (hr : ∀ r ∈ rs, r.length = n) (h : rs.length = ns.length) :
    (mixF (List.replicate n 0) rs ns).length = n ∧ ∀ u, dotn n u (vf (mixF (List.replicate n 0) rs ns)) = dotp (rs.map fun r => dotn n u (vf r)) ns := by
  obtain ⟨h1, h2⟩ := mixF_ok (f := List.replicate n 0) (by simp) hr h
  refine ⟨h1, fun u => ?_⟩
  rw [h2 u, dotn_comm, dotn_congr (v := u) (v' := u) (fun i _ => vf_rep n i) (fun _ _ => rfl), dotn_zero]
  omega
theorem sp_coord {n : Nat} : ∀ {L : List (List Int)} {x : Vec}, Sp (L.map vf) x → ∃ ns : List Int, ns.length = L.length ∧ ∀ u, dotn n u x = dotp (L.map fun r => dotn n u (vf r)) ns
  | [], x, h => ⟨[], rfl, fun u => by
      have h' : x = fun _ => 0 := h
      rw [h', dotn_comm, dotn_zero]; rfl⟩
  | f :: L, x, ⟨c, w, h, e⟩ => by
    obtain ⟨ns, h1, h2⟩ := sp_coord (n := n) h
    refine ⟨c :: ns, by simp [h1], fun u => ?_⟩
    rw [e, dotn_linr, h2 u, Int.mul_comm]
    show _ = (List.zipWith (· * ·) (dotn n u (vf f) :: L.map fun r => dotn n u (vf r)) (c :: ns)).sum
    rw [List.zipWith_cons_cons, List.sum_cons]
    rfl
theorem dot_swap (m : Nat) (lam c : Vec) (g : Nat → Vec) : ∀ N, dotn N lam (fun i => dotn m (g i) c) = dotn m (fun j => dotn N lam (fun i => g i j)) c
  | 0 => by
    show (0 : Int) = dotn m (fun j => 0) c
    rw [dotn_zero]
  | N + 1 => by
    have e : (fun j => dotn (N + 1) lam (fun i => g i j)) = fun j => lam N * g N j + (fun j => dotn N lam (fun i => g i j)) j := by
      funext j
      show dotn N lam (fun i => g i j) + lam N * g N j = lam N * g N j + dotn N lam (fun i => g i j)
      omega
    rw [e, dotn_lin, ← dot_swap m lam c g N]
    show dotn N lam _ + lam N * dotn m (g N) c = _
    omega
theorem dot_pos {lam h : Vec} (hl : ∀ i, 0 ≤ lam i) : ∀ {N : Nat}, (∀ i, i < N → 0 < h i) → 0 ≤ dotn N lam h ∧ ((∃ i, i < N ∧ lam i ≠ 0) → 0 < dotn N lam h)
  | 0, _ => ⟨Int.le_refl _, fun ⟨i, hi, _⟩ => absurd hi (Nat.not_lt_zero i)⟩
  | N + 1, hp => by
    obtain ⟨a, b⟩ := dot_pos (lam := lam) (h := h) hl (N := N) fun i hi => hp i (by omega)
    have c := hp N (by omega)
    have d : 0 ≤ lam N * h N := Int.mul_nonneg (hl N) (by omega)
    refine ⟨by show 0 ≤ dotn N lam h + lam N * h N; omega, fun ⟨i, hi, ne⟩ => ?_⟩
    show 0 < dotn N lam h + lam N * h N
    by_cases e : lam N = 0
    · have : i < N := by
        rcases Nat.lt_or_ge i N with q | q
        · exact q
        · have : i = N := by omega
          subst this; exact absurd e ne
      have := b ⟨i, this, ne⟩
      omega
    · have : 0 < lam N := by have := hl N; omega
      have := Int.mul_pos this c
      omega
theorem dot_cutR (n : Nat) (u x : Vec) : dotn n u (cutW n x) = dotn n u x := dotn_congr (fun _ _ => rfl) fun i hi => by unfold cutW; rw [if_pos hi]
section
variable {n b : Nat} {A fr : List (List Int)}
/-- what is 0 with A has coordinates by the frame -/
theorem Frm.coord (F : Frm n b A fr) {x : Vec} (h : ∀ r ∈ A, dotn n (vf r) x = 0) : ∃ ns : List Int, ns.length = fr.length ∧ ∀ u, dotn n u x = dotp (fr.map fun r => dotn n u (vf r)) ns := by
  obtain ⟨ns, h1, h2⟩ := sp_coord (n := n) (F.full (cutW n x) (fun r hr => by rw [dot_cutR]; exact h r hr) fun i hi => by unfold cutW; rw [if_neg (by omega)])
  exact ⟨ns, h1, fun u => by rw [← dot_cutR, h2 u]⟩
theorem seen_eq {r : List Int} (hr : r.length = n) (hf : ∀ f ∈ fr, f.length = n) : fr.map (dotp r ·) = fr.map fun f => dotn n (vf r) (vf f) := List.map_congr_left fun f h => dotp_eq hr (hf f h)
theorem sum0 : ∀ (l ns : List Int), (∀ p ∈ l, p = 0) → dotp l ns = 0
  | [], ns, _ => by cases ns <;> rfl
  | p :: l, [], _ => rfl
  | p :: l, k :: ns, z => by
    have e : dotp (p :: l) (k :: ns) = p * k + dotp l ns := List.sum_cons
    rw [e, sum0 l ns fun q hq => z q (List.mem_cons_of_mem _ hq), z p (List.mem_cons_self ..)]
    omega
/-- a bar that is 0 on the frame -/
theorem Frm.bar0 (F : Frm n b A fr) {u : List Int} (hu : u.length = n) (z : ∀ p ∈ fr.map (dotp u ·), p = 0) {x : Vec} (h : ∀ r ∈ A, dotn n (vf r) x = 0) : dotn n (vf u) x = 0 := by
  obtain ⟨ns, h1, h2⟩ := F.coord h
  rw [h2, ← seen_eq hu F.len]
  exact sum0 _ _ z
/-- no point of the goals, no point that fits -/
theorem Frm.cone0 (F : Frm n b A fr) {G : List (List Int)} (hG : ∀ r ∈ G, r.length = n) {lam : Vec} (C : Cone (G.map fun r => fr.map (dotp r ·)) 0 lam) (ne : ∃ i, lam i ≠ 0) {x : Vec} (h : ∀ r ∈ A, dotn n (vf r) x = 0) (hp : ∀ r ∈ G, 0 < dotn n (vf r) x) : False := by
  obtain ⟨ns, h1, h2⟩ := F.coord h
  have gl : (G.map fun r => fr.map (dotp r ·)).length = G.length := by simp
  have each : ∀ i (hi : i < G.length), dotn fr.length (vf ((G.map fun r => fr.map (dotp r ·)).getD i [])) (vf ns) = dotn n (vf G[i]) x := fun i hi => by
    have e : (G.map fun r => fr.map (dotp r ·)).getD i [] = fr.map (dotp G[i] ·) := by simp [List.getD_eq_getElem?_getD, List.getElem?_eq_getElem hi]
    rw [e, ← dotp_eq (by simp) h1, seen_eq (hG _ (List.getElem_mem hi)) F.len, ← h2]
  have p := (dot_pos (lam := lam) (h := fun i => dotn fr.length (vf ((G.map fun r => fr.map (dotp r ·)).getD i [])) (vf ns)) C.nn (N := G.length) fun i hi => by
    rw [each i hi]; exact hp _ (List.getElem_mem hi)).2 (by
      obtain ⟨i, hi⟩ := ne
      refine ⟨i, ?_, hi⟩
      rcases Nat.lt_or_ge i G.length with q | q
      · exact q
      · exact absurd (C.sp i (by rw [gl]; exact q)) hi)
  rw [dot_swap, dotn_congr (u' := fun _ => 0) (v' := vf ns) (fun j _ => by have := C.z j (Nat.zero_le _); unfold FF at this; rw [gl] at this; exact this) (fun _ _ => rfl), dotn_zero] at p
  omega
end
end K8
namespace K8
theorem Frm.fits {n b : Nat} {A fr : List (List Int)} (F : Frm n b A fr) (hA : ∀ r ∈ A, r.length = n) {G U : List (List Int)} (hG : ∀ r ∈ G, r.length = n) (hU : ∀ r ∈ U, r.length = n) {y : List Int} (hy : y.length = fr.length)
    (pg : ∀ g ∈ G.map fun r => fr.map (dotp r ·), 0 < dotn fr.length (vf g) (vf y)) (pu : ∀ u ∈ U.map fun r => fr.map (dotp r ·), dotn fr.length (vf u) (vf y) ≠ 0) :
    (mixF (List.replicate n 0) fr y).length = n ∧ Fit n A G U (vf (mixF (List.replicate n 0) fr y)) := by
  obtain ⟨h1, h2⟩ := mix_ok F.len hy.symm
  have e : ∀ r : List Int, r.length = n → dotn n (vf r) (vf (mixF (List.replicate n 0) fr y)) = dotn fr.length (vf (fr.map (dotp r ·))) (vf y) := fun r hr => by
    rw [h2, ← seen_eq hr F.len, dotp_eq (by simp) hy]
  refine ⟨h1, fun r hr => ?_, fun r hr => ?_, fun r hr => ?_⟩
  · rw [h2]
    exact sum0 _ _ fun p hp => by
      obtain ⟨f, hf, rfl⟩ := List.mem_map.mp hp
      exact F.orth f hf r hr
  · rw [e r (hG r hr)]
    exact pg _ (List.mem_map.mpr ⟨r, hr, rfl⟩)
  · rw [e r (hU r hr)]
    exact pu _ (List.mem_map.mpr ⟨r, hr, rfl⟩)
end K8
set_option Elab.async false
set_option linter.all false
set_option maxRecDepth 100000
set_option maxHeartbeats 4000000
/-! dict(zip(a, b)) of two tuples -/
namespace K8
open PySem PySem.Spec PyProof.Rows L2
open Evl (Ex ex_l ex_t ex_rd)
section
variable {prog : Program} {w : World} {A : Around} {E : Value → Shared → Prop} {s : Shared} {z TI TO T i1 i2 l1 l2 : Addr} {f : Bool} {oT : Obj} {k1 k2 : Nat} {xs ys : Array Value}
/-- what a zip of two tuples is, its last pair still about -/
structure ZH (h : Heap) (z TI TO T : Addr) (f : Bool) (i1 i2 l1 l2 : Addr) (k1 k2 : Nat) (xs ys : Array Value) : Prop where
  z : IsZipHeld h z TI TO T f
  ti : IsPair h TI (.ref i1) (.ref i2)
  a : h.IsTupleIter i1 l1 k1
  b : h.IsTupleIter i2 l2 k2
  la : h.IsTuple l1 xs
  lb : h.IsTuple l2 ys
theorem zt_body {R : Fin → Shared → Prop} (D : ZipApart z TI TO i1 i2 l1 l2) (hh : A.handled = none) (S : ZH s.heap z TI TO T f i1 i2 l1 l2 k1 k2 xs ys) (hT : s.heap.get? T = some oT)
    (item : ∀ x y, xs[k1]? = some x → ys[k2]? = some y → ∀ h', ZH h' z TI TO T true i1 i2 l1 l2 (k1 + 1) (k2 + 1) xs ys → IsPair h' s.heap.objs.size x y → (∀ c o, c ≠ z → c ≠ i1 → c ≠ i2 → s.heap.get? c = some o → h'.get? c = some o) → R (.done (.ret (.ref s.heap.objs.size))) { s with heap := h' })
    (stop : (xs[k1]? = none ∨ ys[k2]? = none) → ∀ h' e, (∀ c o, c ≠ z → c ≠ i1 → c ≠ i2 → s.heap.get? c = some o → h'.get? c = some o) → (∃ o, h'.get? e = some o ∧ o.cls = .type "StopIteration") → E (.ref e) { s with heap := h' }) :
    wpAny (model prog w) A (Builtin.«zip.__next__» ⟨[.ref z], []⟩) R E s := by
  obtain ⟨hz, hTI, ha, hb, hla, hlb⟩ := S
  show wpAny _ _ (field (.ref z) 2 >>= _) _ _ _
  refine wpAny_bind (wpAny_field hz rfl (x := .bool false) rfl (show wpAny _ _ (field (.ref z) 3 >>= _) _ _ _ from wpAny_bind (wpAny_field hz rfl (x := .ref TI) rfl (wpAny_bind (wpAny_seqItems hTI rfl ?_)))))
  refine (show wpAny _ _ (Builtin.SmallTypes.ownedTupleIsFree (.ref z) >>= _) _ _ _ from wpAny_bind (wpAny_tupleHeld_zip hz hT fun ha' hz' same1 => ?_))
  simp only [Bool.false_eq_true, if_false]
  refine wpAny_bind ?_
  rw [← Array.forIn_toList]
  simp only [List.forIn_cons, List.forIn_nil]
  refine wpAny_bind (wpAny_bind (wpAny_holding (show wpAny _ _ (Builtin.SmallTypes.nextOf (.ref i1) >>= _) _ _ _ from ?_)))
  have ia := ha.extBut same1.extBut D.i1z
  have ib := hb.extBut same1.extBut D.i2z
  have ta := hla.extBut same1.extBut D.l1z
  have tb := hlb.extBut same1.extBut D.l2z
  generalize ex : xs[k1]? = xo at item stop
  generalize ey : ys[k2]? = yo at item stop
  cases xo with
  | none => exact wpAny_bind (RZ.nextOf_tuple_end (s := { s with heap := ha' }) hh ia ta ex fun h2 e same2 he => stop (.inl rfl) h2 e (fun c o c1 c2 _ q => same2 _ _ c2 (same1.extBut _ _ c1 q)) he)
  | some x =>
    refine wpAny_bind (RZ.nextOf_tuple_item (s := { s with heap := ha' }) ia ta ex fun h2 ia2 same2 => wpAny_pure (wpAny_pure ?_))
    have ib2 := ib.extBut same2.extBut D.i12.symm
    have tb2 := tb.extBut same2.extBut D.l2i1
    refine wpAny_bind (wpAny_bind (wpAny_holding (show wpAny _ _ (Builtin.SmallTypes.nextOf (.ref i2) >>= _) _ _ _ from ?_)))
    cases yo with
    | none => exact wpAny_bind (RZ.nextOf_tuple_end (s := { s with heap := h2 }) hh ib2 tb2 ey fun h3 e same3 he => stop (.inr rfl) h3 e (fun c o c1 c2 c3 q => same3 _ _ c3 (same2.extBut _ _ c2 (same1.extBut _ _ c1 q))) he)
    | some y =>
      refine wpAny_bind (RZ.nextOf_tuple_item (s := { s with heap := h2 }) ib2 tb2 ey fun h3 ib3 same3 => wpAny_pure (wpAny_pure (wpAny_pure ?_)))
      refine (show wpAny _ _ (newTuple [x, y] >>= _) _ _ _ from wpAny_bind (wpAny_newTuple (wpAny_pure ?_)))
      have size3 : h3.objs.size = s.heap.objs.size := same3.1.trans (same2.1.trans same1.1)
      have kept : ∀ c o, c ≠ z → c ≠ i1 → c ≠ i2 → s.heap.get? c = some o → (h3.push { cls := .type "tuple", data := .seq #[x, y] }).get? c = some o := fun c o c1 c2 c3 q => Heap.get?_push_of_some _ (same3.extBut _ _ c3 (same2.extBut _ _ c2 (same1.extBut _ _ c1 q)))
      have up : ∀ {c o}, h3.get? c = some o → (h3.push { cls := .type "tuple", data := .seq #[x, y] }).get? c = some o := fun q => Heap.get?_push_of_some _ q
      have pair : IsPair (h3.push { cls := .type "tuple", data := .seq #[x, y] }) h3.objs.size x y := Heap.get?_push_size _ rfl
      show R (.done (.ret (.ref h3.objs.size))) _
      rw [size3] at pair ⊢
      exact item x y rfl rfl _ ⟨up (same3.extBut _ _ D.i2z.symm (same2.extBut _ _ D.i1z.symm hz')), kept _ _ D.TIz D.TIi1 D.TIi2 hTI, (ia2.extBut same3.extBut D.i12).at fun o q => up q, ib3.at fun o q => up q,
        hla.at fun o q => kept _ o D.l1z D.l1i1 D.l1i2 q, hlb.at fun o q => kept _ o D.l2z D.l2i1 D.l2i2 q⟩ pair kept
end
end K8
set_option Elab.async false
set_option linter.all false
set_option maxRecDepth 100000
set_option maxHeartbeats 4000000
/-! dict(zip(a, b)) of two tuples -/
namespace K8
open PySem PySem.Spec PyProof.Rows L2
open Evl (Ex ex_l ex_t ex_rd)
section
variable {prog : Program} {w : World} {A : Around} {E : Value → Shared → Prop} {s : Shared} {z TI TO T i1 i2 l1 l2 : Addr} {f : Bool} {oT : Obj} {k1 k2 : Nat} {xs ys : Array Value}
theorem zt_next {Q : Option Value → Shared → Prop} (D : ZipApart z TI TO i1 i2 l1 l2) (S : ZH s.heap z TI TO T f i1 i2 l1 l2 k1 k2 xs ys) (hT : s.heap.get? T = some oT) (hh : A.handled = none)
    (item : ∀ x y, xs[k1]? = some x → ys[k2]? = some y → ∀ h', ZH h' z TI TO T true i1 i2 l1 l2 (k1 + 1) (k2 + 1) xs ys → IsPair h' s.heap.objs.size x y → (∀ c o, c ≠ z → c ≠ i1 → c ≠ i2 → s.heap.get? c = some o → h'.get? c = some o) → Q (some (.ref s.heap.objs.size)) { s with heap := h' })
    (stop : (xs[k1]? = none ∨ ys[k2]? = none) → ∀ h', (∀ c o, c ≠ z → c ≠ i1 → c ≠ i2 → s.heap.get? c = some o → h'.get? c = some o) → Q none { s with heap := h' }) :
    wpAny (model prog w) A (pyNext (.ref z)) Q E s := by
  have isZ : s.TypeIs (.ref z) "zip" := ⟨_, S.z, rfl⟩
  unfold pyNext
  refine wpAny_bind (wpAny_attempt (wpAny_callSpecial?_slot (name := Str.ofString "__next__") isZ F.slot_zip_next (wpAny_call_entry F.slot_zip_next isZ F.entry_zip_next
    (zt_body D hh S hT (fun x y e1 e2 h' S' P' kp => ⟨_, rfl, wpAny_pure (item x y e1 e2 h' S' P' kp)⟩) fun e h' x kp he => ?_) (F.args_zip_next_1 _))))
  obtain ⟨o, ho, hc⟩ := he
  exact wpAny_bind (wpAny_isInstance (T := "StopIteration") (b := true) ⟨o, ho, hc⟩ isSubtype_stop (wpAny_pure (stop e _ kp)))
end
section
variable {prog : Program} {w : World}
/-- where a walk over such a zip stands, the dict at d beside it -/
def zpSt (z TI TO i1 i2 l1 l2 d : Addr) (xs ys : Array Value) (i : Nat) (h : Heap) : Prop :=
  IsPair h TI (.ref i1) (.ref i2) ∧ h.IsTupleIter i1 l1 i ∧ h.IsTupleIter i2 l2 i ∧ h.IsTuple l1 xs ∧ h.IsTuple l2 ys ∧
    ((IsZip h z TI TO .none ∧ ∃ a b, IsPair h TO a b) ∨ ∃ T f oT, IsZipHeld h z TI TO T f ∧ h.get? T = some oT ∧ T ≠ z ∧ T ≠ i1 ∧ T ≠ i2 ∧ T ≠ d)
theorem not4 {z TO i1 i2 c : Addr} (h : c ∉ [z, TO, i1, i2]) : c ≠ z ∧ c ≠ TO ∧ c ≠ i1 ∧ c ≠ i2 := by simpa using h
theorem zpSrc {A : Around} (hA : A.handled = none) {z TI TO i1 i2 l1 l2 d : Addr} (D : ZipApart z TI TO i1 i2 l1 l2) {xs ys : Array Value} (nd : d ≠ z ∧ d ≠ TI ∧ d ≠ TO ∧ d ≠ i1 ∧ d ≠ i2 ∧ d ≠ l1 ∧ d ≠ l2) :
    PairSrc prog w A z d [z, TO, i1, i2] (min xs.size ys.size) (fun i k v => xs[i]? = some k ∧ ys[i]? = some v) (zpSt z TI TO i1 i2 l1 l2 d xs ys) where
  off := by
    obtain ⟨a, _, b, c, e, _⟩ := nd
    simp [a, b, c, e]
  frame := fun i h h' st k => by
    obtain ⟨n1, n2, n3, n4, n5, n6, n7⟩ := nd
    obtain ⟨a1, a2, a3, a4, a5, a6⟩ := st
    refine ⟨k _ _ n2.symm a1, a2.at fun o e => k _ o n4.symm e, a3.at fun o e => k _ o n5.symm e, a4.at fun o e => k _ o n6.symm e, a5.at fun o e => k _ o n7.symm e, ?_⟩
    rcases a6 with ⟨b1, x, y, b2⟩ | ⟨T, f, oT, b1, b2, r1, r2, r3, r4⟩
    · exact .inl ⟨k _ _ n1.symm b1, x, y, k _ _ n3.symm b2⟩
    · exact .inr ⟨T, f, oT, k _ _ n1.symm b1, k _ _ r4 b2, r1, r2, r3, r4⟩
  item := fun i s Q E hi st hd hQ => by
    obtain ⟨a1, a2, a3, a4, a5, a6⟩ := st
    have gt : ∀ {c o}, s.heap.get? c = some o → s.heap.objs.size ≠ c := fun e => Nat.ne_of_gt (Heap.lt_size e)
    have g1 : s.heap.objs.size ≠ i1 := by obtain ⟨_, e, _⟩ := a2; exact gt e
    have g2 : s.heap.objs.size ≠ i2 := by obtain ⟨_, e, _⟩ := a3; exact gt e
    have jx := Array.getElem?_eq_getElem (Nat.lt_of_lt_of_le hi (Nat.min_le_left xs.size ys.size))
    have jy := Array.getElem?_eq_getElem (Nat.lt_of_lt_of_le hi (Nat.min_le_right xs.size ys.size))
    rcases a6 with ⟨b1, x, y, b2⟩ | ⟨T, f, oT, b1, b2, r1, r2, r3, r4⟩
    · refine RZ.pyNext_zipT_item D b1 a1 b2 a2 a3 a4 a5 jx jy fun h' c1 c2 c3 c4 c5 c6 k => ?_
      refine hQ _ _ _ h' s.toks ⟨jx, jy⟩ (.inl ⟨_, c5, rfl, _, rfl⟩) ⟨k _ _ D.TIz D.TITO D.TIi1 D.TIi2 a1, c3, c4, a4.at fun o e => k _ o D.l1z D.l1TO D.l1i1 D.l1i2 e, a5.at fun o e => k _ o D.l2z D.l2TO D.l2i1 D.l2i2 e,
        .inr ⟨_, false, _, c1, c5, gt b1, g1, g2, Nat.ne_of_gt hd⟩⟩ fun c o hc e => ?_
      obtain ⟨q1, q2, q3, q4⟩ := not4 hc
      exact k c o q1 q2 q3 q4 e
    · refine zt_next D ⟨b1, a1, a2, a3, a4, a5⟩ b2 hA (fun x y e1 e2 h' S' P' k => ?_) fun e => ?_
      · refine hQ _ x y h' s.toks ⟨e1, e2⟩ (.inl ⟨_, P', rfl, _, rfl⟩) ⟨S'.ti, S'.a, S'.b, S'.la, S'.lb, .inr ⟨T, true, oT, S'.z, k _ _ r1 r2 r3 b2, r1, r2, r3, r4⟩⟩ fun c o hc e => ?_
        obtain ⟨q1, q2, q3, q4⟩ := not4 hc
        exact k c o q1 q3 q4 e
      · rw [jx, jy] at e
        rcases e with e | e <;> cases e
  done := fun s Q E st hQ => by
    obtain ⟨a1, a2, a3, a4, a5, a6⟩ := st
    have fin : xs[min xs.size ys.size]? = none ∨ ys[min xs.size ys.size]? = none := by
      rcases Nat.le_total xs.size ys.size with h | h
      · left; rw [Nat.min_eq_left h]; exact Array.getElem?_eq_none (Nat.le_refl _)
      · right; rw [Nat.min_eq_right h]; exact Array.getElem?_eq_none (Nat.le_refl _)
    rcases a6 with ⟨b1, x, y, b2⟩ | ⟨T, f, oT, b1, b2, r1, r2, r3, r4⟩
    · refine RZ.pyNext_zipT_end hA D b1 a1 b2 a2 a3 a4 a5 fin fun h' k => hQ h' s.toks fun c o hc e => ?_
      obtain ⟨q1, q2, q3, q4⟩ := not4 hc
      exact k c o q1 q2 q3 q4 e
    · refine zt_next D ⟨b1, a1, a2, a3, a4, a5⟩ b2 hA (fun x y e1 e2 h' S' P' k => ?_) fun e h' k => hQ h' s.toks fun c o hc e => ?_
      · rw [e1, e2] at fin
        rcases fin with e | e <;> cases e
      · obtain ⟨q1, q2, q3, q4⟩ := not4 hc
        exact k c o q1 q3 q4 e
theorem zpArg (z TI TO i1 i2 l1 l2 : Addr) (D : ZipApart z TI TO i1 i2 l1 l2) (xs ys : Array Value) :
    PairArg prog w "zip" z [z, TI, TO, i1, i2, l1, l2] [z, TO, i1, i2] (min xs.size ys.size) (fun i k v => xs[i]? = some k ∧ ys[i]? = some v)
      (fun h => IsZip h z TI TO .none ∧ IsPair h TI (.ref i1) (.ref i2) ∧ (∃ a b, IsPair h TO a b) ∧ h.IsTupleIter i1 l1 0 ∧ h.IsTupleIter i2 l2 0 ∧ h.IsTuple l1 xs ∧ h.IsTuple l2 ys) where
  type := fun s ok => ⟨_, ok.1, rfl⟩
  notDict := by decide
  keep := fun h h' ok k => by
    obtain ⟨b1, a1, ⟨x, y, b2⟩, a2, a3, a4, a5⟩ := ok
    exact ⟨k _ _ b1, k _ _ a1, ⟨x, y, k _ _ b2⟩, a2.at fun o e => k _ o e, a3.at fun o e => k _ o e, a4.at fun o e => k _ o e, a5.at fun o e => k _ o e⟩
  there := fun h ok b hb => by
    obtain ⟨b1, a1, ⟨x, y, b2⟩, ⟨o1, e1, _⟩, ⟨o2, e2, _⟩, ⟨o3, e3, _⟩, ⟨o4, e4, _⟩⟩ := ok
    simp only [List.mem_cons, List.not_mem_nil, or_false] at hb
    rcases hb with q | q | q | q | q | q | q <;> rw [q]
    · exact ⟨_, b1⟩
    · exact ⟨_, a1⟩
    · exact ⟨_, b2⟩
    · exact ⟨_, e1⟩
    · exact ⟨_, e2⟩
    · exact ⟨_, e3⟩
    · exact ⟨_, e4⟩
  sub := fun b hb => by
    simp only [List.mem_cons, List.not_mem_nil, or_false] at hb ⊢
    rcases hb with q | q | q | q <;> simp [q]
  noKeys := fun A s Q E hA ok h => getAttrOr_miss_zip ok.1 rfl rfl rfl zip_no_keys (by decide +kernel) hA h
  iter := fun A s d Q E hA ok hd hdf h => by
    obtain ⟨b1, a1, ⟨x, y, b2⟩, a2, a3, a4, a5⟩ := ok
    refine wpAny_pyIter_zip b1 (h z [z, TO, i1, i2] (zpSt z TI TO i1 i2 l1 l2 d xs ys) s.heap s.toks (zpSrc hA D (by simpa using hdf)) ⟨a1, a2, a3, a4, a5, .inl ⟨b1, x, y, b2⟩⟩ (fun _ _ e => e) fun b hb => .inl hb)
end
end K8
namespace K8
open PySem PySem.Spec PyProof.Rows L2
open Evl (Ex ex_l ex_t ex_rd)
theorem putK_new {kvs : List (Key × V)} {k : Key} {v : V} (h : k ∉ kvs.map (·.1)) : putK kvs k v = kvs ++ [(k, v)] := by
  unfold putK
  rw [if_neg]
  intro c
  obtain ⟨p, hp, e⟩ := List.any_eq_true.mp c
  exact h (List.mem_map.mpr ⟨p, hp, of_decide_eq_true e⟩)
theorem mergeK_new : ∀ (more kvs : List (Key × V)), ((kvs ++ more).map (·.1)).Nodup → mergeK kvs more = kvs ++ more
  | [], kvs, _ => by simp [mergeK]
  | p :: more, kvs, h => by
    have e : kvs ++ p :: more = (kvs ++ [p]) ++ more := by simp
    have n : p.1 ∉ kvs.map (·.1) := fun z => by
      rw [List.map_append, List.map_cons] at h
      exact (List.nodup_append.mp h).2.2 _ z _ (List.mem_cons_self ..) rfl
    have := mergeK_new more (kvs ++ [p]) (by rw [← e]; exact h)
    show mergeK (putK kvs p.1 p.2) more = _
    rw [putK_new n, this, e]
theorem kv_zip : ∀ {ks : List Key} {xs : List V} {us : List Value}, Vals xs us → KV (ks.zip xs) (ks.zip us)
  | [], xs, us, _ => by simp; exact .nil
  | k :: ks, [], us, r => by cases r; simp; exact .nil
  | k :: ks, x :: xs, us, r => by
    cases r with
    | cons h t => exact .cons ⟨rfl, h⟩ (kv_zip t)
theorem keys_at {P : Program} {w : World} : ∀ {ks : List Key} {us : List Value} (i : Nat) {u : Value}, Vals (ks.map kV) us → us[i]? = some u → ∃ k, ks[i]? = some k ∧ (mixKind P w).is k u = true
  | [], _, i, u, r, h => by rw [List.map_nil] at r; cases r; simp at h
  | k :: ks, _, i, u, r, h => by
    rw [List.map_cons] at r
    cases r with
    | cons h1 t =>
      cases i with
      | zero => cases h; exact ⟨k, rfl, kV_is h1⟩
      | succ i => exact keys_at i t h
def tDZ (K : PySem.W.Frag) (ta : TA) : TE := fun σ H R => ta σ H fun vs H1 => ∃ (a b : Addr) (ks : List Key) (xs : List V), vs = [.ref a, .ref b] ∧ SqT K H1 a (ks.map kV) ∧ SqT K H1 b xs ∧ ks.length = xs.length ∧ ∀ p, H1 p = none → R (.ref p) (upd H1 p (.dK (mergeK [] (ks.zip xs))))
theorem pe_dz {X : Cx} {e e2 : Expr} {ta : TA} {p p2 pos pos2 : Pos} (calm : X.calm = true) (hg : Gl X "zip") (hm : X.mg "zip" = none) (hg2 : Gl X "dict") (hm2 : X.mg "dict" = none) (ha : PA X [e, e2] ta)
    (hs : starEach [e, e2] X.env = (false, eval e X.env) :: starEach [e2] X.env := by rfl) (hpl : (backTo pos2 (starEach [e2] X.env)).any (·.1) = false := by rfl) :
    PE X (.Call (.Name "dict" p) [.Call (.Name "zip" p2) [e, e2] [] pos2] [] pos) (tDZ X.K ta) := by
  refine ⟨fun pins s σ H R I h => ?_⟩
  refine Call_ (ld_blt I hg2 hm2 PyProof.Rows.boot_dict (PyProof.Rows.callWith_type1 ?_ rfl rfl))
  refine Calls.spliced_cons ?_
  refine Call_ (ld_blt I hg hm PyProof.Rows.boot_zip (PyProof.Rows.callWith_type1 (thn (ha.run pos2 pins s σ H _ I h) fun us s1 ⟨vs, H1, I1, r1, q1⟩ => ?_) hs hpl))
  obtain ⟨a, b, ks, xs, ex, hqx, hqy, hl, q⟩ := q1
  subst ex
  cases r1 with
  | cons r rr =>
  cases rr with
  | cons r' rr =>
  cases rr
  cases r
  cases r'
  obtain ⟨its, rv, p1, z1⟩ := I1.tuple hqx
  obtain ⟨its2, rv2, p3, _⟩ := I1.tuple hqy
  obtain ⟨o1, ho1, _⟩ := id p1
  obtain ⟨o2, ho2, _⟩ := id p3
  refine RZ.call_zipT (show s1.heap.IsTuple a its.toArray from p1) (show s1.heap.IsTuple b its2.toArray from p3) fun h' hz hTI hTO h1 h2 hsz hk => Calls.spliced_nil ?_
  have I2 : Inv X pins σ H1 { s1 with heap := h' } := I1.kept (t' := s1.toks) hk
  have D := PySem.W.ktu_apart s1.heap.objs.size a b (Heap.lt_size ho1) (Heap.lt_size ho2)
  have ll : its.length = its2.length := by rw [← rv.length, ← rv2.length, List.length_map, hl]
  have kl : ks.length = its.length := by rw [← rv.length, List.length_map]
  have rel : KV (ks.zip xs) (ks.zip its2) := kv_zip rv2
  refine PySem.call_dict_pairs (knd := mixKind X.prog X.w) (kvs := ks.zip its2) (zpArg _ _ _ _ _ a b D its.toArray its2.toArray) (I2.ok.hd calm) ⟨hz, hTI, ⟨_, _, hTO⟩, h1, h2, (show s1.heap.IsTuple a its.toArray from p1).at fun o e => hk _ o e, (show s1.heap.IsTuple b its2.toArray from p3).at fun o e => hk _ o e⟩ ⟨?_, fun i key v ⟨e1, e2⟩ => ?_⟩ ?_ fun h2 tk hd k => ?_
  · simp [kl, ll]
  · obtain ⟨k, e3, e4⟩ := keys_at i rv (by simpa using e1)
    exact ⟨k, by simp [List.getElem?_zip_eq_some, e3, (by simpa using e2 : its2[i]? = some v)], e4⟩
  · simp only [List.size_toArray]
    rw [← rv.length]
    exact Nat.le_trans (Nat.min_le_left ..) z1
  · have hle : s1.heap.objs.size ≤ h'.objs.size := by rw [hsz]; omega
    have new : ObjOk X.prog X.w (upd H1 h'.objs.size (.dK (mergeK [] (ks.zip xs)))) h2 h'.objs.size (.dK (mergeK [] (ks.zip xs))) := by
      refine ⟨?_, beq_eq_false_iff_ne.mpr (Nat.ne_of_gt (Nat.lt_of_lt_of_le I1.big hle)), merged [] (ks.zip its2), KV.merge rel .nil, hd⟩
      refine Nat.le_trans (length_mergeK _ []) ?_
      rw [List.length_nil, Nat.zero_add, List.length_zip]
      rw [List.length_map] at z1
      exact Nat.le_trans (Nat.min_le_left ..) z1
    have I3 := I2.turnedNew (t' := tk) (ch := [s1.heap.objs.size + 4, s1.heap.objs.size + 3, s1.heap.objs.size, s1.heap.objs.size + 1]) (fun c o hc q => k c o hc q) (fun c hcm => by
      have hle : s1.heap.objs.size ≤ c := by
        simp only [List.mem_cons, List.not_mem_nil, or_false] at hcm
        rcases hcm with z | z | z | z <;> rw [z] <;> omega
      exact I1.fpOk hle (I1.hok.fresh hle)) (Nat.le_refl _) new
    exact ⟨.ref h'.objs.size, _, I3, rfl, q _ (I1.hok.fresh hle)⟩
section
variable {X : Cx} {e e2 : Expr} {f : DA} {p p2 pos pos2 : Pos}
@[simp] def dDZ (f : DA) : DE := fun bg ds P => f bg ds fun l => ∃ (x y : D) (ks : List Str) (m : List D), l = [x, y] ∧ IsT x (ks.map D.str) ∧ IsT y m ∧ ks.length = m.length ∧ ks.Nodup ∧ P (.dic (ks.map Sum.inr) m)
theorem strs_V {F : PySem.W.Frag} {K : Hp} : ∀ {vs : List V} {ks : List Str}, Reps F K vs (ks.map D.str) → vs = (ks.map (Sum.inr : Str → Key)).map kV
  | _, [], r => by cases r; rfl
  | _, k :: ks, r => by
    cases r with
    | cons v d vs l h r =>
      cases h
      rw [strs_V r]
      rfl
theorem x_dz (calm : X.calm = true) (hg : Gl X "zip") (hm : X.mg "zip" = none) (hg2 : Gl X "dict") (hm2 : X.mg "dict" = none) (ha : PXA X [e, e2] f)
    (hs : starEach [e, e2] X.env = (false, eval e X.env) :: starEach [e2] X.env := by rfl) (hpl : (backTo pos2 (starEach [e2] X.env)).any (·.1) = false := by rfl) :
    PX X (.Call (.Name "dict" p) [.Call (.Name "zip" p2) [e, e2] [] pos2] [] pos) (dDZ f) := by
  refine ⟨(pe_dz calm hg hm hg2 hm2 ha.pa hs hpl).weak fun σ H Q ⟨B, K, ds, S, p⟩ => ?_, fun bg ds P P' m p => ha.mono _ _ _ _ (fun d ⟨x, y, k, l, e, h1, h2, h3, h4, q⟩ => ⟨x, y, k, l, e, h1, h2, h3, h4, m _ q⟩) p⟩
  refine ⟨B, K, ds, S, ha.mono _ _ _ _ (fun l ⟨x, y, ks, n, el, hx, hy, hl, hn, q⟩ vs K1 H1 n1 r1 => ?_) p⟩
  subst el
  cases r1 with
  | cons v1 d1 w1 l1 q1 r1 =>
  cases r1 with
  | cons v2 d2 w2 l2 q2 r1 =>
  cases r1
  obtain ⟨a, ws, rfl, h, r, z⟩ := q1.tupK hx
  obtain ⟨b, us, rfl, h', r', z'⟩ := q2.tupK hy
  have ew := strs_V r
  subst ew
  have lu : us.length = n.length := r'.length
  refine ⟨a, b, ks.map Sum.inr, us, rfl, .inl (ex_rd n1.kh h), .inl (ex_rd n1.kh h'), by rw [List.length_map, lu, hl], fun p hp => ?_⟩
  have nd : (((ks.map (Sum.inr : Str → Key)).zip us).map (·.1)).Nodup := by
    rw [List.map_fst_zip (by rw [List.length_map, lu, hl]; exact Nat.le_refl _)]
    exact (List.pairwise_map.mpr (hn.imp fun h c => h (by injection c)))
  rw [mergeK_new _ [] (by simpa using nd), List.nil_append]
  exact q _ _ _ (Nx.trans S.bag n1 (Nx.of0 (Nx.new n1.kh hp))) (.dic p us _ n (by rw [List.length_map, lu, hl]) upd_same (r'.mono (Nx.new (bg := none) n1.kh hp).kk))
end
end K8
set_option Elab.async false
set_option linter.all false
set_option maxRecDepth 100000
set_option maxHeartbeats 4000000
namespace K8
open PySem PySem.Spec PyProof.Rows L2
section
variable {P : Program} {w : World} {K : PySem.W.Frag} {mg : Str → Option Value} {base : Heap}

/-- sizes of what worths_above takes -/
structure WaIn (n : Nat) (A G U : List (List Int)) : Prop where
  n2 : 2 ≤ n
  n4 : n ≤ 4
  la : ∀ r ∈ A, r.length = n
  lg : ∀ r ∈ G, r.length = n
  lu : ∀ r ∈ U, r.length = n
  ba : ∀ r ∈ A, ∀ i, (vf r i).natAbs < 2 ^ 2
  bg : ∀ r ∈ G, ∀ i, (vf r i).natAbs < 2 ^ 2
  bu : ∀ r ∈ U, ∀ i, (vf r i).natAbs < 2 ^ 2
  ca : A.length ≤ 5
  cg : G.length ≤ 5
  cu : U.length ≤ 5
def WaOut (ts : List Str) (A G U : List (List Int)) (d : D) : Prop :=
  (d = .non ∧ ∀ x, ¬ Fit ts.length A G U x) ∨ ∃ y : List Int, d = .dic (ts.map Sum.inr) (y.map .int) ∧ y.length = ts.length ∧ Fit ts.length A G U (vf y)
theorem gr42 {n : Nat} (h : n ≤ 4) : gr n 2 ≤ 767 := Nat.le_trans (gr_le h 2) (by decide)
theorem gr32 {n : Nat} (h : n ≤ 4) : n * (gr (n - 1) 2 + 1) ≤ 768 := by
  have h1 : gr (n - 1) 2 ≤ 191 := Nat.le_trans (gr_le (show n - 1 ≤ 3 by omega) 2) (by decide)
  exact Nat.le_trans (Nat.mul_le_mul h (Nat.succ_le_succ h1)) (by decide)
theorem cOk.le : ∀ {n c c' : Nat}, cOk n c → c' ≤ c → cOk n c'
  | 0, _, _, _, _ => trivial
  | n + 1, c, c', h, hc => ⟨Nat.le_trans hc h.1, cOk.le h.2 (Nat.div_le_div_right (Nat.mul_le_mul (Nat.succ_le_succ hc) (Nat.succ_le_succ hc)))⟩
theorem cOk45 {n c : Nat} (h : n ≤ 4) (hc : c ≤ 5) : cOk n c := by
  refine cOk.le ?_ hc
  rcases (show n = 0 ∨ n = 1 ∨ n = 2 ∨ n = 3 ∨ n = 4 by omega) with h | h | h | h | h <;> rw [h] <;> simp [cOk]
theorem eOk45 {n : Nat} (h : n ≤ 4) : eOk n 780 := by
  rcases (show n = 0 ∨ n = 1 ∨ n = 2 ∨ n = 3 ∨ n = 4 by omega) with h | h | h | h | h <;> rw [h] <;> simp [eOk]
theorem fB45 {n : Nat} (h : n ≤ 4) : fB n 780 ≤ 30000 := by
  rcases (show n = 0 ∨ n = 1 ∨ n = 2 ∨ n = 3 ∨ n = 4 by omega) with h | h | h | h | h <;> rw [h] <;> simp [fB]
theorem seen_bits {n : Nat} {fr : List (List Int)} (n4 : n ≤ 4) (hf : ∀ f ∈ fr, f.length = n) (bf : ∀ f ∈ fr, ∀ i, (vf f i).natAbs < 2 ^ 768) {r : List Int} (hr : r.length = n) (br : ∀ i, (vf r i).natAbs < 2 ^ 2) (i : Nat) : (vf (fr.map (dotp r ·)) i).natAbs < 2 ^ 780 := by
  have z : (0 : Int).natAbs < 2 ^ 780 := Nat.two_pow_pos _
  unfold vf
  by_cases h : i < fr.length
  · rw [List.getD_eq_getElem?_getD, List.getElem?_map, List.getElem?_eq_getElem h]
    show (dotp r fr[i]).natAbs < _
    rw [dotp_eq hr (hf _ (List.getElem_mem h))]
    have := dotn_abs (u := vf r) (v := vf fr[i]) (A := 4) (B := 2 ^ 768) (fun j => Nat.le_of_lt (br j)) (fun j => Nat.le_of_lt (bf _ (List.getElem_mem h) j)) n
    refine Nat.lt_of_le_of_lt this (Nat.lt_of_le_of_lt (Nat.mul_le_mul_right _ n4) ?_)
    rw [show (780 : Nat) = 768 + 12 from rfl, Nat.pow_add]
    generalize hb : 2 ^ 768 = b
    have : 0 < b := by rw [← hb]; exact Nat.two_pow_pos _
    omega
  · rw [List.getD_eq_getElem?_getD, List.getElem?_map, List.getElem?_eq_none (by omega)]
    exact z
def W_worths_above (K : PySem.W.Frag) : DW := fun _ l P => ∃ ts tl A G, l = [toldD K ts tl, rows A, rows G] ∧ ts.Nodup ∧ WaIn ts.length A G (rowsOf ts tl "unlike") ∧ P = WaOut ts A G (rowsOf ts tl "unlike")
theorem G_worths_above (T : Tx K mg) : FnOk P w K mg base CX0 13 (He.ga K "worths_above") T.d_worths_above.fd ["told", "alikes", "heaviers"] (spW K (W_worths_above K)) := by
  refine fn_okD (k := 12) T.d_worths_above.F sc_worths_above ?_ (by decide) (fun cdv A outer s H E hr => ?_)
  · intro bg l P h
    obtain ⟨x, y, z, t, rfl, _⟩ := h; rfl
  · refine ⟨_, (xs_cons (xs_set (i := 3) sc_worths_above.nd rfl (.inl rfl) (x_callB call_len c1_len (by rfl) T.t_len bt_len (xa_cons (x_prop (x := "its_things") T.cls T.prop (T.pok 0) (hr.mono (by decide)) T.pb (x_var (pv 0))) xa_nil)))
    (xs_cons (xs_set (i := 4) sc_worths_above.nd rfl (.inr rfl) (x_call (G_frame T.toTxt) (hr.mono (by decide)) (by rfl) T.d_frame.g T.d_frame.F.kp T.d_frame.b (xa_cons (x_var (pv 1)) (xa_cons (x_var (pv 3)) xa_nil))))
    (xs_cons (xs_setLc (i := 5) (own := [("row", 9)]) (gs := [9]) rfl sc_worths_above.nd rfl rfl (sw_true rfl rfl rfl (by decide +kernel)) (xi_list (x_var (pv 2))) (blkOk_by (by kernel_rfl)) (fun _ _ _ _ _ => (xg_name (pg_name (i := 9) sc_worths_above.nd rfl (.inl rfl)))) (fun _ _ _ _ _ => xts_nil) (fun _ _ _ _ _ => (x_call (G_seen_by T.toTxt) (hr.mono (by decide)) (by rfl) T.d_seen_by.g T.d_seen_by.F.kp T.d_seen_by.b (xa_cons (x_var (pv 4)) (xa_cons (x_var (pv 9)) xa_nil)))))
    (xs_cons (xs_setLc (i := 6) (own := [("row", 9)]) (gs := [9]) rfl sc_worths_above.nd rfl rfl (sw_true rfl rfl rfl (by decide +kernel)) (xi_list (x_meth T.cls T.h_rows (G_Told_rows T) (hr.mono (by decide)) T.m_rows.b (x_var (pv 0)) (xa_cons x_str xa_nil))) (blkOk_by (by kernel_rfl)) (fun _ _ _ _ _ => (xg_name (pg_name (i := 9) sc_worths_above.nd rfl (.inl rfl)))) (fun _ _ _ _ _ => xts_nil) (fun _ _ _ _ _ => (x_call (G_seen_by T.toTxt) (hr.mono (by decide)) (by rfl) T.d_seen_by.g T.d_seen_by.F.kp T.d_seen_by.b (xa_cons (x_var (pv 4)) (xa_cons (x_var (pv 9)) xa_nil)))))
    (xs_cons (xs_if (xt_val (x_callB (cr_any rfl) c1_any (by rfl) T.t_any bt_any (xa_cons (x_lc (own := [("row", 9)]) (gs := [9]) rfl sc_worths_above.nd (xi_list (x_var (pv 6))) (blkOk_by (by kernel_rfl)) (fun _ _ _ _ _ => (xg_name (pg_name (i := 9) sc_worths_above.nd rfl (.inl rfl)))) (fun _ _ _ _ _ => xts_nil) (fun _ _ _ _ _ => (x_not (x_callB (cr_anyI rfl) c1_anyI (by rfl) T.t_any bt_any (xa_cons (x_var (pv 9)) xa_nil))))) xa_nil))) (xs_one (xs_ret x_non)) xs_nil)
    (xs_cons (xs_set (i := 7) sc_worths_above.nd rfl (.inl rfl) (x_call (G_point_above T.toTxt) (hr.mono (by decide)) (by rfl) T.d_point_above.g T.d_point_above.F.kp T.d_point_above.b (xa_cons (x_var (pv 5)) (xa_cons (x_callB call_len c1_len (by rfl) T.t_len bt_len (xa_cons (x_var (pv 4)) xa_nil)) xa_nil))))
    (xs_cons (xs_if (xt_cmp op_isN r2_isN (x_var (pv 7)) x_non (nomark _)) (xs_one (xs_ret x_non)) xs_nil)
    (xs_cons (xs_set (i := 8) sc_worths_above.nd rfl (.inl rfl) (x_call (G_mixture T.toTxt) (hr.mono (by decide)) (by rfl) T.d_mixture.g T.d_mixture.F.kp T.d_mixture.b (xa_cons (x_var (pv 4)) (xa_cons (x_call (G_moved T.toTxt) (hr.mono (by decide)) (by rfl) T.d_moved.g T.d_moved.F.kp T.d_moved.b (xa_cons (x_var (pv 7)) (xa_cons (x_var (pv 5)) (xa_cons (x_var (pv 6)) xa_nil)))) (xa_cons (x_var (pv 3)) xa_nil)))))
    (xs_one (xs_ret (x_dz rfl (by rfl) T.t_zip (by rfl) T.t_dict (xa_cons (x_prop (x := "its_things") T.cls T.prop (T.pok 0) (hr.mono (by decide)) T.pb (x_var (pv 0))) (xa_cons (x_var (pv 8)) xa_nil))))))))))))), ?_⟩
    intro bg l P h
    obtain ⟨ts, tl, A, G, rfl, hnd, hin, hP⟩ := h
    simp [toldD, look1, look2, and_assoc]
    refine ⟨_, .inl ⟨_, .inr (.inr rfl), rfl⟩, _, ⟨A, ts.length, 2, by simp, hin.la, by decide, hin.ba, Nat.le_trans (gr42 hin.n4) (by decide), Nat.le_trans hin.n4 (by decide), Nat.le_trans hin.ca (by decide), rfl⟩, ?_⟩
    rintro _ ⟨fr, rfl, hF⟩
    have bf : ∀ f ∈ fr, ∀ i, (vf f i).natAbs < 2 ^ 768 := fun f hf i => Nat.lt_of_lt_of_le (hF.bits f hf i) (Nat.pow_le_pow_right (by decide) (gr32 hin.n4))
    have sb := fun (r : List Int) (hr : r.length = ts.length) (br : ∀ i, (vf r i).natAbs < 2 ^ 2) => seen_bits hin.n4 hF.len bf hr br
    have mo : ∀ r : List Int, (∀ i, (vf r i).natAbs < 2 ^ 2) → ∀ f ∈ fr, ∀ p ∈ r.zip f, IntMulOk p.1 p.2 := fun r br f hf p hp => mulOk (mem_vf br (List.of_mem_zip (a := p.1) (b := p.2) hp).1) (mem_vf (bf f hf) (List.of_mem_zip (a := p.1) (b := p.2) hp).2) (by decide)
    have m4 : fr.length ≤ 4 := Nat.le_trans hF.few hin.n4
    simp [rows]
    refine lcW_map row row (fun r => fr.map (dotp r ·)) _ [] _ (fun r hr Y N' y => ?_) ?_
    · simp [and_assoc]
      refine ⟨_, ⟨fr, r, rfl, mo r (hin.bg r hr), rfl⟩, ?_⟩
      rintro _ rfl
      exact y
    refine ⟨by decide, by decide, _, ⟨ts, tl, "unlike", rfl, rfl⟩, ?_⟩
    rintro _ rfl
    generalize rowsOf ts tl "unlike" = U at hin hP
    refine ⟨_, rfl, ?_⟩
    refine lcW_map row row (fun r => fr.map (dotp r ·)) _ [] _ (fun r hr Y N' y => ?_) ?_
    · simp [and_assoc]
      refine ⟨_, ⟨fr, r, rfl, mo r (hin.bu r hr), rfl⟩, ?_⟩
      rintro _ rfl
      exact y
    simp only [List.nil_append]
    refine lcW_map row D.bl (fun u : List Int => !(u.any (· != 0))) _ [] _ (fun u hu Y N' y => ?_) ?_
    · simp [and_assoc]
      refine ⟨_, ⟨u, .inl rfl, rfl⟩, ?_⟩
      generalize u.any (· != 0) = c at y
      cases c with
      | false => exact .inl ⟨rfl, y⟩
      | true => exact .inr ⟨rfl, y⟩
    refine ⟨_, ⟨_, rfl, rfl⟩, ?_⟩
    generalize hz : List.any _ id = c
    cases c with
    | true =>
      refine .inr ⟨rfl, ?_⟩
      rw [hP]
      refine .inl ⟨rfl, fun x fx => ?_⟩
      obtain ⟨b, hb, e⟩ := List.any_eq_true.mp hz
      obtain ⟨g, hg, rfl⟩ := List.mem_map.mp hb
      obtain ⟨u, hu, rfl⟩ := List.mem_map.mp hg
      refine fx.2.2 u hu (hF.bar0 (hin.lu u hu) (fun p hp => ?_) fx.1)
      by_cases q : p = 0
      · exact q
      · have : ((fr.map (dotp u ·)).any (· != 0)) = true := List.any_eq_true.mpr ⟨p, hp, bne_iff_ne.mpr q⟩
        rw [this] at e
        cases e
    | false =>
      refine .inl ⟨rfl, ?_⟩
      have gl : ∀ g ∈ G.map fun r => fr.map (dotp r ·), g.length = fr.length := fun g hg => by
        obtain ⟨r, _, rfl⟩ := List.mem_map.mp hg
        simp
      have ul : ∀ g ∈ U.map fun r => fr.map (dotp r ·), g.length = fr.length := fun g hg => by
        obtain ⟨r, _, rfl⟩ := List.mem_map.mp hg
        simp
      have gb : ∀ g ∈ G.map fun r => fr.map (dotp r ·), ∀ i, (vf g i).natAbs < 2 ^ 780 := fun g hg => by
        obtain ⟨r, hr, rfl⟩ := List.mem_map.mp hg
        exact sb r (hin.lg r hr) (hin.bg r hr)
      have ub : ∀ g ∈ U.map fun r => fr.map (dotp r ·), ∀ i, (vf g i).natAbs < 2 ^ 780 := fun g hg => by
        obtain ⟨r, hr, rfl⟩ := List.mem_map.mp hg
        exact sb r (hin.lu r hr) (hin.bu r hr)
      have cg : (G.map fun r => fr.map (dotp r ·)).length ≤ 5 := by simp; exact hin.cg
      have cu : (U.map fun r => fr.map (dotp r ·)).length ≤ 5 := by simp; exact hin.cu
      have f4 := fB45 m4
      refine ⟨_, ⟨G.map fun r => fr.map (dotp r ·), fr.length, 780, rfl, ⟨gl, gb, cOk45 m4 cg, eOk45 m4, by omega, by omega, by omega⟩, rfl⟩, ?_⟩
      rintro _ (⟨rfl, lam, hC, hne⟩ | ⟨p, rfl, pl, pp, pb⟩)
      · refine .inr ⟨rfl, ?_⟩
        rw [hP]
        exact .inl ⟨rfl, fun x fx => hF.cone0 hin.lg hC hne fx.1 fx.2.1⟩
      · refine .inl ⟨rfl, ?_⟩
        have un : ∀ u ∈ U.map fun r => fr.map (dotp r ·), ∃ i, i < fr.length ∧ vf u i ≠ 0 := fun u hu => by
          have z : (!(u.any (· != 0))) = false := by
            cases q : !(u.any (· != 0)) with
            | false => rfl
            | true => 
              have : (List.map (fun u : List Int => !(u.any (· != 0))) (U.map fun r => fr.map (dotp r ·))).any id = true := List.any_eq_true.mpr ⟨_, List.mem_map.mpr ⟨u, hu, rfl⟩, q⟩
              rw [hz] at this
              cases this
          have z2 : u.any (· != 0) = true := by simpa using z
          obtain ⟨p, hp, e⟩ := List.any_eq_true.mp z2
          obtain ⟨i, hi, rfl⟩ := List.mem_iff_getElem.mp hp
          refine ⟨i, by rw [← ul u hu]; exact hi, ?_⟩
          unfold vf
          rw [List.getD_eq_getElem?_getD, List.getElem?_eq_getElem hi]
          exact bne_iff_ne.mp e
        refine ⟨_, ⟨p, _, _, fr.length, 780, fB fr.length 780, rfl, ⟨pl, by omega, gl, ul, gb, ub, pb, by decide, by omega, pp, un, by omega⟩, rfl⟩, ?_⟩
        rintro _ ⟨y, rfl, hy, hb⟩
        have yl : fr.length = y.length := hy.yl.symm
        refine ⟨_, ⟨fr, y, ts.length, rfl, hin.n2, Nat.le_trans hin.n4 (by decide), fun q hq x hx => ?_, rfl⟩, ?_⟩
        · exact mulOk (mem_vf hy.yf (List.of_mem_zip (a := q.1) (b := q.2) hq).2) (mem_vf (bf _ (List.of_mem_zip (a := q.1) (b := q.2) hq).1) hx) (by omega)
        · rintro _ rfl
          obtain ⟨f1, f2⟩ := hF.fits hin.la hin.lg hin.lu hy.yl hy.gp hb
          refine ⟨ts, .inr rfl, _, .inl rfl, ?_, hnd, ?_⟩
          · rw [List.length_map]
            exact f1.symm
          · rw [hP]
            exact .inr ⟨_, rfl, f1, f2⟩
end
end K8
set_option Elab.async false
set_option linter.all false
set_option maxRecDepth 100000
set_option maxHeartbeats 4000000
/-! three stores at once; d[k] of a dict of texts -/
namespace K8
open PySem PySem.Spec PyProof.Rows L2
open Evl (Ex ex_l ex_t ex_rd)
section
variable {X : Cx} {pos : Pos} {e o : Expr}
@[simp] def dPar3 (i j k : Nat) (f : DA) : DSm := fun bg E ds => f bg ds fun l => ∃ x y z, l = [x, y, z] ∧ E.nx (((ds.set i (.val x)).set j (.val y)).set k (.val z))
theorem xs_par3 {i j k : Nat} {x y z : Str} {a b c : Expr} {f : DA} {px py pz pt : Pos} {kt k2 pt2} (hc : X.calm = true) (hN : X.N.Nodup) (hi : X.N[i]? = some x) (hj : X.N[j]? = some y) (hk : X.N[k]? = some z) (hij : i ≠ j) (hik : i ≠ k) (hjk : j ≠ k)
    (hx : X.env.scope.names.lookup x = some .local) (hy : X.env.scope.names.lookup y = some .local) (hz : X.env.scope.names.lookup z = some .local) (ha : PXA X [a, b, c] f)
    (hw : swappedStores [.Tuple [.Name x px, .Name y py, .Name z pz] kt pt] (.Tuple [a, b, c] k2 pt2) X.env = pure (some [x, y, z]))
    (hs : swapsWithSole [.Tuple [.Name x px, .Name y py, .Name z pz] kt pt] (.Tuple [a, b, c] k2 pt2) pos.line X.env = pure false := by rfl) :
    PXS X (.Assign [.Tuple [.Name x px, .Name y py, .Name z pz] kt pt] (.Tuple [a, b, c] k2 pt2) pos) (dPar3 i j k f) := by
  refine ⟨(ps_par3 hc hN hi hj hk hij hik hjk hx hy hz ha.pa hw hs).weak fun D σ H ⟨B, K, ds, S, p⟩ => ?_, fun bg E E' ds l p => ha.mono _ _ _ _ (fun m ⟨x, y, z, e, q⟩ => ⟨x, y, z, e, l.nx _ q⟩) p⟩
  refine ⟨B, K, ds, S, ha.mono _ _ _ _ (fun l ⟨x, y, z, e, q⟩ vs K' H' n r => ?_) p⟩
  subst e
  cases r with
  | cons v1 d1 r1 l1 q1 r =>
  cases r with
  | cons v2 d2 r2 l2 q2 r =>
  cases r with
  | cons v3 d3 r3 l3 q3 r =>
  cases r
  exact ⟨v1, v2, v3, rfl, q _ K' H' ((((S.next n).set q1).set q2).set q3)⟩
def getS (ks : List Str) (l : List D) (k : Str) : Option D := (ks.zip l).lookup k
theorem getS_rep {F : PySem.W.Frag} {K : Hp} : ∀ {ks : List Str} {vs : List V} {l : List D} (k : Str) (d : D), Reps F K vs l → getS ks l k = some d → ∃ v, valV ((ks.map (Sum.inr : Str → Key)).zip vs) (.inr k) = some v ∧ Rep F K v d
  | [], vs, l, k, d, r, h => by simp [getS] at h
  | x :: ks, _, [], k, d, r, h => by simp [getS] at h
  | x :: ks, _, e :: l, k, d, r, h => by
    cases r with
    | cons v _ vs _ hv r =>
      unfold getS at h
      rw [List.zip_cons_cons, List.lookup_cons] at h
      by_cases c : k = x
      · subst c
        rw [beq_self_eq_true] at h
        cases h
        exact ⟨v, valV_pos (p := (Sum.inr k, v)) rfl, hv⟩
      · rw [beq_eq_false_iff_ne.mpr c] at h
        obtain ⟨u, h1, h2⟩ := getS_rep (ks := ks) k d r h
        exact ⟨u, (valV_neg (p := (Sum.inr x, v)) (fun z => c (by injection z with z; exact z.symm))).trans h1, h2⟩
@[simp] def dGetS (fo fk : DE) : DE := fun bg ds P => fo bg ds fun x => ∃ (ks : List Str) (l : List D), x = .dic (ks.map Sum.inr) l ∧ fk bg ds fun y => ∃ k d, y = .str k ∧ getS ks l k = some d ∧ P d
theorem x_dget {fo fk : DE} (hu : X.A.units + 1 < cLine) (ho : PX X o fo) (hk : PX X e fk) (hs : NoSl e) : PX X (.Subscript o e pos) (dGetS fo fk) := by
  refine ⟨(pe_dget hu ho.pe hk.pe hs).weak fun σ H Q ⟨B, K, ds, S, p⟩ => ?_, fun bg ds P P' m p => ho.mono _ _ _ _ (fun x ⟨ks, l, e1, p⟩ => ⟨ks, l, e1, hk.mono _ _ _ _ (fun k ⟨k', d, ek, g, q⟩ => ⟨k', d, ek, g, m _ q⟩) p⟩) p⟩
  refine ⟨B, K, ds, S, ho.mono _ _ _ _ (fun x ⟨ks, l, ex, q⟩ v K1 H1 n1 r1 => ?_) p⟩
  subst ex
  have S1 := S.next n1
  refine ⟨B, K1, ds, S1, hk.mono _ _ _ _ (fun y ⟨k, d, ek, g, q⟩ w K2 H2 n2 r2 => ?_) q⟩
  subst ek
  cases r2
  cases r1 with
  | dic a vs _ _ n h r =>
  obtain ⟨v, hv, rv⟩ := getS_rep k d (r.mono n2.kk) g
  exact ⟨a, v, rfl, .inl ⟨_, .inr k, .inl (n2.kh _ _ (n2.kk _ _ h)), rfl, hv.symm⟩, q v K2 H2 (Nx.trans S.bag n1 n2) rv⟩
end
end K8
set_option Elab.async false
set_option linter.all false
set_option maxRecDepth 100000
set_option maxHeartbeats 4000000
namespace K8
open PySem PySem.Spec PyProof.Rows L2
section
variable {P : Program} {w : World} {K : PySem.W.Frag} {mg : Str → Option Value} {base : Heap}

structure TlOk (ts : List Str) (tl : List Tel) : Prop where
  th : GThings ts
  tel : ∀ t ∈ tl, GTel ts t
  n2 : 2 ≤ ts.length
  n4 : ts.length ≤ 4
  nd : ts.Nodup
  t4 : tl.length ≤ 4
def FT (ts : List Str) (tl : List Tel) (x : Vec) : Prop := Fit ts.length (rowsOf ts tl "alike") (rowsOf ts tl "heavier") (rowsOf ts tl "unlike") x
theorem rowOf_len (ts a b : List Str) : (rowOf ts a b).length = ts.length := by unfold rowOf; simp
theorem rowOf_small {ts a b : List Str} (ha : a.length ≤ 3) (hb : b.length ≤ 3) (i : Nat) : (vf (rowOf ts a b) i).natAbs < 2 ^ 2 := by
  unfold vf rowOf
  rw [List.getD_eq_getElem?_getD, List.getElem?_map]
  cases ts[i]? with
  | none => exact (show (0 : Int).natAbs < 4 by decide)
  | some n =>
    show ((a.count n : Int) - (b.count n : Int)).natAbs < 4
    have h1 : a.count n ≤ a.length := List.count_le_length
    have h2 : b.count n ≤ b.length := List.count_le_length
    omega
theorem rowsOf_mem {ts : List Str} {tl : List Tel} {wd : Str} {r : List Int} (h : r ∈ rowsOf ts tl wd) : ∃ t ∈ tl, t.1 = wd ∧ r = rowOf ts t.2.1 t.2.2 := by
  obtain ⟨t, ht, rfl⟩ := List.mem_map.mp h
  obtain ⟨h1, h2⟩ := List.mem_filter.mp ht
  exact ⟨t, h1, of_decide_eq_true h2, rfl⟩
theorem rowsOf_few (ts : List Str) (tl : List Tel) (wd : Str) : (rowsOf ts tl wd).length ≤ tl.length := by
  unfold rowsOf
  rw [List.length_map]
  exact List.length_filter_le ..
section
variable {ts : List Str} {tl : List Tel}
theorem TlOk.len (h : TlOk ts tl) {wd : Str} : ∀ r ∈ rowsOf ts tl wd, r.length = ts.length := fun r hr => by
  obtain ⟨t, _, _, rfl⟩ := rowsOf_mem hr
  exact rowOf_len ..
theorem TlOk.bits (h : TlOk ts tl) {wd : Str} : ∀ r ∈ rowsOf ts tl wd, ∀ i, (vf r i).natAbs < 2 ^ 2 := fun r hr => by
  obtain ⟨t, ht, _, rfl⟩ := rowsOf_mem hr
  exact rowOf_small (h.tel t ht).l.few (h.tel t ht).r.few
theorem TlOk.few (h : TlOk ts tl) {wd : Str} : (rowsOf ts tl wd).length ≤ 4 := Nat.le_trans (rowsOf_few ..) h.t4
theorem TlOk.wa (h : TlOk ts tl) : WaIn ts.length (rowsOf ts tl "alike") (rowsOf ts tl "heavier") (rowsOf ts tl "unlike") :=
  ⟨h.n2, h.n4, h.len, h.len, h.len, h.bits, h.bits, h.bits, Nat.le_succ_of_le h.few, Nat.le_succ_of_le h.few, Nat.le_succ_of_le h.few⟩
end
theorem few_up {l : List (List Int)} {r : List Int} (h : l.length ≤ 4) : (l ++ [r]).length ≤ 5 := by
  rw [List.length_append]; exact Nat.succ_le_succ h
theorem all_up {p : List Int → Prop} {l : List (List Int)} {r : List Int} (h : ∀ x ∈ l, p x) (hr : p r) : ∀ x ∈ l ++ [r], p x := fun x hx => by
  rcases List.mem_append.mp hx with h' | h'
  · exact h x h'
  · rw [List.mem_singleton.mp h']; exact hr
theorem vf_scale (k : Int) (r : List Int) (i : Nat) : vf (r.map (k * ·)) i = k * vf r i := by
  unfold vf
  rw [List.getD_eq_getElem?_getD, List.getD_eq_getElem?_getD, List.getElem?_map]
  cases r[i]? with
  | none => simp
  | some x => rfl
theorem dot_scale (n : Nat) (k : Int) (r : List Int) (x : Vec) : dotn n (vf (r.map (k * ·))) x = k * dotn n (vf r) x := by
  rw [dotn_congr (u' := fun i => k * vf r i + (fun _ => 0) i) (v' := x) (fun i _ => by rw [vf_scale]; simp) (fun _ _ => rfl), dotn_lin, dotn_zero]
  omega
def W_some_worths (K : PySem.W.Frag) : DW := fun _ l P => ∃ ts tl, l = [toldD K ts tl] ∧ TlOk ts tl ∧ (∃ x, FT ts tl x) ∧ P = fun d => ∃ y : List Int, d = .dic (ts.map Sum.inr) (y.map .int) ∧ y.length = ts.length ∧ FT ts tl (vf y)
theorem G_some_worths (T : Tx K mg) : FnOk P w K mg base CX0 14 (He.ga K "some_worths") T.d_some_worths.fd ["told"] (spW K (W_some_worths K)) := by
  refine fn_okD (k := 13) T.d_some_worths.F sc_some_worths ?_ (by decide) (fun cdv A outer s H E hr => ?_)
  · intro bg l P h
    obtain ⟨x, y, rfl, _⟩ := h; rfl
  · refine ⟨_, (xs_cons (xs_set (i := 1) sc_some_worths.nd rfl (.inl rfl) (x_call (G_worths_above T) (hr.mono (by decide)) (by rfl) T.d_worths_above.g T.d_worths_above.F.kp T.d_worths_above.b (xa_cons (x_var (pv 0)) (xa_cons (x_meth T.cls T.h_rows (G_Told_rows T) (hr.mono (by decide)) T.m_rows.b (x_var (pv 0)) (xa_cons x_str xa_nil)) (xa_cons (x_meth T.cls T.h_rows (G_Told_rows T) (hr.mono (by decide)) T.m_rows.b (x_var (pv 0)) (xa_cons x_str xa_nil)) xa_nil)))))
    (xs_cons (xs_if (xt_cmp op_isN r2_isN (x_var (pv 1)) x_non (nomark _)) (xs_one xs_never) xs_nil)
    (xs_one (xs_ret (x_var (pv 1)))))), ?_⟩
    intro bg l P h
    obtain ⟨ts, tl, rfl, hok, ⟨x, hx⟩, rfl⟩ := h
    simp [toldD, and_assoc]
    refine ⟨by decide, by decide, _, ⟨ts, tl, "alike", rfl, rfl⟩, ?_⟩
    rintro _ rfl
    refine ⟨by decide, by decide, _, ⟨ts, tl, "heavier", rfl, rfl⟩, ?_⟩
    rintro _ rfl
    refine ⟨_, ⟨ts, tl, _, _, rfl, hok.nd, hok.wa, rfl⟩, ?_⟩
    rintro _ (⟨rfl, hn⟩ | ⟨y, rfl, yl, hy⟩)
    · exact absurd hx (hn x)
    · exact ⟨rfl, y, rfl, yl, hy⟩

def W_stands_all (K : PySem.W.Frag) : DW := fun _ l P => ∃ ts tl, l = [toldD K ts tl] ∧ TlOk ts tl ∧ P = fun d => (d = .bl true ∧ ∃ x, FT ts tl x) ∨ (d = .bl false ∧ ∀ x, ¬FT ts tl x)
theorem G_stands_all (T : Tx K mg) : FnOk P w K mg base CX0 14 (He.ga K "stands_all") T.d_stands_all.fd ["told"] (spW K (W_stands_all K)) := by
  refine fn_okD (k := 13) T.d_stands_all.F sc_stands_all ?_ (by decide) (fun cdv A outer s H E hr => ?_)
  · intro bg l P h
    obtain ⟨x, y, rfl, _⟩ := h; rfl
  · refine ⟨_, (xs_one (xs_ret (x_cmp op_notN r2_notN (x_call (G_worths_above T) (hr.mono (by decide)) (by rfl) T.d_worths_above.g T.d_worths_above.F.kp T.d_worths_above.b (xa_cons (x_var (pv 0)) (xa_cons (x_meth T.cls T.h_rows (G_Told_rows T) (hr.mono (by decide)) T.m_rows.b (x_var (pv 0)) (xa_cons x_str xa_nil)) (xa_cons (x_meth T.cls T.h_rows (G_Told_rows T) (hr.mono (by decide)) T.m_rows.b (x_var (pv 0)) (xa_cons x_str xa_nil)) xa_nil)))) x_non (nomark _)))), ?_⟩
    intro bg l P h
    obtain ⟨ts, tl, rfl, hok, rfl⟩ := h
    simp [toldD, and_assoc]
    refine ⟨by decide, by decide, _, ⟨ts, tl, "alike", rfl, rfl⟩, ?_⟩
    rintro _ rfl
    refine ⟨by decide, by decide, _, ⟨ts, tl, "heavier", rfl, rfl⟩, ?_⟩
    rintro _ rfl
    refine ⟨_, ⟨ts, tl, _, _, rfl, hok.nd, hok.wa, rfl⟩, ?_⟩
    rintro _ (⟨rfl, hn⟩ | ⟨y, rfl, yl, hy⟩)
    · exact .inr ⟨rfl, hn⟩
    · exact .inl ⟨rfl, _, hy⟩


/-- the sign of one less other by x -/
def SgOk (ts a b : List Str) (sg : Int) (x : Vec) : Prop := if sg = 0 then dotn ts.length (vf (rowOf ts a b)) x = 0 else 0 < sg * dotn ts.length (vf (rowOf ts a b)) x
def W_worths_for (K : PySem.W.Frag) : DW := fun _ l P => ∃ ts tl a b sg, l = [toldD K ts tl, .tup [solD a, solD b], .int sg] ∧ TlOk ts tl ∧ a.length ≤ 3 ∧ b.length ≤ 3 ∧ (∃ x, FT ts tl x) ∧ (sg = 0 ∨ sg = 1 ∨ sg = -1) ∧ P = fun d => (d = .non ∧ ∀ x, FT ts tl x → ¬ SgOk ts a b sg x) ∨ ∃ y : List Int, isNon d = false ∧ FT ts tl (vf y) ∧ SgOk ts a b sg (vf y)
theorem G_worths_for (T : Tx K mg) : FnOk P w K mg base CX0 15 (He.ga K "worths_for") T.d_worths_for.fd ["told", "pair", "sign"] (spW K (W_worths_for K)) := by
  refine fn_okD (k := 14) T.d_worths_for.F sc_worths_for ?_ (by decide) (fun cdv A outer s H E hr => ?_)
  · intro bg l P h
    obtain ⟨x, y, z, t, u, rfl, _⟩ := h; rfl
  · refine ⟨_, (xs_cons (xs_expr (x_call (G_some_worths T) (hr.mono (by decide)) (by rfl) T.d_some_worths.g T.d_some_worths.F.kp T.d_some_worths.b (xa_cons (x_var (pv 0)) xa_nil)))
    (xs_cons (xs_par3 (i := 3) (j := 4) (k := 5) rfl sc_worths_for.nd rfl rfl rfl (by decide) (by decide) (by decide) rfl rfl rfl (xa_cons (x_meth T.cls T.h_rows (G_Told_rows T) (hr.mono (by decide)) T.m_rows.b (x_var (pv 0)) (xa_cons x_str xa_nil)) (xa_cons (x_meth T.cls T.h_rows (G_Told_rows T) (hr.mono (by decide)) T.m_rows.b (x_var (pv 0)) (xa_cons x_str xa_nil)) (xa_cons (x_call (G_row_of T.toTxt) (hr.mono (by decide)) (by rfl) T.d_row_of.g T.d_row_of.F.kp T.d_row_of.b (xa_cons (x_prop (x := "its_things") T.cls T.prop (T.pok 0) (hr.mono (by decide)) T.pb (x_var (pv 0))) (xa_cons (x_var (pv 1)) xa_nil))) xa_nil))) (by rfl))
    (xs_cons (xs_if (xt_cmp op_eq r2_eq (x_var (pv 2)) x_int (nomark _)) (xs_one (xs_ret (x_call (G_worths_above T) (hr.mono (by decide)) (by rfl) T.d_worths_above.g T.d_worths_above.F.kp T.d_worths_above.b (xa_cons (x_var (pv 0)) (xa_cons (x_lst (xa_star (x_var (pv 3)) (xa_cons (x_var (pv 5)) xa_nil))) (xa_cons (x_var (pv 4)) xa_nil)))))) xs_nil)
    (xs_one (xs_ret (x_call (G_worths_above T) (hr.mono (by decide)) (by rfl) T.d_worths_above.g T.d_worths_above.F.kp T.d_worths_above.b (xa_cons (x_var (pv 0)) (xa_cons (x_var (pv 3)) (xa_cons (x_lst (xa_star (x_var (pv 4)) (xa_cons (x_call (G_times T.toTxt) (hr.mono (by decide)) (by rfl) T.d_times.g T.d_times.F.kp T.d_times.b (xa_cons (x_var (pv 5)) (xa_cons (x_var (pv 2)) xa_nil))) xa_nil))) xa_nil))))))))), ?_⟩
    intro bg l P h
    obtain ⟨ts, tl, a, b, sg, rfl, hok, ha, hb, hx, hs, rfl⟩ := h
    simp [toldD, look1, look2, and_assoc]
    refine ⟨_, ⟨ts, tl, rfl, hok, hx, rfl⟩, ?_⟩
    rintro _ _
    refine ⟨by decide, by decide, _, ⟨ts, tl, "alike", rfl, rfl⟩, ?_⟩
    rintro _ rfl
    refine ⟨by decide, by decide, _, ⟨ts, tl, "heavier", rfl, rfl⟩, ?_⟩
    rintro _ rfl
    refine ⟨_, ⟨solD ts, ts, a, b, rfl, .inr rfl, rfl⟩, ?_⟩
    rintro _ rfl
    have rl := rowOf_len ts a b
    have rs := rowOf_small (ts := ts) ha hb
    by_cases z : sg = 0
    · subst z
      refine ⟨.bl true, .inr ⟨by simp [sEq], rfl⟩, .inr ⟨rfl, (rowsOf ts tl "alike").map row, .inl rfl, ?_, ?_⟩⟩
      · rw [List.length_map]
        exact Nat.le_trans (Nat.succ_le_succ hok.few) (by decide)
      · refine ⟨_, ⟨ts, tl, rowsOf ts tl "alike" ++ [rowOf ts a b], rowsOf ts tl "heavier", by simp [toldD, rows], hok.nd, ⟨hok.n2, hok.n4, all_up hok.len rl, hok.len, hok.len, all_up hok.bits rs, hok.bits, hok.bits, few_up hok.few, hok.wa.cg, hok.wa.cu⟩, rfl⟩, ?_⟩
        rintro _ (⟨rfl, hn⟩ | ⟨y, rfl, yl, hy⟩)
        · refine .inl ⟨rfl, fun x fx sx => hn x ⟨all_up fx.1 ?_, fx.2.1, fx.2.2⟩⟩
          unfold SgOk at sx
          rw [if_pos rfl] at sx
          exact sx
        · refine .inr ⟨rfl, y, ⟨fun r hr => hy.1 r (List.mem_append_left _ hr), hy.2.1, hy.2.2⟩, ?_⟩
          unfold SgOk
          rw [if_pos rfl]
          exact hy.1 _ (List.mem_append_right _ (List.mem_singleton.mpr rfl))
    · have s1 : sg.natAbs = 1 := by omega
      refine ⟨.bl false, .inl ⟨by simp [sEq, z], rfl⟩, .inl ⟨rfl, (rowsOf ts tl "heavier").map row, .inl rfl, _, ⟨_, sg, rfl, fun p hp => IntMulOk.of_left (by rcases hs with h | h | h <;> rw [h] <;> decide), rfl⟩, ?_⟩⟩
      rintro _ rfl
      refine ⟨?_, ?_⟩
      · rw [List.length_map]
        exact Nat.le_trans (Nat.succ_le_succ hok.few) (by decide)
      · have sl : ((rowOf ts a b).map (sg * ·)).length = ts.length := by rw [List.length_map, rl]
        have sm : ∀ i, (vf ((rowOf ts a b).map (sg * ·)) i).natAbs < 2 ^ 2 := fun i => by
          rw [vf_scale, Int.natAbs_mul, s1, Nat.one_mul]
          exact rs i
        refine ⟨_, ⟨ts, tl, rowsOf ts tl "alike", rowsOf ts tl "heavier" ++ [(rowOf ts a b).map (sg * ·)], by simp [toldD, rows], hok.nd, ⟨hok.n2, hok.n4, hok.len, all_up hok.len sl, hok.len, hok.bits, all_up hok.bits sm, hok.bits, hok.wa.ca, few_up hok.few, hok.wa.cu⟩, rfl⟩, ?_⟩
        rintro _ (⟨rfl, hn⟩ | ⟨y, rfl, yl, hy⟩)
        · refine .inl ⟨rfl, fun x fx sx => hn x ⟨fx.1, all_up fx.2.1 ?_, fx.2.2⟩⟩
          unfold SgOk at sx
          rw [if_neg z] at sx
          rw [dot_scale]
          exact sx
        · refine .inr ⟨rfl, y, ⟨hy.1, fun r hr => hy.2.1 r (List.mem_append_left _ hr), hy.2.2⟩, ?_⟩
          unfold SgOk
          rw [if_neg z, ← dot_scale]
          exact hy.2.1 _ (List.mem_append_right _ (List.mem_singleton.mpr rfl))


/-- what a word says -/
def WordIs (ts : List Str) (tl : List Tel) (a b : List Str) (wd : Str) : Prop :=
  (wd = "alike" ∧ Orth ts.length (rowsOf ts tl "alike") (rowOf ts a b)) ∨ (¬ Orth ts.length (rowsOf ts tl "alike") (rowOf ts a b) ∧
    ((wd = "heavier" ∧ ∀ x, FT ts tl x → ¬ SgOk ts a b (-1) x) ∨ ((∃ x, FT ts tl x ∧ SgOk ts a b (-1) x) ∧
    ((wd = "lighter" ∧ ∀ x, FT ts tl x → ¬ SgOk ts a b 1 x) ∨ ((∃ x, FT ts tl x ∧ SgOk ts a b 1 x) ∧
    ((wd = "unlike" ∧ ∀ x, FT ts tl x → ¬ SgOk ts a b 0 x) ∨ (wd = "open" ∧ ∃ x, FT ts tl x ∧ SgOk ts a b 0 x)))))))
def W_word_of (K : PySem.W.Frag) : DW := fun _ l P => ∃ ts tl a b, l = [toldD K ts tl, .tup [solD a, solD b]] ∧ TlOk ts tl ∧ a.length ≤ 3 ∧ b.length ≤ 3 ∧ (∃ x, FT ts tl x) ∧ P = fun d => ∃ wd : Str, d = .str wd ∧ WordIs ts tl a b wd
theorem G_word_of (T : Tx K mg) : FnOk P w K mg base CX0 16 (He.ga K "word_of") T.d_word_of.fd ["told", "pair"] (spW K (W_word_of K)) := by
  refine fn_okD (k := 15) T.d_word_of.F sc_word_of ?_ (by decide) (fun cdv A outer s H E hr => ?_)
  · intro bg l P h
    obtain ⟨x, y, z, t, rfl, _⟩ := h; rfl
  · refine ⟨_, (xs_cons (xs_expr (x_call (G_some_worths T) (hr.mono (by decide)) (by rfl) T.d_some_worths.g T.d_some_worths.F.kp T.d_some_worths.b (xa_cons (x_var (pv 0)) xa_nil)))
    (xs_cons (xs_set (i := 2) sc_word_of.nd rfl (.inl rfl) (x_call (G_row_of T.toTxt) (hr.mono (by decide)) (by rfl) T.d_row_of.g T.d_row_of.F.kp T.d_row_of.b (xa_cons (x_prop (x := "its_things") T.cls T.prop (T.pok 0) (hr.mono (by decide)) T.pb (x_var (pv 0))) (xa_cons (x_var (pv 1)) xa_nil))))
    (xs_cons (xs_if (xt_val (x_call (G_is_held T.toTxt) (hr.mono (by decide)) (by rfl) T.d_is_held.g T.d_is_held.F.kp T.d_is_held.b (xa_cons (x_meth T.cls T.h_rows (G_Told_rows T) (hr.mono (by decide)) T.m_rows.b (x_var (pv 0)) (xa_cons x_str xa_nil)) (xa_cons (x_var (pv 2)) xa_nil)))) (xs_one (xs_ret x_str)) xs_nil)
    (xs_cons (xs_if (xt_cmp op_isN r2_isN (x_call (G_worths_for T) (hr.mono (by decide)) (by rfl) T.d_worths_for.g T.d_worths_for.F.kp T.d_worths_for.b (xa_cons (x_var (pv 0)) (xa_cons (x_var (pv 1)) (xa_cons (x_un un_neg u1_I x_int) xa_nil)))) x_non (nomark _)) (xs_one (xs_ret x_str)) xs_nil)
    (xs_cons (xs_if (xt_cmp op_isN r2_isN (x_call (G_worths_for T) (hr.mono (by decide)) (by rfl) T.d_worths_for.g T.d_worths_for.F.kp T.d_worths_for.b (xa_cons (x_var (pv 0)) (xa_cons (x_var (pv 1)) (xa_cons x_int xa_nil)))) x_non (nomark _)) (xs_one (xs_ret x_str)) xs_nil)
    (xs_one (xs_ret (x_if (xt_cmp op_isN r2_isN (x_call (G_worths_for T) (hr.mono (by decide)) (by rfl) T.d_worths_for.g T.d_worths_for.F.kp T.d_worths_for.b (xa_cons (x_var (pv 0)) (xa_cons (x_var (pv 1)) (xa_cons x_int xa_nil)))) x_non (nomark _)) x_str x_str)))))))), ?_⟩
    intro bg l P h
    obtain ⟨ts, tl, a, b, rfl, hok, ha, hb, hx, rfl⟩ := h
    simp [toldD, look1, look2, and_assoc]
    refine ⟨_, ⟨ts, tl, rfl, hok, hx, rfl⟩, ?_⟩
    rintro _ _
    refine ⟨_, ⟨solD ts, ts, a, b, rfl, .inr rfl, rfl⟩, ?_⟩
    rintro _ rfl
    refine ⟨by decide, by decide, _, ⟨ts, tl, "alike", rfl, rfl⟩, ?_⟩
    rintro _ rfl
    have rl := rowOf_len ts a b
    have rs := rowOf_small (ts := ts) ha hb
    have wf : ∀ sg : Int, (sg = 0 ∨ sg = 1 ∨ sg = -1) → W_worths_for K none [D.ins (He.ga K "Told") ["its_things", "its_tellings"] [solD ts, .lst (tl.map telD)], .tup [solD a, solD b], .int sg] _ := fun sg hs => ⟨ts, tl, a, b, sg, rfl, hok, ha, hb, hx, hs, rfl⟩
    refine ⟨_, ⟨rowsOf ts tl "alike", rowOf ts a b, ts.length, 2, rfl, ⟨all_up hok.len rl, by decide, all_up hok.bits rs, Nat.le_trans (gr_le (few_up hok.few) 2) (by decide), Nat.le_trans (few_up hok.few) (by decide), Nat.le_trans hok.n4 (by decide)⟩, rfl⟩, ?_⟩
    rintro _ ⟨k, rfl, hk⟩
    cases k with
    | true => exact .inr ⟨rfl, .inl ⟨rfl, hk.mp rfl⟩⟩
    | false =>
      have no : ¬ Orth ts.length (rowsOf ts tl "alike") (rowOf ts a b) := fun h => by cases hk.mpr h
      refine .inl ⟨rfl, _, wf (-1) (.inr (.inr rfl)), ?_⟩
      rintro _ (⟨rfl, h1⟩ | ⟨y1, n1, f1, g1⟩)
      · exact .inr ⟨rfl, .inr ⟨no, .inl ⟨rfl, h1⟩⟩⟩
      refine .inl ⟨n1, _, wf 1 (.inr (.inl rfl)), ?_⟩
      rintro _ (⟨rfl, h2⟩ | ⟨y2, n2, f2, g2⟩)
      · exact .inr ⟨rfl, .inr ⟨no, .inr ⟨⟨_, f1, g1⟩, .inl ⟨rfl, h2⟩⟩⟩⟩
      refine .inl ⟨n2, _, wf 0 (.inl rfl), ?_⟩
      rintro _ (⟨rfl, h3⟩ | ⟨y3, n3, f3, g3⟩)
      · exact .inr ⟨rfl, .inr ⟨no, .inr ⟨⟨_, f1, g1⟩, .inr ⟨⟨_, f2, g2⟩, .inl ⟨rfl, h3⟩⟩⟩⟩⟩
      · exact .inl ⟨n3, .inr ⟨no, .inr ⟨⟨_, f1, g1⟩, .inr ⟨⟨_, f2, g2⟩, .inr ⟨rfl, _, f3, g3⟩⟩⟩⟩⟩
end
end K8
set_option Elab.async false
set_option linter.all false
set_option maxRecDepth 100000
set_option maxHeartbeats 4000000
/-! the law's bag: reads and stores -/
namespace K8
open PySem PySem.Spec PyProof.Rows L2
open Evl (Ex ex_l ex_t ex_rd)
def bagO (x0 x1 i : Int) (c : Addr) : HO := .lst [.int x0, .int x1, .int i, .ref c]
theorem BagC.set {K H : Hp} {b c : Addr} (h : BagC K H b c) {y0 y1 j : Int} (h0 : 0 ≤ y0) (h1 : 0 ≤ y1 ∧ y1 < 2147483647) (h2 : 0 ≤ j) : BagC K (upd H b (bagO y0 y1 j c)) b c := by
  obtain ⟨x0, x1, i, cells, g1, g2, g3, g4, g5, g6, g7⟩ := h
  exact ⟨y0, y1, j, cells, upd_same, g2, h0, h1, h2, g6, g7⟩
theorem BagC.one {K H : Hp} {b c c' : Addr} (h : BagC K H b c) (h' : BagC K H b c') : c' = c := by
  obtain ⟨_, _, _, _, g1, _⟩ := h
  obtain ⟨_, _, _, _, g2, _⟩ := h'
  rw [g1] at g2
  injection g2 with g3
  injection g3 with g4
  simp only [List.cons.injEq, V.ref.injEq, and_true] at g4
  exact g4.2.2.2.symm
theorem Nx.bagSet {K H : Hp} {b c : Addr} (kh : Ex K H) (kb : K b = none) (h : BagC K H b c) {y0 y1 j : Int} (h0 : 0 ≤ y0) (h1 : 0 ≤ y1 ∧ y1 < 2147483647) (h2 : 0 ≤ j) : Nx (some b) K H K (upd H b (bagO y0 y1 j c)) where
  le := fun a o n e => (upd_ne (fun z => n (by rw [z]))).trans e
  bag := fun b' c' e h' => by
    cases e
    rw [h.one h']
    exact h.set h0 h1 h2
  kk := Ex.refl K
  fr := fun _ _ => rfl
  kh := fun a o e => (upd_ne (fun z => by rw [z, kb] at e; cases e)).trans (kh a o e)
def okB : Nat → Int → Prop
  | 1, x => 0 ≤ x ∧ x < 2147483647
  | _, x => 0 ≤ x
/-- the bag is at slot i -/
def BagAt (i : Nat) (bg : BG) (ds : DS) : Prop := ∃ b, bg = some b ∧ ds[i]? = some (.val (.ref b))
@[simp] def dBagIx (i j : Nat) : DE := fun bg ds P => BagAt i bg ds ∧ ∀ x, okB j x → P (.int x)
def rGetL : V → V → Hp → VK → Prop := fun o i H Q => ∃ p xs k v, o = .ref p ∧ i = .int ((k : Nat) : Int) ∧ H p = some (.lst xs) ∧ k < 100 ∧ xs[k]? = some v ∧ Q v H
theorem get_list0 {X : Cx} : PGet X rGetL := by
  intro pins s σ H o i ov iv Q I ro ri h
  obtain ⟨p, xs, k, v, rfl, rfl, hp, hk, hv, q⟩ := h
  cases ro
  obtain ⟨t, rfl⟩ := ri
  obtain ⟨its, r, pl, hz⟩ := I.list (.inl (.inl hp))
  obtain ⟨w, ew, rw'⟩ := r.get hv
  exact wpAny_getItem_list pl.isList (by omega) (by omega) (by simpa using ew) ⟨v, H, I, rw', q⟩
section
variable {X : Cx} {pos : Pos} {e o a : Expr} {i : Nat} {bg : BG}
theorem bag_of {F : PySem.W.Frag} {B : Bs} {K H : Hp} {σ : L2.St} {ds : DS} (S : SE F B K σ H ds) {i : Nat} (h : BagAt i B.bg ds) : ∃ (b : Addr) (x0 x1 k : Int) (cells : List Int), B.bg = some b ∧ σ[i]? = some (some (.ref b)) ∧ K b = none ∧ H b = some (bagO x0 x1 k B.c) ∧ BagC K H b B.c ∧
    0 ≤ x0 ∧ (0 ≤ x1 ∧ x1 < 2147483647) ∧ 0 ≤ k ∧ K B.c = some (.lst (cells.map V.int)) ∧ cells.length ≤ 63 ∧ ∀ z ∈ cells, 0 ≤ z := by
  obtain ⟨b, e, ed⟩ := h
  obtain ⟨v, ev, rv⟩ := S.env i _ ed
  cases rv
  have bc := S.bagc b e
  obtain ⟨x0, x1, k, cells, g1, g2, g3, g4, g5, g6, g7⟩ := id bc
  exact ⟨b, x0, x1, k, cells, e, ev, S.kb b e, g1, bc, g3, g4, g5, g2, g6, g7⟩
theorem x_bagIx {j : Nat} (hj : j = 0 ∨ j = 1 ∨ j = 2) (ho : PE X o (tVar i)) (hb : PE X e (tC (.int ((j : Nat) : Int)))) (hs : PlainIx e) : PX X (.Subscript o e pos) (dBagIx i j) := by
  refine ⟨(pe_ix ix_seq ho hb hs).weak fun σ H Q ⟨B, K, ds, S, at', p⟩ => ?_, fun bg ds P P' m ⟨h, p⟩ => ⟨h, fun x hx => m _ (p x hx)⟩⟩
  obtain ⟨b, x0, x1, k, cells, eb, ev, kb, g1, bc, g3, g4, g5, _⟩ := bag_of S at'
  refine ⟨_, ev, .inl ?_⟩
  rcases hj with rfl | rfl | rfl
  · exact ⟨b, _, _, .int x0, rfl, rfl, .inl (.inl g1), rfl, p x0 g3 _ K H (Nx.refl S.kh) (.int _)⟩
  · exact ⟨b, _, _, .int x1, rfl, rfl, .inl (.inl g1), rfl, p x1 g4 _ K H (Nx.refl S.kh) (.int _)⟩
  · exact ⟨b, _, _, .int k, rfl, rfl, .inl (.inl g1), rfl, p k g5 _ K H (Nx.refl S.kh) (.int _)⟩
/-- bag[j] = e -/
@[simp] def dBagSet (i j : Nat) (fe : DE) : DSm := fun bg E ds => BagAt i bg ds ∧ fe bg ds fun d => ∃ x, d = .int x ∧ okB j x ∧ E.nx ds
theorem xs_bagSet {j : Nat} {b : Expr} {fe : DE} {spos : Pos} (hj : j = 0 ∨ j = 1 ∨ j = 2) (ho : PE X o (tVar i)) (hb : PE X b (tC (.int ((j : Nat) : Int)))) (he : PX X e fe)
    (ha : ∀ v, assign (.Subscript o b spos) X.env v = (do
      let ov ← holding [v] (eval o X.env)
      let iv ← holding [v, ov] (eval b X.env)
      standAt spos
      holding [v, ov, iv] (setItem ov iv v)
      release [v, ov, iv] []) := by intro _; rfl)
    (hs : swapsWithSole [.Subscript o b spos] e pos.line X.env = pure false := by rfl) (hw : swappedStores [.Subscript o b spos] e X.env = pure none := by rfl)
    (h1 : (assignEach [.Subscript o b spos] X.env).map (·.2) = [assign (.Subscript o b spos) X.env] := by rfl) : PXS X (.Assign [.Subscript o b spos] e pos) (dBagSet i j fe) := by
  refine ⟨(ps_asg he.pe (pg_sub ho hb set_list ha) hs hw h1).weak fun D σ H ⟨B, K, ds, S, at', p⟩ => ?_, fun bg E E' ds m ⟨h, p⟩ => ⟨h, he.mono _ _ _ _ (fun d ⟨x, e, o, q⟩ => ⟨x, e, o, m.nx _ q⟩) p⟩⟩
  refine ⟨B, K, ds, S, he.mono _ _ _ _ (fun d ⟨x, e, ok, q⟩ v K1 H1 n1 r1 => ?_) p⟩
  subst e
  cases r1
  have S1 := S.next n1
  obtain ⟨b, x0, x1, k, cells, eb, ev, kb, g1, bc, g3, g4, g5, _⟩ := bag_of S1 at'
  refine ⟨_, ev, ?_⟩
  rcases hj with rfl | rfl | rfl
  · exact ⟨b, _, _, 0, rfl, rfl, g1, rfl, q σ K1 _ (S1.next (by rw [eb]; exact Nx.bagSet S1.kh kb bc ok g4 g5))⟩
  · exact ⟨b, _, _, 1, rfl, rfl, g1, rfl, q σ K1 _ (S1.next (by rw [eb]; exact Nx.bagSet S1.kh kb bc g3 ok g5))⟩
  · exact ⟨b, _, _, 2, rfl, rfl, g1, rfl, q σ K1 _ (S1.next (by rw [eb]; exact Nx.bagSet S1.kh kb bc g3 g4 ok))⟩
/-- bag[2] += n -/
@[simp] def dBagInc (i : Nat) : DSm := fun bg E ds => BagAt i bg ds ∧ E.nx ds
theorem xs_bagInc {b : Expr} {n : Int} {spos : Pos} (hn : 0 ≤ n) (ho : PE X o (tVar i)) (hb : PE X b (tC (.int 2))) (he : PE X e (tC (.int n)))
    (ha : ∀ ov iv new, augStore b ov iv new = (do holding [new, ov, iv] (setItem ov iv new); release [new, ov, iv] []; pure .next) := by intros; rfl) : PXS X (.AugAssign (.Subscript o b spos) .Add e pos) (dBagInc i) := by
  refine ⟨(ps_augS ho hb get_list0 he ip_add set_list ha).weak fun D σ H ⟨B, K, ds, S, at', p⟩ => ?_, fun bg E E' ds m ⟨h, p⟩ => ⟨h, m.nx _ p⟩⟩
  obtain ⟨b, x0, x1, k, cells, eb, ev, kb, g1, bc, g3, g4, g5, _⟩ := bag_of S at'
  refine ⟨_, ev, b, _, 2, .int k, rfl, rfl, g1, by decide, rfl, k, n, rfl, rfl, b, _, 2, 2, rfl, rfl, g1, rfl, p σ K _ (S.next (by rw [eb]; exact Nx.bagSet (y0 := x0) (y1 := x1) (j := k + n) S.kh kb bc g3 g4 (by omega)))⟩
/-- if bag[2] < len(bag[3]): cell = bag[3][bag[2]] -/
@[simp] def dCell (i ic : Nat) : DSm := fun bg E ds => BagAt i bg ds ∧ (∀ z : Int, 0 ≤ z → E.nx (ds.set ic (.val (.int z)))) ∧ E.nx ds
theorem xs_cell {o1 o2 o3 o4 k1 k2 k3 k4 : Expr} {p1 p2 p3 p4 p5 p6 p7 p8 p9 p10 : Pos} {ic : Nat} {x : Str} (ho1 : PE X o1 (tVar i)) (ho2 : PE X o2 (tVar i)) (ho3 : PE X o3 (tVar i)) (ho4 : PE X o4 (tVar i))
    (h1 : PE X k1 (tC (.int 2))) (h2 : PE X k2 (tC (.int 3))) (h3 : PE X k3 (tC (.int 3))) (h4 : PE X k4 (tC (.int 2))) (s1 : PlainIx k1) (s2 : PlainIx k2) (s3 : PlainIx k3) (s4 : PlainIx k4) (s5 : PlainIx (.Subscript o4 k4 p4))
    (g : Gl X "len") (hm : X.mg "len" = none) (hv : bootBuiltins "len" = some (.builtin "len")) (hN : X.N.Nodup) (hi : X.N[ic]? = some x) (hx : Loc X.env.scope x)
    (hmk : behindInMarks .Lt (.Call (.Name "len" p5) [.Subscript o2 k2 p2] [] p6) = false) (hsw : swapsWith (.Subscript (.Subscript o3 k3 p3) (.Subscript o4 k4 p4) p7) (some (.Name x p8)) p9.line X.env = pure false := by rfl)
    (hs : starEach [.Subscript o2 k2 p2] X.env = (false, eval (.Subscript o2 k2 p2) X.env) :: starEach [] X.env := by rfl) (hpl : (backTo p6 (starEach [] X.env)).any (·.1) = false := by rfl)
    (hf : X.fn x = true ∨ X.env.scope.names.lookup x = some .local := by first | exact .inl rfl | exact .inr rfl | assumption) :
    PXS X (.If (.Compare (.Subscript o1 k1 p1) [.Lt] [.Call (.Name "len" p5) [.Subscript o2 k2 p2] [] p6] p10) [.Assign [.Name x p8] (.Subscript (.Subscript o3 k3 p3) (.Subscript o4 k4 p4) p7) p9] [] pos) (dCell i ic) := by
  refine ⟨(ps_if (pt_cmpR op_lt (pe_ix ix_seq ho1 h1 s1) (pe_callB call_len g hm hv (pa_cons (pe_ix ix_seq ho2 h2 s2) pa_nil hs) (he := hs) (hpl := hpl)) hmk) (pss_one (ps_set hN hi hx (pe_ix ix_seq (pe_ix ix_seq ho3 h3 s3) (pe_ix ix_seq ho4 h4 s4) s5) hsw hf)) pss_nil).weak fun D σ H ⟨B, K, ds, S, at', p, q⟩ => ?_, fun bg E E' ds m ⟨h, p, q⟩ => ⟨h, fun z hz => m.nx _ (p z hz), m.nx _ q⟩⟩
  obtain ⟨b, x0, x1, k, cells, eb, ev, kb, g1, bc, g3, g4, g5, g6, g7, g8⟩ := bag_of S at'
  have hc : H B.c = some (.lst (cells.map V.int)) := S.kh _ _ g6
  refine ⟨_, ev, .inl ⟨b, _, 2, .int k, rfl, rfl, .inl (.inl g1), rfl, ?_⟩⟩
  refine ⟨_, ev, .inl ⟨b, _, 3, .ref B.c, rfl, rfl, .inl (.inl g1), rfl, ?_⟩⟩
  refine ⟨_, cells.length, rfl, .inl ⟨_, .inl (.inl hc), by rw [List.length_map]⟩, k, cells.length, rfl, rfl, _, rfl, ?_⟩
  by_cases lt : k < (cells.length : Int)
  · rw [decide_eq_true lt]
    simp only [if_true]
    have ln : k.toNat < cells.length := by omega
    refine ⟨_, ev, .inl ⟨b, _, 3, .ref B.c, rfl, rfl, .inl (.inl g1), rfl, ?_⟩⟩
    refine ⟨_, ev, .inl ⟨b, _, 2, .int k, rfl, rfl, .inl (.inl g1), rfl, ?_⟩⟩
    refine .inl ⟨B.c, _, k, .int cells[k.toNat], rfl, rfl, .inl (.inl hc), ?_, ?_⟩
    · have := atI_nat (xs := cells.map V.int) (j := k.toNat) (v := .int cells[k.toNat]) (by simp [List.getElem?_eq_getElem ln])
      rwa [Int.toNat_of_nonneg g5] at this
    · exact p _ (g8 _ (List.getElem_mem ln)) _ K H (S.set (.int _))
  · rw [decide_eq_false lt]
    exact q σ K H S
end
end K8
set_option Elab.async false
set_option linter.all false
set_option maxRecDepth 100000
set_option maxHeartbeats 4000000
namespace K8
open PySem PySem.Spec PyProof.Rows L2
section
variable {P : Program} {w : World} {K : PySem.W.Frag} {mg : Str → Option Value} {base : Heap}

theorem fm_pos {a m : Int} (h : 0 < m) : 0 ≤ a.fmod m ∧ a.fmod m < m := ⟨Int.fmod_nonneg_of_pos a h, Int.fmod_lt_of_pos a h⟩
theorem abs_lt2 {a : Int} {k : Nat} (h0 : 0 ≤ a) (h : a < (2 ^ k : Nat)) : a.natAbs < 2 ^ k := by omega
theorem take_end {m x : Int} (m1 : 1 ≤ m) (m2 : m ≤ 1000000) (hx : okB 1 x) {R : Prop} : IntMulOk (x + 1) 39373 ∧ IntMulOk (((x + 1) * 39373).fmod 1000000007) (((x + 1) * 39373).fmod 1000000007) ∧ IntMulOk ((((x + 1) * 39373).fmod 1000000007 * ((x + 1) * 39373).fmod 1000000007).fmod 998244353) 30011 ∧
    (m ≤ 1000000 ∧ CDivX (((((x + 1) * 39373).fmod 1000000007 * ((x + 1) * 39373).fmod 1000000007).fmod 998244353 * 30011).fmod 998244353) 7 ∧ ¬m = 0 ∧ 0 ≤ ((((((x + 1) * 39373).fmod 1000000007 * ((x + 1) * 39373).fmod 1000000007).fmod 998244353 * 30011).fmod 998244353).fdiv 7).fmod m ∧ ((((((x + 1) * 39373).fmod 1000000007 * ((x + 1) * 39373).fmod 1000000007).fmod 998244353 * 30011).fmod 998244353).fdiv 7).fmod m < m ∨ R) := by
  have h : 0 ≤ x ∧ x < 2147483647 := hx
  have f := fm_pos (a := (x + 1) * 39373) (m := 1000000007) (by decide)
  have g := fm_pos (a := ((x + 1) * 39373).fmod 1000000007 * ((x + 1) * 39373).fmod 1000000007) (m := 998244353) (by decide)
  refine ⟨mulOk (b := 32) (c := 16) (by omega) (by decide) (by decide), mulOk (b := 30) (c := 30) (by omega) (by omega) (by decide), mulOk (b := 30) (c := 16) (by omega) (by decide) (by decide), .inl ⟨m2, ⟨by decide, by decide⟩, by omega, fm_pos (by omega)⟩⟩
theorem log_small {m : Int} (m1 : 1 ≤ m) (m2 : m ≤ 1000000) : CDivX 0 m := by
  refine ⟨by omega, ?_⟩
  have : m.natAbs.log2 < 20 := (Nat.log2_lt (by omega)).mpr (by omega)
  omega
def W_ltake : DW := fun bg l P => ∃ b m, bg = Option.some b ∧ l = [.ref b, .int m] ∧ 1 ≤ m ∧ m ≤ 1000000 ∧ P = fun d => ∃ r : Int, d = .int r ∧ 0 ≤ r ∧ r < m
theorem G_ltake (T : Tx K mg) : FnOk P w K mg base CX0 1 (He.ga K "_law_take") T.d_ltake.fd ["_law_bag_here", "_law_many"] (spW K W_ltake) := by
  refine fn_okD (k := 0) T.d_ltake.F sc_ltake ?_ (by decide) (fun cdv A outer s H E hr => ?_)
  · intro bg l P h
    obtain ⟨x, y, _, rfl, _⟩ := h; rfl
  · refine ⟨_, (xs_cons (xs_if (xt_cmp op_eq r2_eq (x_bagIx (i := 0) (j := 0) (by decide) (pv 0) pe_int (fun _ _ => rfl)) x_int (nomark _)) (xs_cons (xs_set (i := 2) sc_ltake.nd rfl (.inl rfl) x_int)
    (xs_cons (xs_cell (i := 0) (ic := 2) (pv 0) (pv 0) (pv 0) (pv 0) pe_int pe_int pe_int pe_int (fun _ _ => rfl) (fun _ _ => rfl) (fun _ _ => rfl) (fun _ _ => rfl) (fun _ _ => rfl) (by rfl) T.t_len bt_len sc_ltake.nd rfl (.inl rfl) (by rfl))
    (xs_cons (xs_bagInc (i := 0) (n := 1) (by decide) (pv 0) pe_int pe_int)
    (xs_cons (xs_if (xt_cmp op_ge r2_B0 (x_var (pv 2)) x_int (nomark _)) (xs_one (xs_bagSet (i := 0) (j := 0) (by decide) (pv 0) pe_int (x_var (pv 2)))) xs_nil)
    (xs_cons (xs_set (i := 3) sc_ltake.nd rfl (.inl rfl) (x_op op_add r2_I0 (x_op op_add r2_I0 (x_op op_mulX r2_IC (x_bagIx (i := 0) (j := 1) (by decide) (pv 0) pe_int (fun _ _ => rfl)) x_int) (x_op op_modX r2_IC (x_callTy call_int1 c1_int (by rfl) T.t_int bt_int (xa_cons (x_var (pv 2)) xa_nil)) x_int)) (x_op op_mulX r2_IC x_int (x_bagIx (i := 0) (j := 2) (by decide) (pv 0) pe_int (fun _ _ => rfl)))))
    (xs_one (xs_bagSet (i := 0) (j := 1) (by decide) (pv 0) pe_int (x_op op_modX r2_IC (x_callTy call_int1 c1_int (by rfl) T.t_int bt_int (xa_cons (x_var (pv 3)) xa_nil)) x_int)))))))) xs_nil)
    (xs_cons (xs_if (xt_cmp op_gt r2_B0 (x_bagIx (i := 0) (j := 0) (by decide) (pv 0) pe_int (fun _ _ => rfl)) x_int (nomark _)) (xs_cons (xs_set (i := 4) sc_ltake.nd rfl (.inl rfl) (x_op op_modX r2_IC (x_callTy call_int1 c1_int (by rfl) T.t_int bt_int (xa_cons (x_bagIx (i := 0) (j := 0) (by decide) (pv 0) pe_int (fun _ _ => rfl)) xa_nil)) (x_var (pv 1))))
    (xs_cons (xs_bagSet (i := 0) (j := 0) (by decide) (pv 0) pe_int (x_op op_fdivX r2_IC (x_bagIx (i := 0) (j := 0) (by decide) (pv 0) pe_int (fun _ _ => rfl)) (x_var (pv 1))))
    (xs_one (xs_ret (x_var (pv 4)))))) xs_nil)
    (xs_cons (xs_set (i := 5) sc_ltake.nd rfl (.inl rfl) (x_op op_modX r2_IC (x_callTy call_int1 c1_int (by rfl) T.t_int bt_int (xa_cons (x_op op_mulX r2_IC (x_op op_add r2_I0 (x_bagIx (i := 0) (j := 1) (by decide) (pv 0) pe_int (fun _ _ => rfl)) x_int) x_int) xa_nil)) x_int))
    (xs_cons (xs_set (i := 6) sc_ltake.nd rfl (.inl rfl) (x_op op_modX r2_IC (x_callTy call_int1 c1_int (by rfl) T.t_int bt_int (xa_cons (x_op op_mulX r2_IC (x_op op_modX r2_IC (x_callTy call_int1 c1_int (by rfl) T.t_int bt_int (xa_cons (x_op op_mulX r2_IC (x_var (pv 5)) (x_var (pv 5))) xa_nil)) x_int) x_int) xa_nil)) x_int))
    (xs_cons (xs_if (xt_cmp op_gt r2_B0 (x_var (pv 1)) x_int (nomark _)) (xs_one (xs_ret (x_op op_modX r2_IC (x_callTy call_int1 c1_int (by rfl) T.t_int bt_int (xa_cons (x_op op_add r2_I0 (x_op op_mulX r2_IC (x_var (pv 6)) x_int) (x_var (pv 5))) xa_nil)) (x_var (pv 1))))) xs_nil)
    (xs_one (xs_ret (x_op op_modX r2_IC (x_callTy call_int1 c1_int (by rfl) T.t_int bt_int (xa_cons (x_op op_fdivX r2_IC (x_var (pv 6)) x_int) xa_nil)) (x_var (pv 1)))))))))), ?_⟩
    intro bg l P h
    obtain ⟨b, m, rfl, rfl, m1, m2, rfl⟩ := h
    simp [and_assoc]
    have at' : ∀ l : DS, BagAt 0 (Option.some b) (Sl.val (D.ref b) :: l) := fun l => ⟨b, rfl, rfl⟩
    refine ⟨at' _, fun x_ hx_ => ?_⟩
    by_cases e : x_ = 0
    · refine ⟨_, .inr ⟨by rw [e]; rfl, rfl⟩, .inr ⟨rfl, at' _, fun z hz => ⟨at' _, ?_⟩, at' _, ?_⟩⟩
      · by_cases big : z < 1000000000000000000
        · refine .inl ⟨big, ?_⟩
          refine ⟨at' _, fun x hx => ⟨mulOk (b := 31) (c := 16) (by have h : 0 ≤ x ∧ x < 2147483647 := hx; omega) (by decide) (by decide), at' _, fun y hy => ⟨IntMulOk.of_left (by decide), at' _, fm_pos (by decide), at' _, fun x_ hx_ => ?_⟩⟩⟩
          by_cases z0 : x_ ≤ 0
          · exact .inl ⟨z0, at' _, fun x hx => take_end m1 m2 hx⟩
          · refine .inr ⟨by omega, at' _, fun y hy => ⟨by omega, at' _, fun u hu => ⟨log_small m1 m2, ?_, fm_pos (by omega)⟩⟩⟩
            exact Int.fdiv_nonneg hu (by omega)
        · refine .inr ⟨by omega, at' _, hz, ?_⟩
          refine ⟨at' _, fun x hx => ⟨mulOk (b := 31) (c := 16) (by have h : 0 ≤ x ∧ x < 2147483647 := hx; omega) (by decide) (by decide), at' _, fun y hy => ⟨IntMulOk.of_left (by decide), at' _, fm_pos (by decide), at' _, fun x_ hx_ => ?_⟩⟩⟩
          by_cases z0 : x_ ≤ 0
          · exact .inl ⟨z0, at' _, fun x hx => take_end m1 m2 hx⟩
          · refine .inr ⟨by omega, at' _, fun y hy => ⟨by omega, at' _, fun u hu => ⟨log_small m1 m2, ?_, fm_pos (by omega)⟩⟩⟩
            exact Int.fdiv_nonneg hu (by omega)
      · refine fun x hx => ⟨mulOk (b := 31) (c := 16) (by have h : 0 ≤ x ∧ x < 2147483647 := hx; omega) (by decide) (by decide), at' _, fun y hy => ⟨IntMulOk.of_left (by decide), at' _, fm_pos (by decide), at' _, fun x_ hx_ => ?_⟩⟩
        by_cases z0 : x_ ≤ 0
        · exact .inl ⟨z0, at' _, fun x hx => take_end m1 m2 hx⟩
        · refine .inr ⟨by omega, at' _, fun y hy => ⟨by omega, at' _, fun u hu => ⟨log_small m1 m2, ?_, fm_pos (by omega)⟩⟩⟩
          exact Int.fdiv_nonneg hu (by omega)
        
    · refine ⟨_, .inl ⟨by simp [sEq, e], rfl⟩, .inl ⟨rfl, at' _, fun x_ hx_ => ?_⟩⟩
      by_cases z0 : x_ ≤ 0
      · exact .inl ⟨z0, at' _, fun x hx => take_end m1 m2 hx⟩
      · refine .inr ⟨by omega, at' _, fun y hy => ⟨by omega, at' _, fun u hu => ⟨log_small m1 m2, ?_, fm_pos (by omega)⟩⟩⟩
        exact Int.fdiv_nonneg hu (by omega)
end
end K8
set_option Elab.async false
set_option linter.all false
set_option maxRecDepth 100000
set_option maxHeartbeats 4000000
/-! sorted texts, split, a pair turned about, a written dict -/
namespace K8
open PySem PySem.Spec PyProof.Rows L2
open Evl (Ex ex_l ex_t ex_rd)
section
variable {X : Cx} {pos : Pos} {e o : Expr} {fe : DE} {p : Pos}
@[simp] def dSortS (fe : DE) : DE := fun bg ds P => fe bg ds fun x => ∃ xs : List Str, x = .lst (xs.map .str) ∧ xs.length < 64 ∧ ∀ ys : List Str, ys.Perm xs → sortedS ys = true → P (.lst (ys.map .str))
theorem x_sortS (hg : Gl X "sorted") (hm : X.mg "sorted" = none) (he : PX X e fe) (hs1 : starEach [e] X.env = (false, eval e X.env) :: starEach [] X.env := by rfl) : PX X (.Call (.Name "sorted" p) [e] [] pos) (dSortS fe) := by
  refine ⟨(pe_callB cr_sortedS hg hm bt_sorted (pa_cons he.pe pa_nil hs1) (he := hs1)).weak fun σ H Q ⟨B, K, ds, S, p⟩ => ?_, fun bg ds P P' m p => he.mono _ _ _ _ (fun x ⟨ns, e, h, q⟩ => ⟨ns, e, h, fun ms h1 h2 => m _ (q ms h1 h2)⟩) p⟩
  refine ⟨B, K, ds, S, he.mono _ _ _ _ (fun x ⟨ns, ex, hl, q⟩ v K1 H1 n1 r1 => ?_) p⟩
  subst ex
  obtain ⟨a, ws, rfl, h, rw', z⟩ := r1.seqL n1.kh
  rw [Reps.strs rw'] at h
  refine ⟨a, ns, rfl, .inl (.inl h), hl, fun ms p' hpm hsd hn => ?_⟩
  refine q ms hpm hsd _ _ _ (Nx.trans S.bag n1 (Nx.of0 (Nx.new n1.kh hn))) (.lst p' _ _ ?_ upd_same (Reps.of_strs ms))
  rw [List.length_map, hpm.length_eq, sizeLine_eq]
  omega
@[simp] def RSplit (x : D) (l : List D) (z : D) : Prop := ∃ a b : Str, x = .str a ∧ l = [.str b] ∧ (b.length == 0) = false ∧ a.length + 2 ≤ sizeLine ∧ (Txt.split a b).length ≤ sizeLine ∧ z = .lst ((Txt.split a b).map .str)
theorem m1_split {F : PySem.W.Frag} : M1d F "str" (fun x xs H Q => ∃ a b, x = .str a ∧ xs = [.str b] ∧ (b.length == 0) = false ∧ a.length + 2 ≤ sizeLine ∧ rNewStrs (Txt.split a b) H Q) RSplit := by
  rintro K H x dx xs l z Q kh rx rl ⟨a, b, rfl, rfl, hb, ha, hl, rfl⟩ q
  obtain ⟨v, rfl, rv⟩ := reps1 rl
  cases rv
  cases rx
  refine ⟨a, b, rfl, rfl, hb, ha, fun p hp => ?_⟩
  exact q _ _ _ (Nx.new kh hp) (.lst p _ _ (by rw [List.length_map]; exact hl) upd_same (Reps.of_strs _))
end
section
variable {prog : Program} {w : World} {A : Around} {E : Value → Shared → Prop} {s : Shared}
theorem sliceApplied_rev2 {sl : Addr} {vs : Value} {Q : Int × Int × Nat → Shared → Prop} (hs : s.heap.IsSliceOf sl .none .none vs) (ps : IsPart vs (some (-1)))
    (h : Q ((1 : Int), (-1 : Int), 2) s) : wpAny (model prog w) A (Builtin.Slice.sliceApplied (.ref sl) (pure ((2 : Nat) : Int))) Q E s := by
  obtain ⟨os, hos, hcs, hds⟩ := id hs
  unfold Builtin.Slice.sliceApplied Builtin.Slice.sliceFields
  refine wpAny_bind (wpAny_bind (wpAny_field hos hds (x := .none) rfl (wpAny_bind (wpAny_field hos hds (x := .none) rfl (wpAny_bind (wpAny_field hos hds (x := vs) rfl (wpAny_pure ?_)))))))
  refine wpAny_bind (HT.slicePart_ ps ?_)
  show wpAny _ _ (if ((-1 : Int) == 0) = true then _ else _) _ _ s
  rw [if_neg (by decide)]
  refine wpAny_bind (slicePart_none (wpAny_bind (slicePart_none (wpAny_bind (wpAny_pure ?_)))))
  exact wpAny_pure h
theorem getItem_tuple_rev2 {t sl : Addr} {x y : Value} {vs : Value} {Q : Value → Shared → Prop} (ht : IsTup s.heap t #[x, y]) (hs : s.heap.IsSliceOf sl .none .none vs) (ps : IsPart vs (some (-1)))
    (h : Q (.ref s.heap.objs.size) { s with heap := s.heap.push { cls := .type "tuple", data := .seq #[y, x] } }) : wpAny (model prog w) A (getItem (.ref t) (.ref sl)) Q E s := by
  have htake : sizeOk (.seq #[y, x]) := by show 2 ≤ sizeLine; decide
  obtain ⟨os, hos, hcs, hds⟩ := id hs
  have hTs : s.TypeIs (.ref sl) "slice" := ⟨os, hos, hcs⟩
  unfold getItem
  try with_reducible refine wpAny_holding ?_
  first | refine wpAny_bind (wpAny_pure ?_) | skip
  refine wpAny_bind (wpAny_sequenceKey ht.typeIs (by decide) ?_)
  refine wpAny_bind (wpAny_callSpecial?_slot (name := Str.ofString "__getitem__") ht.typeIs PyProof.Rows.slot_tuple_getitem
    (wpAny_call_entry PyProof.Rows.slot_tuple_getitem ht.typeIs PyProof.Rows.entry_tuple_getitem ?_ (PyProof.Rows.args_tuple_getitem _ _)))
  show wpAny _ _ (Builtin.Tuple.tupleItemsOf (.ref t) >>= _) _ _ s
  refine wpAny_bind (tupleItemsOf_ ht ?_)
  refine wpAny_bind (wpAny_typeOf hTs ?_)
  rw [if_pos (by decide)]
  refine wpAny_bind (sliceApplied_rev2 hs ps ?_)
  show wpAny _ _ (if false = true then _ else _) _ _ s
  rw [if_neg Bool.false_ne_true]
  first
    | exact wpAny_bind (m := Builtin.Tuple.tupleExact _) (wpAny_newObj_type (wpAny_pure ⟨_, rfl, wpAny_pure h⟩) htake)
    | exact wpAny_bind (m := Builtin.Tuple.tupleExact _) (wpAny_newObj_type (wpAny_bind (wpAny_pure (wpAny_pure ⟨_, rfl, wpAny_pure h⟩))) htake)
    | exact wpAny_bind (wpAny_bind (m := Builtin.Tuple.tupleExact _) (wpAny_newObj_type (wpAny_pure (wpAny_pure ⟨_, rfl, wpAny_pure h⟩)) htake))
    | exact wpAny_bind (wpAny_bind (m := Builtin.Tuple.tupleExact _) (wpAny_newObj_type (wpAny_pure ⟨_, rfl, wpAny_pure h⟩) htake))
end
section
variable {X : Cx} {pos : Pos} {e o : Expr} {fe : DE} {p : Pos}
def tRev2 (K : PySem.W.Frag) (te : TE) : TE := fun σ H Q => te σ H fun x H1 => ∃ a u v, x = .ref a ∧ SqT K H1 a [u, v] ∧ ∀ p, H1 p = none → Q (.ref p) (upd H1 p (.tup [v, u]))
theorem pe_rev2 {e : Expr} {te : TE} {k : Nat} {p1 p2 p3 pos : Pos} (he : PE X e te) : PE X (.Subscript e (.Slice none none (some (.UnaryOp .USub (.Constant (.int 1) k p1) p2)) p3) pos) (tRev2 X.K te) := by
  refine ⟨fun pins s σ H Q I h => ?_⟩
  refine Subscript_ (thn (he.run pins s σ H _ I h) fun v s1 ⟨x, H1, I1, r1, q1⟩ => ?_)
  obtain ⟨a, u, v', ex, hx, q⟩ := q1
  subst ex
  cases r1
  have hst : PO X (some (.UnaryOp .USub (.Constant (.int 1) k p1) p2)) (tPart (tUn (rU fun i => .int (-i)) (tC (.int 1)))) := po_some (pe_un un_neg pe_int)
  refine wpAny_Slice (thn (po_none.run pins s1 σ H1 (fun o H2 => o = none ∧ H2 = H1) I1 ⟨rfl, rfl⟩) fun vl s2 ⟨l, H2, I2, pl, el, e2⟩ => ?_)
  subst el e2
  refine thn (po_none.run pins s2 σ H2 (fun o H3 => o = none ∧ H3 = H2) I2 ⟨rfl, rfl⟩) fun vu s3 ⟨u3, H3, I3, pu, eu, e3⟩ => ?_
  subst eu e3
  refine thn (hst.run pins s3 σ H3 (fun o H4 => o = some (-1) ∧ H4 = H3) I3 ⟨1, rfl, -1, rfl, rfl, rfl⟩) fun vs s4 ⟨o, H4, I4, ps, eo, e4⟩ => ?_
  subst eo e4
  have I5 : Inv X pins σ H4 { s4 with heap := s4.heap.push { cls := .type "slice", data := .fields #[vl, vu, vs] } } := I4.kept (t' := s4.toks) fun b ob q => Heap.get?_push_of_some _ q
  obtain ⟨its, r, ht, hz⟩ := I5.tuple hx
  cases r with
  | @cons _ x1 _ _ r1 r =>
  cases r with
  | @cons _ x2 _ _ r2 r =>
  cases r
  cases pl
  cases pu
  show wpAny (model X.prog X.w) X.A (subscriptTail e (.Slice none none (some (.UnaryOp .USub (.Constant (.int 1) k p1) p2)) p3) (.ref a) (.ref s4.heap.objs.size)) (EP X pins σ Q) X.xe { s4 with heap := s4.heap.push { cls := .type "slice", data := .fields #[.none, .none, vs] } }
  refine tail_any (ops := [.ref a, .ref s4.heap.objs.size]) ht.typeIs PyProof.Rows.slot_tuple_getitem.lookup ?_ (by with_unfolding_all rfl)
  refine getItem_tuple_rev2 ht (Heap.IsSliceOf.new _ _ _ vs) ps ?_
  refine ⟨.ref _, _, I5.laid (t' := s4.toks) (o := .tup [v', u]) (fun b ob q => Heap.get?_push_of_some _ q) (Nat.le_refl _) ?_, rfl, q _ (I5.hok.fresh (Nat.le_refl _))⟩
  exact ⟨by show 2 ≤ sizeLine; decide, [x2, x1], .cons r2 (.cons r1 .nil), IsTup.new _ _⟩
@[simp] def dRev2 (fe : DE) : DE := fun bg ds P => fe bg ds fun x => ∃ d1 d2, x = .tup [d1, d2] ∧ P (.tup [d2, d1])
theorem x_rev2 {k : Nat} {p1 p2 p3 : Pos} (he : PX X e fe) : PX X (.Subscript e (.Slice none none (some (.UnaryOp .USub (.Constant (.int 1) k p1) p2)) p3) pos) (dRev2 fe) := by
  refine ⟨(pe_rev2 he.pe).weak fun σ H Q ⟨B, K, ds, S, p⟩ => ?_, fun bg ds P P' m p => he.mono _ _ _ _ (fun x ⟨d1, d2, e, q⟩ => ⟨d1, d2, e, m _ q⟩) p⟩
  refine ⟨B, K, ds, S, he.mono _ _ _ _ (fun x ⟨d1, d2, ex, q⟩ v K1 H1 n1 r1 => ?_) p⟩
  obtain ⟨a, vs, rfl, h, r, z⟩ := r1.seqT n1.kh (.inl ex)
  cases r with
  | cons v1 d1 r1 l1 q1 r =>
  cases r with
  | cons v2 d2 r2 l2 q2 r =>
  cases r
  refine ⟨a, v1, v2, rfl, h, fun p hp => ?_⟩
  have n2 : Nx B.bg K1 H1 (upd K1 p (.tup [v2, v1])) (upd H1 p (.tup [v2, v1])) := Nx.new n1.kh hp
  exact q _ _ _ (Nx.trans S.bag n1 n2) (.tup p _ _ (by show 2 ≤ sizeLine; decide) upd_same (.cons _ _ _ _ (q2.mono n2.kk) (.cons _ _ _ _ (q1.mono n2.kk) .nil)))
end
end K8
set_option Elab.async false
set_option linter.all false
set_option maxRecDepth 100000
set_option maxHeartbeats 4000000
/-! dict(pairs) and sorted(dict), keys tuples of ints -/
namespace K8
open PySem PySem.Spec PyProof.Rows L2
open Evl (Ex ex_l ex_t ex_rd)
theorem atKey_none {K : Type} [DecidableEq K] {xs : List (K × Addr × Value)} {k : K} (h : k ∉ xs.map (·.1)) : atKey xs k = none := by
  cases e : atKey xs k with
  | none => rfl
  | some p =>
    exact absurd (by
      unfold atKey at e
      obtain ⟨q, hq, _⟩ := Option.map_eq_some_iff.mp e
      have h1 := List.mem_of_find?_eq_some hq
      have h2 := List.find?_some hq
      exact List.mem_map.mpr ⟨q, h1, by simpa using h2⟩) h
theorem pgetK {α β : Type} {F : α → β → Prop} : ∀ {l₁ : List α} {l₂ : List β} {j : Nat} {x : β}, Paired F l₁ l₂ → l₂[j]? = some x → ∃ y, l₁[j]? = some y ∧ F y x
  | _, _, j, x, .nil, e => by simp at e
  | _, _, 0, x, .cons (a := a) h t, e => ⟨a, rfl, by simp at e; subst e; exact h⟩
  | _, _, j + 1, x, .cons h t, e => by
    obtain ⟨y, h1, h2⟩ := pgetK (j := j) t (by simpa using e)
    exact ⟨y, by simpa using h1, h2⟩
theorem storedAll_new {K : Type} [DecidableEq K] : ∀ (ps xs : List (K × Addr × Value)), ((xs ++ ps).map (·.1)).Nodup → storedAllH xs ps = xs ++ ps
  | [], xs, _ => by simp [storedAllH]
  | p :: ps, xs, h => by
    have e : xs ++ p :: ps = (xs ++ [p]) ++ ps := by simp
    have n : p.1 ∉ xs.map (·.1) := fun z => by
      rw [List.map_append, List.map_cons] at h
      exact (List.nodup_append.mp h).2.2 _ z _ (List.mem_cons_self ..) rfl
    have := storedAll_new ps (xs ++ [p]) (by rw [← e]; exact h)
    show storedAllH (storedH xs p.1 p.2.1 p.2.2) ps = _
    rw [storedH_new (atKey_none n), this, e]
section
variable {X : Cx}
abbrev KB := List (List Key × Addr × V)
theorem pairsT_of {pins : List (Addr × Obj)} {σ : L2.St} {H : Hp} {s : Shared} (I : Inv X pins σ H s) : ∀ {ps : List Addr} {kbs : KB}, Paired (fun p kb => SqT X.K H p [.ref kb.2.1, kb.2.2] ∧ H kb.2.1 = some (.tup (kb.1.map kV))) ps kbs →
    ∃ prs : List (List Key × Addr × Value), Paired (fun p q => p.1 = q.1 ∧ p.2.1 = q.2.1 ∧ H q.2.1 = some (.tup (p.1.map kV)) ∧ RelV p.2.2 q.2.2) kbs prs ∧ prs.length = ps.length ∧ ∀ (j : Nat) (q : List Key × Addr × Value), prs[j]? = some q → ∃ b, ps[j]? = some b ∧ IsTup s.heap b #[.ref q.2.1, q.2.2]
  | _, _, .nil => ⟨[], .nil, rfl, fun j q e => by simp at e⟩
  | _, _, .cons (a := p) (b := kb) h t => by
    obtain ⟨prs, r, hl, hp⟩ := pairsT_of I t
    obtain ⟨its, rv, ht, _⟩ := I.tuple h.1
    obtain ⟨u, y, ei, ru, ry⟩ := vals2 rv
    subst ei
    cases ru
    refine ⟨(kb.1, kb.2.1, y) :: prs, .cons ⟨rfl, rfl, h.2, ry⟩ r, by rw [List.length_cons, List.length_cons, hl], fun j q e => ?_⟩
    cases j with
    | zero =>
      have e' : (kb.1, kb.2.1, y) = q := Option.some.inj e
      subst e'
      exact ⟨p, rfl, ht⟩
    | succ j =>
      obtain ⟨b, e1, e2⟩ := hp j q (by simpa using e)
      exact ⟨b, by simpa using e1, e2⟩
def rDPT (K : PySem.W.Frag) : List V → Hp → VK → Prop := fun xs H Q => ∃ (a : Addr) (ps : List Addr) (kbs : KB), xs = [.ref a] ∧ SqL K H a (ps.map V.ref) ∧ Paired (fun p kb => SqT K H p [.ref kb.2.1, kb.2.2] ∧ H kb.2.1 = some (.tup (kb.1.map kV))) ps kbs ∧
    (kbs.map (·.1)).Nodup ∧ ∀ p, H p = none → Q (.ref p) (upd H p (.dT (kbs.map fun x => (x.1, x.2.2))))
theorem call_dictPT (hu : X.A.units + 2 < cLine) (hcalm : X.calm = true) : CallR X (.type "dict") (rDPT X.K) := by
  intro pins s σ H xs us Q I r q
  obtain ⟨a, ps, kbs, ex, hq, hp, hnd, q⟩ := q
  subst ex
  obtain ⟨u, eu, rx⟩ := vals1 r
  subst eu
  cases rx
  obtain ⟨its, rv, pl, hz⟩ := I.list hq
  have ei := refs_at rv
  subst ei
  rw [List.length_map] at hz
  obtain ⟨prs, rel, hl, hpr⟩ := pairsT_of I hp
  obtain ⟨o, n, ho, hc, hd, hdat⟩ := pl
  have keys : ∀ x ∈ prs, H x.2.1 = some (.tup (x.1.map kV)) := by
    clear hpr hl hp q hnd
    induction rel with
    | nil => exact fun x hx => nomatch hx
    | cons h t ih =>
      intro x hx
      rcases List.mem_cons.mp hx with rfl | hx
      · rw [← h.1]; exact h.2.2.1
      · exact ih x hx
  have same : prs.map (·.1) = kbs.map (·.1) := by
    clear hpr hl hp q hnd keys
    induction rel with
    | nil => rfl
    | cons h t ih => rw [List.map_cons, List.map_cons, ih, h.1]
  refine call_dict_pairsH (knd := tupleKind (mixKind X.prog X.w)) (ps := prs) (PairArg.list a (ps.map Value.ref).toArray (fun j => ps.getD j 0) (prs.map fun q => (Value.ref q.2.1, q.2.2))) (I.ok.hd hcalm) (show X.A.units + 1 + 1 < cLine by omega)
    ⟨⟨o, n, ho, hc, hd, hdat⟩, by simp [hl], fun j k v e => ?_⟩ ⟨by simp, fun i key v e => ?_⟩ (fun h' hk x hx => ?_) (by simp [hl, hz]) fun h' tk hd' k => ?_
  · rw [List.getElem?_map] at e
    obtain ⟨q', hq', e⟩ := Option.map_eq_some_iff.mp e
    cases e
    obtain ⟨b, e1, e2⟩ := hpr j q' hq'
    have e3 : ps.getD j 0 = b := by rw [List.getD_eq_getElem?_getD, e1]; rfl
    exact ⟨by simp [e1, e3], .inl (show IsTup s.heap (ps.getD j 0) _ by rw [e3]; exact e2)⟩
  · show ∃ k b, _
    have e' : (prs.map fun q => (Value.ref q.2.1, q.2.2))[i]? = some (key, v) := e
    rw [List.getElem?_map] at e'
    obtain ⟨q', hq', e'⟩ := Option.map_eq_some_iff.mp e'
    cases e'
    exact ⟨q'.1, q'.2.1, hq', rfl⟩
  · obtain ⟨o1, i1, n1, g1, g2, g3, g4⟩ := key_of (P := X.prog) (w := X.w) I.hok (keys x hx)
    exact ⟨o1, i1, n1, hk _ _ (Nat.ne_of_lt (Heap.lt_size g1)) (fun z => nomatch z) g1, g2, g3, g4⟩
  · have hm : (s.heap.objs.size == sysModules) = false := beq_eq_false_iff_ne.mpr (Nat.ne_of_gt I.big)
    have hn0 := I.hok.fresh (a := s.heap.objs.size) (Nat.le_refl _)
    rw [storedAll_new prs [] (by rw [List.nil_append, same]; exact hnd), List.nil_append] at hd'
    have kt0 : KT H (kbs.map fun x => (x.1, x.2.2)) prs := by
      clear hpr hl hp q hnd keys same hd'
      induction rel with
      | nil => exact .nil
      | cons h t ih => exact .cons ⟨h.1, h.2.2.1, h.2.2.2⟩ ih
    have kt : KT (upd H s.heap.objs.size (.dT (kbs.map fun x => (x.1, x.2.2)))) (kbs.map fun x => (x.1, x.2.2)) prs := kt0.keeps fun c ys ec => (upd_ne (ne_of_none ec hn0)).trans ec
    have hlen : (kbs.map fun x => (x.1, x.2.2)).length ≤ sizeLine := by
      rw [List.length_map, rel.length, hl]
      exact hz
    obtain ⟨o1, es, ep, g1, g2, g3, g4, _, g5⟩ := hd'
    exact ⟨.ref s.heap.objs.size, _, I.laid (t' := tk) (fun b o e => k b o (fun z => nomatch z) e) (Nat.le_refl _) (show ObjOk X.prog X.w _ _ _ (.dT _) from ⟨hlen, hm, prs, kt, o1, es, ep, g1, g2, g3, g4, g5⟩), rfl, q _ hn0⟩
/-- sorted(d), the keys tuples of d ints in [0, B) -/
def rSortDT (K : PySem.W.Frag) : List V → Hp → VK → Prop := fun xs H Q => ∃ (a : Addr) (kvs : List (List Key × V)) (nss : List (List Int)) (d : Nat) (B : Int), xs = [.ref a] ∧ Rd H a (.dT kvs) ∧ kvs.map (·.1) = nss.map (fun ns => ns.map Sum.inl) ∧ nss.length < 64 ∧ 1 ≤ d ∧
    (∀ ns ∈ nss, ns.length = d ∧ TS.Bd B ns) ∧ ∀ (bs : List (Addr × List Int)) p, (bs.map (·.2)).Perm nss → (bs.map (·.2)).Pairwise (fun n m => TS.code B n ≤ TS.code B m) → (∀ x ∈ bs, H x.1 = some (.tup (x.2.map V.int))) → H p = none → Q (.ref p) (upd H p (.lst (bs.map fun x => V.ref x.1)))
def refA : Value → Addr
  | .ref a => a
  | _ => 0
theorem kV_inl (ns : List Int) : (ns.map (Sum.inl : Int → Key)).map kV = ns.map V.int := by rw [List.map_map]; rfl
theorem cr_sortDT (hcalm : X.calm = true) : CallR X (.builtin "sorted") (rSortDT X.K) := by
  intro pins s σ H xs us Q I r q
  obtain ⟨a, kvs, nss, d, B, ex, hd, hks, h64, hd1, hn, q⟩ := q
  subst ex
  obtain ⟨u, eu, rx⟩ := vals1 r
  subst eu
  cases rx
  obtain ⟨z, lo, es0, rel, o, es, ep, g1, g2, g3, g4, g5, g6⟩ := dt_rd I.hok hd
  have hl : es0.length = nss.length := by
    have e := congrArg List.length hks
    rw [List.length_map, List.length_map] at e
    rw [← rel.length, e]
  have hes : es.size = es0.length := size_of_entries g4
  have keyAt : ∀ {i : Nat} {x : List Key × Addr × Value}, es0[i]? = some x → ∃ ns, nss[i]? = some ns ∧ H x.2.1 = some (.tup (ns.map V.int)) := by
    intro i x hx
    obtain ⟨kv, hkv, e1, e2, e3⟩ : ∃ kv, kvs[i]? = some kv ∧ kv.1 = x.1 ∧ H x.2.1 = some (.tup (kv.1.map kV)) ∧ RelV kv.2 x.2.2 := by
      obtain ⟨kv, h1, h2⟩ := pgetK rel hx
      exact ⟨kv, h1, h2.1, h2.2.1, h2.2.2⟩
    have : (kvs.map (·.1))[i]? = some kv.1 := by rw [List.getElem?_map, hkv]; rfl
    rw [hks, List.getElem?_map] at this
    obtain ⟨ns, h1, h2⟩ := Option.map_eq_some_iff.mp this
    refine ⟨ns, h1, ?_⟩
    rw [e2, ← h2, kV_inl]
  refine Calls.call_function_entry PyProof.Rows.kind_sorted PyProof.Rows.plain_sorted PyProof.Rows.entry_sorted (PyProof.Rows.args_sorted1 _) ?_
  unfold Builtin.«sorted»
  refine wpAny_bind (m := checkCount "sorted" 1 1 _) (wpAny_pure ?_)
  refine wpAny_bind (PySem.W.kdu_collect (A := X.A.in1) (KdlSrc.rawDict (es := es) (ep := ep) lo) (I.ok.hd hcalm) ⟨o, g1, g2, g3⟩ (by rw [hes, hl, sizeLine_eq]; omega) fun h' tk acc hk hacc => ?_)
  have hal : acc.toList = es0.map fun x => Value.ref x.2.1 := by
    refine List.ext_getElem? fun j => ?_
    rw [List.getElem?_map]
    cases e : acc.toList[j]? with
    | none =>
      have h1 := List.getElem?_eq_none_iff.mp e
      rw [Array.length_toList, hacc.1, hes] at h1
      rw [List.getElem?_eq_none h1]
      rfl
    | some v =>
      obtain ⟨hi, ev⟩ := hacc.2 j v (by rw [← Array.getElem?_toList]; exact e)
      have h1 := entry_at g4 j
      rw [Array.getElem?_eq_getElem hi] at h1
      cases e2 : es0[j]? with
      | none => rw [e2] at h1; cases h1
      | some x =>
        rw [e2] at h1
        have h2 : es[j] = entryOfKey _ x := Option.some.inj h1
        rw [ev, h2]
        rfl
  have tup : ∀ x ∈ es0, ∃ ns, ns ∈ nss ∧ TS.TupInts s.heap (.ref x.2.1) ns ∧ H x.2.1 = some (.tup (ns.map V.int)) := fun x hx => by
    obtain ⟨i, hi⟩ := List.getElem?_of_mem hx
    obtain ⟨ns, h1, h2⟩ := keyAt hi
    exact ⟨ns, List.mem_of_getElem? h1, tupI_raw I (.inl (.inl h2)), h2⟩
  have I1 : Inv X pins σ H { s with heap := h', toks := tk } := I.kept hk
  have hlen : acc.toList.length = nss.length := by rw [hal, List.length_map, hl]
  refine wpAny_bind (wpAny_newList ?_ (by rw [hlen, sizeLine_eq]; omega))
  have hoL : (h'.push (seqObj "list" acc.toList.toArray 0)).get? h'.objs.size = some (seqObj "list" acc.toList.toArray 0) := Heap.get?_push_size _ rfl
  have kp : ∀ b ob, s.heap.get? b = some ob → (h'.push (seqObj "list" acc.toList.toArray 0)).get? b = some ob := fun b ob e => Heap.get?_push_of_some _ (hk b ob e)
  have tok : TS.TupsOk (h'.push (seqObj "list" acc.toList.toArray 0)) d B acc.toList := fun v hv => by
    rw [hal] at hv
    obtain ⟨x, hx, rfl⟩ := List.mem_map.mp hv
    obtain ⟨ns, h1, h2, h3⟩ := tup x hx
    exact ⟨ns, h2.keeps fun b ob e _ => kp b ob e, hn ns h1⟩
  show wpAny _ _ _ _ _ { s with heap := h'.push (seqObj "list" acc.toList.toArray 0), toks := tk }
  refine wpAny_bind (wpAny_holding (wpAny_call_entry PyProof.Rows.slot_list_sort ⟨_, hoL, rfl⟩ PyProof.Rows.entry_list_sort
    (TS.sort_tups (s := { s with heap := h'.push (seqObj "list" acc.toList.toArray 0), toks := tk }) hoL (by rw [hlen]; exact h64) hd1 tok (fun v => TS.code B (TS.intsOf s.heap v)) (fun v hv ns t => ?_) fun out m1 m2 => ⟨_, rfl, ?_⟩) (PyProof.Rows.args_list_sort _)))
  · rw [hal] at hv
    obtain ⟨x, hx, rfl⟩ := List.mem_map.mp hv
    obtain ⟨ns', h1, h2, h3⟩ := tup x hx
    have e : ns = ns' := t.ints.symm.trans (h2.keeps fun b ob e _ => kp b ob e).ints
    rw [e]
    show TS.code B (TS.intsOf s.heap _) = _
    rw [h2.ints]
  obtain ⟨e', he'⟩ := PyProof.Rows.sortedHeap_at (vs := acc.toList) (out := out) hoL
  have mem : ∀ v ∈ out.toList, ∃ x ∈ es0, v = Value.ref x.2.1 := fun v hv => by
    have h := m1.mem_iff.mp hv
    rw [hal] at h
    obtain ⟨x, hx, rfl⟩ := List.mem_map.mp h
    exact ⟨x, hx, rfl⟩
  let bs : List (Addr × List Int) := out.toList.map fun v => (refA v, TS.intsOf s.heap v)
  have b2 : bs.map (·.2) = out.toList.map (TS.intsOf s.heap) := by rw [List.map_map]; rfl
  have b1 : bs.map (fun x => V.ref x.1) = out.toList.map fun v => V.ref (refA v) := by rw [List.map_map]; rfl
  have nsEq : es0.map (fun x => TS.intsOf s.heap (Value.ref x.2.1)) = nss := by
    refine List.ext_getElem? fun j => ?_
    rw [List.getElem?_map]
    cases e : es0[j]? with
    | none =>
      have h1 := List.getElem?_eq_none_iff.mp e
      rw [List.getElem?_eq_none (by omega)]
      rfl
    | some x =>
      obtain ⟨ns, h1, h2⟩ := keyAt e
      rw [h1]
      exact congrArg some (tupI_raw I (.inl (.inl h2)) : TS.TupInts s.heap (.ref x.2.1) ns).ints
  have vls : Vals (bs.map fun x => V.ref x.1) out.toList := by
    rw [b1]
    clear b1 b2 m1 m2 he'
    clear_value bs
    generalize out.toList = l at mem
    induction l with
    | nil => exact .nil
    | cons v l ih =>
      obtain ⟨x, hx, rfl⟩ := mem v (List.mem_cons_self ..)
      exact .cons (show RelV _ _ from rfl) (ih fun u hu => mem u (List.mem_cons_of_mem _ hu))
  have hlen2 : (bs.map fun x => V.ref x.1).length ≤ sizeLine := by
    rw [vls.length, m1.length_eq, hlen, sizeLine_eq]
    omega
  refine wpAny_pure ⟨_, rfl, .ref h'.objs.size, upd H h'.objs.size (.lst (bs.map fun x => V.ref x.1)), I1.laid (t' := tk) (fun b u e => ?_) (Nat.le_refl _)
    (show ObjOk X.prog X.w _ _ _ (.lst _) from ⟨hlen2, out.toList, e', vls, by rw [Array.toArray_toList]; exact he'⟩), rfl, q bs _ ?_ ?_ ?_ (I1.hok.fresh (Nat.le_refl _))⟩
  · have hb : b < h'.objs.size := Heap.lt_size e
    rw [PyProof.Rows.sortedHeap_old (Nat.ne_of_lt hb) (by rw [size_push']; exact Nat.lt_succ_of_lt hb)]
    exact Heap.get?_push_of_some _ e
  · rw [b2, ← nsEq]
    have := m1.map (TS.intsOf s.heap)
    rwa [hal, List.map_map] at this
  · rw [b2, List.pairwise_map]
    exact m2
  · intro x hx
    obtain ⟨v, hv, rfl⟩ := List.mem_map.mp hx
    obtain ⟨y, hy, rfl⟩ := mem v hv
    obtain ⟨ns, h1, h2, h3⟩ := tup y hy
    show H y.2.1 = some (.tup ((TS.intsOf s.heap (Value.ref y.2.1)).map V.int))
    rw [h2.ints]
    exact h3
end
end K8
set_option Elab.async false
set_option linter.all false
set_option maxRecDepth 100000
set_option maxHeartbeats 4000000
/-! own dicts from pairs, sorted keys, a locked dict for the rest of a suite, a written dict, the bag's birth -/
namespace K8
open PySem PySem.Spec PyProof.Rows L2
open Evl (Ex ex_l ex_t ex_rd)
section
variable {X : Cx} {pos : Pos} {e o : Expr} {fe : DE} {p : Pos}
theorem zip_two {α β γ : Type} (f : α → β) (g : α → γ) : ∀ l : List α, (l.map fun x => (f x, g x)) = (l.map f).zip (l.map g)
  | [] => rfl
  | x :: l => by rw [List.map_cons, List.map_cons, List.map_cons, List.zip_cons_cons, zip_two f g l]
theorem kv_none {K H : Hp} (kh : Ex K H) {p : Addr} (hp : H p = none) : K p = none := by
  cases e : K p with
  | none => rfl
  | some u => rw [kh p u e] at hp; cases hp
theorem pairs_rep {F : PySem.W.Frag} {K H : Hp} (kh : Ex K H) : ∀ {kvs : KD} {ws : List V}, Reps F K ws (kvs.map fun p => .tup [.tup (p.1.map .int), p.2]) →
    ∃ (ps : List Addr) (kbs : KB), ws = ps.map V.ref ∧ Paired (fun p kb => SqT F H p [.ref kb.2.1, kb.2.2] ∧ H kb.2.1 = some (.tup (kb.1.map kV))) ps kbs ∧ kbs.map (·.1) = kvs.map (fun p => p.1.map Sum.inl) ∧ Reps F K (kbs.map (·.2.2)) (kvs.map (·.2))
  | [], _, r => by cases r; exact ⟨[], [], rfl, .nil, rfl, .nil⟩
  | q :: kvs, _, r => by
    rw [List.map_cons] at r
    cases r with
    | cons v d vs l h r =>
      obtain ⟨ps, kbs, rfl, h2, h3, h4⟩ := pairs_rep kh r
      cases h with
      | tup a us _ z h r1 =>
        cases r1 with
        | cons v1 d1 r1 l1 q1 r1 =>
        cases r1 with
        | cons v2 d2 r2 l2 q2 r1 =>
        cases r1
        obtain ⟨b, rfl, hb⟩ := q1.key
        exact ⟨a :: ps, (q.1.map Sum.inl, b, v2) :: kbs, rfl, .cons ⟨.inl (.inl (kh _ _ h)), kh _ _ hb⟩ h2, by rw [List.map_cons, List.map_cons, h3], .cons _ _ _ _ q2 h4⟩
/-- found = dict(pairs) -/
@[simp] def dDP (i : Nat) (fe : DE) : DSm := fun bg E ds => fe bg ds fun d => ∃ kvs : KD, d = .lst (kvs.map fun p => .tup [.tup (p.1.map .int), p.2]) ∧ (kvs.map (·.1)).Nodup ∧ E.nx (ds.set i (.ownT kvs))
theorem xs_setDP {i : Nat} {x : Str} {pos' p2 : Pos} (hu : X.A.units + 2 < cLine) (hc : X.calm = true) (hN : X.N.Nodup) (hi : X.N[i]? = some x) (hx : Loc X.env.scope x) (hg : Gl X "dict") (hm : X.mg "dict" = none) (he : PX X e fe)
    (hs1 : starEach [e] X.env = (false, eval e X.env) :: starEach [] X.env := by rfl) (hs : swapsWith (.Call (.Name "dict" p) [e] [] p2) (some (.Name x pos')) pos.line X.env = pure false := by rfl)
    (hf : X.fn x = true ∨ X.env.scope.names.lookup x = some .local := by first | exact .inl rfl | exact .inr rfl | assumption) : PXS X (.Assign [.Name x pos'] (.Call (.Name "dict" p) [e] [] p2) pos) (dDP i fe) := by
  refine ⟨(ps_set hN hi hx (pe_callTy (call_dictPT hu hc) hg hm (by decide +kernel) (pa_cons he.pe pa_nil hs1) (he := hs1)) hs hf).weak fun D σ H ⟨B, K, ds, S, p⟩ => ?_, fun bg E E' ds l p => he.mono _ _ _ _ (fun d ⟨kvs, e, n, q⟩ => ⟨kvs, e, n, l.nx _ q⟩) p⟩
  refine ⟨B, K, ds, S, he.mono _ _ _ _ (fun d ⟨kvs, ed, nd, q⟩ v K1 H1 n1 r1 => ?_) p⟩
  subst ed
  obtain ⟨a, ws, rfl, h, rw', z⟩ := r1.seqL n1.kh
  obtain ⟨ps, kbs, rfl, h2, h3, h4⟩ := pairs_rep n1.kh rw'
  refine ⟨a, ps, kbs, rfl, .inl (.inl h), h2, ?_, fun p hp => ?_⟩
  · rw [h3]
    exact List.pairwise_map.mpr ((List.pairwise_map.mp nd).imp fun h c => h (inl_inj.mp c))
  · have S1 := S.next n1
    have k1 := kv_none n1.kh hp
    have e1 : (kbs.map fun x => (x.1, x.2.2)) = (keysV (kvs.map (·.1))).zip (kbs.map (·.2.2)) := by
      have : keysV (kvs.map (·.1)) = kbs.map (·.1) := by rw [h3]; unfold keysV; rw [List.map_map]; rfl
      rw [this]
      exact zip_two _ _ _
    refine q _ K1 _ ((S1.next (Nx.of_ex n1.kh (Ex.new hp))).setO (SlOk.mkT (vs := kbs.map (·.2.2)) k1 (S1.nodom hp) (S1.freshbag hp) (by rw [upd_same, e1]) h4) fun j sj _ e1 e2 e3 => S1.noown hp e1 e2 e3)
theorem know_all {F : PySem.W.Frag} {K H : Hp} (kh : Ex K H) : ∀ (bs : List (Addr × List Int)), (∀ x ∈ bs, H x.1 = some (.tup (x.2.map V.int))) → ∃ K', Nx none K H K' H ∧ ∀ x ∈ bs, K' x.1 = some (.tup (x.2.map V.int))
  | [], _ => ⟨K, Nx.refl kh, fun x hx => nomatch hx⟩
  | y :: bs, h => by
    obtain ⟨K1, n1, h1⟩ := know_all (F := F) kh bs fun x hx => h x (List.mem_cons_of_mem _ hx)
    have hy := h y (List.mem_cons_self ..)
    cases e : K1 y.1 with
    | some u =>
      have := n1.kh _ _ e
      rw [hy] at this
      cases this
      refine ⟨K1, n1, fun x hx => ?_⟩
      rcases List.mem_cons.mp hx with rfl | hx
      · exact e
      · exact h1 x hx
    | none =>
      refine ⟨upd K1 y.1 (.tup (y.2.map V.int)), ⟨n1.le, fun b c z => (nomatch z), Ex.trans n1.kk (Ex.new e), fun a ha => ?_, fun a u ha => ?_⟩, fun x hx => ?_⟩
      · rw [upd_ne (fun z => by rw [z, hy] at ha; exact ha)]
        exact n1.fr a ha
      · by_cases z : a = y.1
        · subst z; rw [upd_same] at ha; cases ha; exact hy
        · rw [upd_ne z] at ha; exact n1.kh a u ha
      · rcases List.mem_cons.mp hx with rfl | hx
        · exact upd_same
        · exact Ex.new e _ _ (h1 x hx)
theorem reps_known {F : PySem.W.Frag} {K : Hp} : ∀ {bs : List (Addr × List Int)}, (∀ x ∈ bs, K x.1 = some (.tup (x.2.map V.int)) ∧ x.2.length ≤ sizeLine) → Reps F K (bs.map fun x => V.ref x.1) ((bs.map (·.2)).map fun k => .tup (k.map .int))
  | [], _ => .nil
  | y :: bs, h => by
    obtain ⟨h1, h2⟩ := h y (List.mem_cons_self ..)
    exact .cons _ _ _ _ (.tup y.1 _ _ (by rw [List.length_map]; exact h2) h1 (Reps.of_ints _)) (reps_known fun x hx => h x (List.mem_cons_of_mem _ hx))
/-- sorted(found), locked -/
@[simp] def dSortDk (fe : DE) : DE := fun bg ds P => fe bg ds fun x => ∃ (ks : List (List Int)) (l : List D) (d : Nat) (B : Int), x = .dkt ks l ∧ ks.length < 64 ∧ 1 ≤ d ∧ d ≤ 1000 ∧ (∀ k ∈ ks, k.length = d ∧ TS.Bd B k) ∧
  ∀ ks' : List (List Int), ks'.Perm ks → ks'.Pairwise (fun n m => TS.code B n ≤ TS.code B m) → P (.lst (ks'.map fun k => .tup (k.map .int)))
theorem x_sortDk (hc : X.calm = true) (hg : Gl X "sorted") (hm : X.mg "sorted" = none) (he : PX X e fe) (hs1 : starEach [e] X.env = (false, eval e X.env) :: starEach [] X.env := by rfl) : PX X (.Call (.Name "sorted" p) [e] [] pos) (dSortDk fe) := by
  refine ⟨(pe_callB (cr_sortDT hc) hg hm bt_sorted (pa_cons he.pe pa_nil hs1) (he := hs1)).weak fun σ H Q ⟨B, K, ds, S, p⟩ => ?_, fun bg ds P P' m p => he.mono _ _ _ _ (fun x ⟨ks, l, d, B, e, h1, h2, h3, h4, q⟩ => ⟨ks, l, d, B, e, h1, h2, h3, h4, fun ms g1 g2 => m _ (q ms g1 g2)⟩) p⟩
  refine ⟨B, K, ds, S, he.mono _ _ _ _ (fun x ⟨ks, l, d, b, ex, h1, h2, h3, h4, q⟩ v K1 H1 n1 r1 => ?_) p⟩
  subst ex
  cases r1 with
  | dkt a vs _ _ o n h r =>
  refine ⟨a, _, ks, d, b, rfl, .inr ⟨o, n1.kh _ _ h⟩, ?_, h1, h2, h4, fun bs p hpm hpw hbs hp => ?_⟩
  · rw [List.map_fst_zip (by rw [List.length_map, n]; exact Nat.le_refl _)]
  · have hbs' : ∀ x ∈ bs, H1 x.1 = some (.tup (x.2.map V.int)) := hbs
    obtain ⟨K2, n2, h5⟩ := know_all (F := X.K) n1.kh bs hbs'
    have n3 : Nx B.bg K2 H1 (upd K2 p (.lst (bs.map fun x => V.ref x.1))) (upd H1 p (.lst (bs.map fun x => V.ref x.1))) := Nx.new n2.kh hp
    refine q (bs.map (·.2)) hpm hpw _ _ _ (Nx.trans S.bag n1 (Nx.trans (S.next n1).bag (Nx.of0 n2) n3)) (.lst p _ _ ?_ upd_same ((reps_known fun x hx => ⟨h5 x hx, ?_⟩).mono n3.kk))
    · have := hpm.length_eq
      rw [List.length_map] at this
      rw [List.length_map, this, sizeLine_eq]
      omega
    · have := (h4 x.2 (hpm.mem_iff.mp (List.mem_map.mpr ⟨x, hx, rfl⟩))).1
      rw [this, sizeLine_eq]
      omega
theorem pss_lock {st : List Stmt} {t : TS} (h : PSs X st t) : PSs X st (tLock t) := ⟨fun pins s σ H D I hw => by
  obtain ⟨a, o, ha, mo, run⟩ := hw
  obtain ⟨ob, Il⟩ := I.lock ha mo
  have back : ∀ {σ' : L2.St} {H' : Hp} {s' : Shared}, Inv X pins σ' H' s' → H' a = some (.frz ob o) → Inv X pins σ' (upd H' a o) s' := fun J e => J.unlock e (I.nofrz ha mo)
  refine thn (h.run pins s σ _ _ Il (run ob)) fun f s1 q => ?_
  cases f with
  | ret v =>
    obtain ⟨x, σ', H', J, r, e, q⟩ := q
    exact ⟨x, σ', _, back J e, r, q⟩
  | next =>
    obtain ⟨σ', H', J, e, q⟩ := q
    exact ⟨σ', _, back J e, q⟩
  | brk =>
    obtain ⟨σ', H', J, e, q⟩ := q
    exact ⟨σ', _, back J e, q⟩
  | cont =>
    obtain ⟨σ', H', J, e, q⟩ := q
    exact ⟨σ', _, back J e, q⟩⟩
theorem xss_lockR {st : List Stmt} (i : Nat) {f : DSm} (h : PXSs X st f) : PXSs X st (dLockR i f) := by
  refine ⟨(pss_lock h.pss).weak fun D σ H ⟨B, K, ds, S, kvs, e1, p⟩ => ?_, fun bg E E' ds m ⟨kvs, e1, p⟩ => ⟨kvs, e1, h.mono bg { nx := fun _ => False, rt := fun d => noT d = true ∧ E.rt d } { nx := fun _ => False, rt := fun d => noT d = true ∧ E'.rt d } _ ⟨fun _ z => z.elim, fun d z => ⟨z.1, m.rt _ z.2⟩, fun _ z => z.elim, fun _ z => z.elim⟩ p⟩⟩
  obtain ⟨a, vs, f1, f2, f3, f4, f5, r⟩ := SlOk.ownT' (S.env i _ e1)
  refine ⟨a, _, f5, trivial, fun od => ?_⟩
  have S' : SE X.K B (upd K a (.frz od (.dT ((keysV (kvs.map (·.1))).zip vs)))) σ (upd H a (.frz od (.dT ((keysV (kvs.map (·.1))).zip vs)))) (ds.set i (.val (.dkt (kvs.map (·.1)) (kvs.map (·.2))))) := by
    refine ⟨fun b u eb hb => ?_, Ex.trans S.kk (Ex.new f2), fun b hb => ?_, fun b o eb => ?_, fun b eb => ?_, fun b eb => ?_, by rw [List.length_set]; exact S.len, fun j sl' e' => ?_, fun j k sj sk c h e1' e2 o1 o2 g1 g2 => ?_⟩
    · rw [upd_ne (fun z => by rw [z, f3] at hb; cases hb)]
      exact S.le b u eb hb
    · rw [upd_ne (fun z => by rw [z, f3] at hb; exact hb)]
      exact S.fr b hb
    · by_cases z : b = a
      · subst z; rw [upd_same] at eb ⊢; exact eb
      · rw [upd_ne z] at eb ⊢; exact S.kh b o eb
    · rw [upd_ne (fun z => f4 (by rw [← z]; exact eb))]
      exact S.kb b eb
    · obtain ⟨x0, x1, i, cells, g1, g2, g3⟩ := S.bagc b eb
      exact ⟨x0, x1, i, cells, by rw [upd_ne (fun z => f4 (by rw [← z]; exact eb))]; exact g1, Ex.new f2 _ _ g2, g3⟩
    · by_cases hj : i = j
      · subst hj
        rw [List.getElem?_set_self (List.getElem?_eq_some_iff.mp e1).1] at e'
        cases e'
        exact ⟨_, f1, .dkt a vs (kvs.map (·.1)) (kvs.map (·.2)) od (by rw [r.length]; simp) (by rw [upd_same]; rfl) (r.mono (Ex.new f2))⟩
      · rw [List.getElem?_set_ne hj] at e'
        have h := S.env j sl' e'
        cases sl' with
        | no => trivial
        | val d =>
          obtain ⟨v, e1, r⟩ := h
          exact ⟨v, e1, r.mono (Ex.new f2)⟩
        | own l =>
          obtain ⟨a', vs', k1, k2, k3, k4, k5, r, z⟩ := h
          have na : a' ≠ a := fun q => S.sep i j _ _ a hj e1 e' rfl rfl f1 (by rw [← q]; exact k1)
          exact ⟨a', vs', k1, by rw [upd_ne na]; exact k2, k3, k4, by rw [upd_ne na]; exact k5, r.mono (Ex.new f2), z⟩
        | ownT l =>
          obtain ⟨a', vs', k1, k2, k3, k4, k5, r⟩ := h
          have na : a' ≠ a := fun q => S.sep i j _ _ a hj e1 e' rfl rfl f1 (by rw [← q]; exact k1)
          exact ⟨a', vs', k1, by rw [upd_ne na]; exact k2, k3, k4, by rw [upd_ne na]; exact k5, r.mono (Ex.new f2)⟩
    · have go : ∀ (j : Nat) (sj : Sl), (ds.set i (.val (.dkt (kvs.map (·.1)) (kvs.map (·.2)))))[j]? = some sj → sj.isOwn = true → ds[j]? = some sj := fun j sj e1' o1 => by
        by_cases hj : i = j
        · subst hj
          rw [List.getElem?_set_self (List.getElem?_eq_some_iff.mp e1).1] at e1'
          cases e1'; cases o1
        · rwa [List.getElem?_set_ne hj] at e1'
      exact S.sep j k sj sk c h (go j sj e1' o1) (go k sk e2 o2) o1 o2 g1 g2
  refine ⟨_, _, _, S'.rebase, h.mono B.bg { nx := fun _ => False, rt := fun d => noT d = true ∧ (enOf X.K B D).rt d } _ _ ⟨fun _ z => z.elim, fun d z v σ' K' H' ds' S2 rv => ?_, fun _ z => z.elim, fun _ z => z.elim⟩ p⟩
  obtain ⟨z1, z2⟩ := z
  obtain ⟨S3, kk⟩ := S'.unbase S2
  have ka := kk a _ upd_same
  have b0 : B.K0 a = none := by
    cases q : B.K0 a with
    | none => rfl
    | some u => rw [S.kk a u q] at f2; cases f2
  refine ⟨S3.kh a _ ka, z2 v σ' (minus K' a) _ (List.replicate σ'.length .no) ⟨fun b u eb hb => ?_, fun b u hb => ?_, fun b hb => ?_, fun b u hb => ?_, fun b eb => ?_, fun b eb => ?_, by simp, fun j sl' e' => ?_, fun j k sj sk c h e1' e2 o1 o2 g1 g2 => ?_⟩ (rv.minus ka z1)⟩
  · rw [upd_ne (fun z => by rw [z, f3] at hb; cases hb)]
    exact S3.le b u eb hb
  · have nb : b ≠ a := fun z => by rw [z, b0] at hb; cases hb
    unfold minus
    rw [if_neg nb]
    exact S3.kk b u hb
  · have nb : b ≠ a := fun z => by rw [z, f3] at hb; exact hb
    unfold minus
    rw [if_neg nb]
    exact S3.fr b hb
  · have nb : b ≠ a := fun z => by
      have hb' : (if b = a then none else K' b) = some u := hb
      rw [if_pos z] at hb'; cases hb'
    have hb' : (if b = a then none else K' b) = some u := hb
    rw [if_neg nb] at hb'
    rw [upd_ne nb]
    exact S3.kh b u hb'
  · have nb : b ≠ a := fun z => f4 (by rw [← z]; exact eb)
    unfold minus
    rw [if_neg nb]
    exact S3.kb b eb
  · have nb : b ≠ a := fun z => f4 (by rw [← z]; exact eb)
    obtain ⟨x0, x1, i, cells, g1, g2, g3⟩ := S3.bagc b eb
    exact ⟨x0, x1, i, cells, by rw [upd_ne nb]; exact g1, minus_of ka g2 (fun _ _ z => nomatch z), g3⟩
  · have := List.eq_of_mem_replicate (List.mem_of_getElem? e')
    rw [this]; trivial
  · have := List.eq_of_mem_replicate (List.mem_of_getElem? e1')
    rw [this] at o1; cases o1

@[simp] def dDisp3 (k1 k2 k3 : Str) (fa fb fc : DE) : DE := fun bg ds P => fa bg ds fun x => fb bg ds fun y => fc bg ds fun z => P (.dic [.inr k1, .inr k2, .inr k3] [x, y, z])
theorem x_disp3 {k1 k2 k3 : Str} {e1 e2 e3 v1 v2 v3 : Expr} {fa fb fc : DE} (h1 : PE X e1 (tC (.str k1))) (h2 : PE X e2 (tC (.str k2))) (h3 : PE X e3 (tC (.str k3))) (ha : PX X v1 fa) (hb : PX X v2 fb) (hc : PX X v3 fc)
    (nd : [k1, k2, k3].Nodup) : PX X (.Dict [some e1, some e2, some e3] [v1, v2, v3] pos) (dDisp3 k1 k2 k3 fa fb fc) := by
  refine ⟨(pe_disp (pps_cons h1 ha.pe (pps_cons h2 hb.pe (pps_cons h3 hc.pe pps_nil))) rfl rfl (by simp) (by show 3 ≤ 15; decide)).weak fun σ H Q ⟨B, K, ds, S, p⟩ => ?_, fun bg ds P P' m p => ha.mono _ _ _ _ (fun x px => hb.mono _ _ _ _ (fun y py => hc.mono _ _ _ _ (fun z q => m _ q) py) px) p⟩
  intro a hp
  have k0 := kv_none S.kh hp
  have n0 : Nx B.bg K H K (upd H a (.dK [])) := Nx.of_ex S.kh (Ex.new hp)
  have S0 := S.next n0
  refine ⟨B, K, ds, S0, ha.mono _ _ _ _ (fun x px v1 K1 H1 n1 r1 => ?_) p⟩
  have S1 := S0.next n1
  refine ⟨B, K1, ds, S1, hb.mono _ _ _ _ (fun y py v2 K2 H2 n2 r2 => ?_) px⟩
  have S2 := S1.next n2
  refine ⟨B, K2, ds, S2, hc.mono _ _ _ _ (fun z q v3 K3 H3 n3 r3 => ?_) py⟩
  have n : Nx B.bg K (upd H a (.dK [])) K3 H3 := Nx.trans S0.bag (Nx.trans S0.bag n1 n2) n3
  have na : B.bg ≠ some a := S.freshbag hp
  have g3 : H3 a = some (.dK []) := n.le a _ na upd_same
  have kn3 : K3 a = none := (n.fr a (by rw [upd_same]; trivial)).trans k0
  let kk : List (Key × V) := [(.inr k1, v1), (.inr k2, v2), (.inr k3, v3)]
  have em : mergeK [] kk = kk := by
    have := mergeK_new kk [] (by
      show ([k1, k2, k3].map (Sum.inr : Str → Key)).Nodup
      exact List.pairwise_map.mpr (nd.imp fun h c => h (by injection c)))
    simpa using this
  have nn := Nx.trans S.bag n0 n
  refine ⟨g3, kk, rfl, by show 3 ≤ 15; decide, ?_⟩
  rw [em]
  have up : Ex K3 (upd K3 a (.dK kk)) := Ex.new kn3
  refine q (.ref a) (upd K3 a (.dK kk)) _ ⟨fun c o eb hc' => ?_, fun b c eb hb' => ?_, Ex.trans nn.kk up, fun c hc' => ?_, fun c o hc' => ?_⟩ (.dic a [v1, v2, v3] [.inr k1, .inr k2, .inr k3] [x, y, z] rfl upd_same (.cons _ _ _ _ (((r1.mono n2.kk).mono n3.kk).mono up) (.cons _ _ _ _ ((r2.mono n3.kk).mono up) (.cons _ _ _ _ (r3.mono up) .nil))))
  · rw [upd_ne (ne_of_none hc' hp)]
    exact nn.le c o eb hc'
  · obtain ⟨x0, x1, i, cells, g1, g2, g4⟩ := nn.bag b c eb hb'
    exact ⟨x0, x1, i, cells, by rw [upd_ne (fun z => na (by rw [← z]; exact eb))]; exact g1, up _ _ g2, g4⟩
  · rw [upd_ne (fun z => by rw [z, hp] at hc'; exact hc')]
    exact nn.fr c hc'
  · by_cases z : c = a
    · subst z; rw [upd_same] at hc' ⊢; exact hc'
    · rw [upd_ne z] at hc' ⊢; exact nn.kh c o hc'
end
end K8
set_option Elab.async false
set_option linter.all false
set_option maxRecDepth 100000
set_option maxHeartbeats 4000000
/-! the bag's birth -/
namespace K8
open PySem PySem.Spec PyProof.Rows L2
open Evl (Ex ex_l ex_t ex_rd)
/-- a slice of a list that stood before -/
@[simp] def RSlF (x : D) (lo hi : Option Int) (z : D) : Prop := ∃ ns : List Int, x = .fls ns ∧ ns.length ≤ 63 ∧ z = .lst (cutD (ns.map .int) lo hi)
theorem Rep.fseq {F : PySem.W.Frag} {K H : Hp} {v : V} {ns : List Int} (kh : Ex K H) (r : Rep F K v (.fls ns)) : ∃ a, v = .ref a ∧ SqL F H a (ns.map V.int) := by
  cases r with
  | fls a _ h =>
    refine ⟨a, rfl, ?_⟩
    rcases h with ⟨o, h⟩ | h
    · exact .inl (.inr ⟨o, kh _ _ h⟩)
    · exact .inr h
theorem s3_F {F : PySem.W.Frag} : S3d F (rSlL F) RSlF := by
  rintro K H x dx lo hi z Q kh rx ⟨ns, rfl, h63, rfl⟩ q
  obtain ⟨a, rfl, hs⟩ := rx.fseq kh
  refine ⟨a, ns.map V.int, rfl, hs, fun p hp => q _ _ _ (Nx.new kh hp) (.lst p _ _ ?_ upd_same ((Reps.of_ints ns).cut lo hi))⟩
  refine Nat.le_trans (cutV_len _ _ _) ?_
  rw [List.length_map, sizeLine_eq]
  omega
def spBag (F : PySem.W.Frag) : L2.Sp := fun vs H Q _ => ∃ (v : V) (K0 : Hp) (ns : List Int), vs = [v] ∧ Ex K0 H ∧ Rep F K0 v (.fls ns) ∧ ns.length ≤ 63 ∧
  ∀ (b c : Addr) (K' H' : Hp), H b = none → Nx none K0 H K' H' → K' b = none → BagC K' H' b c → Q (.ref b) H'
section
variable {X : Cx} {pos : Pos} {e : Expr} {fe : DE} {rest : List Stmt} {g : DSm}
@[simp] def dBagSeq (i : Nat) (fe : DE) (g : DSm) : DSm := fun bg E ds => bg = none ∧ fe bg ds fun d => ∃ ns : List Int, d = .fls ns ∧ ns.length ≤ 63 ∧ ∀ b, g (some b) E (ds.set i (.val (.ref b)))
theorem SE.bagOn {F : PySem.W.Frag} {B : Bs} {K H H1 : Hp} {σ : L2.St} {ds : DS} (S : SE F B K σ H ds) {b c : Addr} (kb : K b = none) (hb : BagC K H b c)
    (no : ∀ (j : Nat) (sj : Sl), ds[j]? = some sj → sj.isOwn = true → σ[j]? = some (some (.ref b)) → False) (hbg : B.bg = none) : SE F ⟨B.H0, B.K0, some b, c⟩ K σ H ds where
  le := fun a o _ h => S.le a o (by rw [hbg]; exact fun z => nomatch z) h
  kk := S.kk
  fr := S.fr
  kh := S.kh
  kb := fun b' e => by cases e; exact kb
  bagc := fun b' e => by cases e; exact hb
  len := S.len
  env := fun i sl e => by
    have h := S.env i sl e
    cases sl with
    | no => trivial
    | val d => exact h
    | own l =>
      obtain ⟨a, vs, e1, e2, e3, e4, e5, r, z⟩ := h
      exact ⟨a, vs, e1, e2, e3, fun z => by cases z; exact no i _ e rfl e1, e5, r, z⟩
    | ownT kvs =>
      obtain ⟨a, vs, e1, e2, e3, e4, e5, r⟩ := h
      exact ⟨a, vs, e1, e2, e3, fun z => by cases z; exact no i _ e rfl e1, e5, r⟩
  sep := S.sep
theorem SE.bagOff {F : PySem.W.Frag} {B : Bs} {K H : Hp} {σ : L2.St} {ds : DS} {b c : Addr} (S : SE F ⟨B.H0, B.K0, some b, c⟩ K σ H ds) (h0 : B.H0 b = none) (hbg : B.bg = none) : SE F B K σ H ds where
  le := fun a o _ h => S.le a o (fun z => by cases z; rw [h0] at h; cases h) h
  kk := S.kk
  fr := S.fr
  kh := S.kh
  kb := fun b' e => by rw [hbg] at e; cases e
  bagc := fun b' e => by rw [hbg] at e; cases e
  len := S.len
  env := fun i sl e => by
    have h := S.env i sl e
    cases sl with
    | no => trivial
    | val d => exact h
    | own l =>
      obtain ⟨a, vs, e1, e2, e3, e4, e5, r, z⟩ := h
      exact ⟨a, vs, e1, e2, e3, by rw [hbg]; exact (fun z => by cases z), e5, r, z⟩
    | ownT kvs =>
      obtain ⟨a, vs, e1, e2, e3, e4, e5, r⟩ := h
      exact ⟨a, vs, e1, e2, e3, by rw [hbg]; exact (fun z => by cases z), e5, r⟩
  sep := S.sep
theorem xss_bag {i : Nat} {x y : Str} {pos' p1 p2 : Pos} {k : Nat} {fn : Addr} {fd : FuncData} {ps : List Str} (hN : X.N.Nodup) (hi : X.N[i]? = some x) (hx : Loc X.env.scope x)
    (F : FnOk X.prog X.w X.K X.mg X.base CX0 k fn fd ps (spBag X.K)) (hr : Room k X.A) (hg : Gl X y) (hm : X.mg y = some (.ref fn)) (hk : PySem.W.keepIn X.K (.ref fn) = true) (hb : Binds X.K fd ps [])
    (he : PX X e fe) (hrest : PXSs X rest g) (hdb : (y == ("__debug__" : Str)) = false := by decide) (hs1 : starEach [e] X.env = (false, eval e X.env) :: starEach [] X.env := by rfl) (hpl : (backTo p2 (starEach [] X.env)).any (·.1) = false := by rfl)
    (hs : swapsWith (.Call (.Name y p1) [e] [] p2) (some (.Name x pos')) pos.line X.env = pure false := by rfl)
    (hf : X.fn x = true ∨ X.env.scope.names.lookup x = some .local := by first | exact .inl rfl | exact .inr rfl | assumption) :
    PXSs X (.Assign [.Name x pos'] (.Call (.Name y p1) [e] [] p2) pos :: rest) (dBagSeq i fe g) := by
  refine ⟨(pss_cons (ps_set hN hi hx (pe_call F hr hg hm hk hb .nil pass0 (pa_cons he.pe pa_nil hs1) hdb hs1 hpl) hs hf) hrest.pss).weak fun D σ H ⟨B, K, ds, S, ebg, p⟩ => ?_, fun bg E E' ds m ⟨h, p⟩ => ⟨h, he.mono _ _ _ _ (fun d ⟨ns, e, l, q⟩ => ⟨ns, e, l, fun b => hrest.mono _ _ _ _ m (q b)⟩) p⟩⟩
  refine ⟨B, K, ds, S, he.mono _ _ _ _ (fun d ⟨ns, ed, l63, q⟩ v K1 H1 n1 r1 => ?_) p⟩
  subst ed
  have S1 := S.next n1
  refine ⟨v, K1, ns, rfl, n1.kh, r1, l63, fun b c K2 H2 hb0 n2 kb bc => ?_⟩
  have S2 := S1.next (Nx.of0 n2)
  have no : ∀ (j : Nat) (sj : Sl), ds[j]? = some sj → sj.isOwn = true → σ[j]? = some (some (.ref b)) → False := fun j sj e1 e2 e3 => S1.noown hb0 e1 e2 e3
  have le : DEn.Le (enOf X.K B D) (enOf X.K ⟨B.H0, B.K0, some b, c⟩ D) := ⟨fun ds' z σ' K' H' S' => z σ' K' H' (S'.bagOff (S1.nodom hb0) ebg), fun d z v σ' K' H' ds' S' r => z v σ' K' H' ds' (S'.bagOff (S1.nodom hb0) ebg) r, fun ds' z σ' K' H' S' => z σ' K' H' (S'.bagOff (S1.nodom hb0) ebg), fun ds' z σ' K' H' S' => z σ' K' H' (S'.bagOff (S1.nodom hb0) ebg)⟩
  exact ⟨⟨B.H0, B.K0, some b, c⟩, K2, _, (S2.bagOn (H1 := H1) kb bc no ebg).set (i := i) (.ref b), hrest.mono _ _ _ _ le (q b)⟩
end
end K8
set_option Elab.async false
set_option linter.all false
set_option maxRecDepth 100000
set_option maxHeartbeats 4000000
namespace K8
open PySem PySem.Spec PyProof.Rows L2
section
variable {P : Program} {w : World} {K : PySem.W.Frag} {mg : Str → Option Value} {base : Heap}

theorem eqW {d e : D} {k : Bool} {F G : Prop} (h : sEq d e = some k) (hf : k = false → F) (ht : k = true → G) :
    ∃ z, (sEq d e = some false ∧ z = D.bl false ∨ sEq d e = some true ∧ z = D.bl true) ∧ (z = D.bl false ∧ F ∨ z = D.bl true ∧ G) := by
  cases k with
  | false => exact ⟨_, .inl ⟨h, rfl⟩, .inl ⟨rfl, hf rfl⟩⟩
  | true => exact ⟨_, .inr ⟨h, rfl⟩, .inr ⟨rfl, ht rfl⟩⟩
def W_lone : DW := fun bg l P => ∃ b x m, bg = Option.some b ∧ l = [.ref b, x] ∧ (x = .lst m ∨ IsT x m) ∧ 0 < m.length ∧ m.length ≤ 1000000 ∧ P = fun d => d ∈ m
theorem G_lone (T : Tx K mg) : FnOk P w K mg base CX0 2 (He.ga K "_law_one") T.d_lone.fd ["_law_bag_here", "_law_things_here"] (spW K W_lone) := by
  refine fn_okD (k := 1) T.d_lone.F sc_lone ?_ (by decide) (fun cdv A outer s H E hr => ?_)
  · intro bg l P h
    obtain ⟨x, y, z, _, rfl, _⟩ := h; rfl
  · refine ⟨_, (xs_one (xs_ret (x_ix ix_seq r2_ix (x_var (pv 1)) (x_callBg (G_ltake T) (hr.mono (by decide)) (by rfl) T.d_ltake.g T.d_ltake.F.kp T.d_ltake.b (xa_cons (x_var (pv 0)) (xa_cons (x_callB call_len c1_len (by rfl) T.t_len bt_len (xa_cons (x_var (pv 1)) xa_nil)) xa_nil))) (fun _ _ => rfl)))), ?_⟩
    intro bg l P h
    obtain ⟨b, x, m, rfl, rfl, hx, h0, h6, rfl⟩ := h
    simp [and_assoc]
    refine ⟨_, .inl ⟨m, hx, rfl⟩, _, ⟨b, m.length, rfl, rfl, by omega, by omega, rfl⟩, ?_⟩
    rintro _ ⟨r, rfl, r0, r1⟩
    have hr' : r.toNat < m.length := by omega
    refine ⟨m[r.toNat], ⟨m, hx, r, rfl, ?_⟩, List.getElem_mem hr'⟩
    have := atI_nat (xs := m) (j := r.toNat) (v := m[r.toNat]) (List.getElem?_eq_getElem hr')
    rwa [Int.toNat_of_nonneg r0] at this


/-- a sum of these things, as the law draws it -/
structure DSum (ts s : List Str) : Prop where
  few : s.length ≤ 3
  sub : ∀ x ∈ s, x ∈ ts
  asc : sortedS s = true
theorem okN.str {x : Str} (h : PyData.strOk x = true) : okN 0 (.str x) := ⟨rfl, by simp [py, PyData.canLay0, h], by simp [py, PyData.depth]⟩
theorem GName.ok {x : Str} (h : GName x) : PyData.strOk x = true := by
  unfold PyData.strOk
  rw [Array.all_eq_true']
  intro c hc
  have h1 : ∀ c ∈ letters.cps.toList, c < 0x110000 := by decide +kernel
  exact decide_eq_true (h1 c (h.let' c (by simpa using hc)))
theorem okN.solD {ts : List Str} (h : ∀ x ∈ ts, GName x) : okN 1 (solD ts) := okN.sol fun d hd => by
  obtain ⟨i, hi, rfl⟩ := List.mem_map.mp hd
  exact .str (h i hi).ok
theorem okN.tel {ts : List Str} {t : Tel} (h : GTel ts t) : okN 2 (telD t) := okN.tup fun d hd => by
  simp only [List.mem_cons, List.not_mem_nil, or_false] at hd
  rcases hd with rfl | rfl | rfl
  · have h1 : ∀ w ∈ wordsL, PyData.strOk w = true := by decide +kernel
    exact (okN.str (h1 _ h.wd)).up (by omega)
  · exact okN.solD h.l.nm
  · exact okN.solD h.r.nm
theorem eqv_sol0 {ts : List Str} (h : ts ≠ []) : PyData.eqv (py (solD ts)) (py (.tup [])) = false := by
  cases ts with
  | nil => exact absurd rfl h
  | cons x l => simp [solD, py, pys, PyData.eqv, PyData.eqvAll]
def W_lsum : DW := fun bg l P => ∃ b ts k, bg = Option.some b ∧ l = [.ref b, solD ts, .int ((k : Nat) : Int)] ∧ ts ≠ [] ∧ GThings ts ∧ k ≤ 3 ∧ P = fun d => ∃ s : List Str, d = solD s ∧ DSum ts s
theorem G_lsum (T : Tx K mg) : FnOk P w K mg base CX0 3 (He.ga K "_law_sum") T.d_lsum.fd ["_law_bag_here", "_law_things_here", "_law_many"] (spW K W_lsum) := by
  refine fn_okD (k := 2) T.d_lsum.F sc_lsum ?_ (by decide) (fun cdv A outer s H E hr => ?_)
  · intro bg l P h
    obtain ⟨x, y, z, _, rfl, _⟩ := h; rfl
  · refine ⟨_, (xs_cons (xs_if (xt_cmp (op_eqD hr.units) r2_eqD (x_var (pv 1)) (x_tup xa_nil) (nomark _)) (xs_one (xs_ret (x_tup xa_nil))) xs_nil)
    (xs_one (xs_ret (x_callTy call_tuple_sol c1_sol (by rfl) T.t_tuple bt_tuple (xa_cons (x_sortS (by rfl) T.t_sorted (x_lc (own := [("_law_k", 3)]) (gs := [3]) rfl sc_lsum.nd (xi_range (by rfl) T.t_range (xa_cons (x_var (pv 2)) xa_nil)) (blkOk_by (by kernel_rfl)) (fun _ _ _ _ _ => (xg_name (pg_name (i := 3) sc_lsum.nd rfl (.inl rfl)))) (fun _ _ _ _ _ => xts_nil) (fun _ _ _ _ _ => (x_callBg (G_lone T) (hr.mono (by decide)) (by rfl) T.d_lone.g T.d_lone.F.kp T.d_lone.b (xa_cons (x_var (pv 0)) (xa_cons (x_var (pv 1)) xa_nil)))))) xa_nil))))), ?_⟩
    intro bg l P h
    obtain ⟨b, ts, k, rfl, rfl, h0, h1, hk, rfl⟩ := h
    have ok1 : okD (solD ts) := (okN.solD h1.nm).ok (by decide)
    have ok2 : okD (.tup []) := (okN.tup (k := 0) (fun d hd => by cases hd)).ok (by decide)
    simp [and_assoc]
    refine ⟨ok1, ok2, .inl ⟨eqv_sol0 h0, k, rfl, by rw [sizeLine_eq]; omega, ?_⟩⟩
    refine lcW_rel (fun i : Nat => D.int (i : Int)) D.str (fun _ => true) (fun _ y => y ∈ ts) (List.range k) [] _ (fun i _ Y N hY hN => ?_) fun ys hys => ?_
    · simp
      refine ⟨_, ⟨b, _, ts.map .str, rfl, rfl, .inr (.inr rfl), ?_, ?_, rfl⟩, ?_⟩
      · rw [List.length_map]
        exact List.length_pos_iff.mpr h0
      · rw [List.length_map]
        exact Nat.le_trans h1.few (by decide)
      · intro d hd
        obtain ⟨x, hx, rfl⟩ := List.mem_map.mp hd
        exact hY rfl x hx
    · have hl : ys.length = k := by
        rw [hys.length, List.filter_eq_self.mpr (fun _ _ => rfl), List.length_range]
      refine ⟨ys, rfl, by omega, fun zs hz hs => ⟨zs, rfl, by rw [hz.length_eq]; omega, fun x hx => ?_, hs⟩⟩
      obtain ⟨_, _, h⟩ := hys.right x (hz.mem_iff.mp hx)
      exact h

def W_lpair : DW := fun bg l P => ∃ b ts, bg = Option.some b ∧ l = [.ref b, solD ts] ∧ ts ≠ [] ∧ GThings ts ∧ P = fun d => ∃ a c, d = .tup [solD a, solD c] ∧ DSum ts a ∧ DSum ts c
theorem G_lpair (T : Tx K mg) : FnOk P w K mg base CX0 4 (He.ga K "_law_pair") T.d_lpair.fd ["_law_bag_here", "_law_things_here"] (spW K W_lpair) := by
  refine fn_okD (k := 3) T.d_lpair.F sc_lpair ?_ (by decide) (fun cdv A outer s H E hr => ?_)
  · intro bg l P h
    obtain ⟨x, y, _, rfl, _⟩ := h; rfl
  · refine ⟨_, (xs_cons (xs_par (i := 2) (j := 3) rfl sc_lpair.nd rfl rfl (by decide) rfl rfl (xa_cons (x_ix ix_seq r2_ix (x_lst (xa_cons x_int (xa_cons x_int (xa_cons x_int (xa_cons x_int xa_nil))))) (x_callBg (G_ltake T) (hr.mono (by decide)) (by rfl) T.d_ltake.g T.d_ltake.F.kp T.d_ltake.b (xa_cons (x_var (pv 0)) (xa_cons x_int xa_nil))) (fun _ _ => rfl)) (xa_cons (x_callBg (G_ltake T) (hr.mono (by decide)) (by rfl) T.d_ltake.g T.d_ltake.F.kp T.d_ltake.b (xa_cons (x_var (pv 0)) (xa_cons x_int xa_nil))) xa_nil)) (by rfl))
    (xs_cons (xs_set (i := 4) sc_lpair.nd rfl (.inl rfl) (x_callBg (G_lsum T) (hr.mono (by decide)) (by rfl) T.d_lsum.g T.d_lsum.F.kp T.d_lsum.b (xa_cons (x_var (pv 0)) (xa_cons (x_var (pv 1)) (xa_cons (x_var (pv 2)) xa_nil)))))
    (xs_cons (xs_if (xt_cmp op_eq r2_eq (x_var (pv 3)) x_int (nomark _)) (xs_one (xs_ret (x_tup (xa_cons (x_var (pv 4)) (xa_cons (x_callBg (G_lsum T) (hr.mono (by decide)) (by rfl) T.d_lsum.g T.d_lsum.F.kp T.d_lsum.b (xa_cons (x_var (pv 0)) (xa_cons (x_var (pv 1)) (xa_cons (x_callBg (G_ltake T) (hr.mono (by decide)) (by rfl) T.d_ltake.g T.d_ltake.F.kp T.d_ltake.b (xa_cons (x_var (pv 0)) (xa_cons x_int xa_nil))) xa_nil)))) xa_nil))))) xs_nil)
    (xs_cons (xs_if (xt_cmp op_eq r2_eq (x_var (pv 3)) x_int (nomark _)) (xs_one (xs_ret (x_tup (xa_cons (x_callBg (G_lsum T) (hr.mono (by decide)) (by rfl) T.d_lsum.g T.d_lsum.F.kp T.d_lsum.b (xa_cons (x_var (pv 0)) (xa_cons (x_var (pv 1)) (xa_cons (x_callBg (G_ltake T) (hr.mono (by decide)) (by rfl) T.d_ltake.g T.d_ltake.F.kp T.d_ltake.b (xa_cons (x_var (pv 0)) (xa_cons x_int xa_nil))) xa_nil)))) (xa_cons (x_var (pv 4)) xa_nil))))) xs_nil)
    (xs_one (xs_ret (x_tup (xa_cons (x_var (pv 4)) (xa_cons (x_if (xt_cmp op_eq r2_eq (x_var (pv 3)) x_int (nomark _)) (x_var (pv 4)) (x_callBg (G_lsum T) (hr.mono (by decide)) (by rfl) T.d_lsum.g T.d_lsum.F.kp T.d_lsum.b (xa_cons (x_var (pv 0)) (xa_cons (x_var (pv 1)) (xa_cons (x_var (pv 2)) xa_nil))))) xa_nil))))))))), ?_⟩
    intro bg l P h
    obtain ⟨b, ts, rfl, rfl, h0, h1, rfl⟩ := h
    simp [and_assoc]
    refine ⟨by decide, _, ⟨b, 4, rfl, rfl, by decide, by decide, rfl⟩, ?_⟩
    rintro _ ⟨r, rfl, r0, r1⟩
    obtain ⟨k, ek, k3⟩ : ∃ k : Nat, atI [D.int 2, D.int 1, D.int 2, D.int 3] r = some (.int (k : Int)) ∧ k ≤ 3 := by
      rcases (show r = 0 ∨ r = 1 ∨ r = 2 ∨ r = 3 by omega) with rfl | rfl | rfl | rfl
      · exact ⟨2, rfl, by decide⟩
      · exact ⟨1, rfl, by decide⟩
      · exact ⟨2, rfl, by decide⟩
      · exact ⟨3, rfl, by decide⟩
    refine ⟨_, ⟨r, rfl, ek⟩, _, ⟨b, 8, rfl, rfl, by decide, by decide, rfl⟩, ?_⟩
    rintro _ ⟨y, rfl, y0, y1⟩
    refine ⟨_, ⟨b, ts, k, rfl, rfl, h0, h1, k3, rfl⟩, ?_⟩
    rintro _ ⟨a, rfl, ha⟩
    refine eqW (k := decide (y = 0)) rfl (fun _ => eqW (k := decide (y = 2)) rfl (fun _ => eqW (k := decide (y = 1)) rfl (fun _ => ?_) fun _ => ?_) fun _ => ?_) fun _ => ?_
    · refine ⟨_, ⟨b, ts, k, rfl, rfl, h0, h1, k3, rfl⟩, ?_⟩
      rintro _ ⟨c, rfl, hc⟩
      exact ⟨by decide, a, rfl, c, rfl, ha, hc⟩
    · exact ⟨by decide, a, rfl, a, rfl, ha, ha⟩
    · refine ⟨_, ⟨b, 4, rfl, rfl, by decide, by decide, rfl⟩, ?_⟩
      rintro _ ⟨u, rfl, u0, u1⟩
      refine ⟨_, ⟨b, ts, u.toNat, rfl, by rw [Int.toNat_of_nonneg u0], h0, h1, by omega, rfl⟩, ?_⟩
      rintro _ ⟨c, rfl, hc⟩
      exact ⟨by decide, c, rfl, a, rfl, hc, ha⟩
    · refine ⟨_, ⟨b, 4, rfl, rfl, by decide, by decide, rfl⟩, ?_⟩
      rintro _ ⟨u, rfl, u0, u1⟩
      refine ⟨_, ⟨b, ts, u.toNat, rfl, by rw [Int.toNat_of_nonneg u0], h0, h1, by omega, rfl⟩, ?_⟩
      rintro _ ⟨c, rfl, hc⟩
      exact ⟨by decide, a, rfl, c, rfl, ha, hc⟩
end
end K8
set_option Elab.async false
set_option linter.all false
set_option maxRecDepth 100000
set_option maxHeartbeats 4000000
namespace K8
open PySem PySem.Spec PyProof.Rows L2
section
variable {P : Program} {w : World} {K : PySem.W.Frag} {mg : Str → Option Value} {base : Heap}

theorem rising_asc : ∀ {l : List Str} {p : Str}, risingS p l = true → ∀ (i : Nat) (a b : Str), (p :: l)[i]? = some a → (p :: l)[i + 1]? = some b → leS a b = true
  | [], p, _, i, a, b, h1, h2 => by simp at h2
  | x :: l, p, h, 0, a, b, h1, h2 => by
    unfold risingS at h
    obtain ⟨g1, _⟩ := Bool.and_eq_true_iff.mp h
    simp at h1 h2
    subst h1 h2
    unfold leS
    rw [le_meets]
    exact g1
  | x :: l, p, h, i + 1, a, b, h1, h2 => by
    unfold risingS at h
    obtain ⟨_, g2⟩ := Bool.and_eq_true_iff.mp h
    exact rising_asc g2 i a b (by simpa using h1) (by simpa using h2)
theorem sorted_asc {l : List Str} (h : sortedS l = true) : ∀ (i : Nat) (a b : Str), l[i]? = some a → l[i + 1]? = some b → leS a b = true := by
  cases l with
  | nil => intro i a b h1 _; simp at h1
  | cons x l => exact rising_asc h
theorem ltCps_tri : ∀ a b : List Nat, Spec.ltCps a b = false → Spec.ltCps b a = false → a = b
  | [], [], _, _ => rfl
  | [], y :: b, h, _ => by simp [Spec.ltCps] at h
  | x :: a, [], _, h => by simp [Spec.ltCps] at h
  | x :: a, y :: b, h1, h2 => by
    simp only [Spec.ltCps, Bool.or_eq_false_iff, Bool.and_eq_false_iff, decide_eq_false_iff_not, beq_eq_false_iff_ne] at h1 h2
    have e : x = y := by omega
    subst e
    rw [ltCps_tri a b (by rcases h1.2 with h | h; exact absurd rfl h; exact h) (by rcases h2.2 with h | h; exact absurd rfl h; exact h)]
theorem str_of_cps {a b : Str} (h : a.cps.toList = b.cps.toList) : a = b := by
  cases a; cases b
  simp only [Str.mk.injEq]
  exact Array.toList_inj.mp h
theorem lt_of_le {a b : Str} (h : leS a b = true) (n : a ≠ b) : ltS a b = true := by
  unfold leS at h
  rw [le_meets] at h
  unfold ltS
  rw [lt_meets]
  cases e : Spec.ltCps a.cps.toList b.cps.toList with
  | true => rfl
  | false => exact absurd (str_of_cps (ltCps_tri _ _ e (by simpa using h))) n
def gnameB (s : Str) : Bool := decide (0 < s.length) && decide (s.length ≤ 8) && s.cps.toList.all fun c => letters.cps.toList.contains c
def okT (k : Nat) (l : List Str) : Bool := decide (l.length = k) && l.all gnameB && decide l.Nodup
theorem gname_of {s : Str} (h : gnameB s = true) : GName s := by
  unfold gnameB at h
  simp only [Bool.and_eq_true, decide_eq_true_eq, List.all_eq_true, List.contains_iff_mem] at h
  exact ⟨h.1.1, h.1.2, h.2⟩
theorem okT_out {k : Nat} {l ys : List Str} (h : okT k l = true) (hk : k ≤ 4) (hp : ys.Perm l) (hs : sortedS ys = true) : GThings ys ∧ ys.Nodup ∧ ys.length = k := by
  unfold okT at h
  simp only [Bool.and_eq_true, decide_eq_true_eq, List.all_eq_true] at h
  have nd : ys.Nodup := hp.nodup_iff.mpr h.2
  have hl : ys.length = k := hp.length_eq.trans h.1.1
  refine ⟨⟨by omega, fun x hx => gname_of (h.1.2 x (hp.mem_iff.mp hx)), fun i a b h1 h2 => lt_of_le (sorted_asc hs i a b h1 h2) fun e => ?_⟩, nd, hl⟩
  subst e
  obtain ⟨l1, e1⟩ := List.getElem?_eq_some_iff.mp h1
  obtain ⟨l2, e2⟩ := List.getElem?_eq_some_iff.mp h2
  exact List.pairwise_iff_getElem.mp nd i (i + 1) l1 l2 (by omega) (e1.trans e2.symm)
def menuS : Str := "alike heavier unlike strike undo redo word why so ab abc a z zzzzzzzz things on"
def menuW : List Str := Txt.split menuS " "
def t0 (y k : Nat) : List Str := (menuW.drop y ++ menuW.take y).take k
def t1 (k : Nat) : List Str := (List.range k).map fun (j : Nat) => cutS "aaaaaaaa" none (some (((j : Nat) : Int) + 1))
def t2 (st : Str) (y k : Nat) : List Str := (List.range k).map fun (j : Nat) => st ++ ⟨#[letters.cps.toList.getD ((y + 3 * j) % 26) 0]⟩
def stemOf (w y : Nat) : Str := (["", "", ⟨#[letters.cps.toList.getD y 0]⟩, "zzzzzzz"] : List Str).getD w ""
theorem menu_len : menuW.length = 16 := by decide +kernel
theorem ok0 : ((List.range 16).all fun y => [2, 3, 4].all fun k => okT k (t0 y k)) = true := by decide +kernel
theorem ok1 : ([2, 3, 4].all fun k => okT k (t1 k) && sortedS (t1 k)) = true := by decide +kernel
theorem ok2 : ([1, 2, 3].all fun w => (List.range 16).all fun y => [2, 3, 4].all fun k => okT k (t2 (stemOf w y) y k)) = true := by decide +kernel
theorem let_at {y : Nat} (h : y < 26) : atI letters.cps.toList (y : Int) = Option.some (letters.cps.toList.getD y 0) := by
  refine atI_nat ?_
  have hl : letters.cps.toList.length = 26 := by decide +kernel
  rw [List.getD_eq_getElem?_getD, List.getElem?_eq_getElem (by omega)]
  rfl
def W_lthings : DW := fun bg l P => ∃ b k, bg = Option.some b ∧ l = [.ref b, .int ((k : Nat) : Int)] ∧ 2 ≤ k ∧ k ≤ 4 ∧ P = fun d => ∃ ts, d = solD ts ∧ GThings ts ∧ ts.Nodup ∧ ts.length = k
theorem G_lthings (T : Tx K mg) : FnOk P w K mg base CX0 2 (He.ga K "_law_things") T.d_lthings.fd ["_law_bag_here", "_law_many"] (spW K W_lthings) := by
  refine fn_okD (k := 1) T.d_lthings.F sc_lthings ?_ (by decide) (fun cdv A outer s H E hr => ?_)
  · intro bg l P h
    obtain ⟨x, y, _, rfl, _⟩ := h; rfl
  · refine ⟨_, (xs_cons (xs_set (i := 2) sc_lthings.nd rfl (.inl rfl) (x_bm F.plainAttrs_str F.slot_str_split F.type_str_split mt_split m1_split x_str (xa_cons x_str xa_nil)))
    (xs_cons (xs_asg (x_tup (xa_cons (x_callBg (G_ltake T) (hr.mono (by decide)) (by rfl) T.d_ltake.g T.d_ltake.F.kp T.d_ltake.b (xa_cons (x_var (pv 0)) (xa_cons x_int xa_nil))) (xa_cons (x_callBg (G_ltake T) (hr.mono (by decide)) (by rfl) T.d_ltake.g T.d_ltake.F.kp T.d_ltake.b (xa_cons (x_var (pv 0)) (xa_cons x_int xa_nil))) xa_nil))) (xg_two rfl (xg_name (pg_name (i := 3) sc_lthings.nd rfl (.inl rfl))) (xg_name (pg_name (i := 4) sc_lthings.nd rfl (.inr rfl)))))
    (xs_cons (xs_if (xt_cmp op_eq r2_eq (x_var (pv 3)) x_int (nomark _)) (xs_one (xs_ret (x_callTy call_tuple_sol c1_sol (by rfl) T.t_tuple bt_tuple (xa_cons (x_sortS (by rfl) T.t_sorted (x_slice sl_list s3_L (x_op op_cat r2_catL (x_slice sl_list s3_L (x_var (pv 2)) (xo_some (x_var (pv 4))) xo_none) (x_slice sl_list s3_L (x_var (pv 2)) xo_none (xo_some (x_var (pv 4))))) xo_none (xo_some (x_var (pv 1))))) xa_nil)))) xs_nil)
    (xs_cons (xs_if (xt_cmp op_eq r2_eq (x_var (pv 3)) x_int (nomark _)) (xs_one (xs_ret (x_callTy call_tuple_sol c1_sol (by rfl) T.t_tuple bt_tuple (xa_cons (x_lc (own := [("_law_k", 7)]) (gs := [7]) rfl sc_lthings.nd (xi_range (by rfl) T.t_range (xa_cons (x_var (pv 1)) xa_nil)) (blkOk_by (by kernel_rfl)) (fun _ _ _ _ _ => (xg_name (pg_name (i := 7) sc_lthings.nd rfl (.inl rfl)))) (fun _ _ _ _ _ => xts_nil) (fun _ _ _ _ _ => (x_slice sl_str s3_S x_str xo_none (xo_some (x_op op_add r2_I0 (x_var (pv 7)) x_int))))) xa_nil)))) xs_nil)
    (xs_cons (xs_set (i := 5) sc_lthings.nd rfl (.inr rfl) x_str)
    (xs_cons (xs_set (i := 6) sc_lthings.nd rfl (.inr rfl) (x_ix ix_seq r2_ix (x_lst (xa_cons x_str (xa_cons x_str (xa_cons (x_ix ix_str r2_ixS (x_var (pv 5)) (x_var (pv 4)) (fun _ _ => rfl)) (xa_cons x_str xa_nil))))) (x_op op_sub r2_I0 (x_var (pv 3)) x_int) (fun _ _ => rfl)))
    (xs_one (xs_ret (x_callTy call_tuple_sol c1_sol (by rfl) T.t_tuple bt_tuple (xa_cons (x_sortS (by rfl) T.t_sorted (x_lc (own := [("_law_k", 7)]) (gs := [7]) rfl sc_lthings.nd (xi_range (by rfl) T.t_range (xa_cons (x_var (pv 1)) xa_nil)) (blkOk_by (by kernel_rfl)) (fun _ _ _ _ _ => (xg_name (pg_name (i := 7) sc_lthings.nd rfl (.inl rfl)))) (fun _ _ _ _ _ => xts_nil) (fun _ _ _ _ _ => (x_op op_add_str r2_addS (x_var (pv 6)) (x_ix ix_str r2_ixS (x_var (pv 5)) (x_op op_modX r2_IC (x_callTy call_int1 c1_int (by rfl) T.t_int bt_int (xa_cons (x_op op_add r2_I0 (x_var (pv 4)) (x_op op_mulX r2_IC x_int (x_var (pv 7)))) xa_nil)) x_int) (fun _ _ => rfl)))))) xa_nil)))))))))), ?_⟩
    intro bg l P h
    obtain ⟨b, k, rfl, rfl, h0, h1, rfl⟩ := h
    have hk : k ∈ [2, 3, 4] := by simp; omega
    have ml : menuW.length ≤ sizeLine := by rw [menu_len]; decide
    simp [and_assoc]
    refine ⟨by decide +kernel, by decide +kernel, ml, _, ⟨b, 5, rfl, rfl, by decide, by decide, rfl⟩, ?_⟩
    rintro _ ⟨w, rfl, w0, w1⟩
    refine ⟨_, ⟨b, 16, rfl, rfl, by decide, by decide, rfl⟩, ?_⟩
    rintro _ ⟨y, rfl, y0, y1⟩
    obtain ⟨y, rfl⟩ : ∃ n : Nat, y = (n : Int) := ⟨y.toNat, by omega⟩
    have hy : y < 16 := by omega
    refine ⟨by decide, eqW (k := decide (w = 0)) rfl (fun wn0 => eqW (k := decide (w = 1)) rfl (fun wn1 => ?_) fun _ => ?_) fun _ => ?_⟩
    · have hw : w = 2 ∨ w = 3 ∨ w = 4 := by
        have := of_decide_eq_false wn0
        have := of_decide_eq_false wn1
        omega
      obtain ⟨st, ea, eo, el⟩ : ∃ st : Str, atI [D.str "", D.str "", D.str ⟨#[letters.cps.toList.getD y 0]⟩, D.str "zzzzzzz"] (w - 1) = Option.some (.str st) ∧ okT k (t2 st y k) = true ∧ st.length ≤ 7 := by
        have h2 := List.all_eq_true.mp ok2
        have h3 : ∀ w ∈ [1, 2, 3], okT k (t2 (stemOf w y) y k) = true := fun w hw => List.all_eq_true.mp (List.all_eq_true.mp (h2 w hw) y (List.mem_range.mpr hy)) k hk
        rcases hw with rfl | rfl | rfl
        · exact ⟨_, rfl, h3 1 (by decide), by decide +kernel⟩
        · exact ⟨_, rfl, h3 2 (by decide), by show 1 ≤ 7; decide⟩
        · exact ⟨_, rfl, h3 3 (by decide), by decide +kernel⟩
      refine ⟨_, ⟨y, rfl, by decide +kernel, _, let_at (by omega), rfl⟩, by decide, _, ⟨w, rfl, rfl⟩, _, ⟨_, rfl, ea⟩, k, rfl, by rw [sizeLine_eq]; omega, ?_⟩
      refine lcW_map (fun i : Nat => D.int (i : Int)) D.str (fun j => st ++ ⟨#[letters.cps.toList.getD ((y + 3 * j) % 26) 0]⟩) (List.range k) [] _ (fun i hi Y N hY => ?_) ?_
      · simp
        refine ⟨_, ⟨IntMulOk.of_left (by decide), rfl⟩, _, ⟨_, rfl, rfl⟩, _, .inl ⟨_, rfl, rfl⟩, _, ⟨_, rfl, rfl⟩, _, ⟨(((y + 3 * i) % 26 : Nat) : Int), congrArg D.int ?_, by decide +kernel, _, let_at (y := (y + 3 * i) % 26) (by omega), rfl⟩, _, ⟨_, rfl, ?_, rfl⟩, hY⟩
        · rw [Int.fmod_eq_emod_of_nonneg _ (by decide)]
          omega
        · show st.length + 1 ≤ sizeLine
          rw [sizeLine_eq]
          omega
      · refine ⟨t2 st y k, rfl, ?_, fun ys hp hs => ⟨ys, rfl, okT_out eo h1 hp hs⟩⟩
        unfold t2
        rw [List.length_map, List.length_range]
        omega
    · refine ⟨k, rfl, by rw [sizeLine_eq]; omega, ?_⟩
      refine lcW_map (fun i : Nat => D.int (i : Int)) D.str (fun j => cutS "aaaaaaaa" none (Option.some (((j : Nat) : Int) + 1))) (List.range k) [] _ (fun i hi Y N hY => ?_) ?_
      · simp
        exact ⟨_, ⟨by decide +kernel, rfl⟩, hY⟩
      · have h2 := List.all_eq_true.mp ok1 k hk
        obtain ⟨e1, e2⟩ := Bool.and_eq_true_iff.mp h2
        exact ⟨t1 k, rfl, okT_out e1 h1 (List.Perm.refl _) e2⟩
    · refine ⟨_, rfl, _, rfl, ?_⟩
      rw [show Txt.split "alike heavier unlike strike undo redo word why so ab abc a z zzzzzzzz things on" " " = menuW from rfl, cut_from, cut_to, ← List.map_drop, ← List.map_take, ← List.map_append, cut_to, ← List.map_take]
      refine ⟨?_, t0 y k, rfl, ?_, fun ys hp hs => ⟨ys, rfl, okT_out (List.all_eq_true.mp (List.all_eq_true.mp ok0 y (List.mem_range.mpr hy)) k hk) h1 hp hs⟩⟩
      · rw [List.length_map, List.length_map, List.length_drop, List.length_take, menu_len, sizeLine_eq]
        omega
      · unfold t0
        rw [List.length_take]
        omega
end
end K8
set_option Elab.async false
set_option linter.all false
set_option maxRecDepth 100000
set_option maxHeartbeats 4000000
namespace K8
open PySem PySem.Spec PyProof.Rows L2
section
variable {P : Program} {w : World} {K : PySem.W.Frag} {mg : Str → Option Value} {base : Heap}

def GTels (ts : List Str) (tl : List Tel) : Prop := ∀ t ∈ tl, GTel ts t
theorem DSum.gsum {ts s : List Str} (h : DSum ts s) (g : GThings ts) : GSum s := ⟨h.few, fun x hx => g.nm x (h.sub x hx), sorted_asc h.asc⟩
theorem words_mem {d : D} (h : d ∈ wordsL.map D.str) : ∃ w ∈ wordsL, d = .str w := by
  obtain ⟨w, hw, rfl⟩ := List.mem_map.mp h
  exact ⟨w, hw, rfl⟩
def W_ltellings : DW := fun bg l P => ∃ b ts k, bg = Option.some b ∧ l = [.ref b, solD ts, .int ((k : Nat) : Int), .lst (wordsL.map .str)] ∧ ts ≠ [] ∧ GThings ts ∧ k ≤ 1000 ∧ P = fun d => ∃ tl : List Tel, d = .lst (tl.map telD) ∧ tl.length ≤ k ∧ GTels ts tl
theorem G_ltellings (T : Tx K mg) : FnOk P w K mg base CX0 5 (He.ga K "_law_tellings") T.d_ltellings.fd ["_law_bag_here", "_law_things_here", "_law_many", "_law_words"] (spW K W_ltellings) := by
  refine fn_okD (k := 4) T.d_ltellings.F sc_ltellings ?_ (by decide) (fun cdv A outer s H E hr => ?_)
  · intro bg l P h
    obtain ⟨x, y, z, _, rfl, _⟩ := h; rfl
  · refine ⟨_, (xs_cons (xs_ownNew (i := 4) sc_ltellings.nd rfl (.inl rfl) xa_nil)
    (xs_cons (xs_for PassesOwn.never rfl (xi_range (by rfl) T.t_range (xa_cons (x_callBg (G_ltake T) (hr.mono (by decide)) (by rfl) T.d_ltake.g T.d_ltake.F.kp T.d_ltake.b (xa_cons (x_var (pv 0)) (xa_cons (x_op op_add r2_I0 (x_var (pv 2)) x_int) xa_nil))) xa_nil)) (xg_name (pg_name (i := 5) sc_ltellings.nd rfl (.inl rfl))) (xs_one (xs_append (i := 4) (pv 4) (x_op op_catA r2_catT (x_tup (xa_cons (x_callBg (G_lone T) (hr.mono (by decide)) (by rfl) T.d_lone.g T.d_lone.F.kp T.d_lone.b (xa_cons (x_var (pv 0)) (xa_cons (x_var (pv 3)) xa_nil))) xa_nil)) (x_callBg (G_lpair T) (hr.mono (by decide)) (by rfl) T.d_lpair.g T.d_lpair.F.kp T.d_lpair.b (xa_cons (x_var (pv 0)) (xa_cons (x_var (pv 1)) xa_nil)))))))
    (xs_cons (xs_if (xt_tmp 4 (PXW.xt (xw_and (xt_cmp op_gt r2_B0 (x_callB call_len c1_len (by rfl) T.t_len bt_len (xa_cons (x_var (pv 4)) xa_nil)) x_int (nomark _)) (xw_and1 (xt_cmp op_eq r2_eq (x_callBg (G_ltake T) (hr.mono (by decide)) (by rfl) T.d_ltake.g T.d_ltake.F.kp T.d_ltake.b (xa_cons (x_var (pv 0)) (xa_cons x_int xa_nil))) x_int (nomark _)))))) (xs_one (xs_setIx (i := 4) (pv 4) x_neg (x_ownIx (i := 4) (k := 0) (pv 4) x_int (fun _ _ => rfl)))) xs_nil)
    (xs_one (xs_frz 4 (xs_ret (x_var (pv 4)))))))), ?_⟩
    intro bg l P h
    obtain ⟨b, ts, k, rfl, rfl, h0, h1, hk, rfl⟩ := h
    simp [and_assoc]
    refine ⟨_, ⟨b, (k : Int) + 1, rfl, rfl, by omega, by omega, rfl⟩, ?_⟩
    rintro _ ⟨r, rfl, r0, r1⟩
    refine ⟨r.toNat, by rw [Int.toNat_of_nonneg r0], by rw [sizeLine_eq]; omega, ?_⟩
    refine forW_run (fun n ds => ∃ tl sl, tl.length = n ∧ n ≤ k ∧ GTels ts tl ∧ ds = [Sl.val (D.ref b), Sl.val (solD ts), Sl.val (D.int ↑k), Sl.val (D.lst (List.map D.str wordsL)), Sl.own (tl.map telD), sl]) _ 0 _ ⟨[], .no, rfl, Nat.zero_le _, (fun t ht => by cases ht), rfl⟩ (fun i x ds hx hI N hN => ?_) fun ds hI => ?_
    · obtain ⟨tl, sl, hl, hn, hg, rfl⟩ := hI
      have hi : i < r.toNat := by
        have := (List.getElem?_eq_some_iff.mp hx).1
        simpa using this
      simp [and_assoc]
      refine ⟨by rw [sizeLine_eq]; omega, _, ⟨b, _, wordsL.map .str, rfl, rfl, .inl rfl, by decide, by decide, rfl⟩, ?_⟩
      intro d hd
      obtain ⟨w, hw, rfl⟩ := words_mem hd
      refine ⟨by decide, _, ⟨b, ts, rfl, rfl, h0, h1, rfl⟩, ?_⟩
      rintro _ ⟨a, c, rfl, ha, hc⟩
      refine ⟨_, ⟨_, rfl, by show 3 ≤ sizeLine; decide, rfl⟩, ?_⟩
      refine hN _ ⟨tl ++ [(w, a, c)], _, by rw [List.length_append, hl]; simp, by omega, fun t ht => ?_, by rw [List.map_append]; rfl⟩
      rcases List.mem_append.mp ht with h | h
      · exact hg t h
      · rw [List.mem_singleton.mp h]
        exact ⟨hw, ha.gsum h1, hc.gsum h1, ha.sub, hc.sub⟩
    · obtain ⟨tl, sl, hl, hn, hg, rfl⟩ := hI
      simp [and_assoc]
      have g0 : ∃ tl_1, List.map telD tl = List.map telD tl_1 ∧ tl_1.length ≤ k ∧ GTels ts tl_1 := ⟨tl, rfl, by omega, hg⟩
      by_cases one : (tl.length : Int) ≤ 1
      · exact .inl ⟨one, g0⟩
      · refine .inr ⟨by omega, _, ⟨b, 6, rfl, rfl, by decide, by decide, rfl⟩, ?_⟩
        rintro _ ⟨u, rfl, u0, u1⟩
        refine eqW (k := decide (u = 0)) rfl (fun _ => g0) fun _ => ?_
        have hp : 0 < tl.length := by omega
        refine ⟨tl.length - 1, ?_, telD tl[0], atI_nat (j := 0) (by rw [List.getElem?_map, List.getElem?_eq_getElem hp]; rfl), tl.set (tl.length - 1) tl[0], by rw [List.map_set], by rw [List.length_set]; omega, fun t ht => ?_⟩
        · unfold ixN
          simp
          omega
        · rcases List.mem_or_eq_of_mem_set ht with h | h
          · exact hg t h
          · rw [h]; exact hg _ (List.getElem_mem hp)


structure GPair (ts a c : List Str) : Prop where
  l : GSum a
  r : GSum c
  il : ∀ x ∈ a, x ∈ ts
  ir : ∀ x ∈ c, x ∈ ts
theorem eqv_lst0 (l : List D) : PyData.eqv (py (.lst l)) (py (.lst [])) = decide (l = []) := by
  cases l with
  | nil => simp [py, pys, PyData.eqv, PyData.eqvAll]
  | cons x l => simp [py, pys, PyData.eqv, PyData.eqvAll]
theorem okD_nil : okD (.lst []) := (okN.lst (k := 0) (fun d hd => by cases hd)).ok (by decide)
theorem okD_tels {ts : List Str} {tl : List Tel} (h : GTels ts tl) : okD (.lst (tl.map telD)) := (okN.lst (k := 2) (fun d hd => by
  obtain ⟨t, ht, rfl⟩ := List.mem_map.mp hd
  exact okN.tel (h t ht))).ok (by decide)
def W_lnear_pair : DW := fun bg l P => ∃ b ts tl, bg = Option.some b ∧ l = [.ref b, solD ts, .lst (tl.map telD)] ∧ ts ≠ [] ∧ GThings ts ∧ GTels ts tl ∧ tl.length ≤ 1000 ∧ P = fun d => ∃ a c, d = .tup [solD a, solD c] ∧ GPair ts a c
theorem G_lnear_pair (T : Tx K mg) : FnOk P w K mg base CX0 5 (He.ga K "_law_near_pair") T.d_lnear_pair.fd ["_law_bag_here", "_law_things_here", "_law_tellings_here"] (spW K W_lnear_pair) := by
  refine fn_okD (k := 4) T.d_lnear_pair.F sc_lnear_pair ?_ (by decide) (fun cdv A outer s H E hr => ?_)
  · intro bg l P h
    obtain ⟨x, y, z, _, rfl, _⟩ := h; rfl
  · refine ⟨_, (xs_cons (xs_if (PXW.xt (xw_or (xt_cmp (op_eqD hr.units) r2_eqD (x_var (pv 2)) (x_lst xa_nil) (nomark _)) (xw_or1 (xt_cmp op_gt r2_B0 (x_callBg (G_ltake T) (hr.mono (by decide)) (by rfl) T.d_ltake.g T.d_ltake.F.kp T.d_ltake.b (xa_cons (x_var (pv 0)) (xa_cons x_int xa_nil))) x_int (nomark _))))) (xs_one (xs_ret (x_callBg (G_lpair T) (hr.mono (by decide)) (by rfl) T.d_lpair.g T.d_lpair.F.kp T.d_lpair.b (xa_cons (x_var (pv 0)) (xa_cons (x_var (pv 1)) xa_nil))))) xs_nil)
    (xs_cons (xs_set (i := 3) sc_lnear_pair.nd rfl (.inl rfl) (x_slice sl_tupA s3_T (x_callBg (G_lone T) (hr.mono (by decide)) (by rfl) T.d_lone.g T.d_lone.F.kp T.d_lone.b (xa_cons (x_var (pv 0)) (xa_cons (x_var (pv 2)) xa_nil))) (xo_some x_int) xo_none))
    (xs_one (xs_ret (x_if (xt_cmp op_eq r2_eq (x_callBg (G_ltake T) (hr.mono (by decide)) (by rfl) T.d_ltake.g T.d_ltake.F.kp T.d_ltake.b (xa_cons (x_var (pv 0)) (xa_cons x_int xa_nil))) x_int (nomark _)) (x_var (pv 3)) (x_rev2 (x_var (pv 3)))))))), ?_⟩
    intro bg l P h
    obtain ⟨b, ts, tl, rfl, rfl, h0, h1, h2, hk, rfl⟩ := h
    simp [and_assoc]
    refine ⟨okD_tels h2, okD_nil, ?_⟩
    have pr : ∃ P', W_lpair (Option.some b) [D.ref b, solD ts] P' ∧ ∀ (d : D), P' d → ∃ a c, d = D.tup [solD a, solD c] ∧ GPair ts a c := ⟨_, ⟨b, ts, rfl, rfl, h0, h1, rfl⟩, fun d ⟨a, c, e, ha, hc⟩ => ⟨a, c, e, ha.gsum h1, hc.gsum h1, ha.sub, hc.sub⟩⟩
    rw [eqv_lst0]
    by_cases e : tl.map telD = []
    · exact .inr ⟨decide_eq_true e, pr⟩
    · refine .inl ⟨decide_eq_false e, _, ⟨b, 3, rfl, rfl, by decide, by decide, rfl⟩, ?_⟩
      rintro _ ⟨u, rfl, u0, u1⟩
      refine ⟨_, ⟨u, rfl, rfl⟩, ?_⟩
      by_cases u3 : 0 < u
      · exact .inr ⟨by rw [decide_eq_true u3], pr⟩
      · refine .inl ⟨by rw [decide_eq_false u3], _, ⟨b, _, tl.map telD, rfl, rfl, .inl rfl, List.length_pos_iff.mpr e, by rw [List.length_map]; omega, rfl⟩, ?_⟩
        intro d hd
        obtain ⟨t, ht, rfl⟩ := List.mem_map.mp hd
        have g := h2 t ht
        refine ⟨.tup [solD t.2.1, solD t.2.2], ⟨_, rfl, by rw [cut_from1]; rfl⟩, _, ⟨b, 2, rfl, rfl, by decide, by decide, rfl⟩, ?_⟩
        rintro _ ⟨y, rfl, y0, y1⟩
        refine eqW (k := decide (y = 0)) rfl (fun _ => ?_) fun _ => ?_
        · exact ⟨_, _, rfl, _, rfl, _, rfl, g.r, g.l, g.ir, g.il⟩
        · exact ⟨_, _, rfl, g.l, g.r, g.il, g.ir⟩


def StayOk (x y : Str) : Prop := x = "open" ∨ y = x ∨ (x = "unlike" ∧ (y = "heavier" ∨ y = "lighter"))
def W_lstays : DW := fun _ l P => ∃ x y : Str, l = [.str x, .str y] ∧ StayOk x y ∧ P = (· = .bl true)
theorem G_lstays (T : Tx K mg) : FnOk P w K mg base CX0 1 (He.ga K "_law_stays") T.d_lstays.fd ["_law_before", "_law_later"] (spW K W_lstays) := by
  refine fn_okD (k := 0) T.d_lstays.F sc_lstays ?_ (by decide) (fun cdv A outer s H E hr => ?_)
  · intro bg l P h
    obtain ⟨x, y, rfl, _⟩ := h; rfl
  · refine ⟨_, (xs_cons (xs_if (xt_cmp op_eq r2_eq (x_var (pv 0)) x_str (nomark _)) (xs_one (xs_ret x_bl)) xs_nil)
    (xs_one (xs_ret (x_or (x_cmp op_eq r2_eq (x_var (pv 1)) (x_var (pv 0)) (nomark _)) (x_one (x_and (x_cmp op_eq r2_eq (x_var (pv 0)) x_str (nomark _)) (x_one (x_cmp op_in_seq r2_in (x_var (pv 1)) (x_tup (xa_cons x_str (xa_cons x_str xa_nil))) (by rfl))))))))), ?_⟩
    intro bg l P h
    obtain ⟨x, y, rfl, h, rfl⟩ := h
    simp [and_assoc]
    have ew : ∀ {d e : D} {k : Bool} {F : Prop}, sEq d e = Option.some k → (k = false → F) → ∃ z, (sEq d e = Option.some false ∧ z = D.bl false ∨ sEq d e = Option.some true ∧ z = D.bl true) ∧ (z = D.bl false ∧ F ∨ z = D.bl true) := fun {d e k F} h hf => by
      cases k with
      | false => exact ⟨_, .inl ⟨h, rfl⟩, .inl ⟨rfl, hf rfl⟩⟩
      | true => exact ⟨_, .inr ⟨h, rfl⟩, .inr rfl⟩
    refine ew (k := decide (x = "open")) rfl fun n1 => ew (k := decide (y = x)) rfl fun n2 => ?_
    rcases h with h | h | ⟨h, g⟩
    · exact absurd h (of_decide_eq_false n1)
    · exact absurd h (of_decide_eq_false n2)
    · refine ⟨_, .inr ⟨congrArg Option.some (decide_eq_true h), rfl⟩, rfl, by decide, [("heavier" : Str), "lighter"], rfl, ?_⟩
      rcases g with h | h <;> simp [h]
end
end K8
set_option Elab.async false
set_option linter.all false
set_option maxRecDepth 100000
set_option maxHeartbeats 4000000
namespace K8
open PySem PySem.Spec PyProof.Rows L2
section
variable {P : Program} {w : World} {K : PySem.W.Frag} {mg : Str → Option Value} {base : Heap}

def W_lfew_of : DW := fun _ l P => ∃ ts tl, l = [solD ts, .lst (tl.map telD)] ∧ ts.length ≤ 6 ∧ GTels ts tl ∧ tl.length ≤ 1000 ∧ P = fun d => ∃ tl', d = .lst (tl'.map telD) ∧ tl'.length ≤ tl.length ∧ GTels ts tl'
theorem G_lfew_of (T : Tx K mg) : FnOk P w K mg base CX0 1 (He.ga K "_law_few_of") T.d_lfew_of.fd ["_law_things_here", "_law_tellings_here"] (spW K W_lfew_of) := by
  refine fn_okD (k := 0) T.d_lfew_of.F sc_lfew_of ?_ (by decide) (fun cdv A outer s H E hr => ?_)
  · intro bg l P h
    obtain ⟨x, y, rfl, _⟩ := h; rfl
  · refine ⟨_, (xs_cons (xs_parO2 (i := 2) (j := 3) rfl sc_lfew_of.nd rfl rfl (by decide) rfl rfl (x_disp3 pe_str pe_str pe_str x_int x_int (x_ix ix_seq r2_ix (x_lst (xa_cons x_int (xa_cons x_int (xa_cons x_int (xa_cons x_int (xa_cons x_int (xa_cons x_int (xa_cons x_int xa_nil)))))))) (x_callB call_len c1_len (by rfl) T.t_len bt_len (xa_cons (x_var (pv 0)) xa_nil)) (fun _ _ => rfl)) (by decide +kernel)) (by rfl))
    (xs_cons (xs_for PassesOwn.never rfl (xi_list (x_var (pv 1))) (xg_name (pg_name (i := 4) sc_lfew_of.nd rfl (.inr rfl))) (xs_one (xs_if (xt_tmp 3 (xt_cmp op_lt r2_B0 (x_callB call_len c1_len (by rfl) T.t_len bt_len (xa_cons (x_lc (own := [("_law_one_here", 5)]) (gs := [5]) rfl sc_lfew_of.nd (xi_list (x_var (pv 3))) (blkOk_by (by kernel_rfl)) (fun _ _ _ _ _ => (xg_name (pg_name (i := 5) sc_lfew_of.nd rfl (.inl rfl)))) (fun _ _ _ _ _ => (xts_one (xt_cmp op_eq r2_eq (x_ix ix_seq r2_ix (x_var (pv 5)) x_int (fun _ _ => rfl)) (x_ix ix_seq r2_ix (x_var (pv 4)) x_int (fun _ _ => rfl)) (nomark _)))) (fun _ _ _ _ _ => (x_var (pv 5)))) xa_nil)) (x_dget (hu_of hr) (x_var (pv 2)) (x_ix ix_seq r2_ix (x_var (pv 4)) x_int (fun _ _ => rfl)) (fun _ _ => rfl)) (nomark _))) (xs_one (xs_append (i := 3) (pv 3) (x_var (pv 4)))) xs_nil)))
    (xs_one (xs_frz 3 (xs_ret (x_var (pv 3))))))), ?_⟩
    intro bg l P h
    obtain ⟨ts, tl, rfl, h0, h1, hk, rfl⟩ := h
    simp [and_assoc]
    obtain ⟨m, hm⟩ : ∃ m : Int, atI [D.int 6, D.int 6, D.int 6, D.int 5, D.int 4, D.int 4, D.int 3] (ts.length : Int) = Option.some (.int m) := by
      generalize hn : ts.length = n at h0
      rcases (show n = 0 ∨ n = 1 ∨ n = 2 ∨ n = 3 ∨ n = 4 ∨ n = 5 ∨ n = 6 by omega) with rfl | rfl | rfl | rfl | rfl | rfl | rfl <;> exact ⟨_, rfl⟩
    refine ⟨by decide, _, .inl ⟨ts.map .str, .inr (.inr rfl), by rw [List.length_map]⟩, _, ⟨_, rfl, hm⟩, ?_⟩
    refine forW_run (fun n ds => ∃ tl' sl, tl'.length ≤ n ∧ n ≤ tl.length ∧ GTels ts tl' ∧ ds = [Sl.val (solD ts), Sl.val (D.lst (List.map telD tl)), Sl.val (D.dic [Sum.inr (Str.ofString "alike"), Sum.inr (Str.ofString "unlike"), Sum.inr (Str.ofString "heavier")] [D.int 6, D.int 6, .int m]), Sl.own (tl'.map telD), sl, .no]) _ 0 _ ⟨[], .no, Nat.le_refl _, Nat.zero_le _, (fun t ht => by cases ht), rfl⟩ (fun i x ds hx hI N hN => ?_) fun ds hI => ?_
    · obtain ⟨tl', sl, hl, hn, hg, rfl⟩ := hI
      rw [List.getElem?_map] at hx
      obtain ⟨t, ht, rfl⟩ := Option.map_eq_some_iff.mp hx
      have hi := (List.getElem?_eq_some_iff.mp ht).1
      have gt := h1 t (List.mem_of_getElem? ht)
      have i0 : ∀ t : Tel, atI [.str t.1, solD t.2.1, solD t.2.2] 0 = Option.some (.str t.1) := fun t => rfl
      simp [and_assoc]
      refine lcW_fil telD telD (fun u => decide (u.1 = t.1)) (fun u => u) tl' [] _ (fun u hu Y N' hY hN' => ?_) ?_
      · simp [telD]
        exact ⟨_, i0 u, _, i0 t, eqW (k := decide (u.1 = t.1)) rfl hN' hY⟩
      · refine ⟨["alike", "unlike", "heavier"], rfl, _, ⟨_, .inr (.inl rfl), i0 t⟩, t.1, rfl, ?_⟩
        obtain ⟨z, hz⟩ : ∃ z : Int, getS ["alike", "unlike", "heavier"] [D.int 6, D.int 6, D.int m] t.1 = Option.some (.int z) := by
          have h := gt.wd
          simp only [wordsL, List.mem_cons, List.not_mem_nil, or_false] at h
          rcases h with h | h | h <;> rw [h]
          · exact ⟨6, by rfl⟩
          · exact ⟨m, by rfl⟩
          · exact ⟨6, by rfl⟩
        refine ⟨_, hz, _, ⟨z, rfl, rfl⟩, ?_⟩
        cases hd : decide ((([] : List D) ++ ((tl'.filter fun u => decide (u.1 = t.1)).map fun u => u).map telD).length < z) with
        | false => exact .inl ⟨rfl, hN _ ⟨tl', _, by omega, by omega, hg, rfl⟩⟩
        | true =>
          refine .inr ⟨rfl, by rw [sizeLine_eq]; omega, hN _ ⟨tl' ++ [t], _, by rw [List.length_append]; simp; omega, by omega, fun u hu => ?_, by rw [List.map_append]; rfl⟩⟩
          rcases List.mem_append.mp hu with h | h
          · exact hg u h
          · rw [List.mem_singleton.mp h]; exact gt
    · obtain ⟨tl', sl, hl, hn, hg, rfl⟩ := hI
      simp
      exact ⟨tl', rfl, by simpa using hl, hg⟩

def W_lrow : DW := fun _ l P => ∃ (x : D) (ts a b : List Str), l = [x, .tup [.sol (a.map .str), .sol (b.map .str)]] ∧ IsT x (ts.map .str) ∧ P = (· = row (rowOf ts a b))
theorem G_lrow (T : Tx K mg) : FnOk P w K mg base CX0 1 (He.ga K "_law_row") T.d_lrow.fd ["_law_things_here", "_law_pair_here"] (spW K W_lrow) := by
  refine fn_okD (k := 0) T.d_lrow.F sc_lrow ?_ (by decide) (fun cdv A outer s H E hr => ?_)
  · intro bg l P h
    obtain ⟨x, ts, a, b, rfl, _⟩ := h; rfl
  · refine ⟨_, (xs_one (xs_ret (x_callTy call_tuple_of c1_tup (by rfl) T.t_tuple bt_tuple (xa_cons (x_lc (own := [("_law_name", 2)]) (gs := [2]) rfl sc_lrow.nd (xi_tup (x_var (pv 0))) (blkOk_by (by kernel_rfl)) (fun _ _ _ _ _ => (xg_name (pg_name (i := 2) sc_lrow.nd rfl (.inl rfl)))) (fun _ _ _ _ _ => xts_nil) (fun _ _ _ _ _ => (x_op op_sub r2_I0 (x_cnt (x_ix ix_seq r2_ix (x_var (pv 1)) x_int (fun _ _ => rfl)) (x_var (pv 2))) (x_cnt (x_ix ix_seq r2_ix (x_var (pv 1)) x_int (fun _ _ => rfl)) (x_var (pv 2)))))) xa_nil)))), ?_⟩
    intro bg l P h
    obtain ⟨x, ts, a, b, rfl, hx, rfl⟩ := h
    simp [row, and_assoc]
    refine ⟨_, hx, ?_⟩
    refine lcW_map D.str D.int (fun n => (a.count n : Int) - (b.count n : Int)) ts [] _ (fun n hn Y N y => ?_) ?_
    · simp [and_assoc, atI, ixN, str_inj]
      exact y
    · simp [rowOf]

def W_lrows : DW := fun _ l P => ∃ ts tl wd, l = [solD ts, .lst (tl.map telD), .str wd] ∧ P = (· = rows (rowsOf ts tl wd))
theorem G_lrows (T : Tx K mg) : FnOk P w K mg base CX0 2 (He.ga K "_law_rows") T.d_lrows.fd ["_law_things_here", "_law_tellings_here", "_law_word"] (spW K W_lrows) := by
  refine fn_okD (k := 1) T.d_lrows.F sc_lrows ?_ (by decide) (fun cdv A outer s H E hr => ?_)
  · intro bg l P h
    obtain ⟨x, ts, a, rfl, _⟩ := h; rfl
  · refine ⟨_, (xs_one (xs_ret (x_lc (own := [("_law_telling", 3)]) (gs := [3]) rfl sc_lrows.nd (xi_list (x_var (pv 1))) (blkOk_by (by kernel_rfl)) (fun _ _ _ _ _ => (xg_name (pg_name (i := 3) sc_lrows.nd rfl (.inl rfl)))) (fun _ _ _ _ _ => (xts_one (xt_cmp op_eq r2_eq (x_ix ix_seq r2_ix (x_var (pv 3)) x_int (fun _ _ => rfl)) (x_var (pv 2)) (nomark _)))) (fun _ _ _ _ _ => (x_call (G_lrow T) (hr.mono (by decide)) (by rfl) T.d_lrow.g T.d_lrow.F.kp T.d_lrow.b (xa_cons (x_var (pv 0)) (xa_cons (x_slice sl_tupA s3_T (x_var (pv 3)) (xo_some x_int) xo_none) xa_nil))))))), ?_⟩
    intro bg l P h
    obtain ⟨ts, tl, wd, rfl, rfl⟩ := h
    simp [and_assoc]
    refine lcW_fil telD row (fun t => decide (t.1 = wd)) (fun t => rowOf ts t.2.1 t.2.2) tl [] _ (fun t ht Y N y n => ?_) ?_
    · by_cases e : t.1 = wd
      · simp [telD, atI, ixN, sEq, e, and_assoc, cut_from1]
        refine ⟨_, ⟨solD ts, ts, t.2.1, t.2.2, rfl, .inr rfl, rfl⟩, ?_⟩
        rintro _ rfl
        exact y (by simp [e])
      · simp [telD, atI, ixN, sEq, e, and_assoc]
        exact n (by simp [e])
    · rfl


theorem at_vf {r : List Int} {k : Nat} (h : k < r.length) : atI (r.map D.int) (k : Int) = Option.some (.int (vf r k)) := by
  refine atI_nat ?_
  rw [List.getElem?_map, List.getElem?_eq_getElem h, vf_lt h]
  rfl
def lint (r : List Int) : D := .lst (r.map .int)
def negI (r : List Int) : List Int := r.map (0 - ·)
def lessI (r : List Int) (m : Int) (o : List Int) (i : Int) : List Int := (List.range r.length).map fun k => m * vf r k - i * vf o k
def W_lless : DW := fun _ l P => ∃ (r o : List Int) (m i : Int), l = [lint r, .int m, lint o, .int i] ∧ r.length = o.length ∧ r.length ≤ 1000 ∧ (∀ x ∈ r, IntMulOk m x) ∧ (∀ x ∈ o, IntMulOk i x) ∧ P = (· = lint (lessI r m o i))
theorem G_lless (T : Tx K mg) : FnOk P w K mg base CX0 1 (He.ga K "_law_less") T.d_lless.fd ["_law_row_here", "_law_mine", "_law_other", "_law_its"] (spW K W_lless) := by
  refine fn_okD (k := 0) T.d_lless.F sc_lless ?_ (by decide) (fun cdv A outer s H E hr => ?_)
  · intro bg l P h
    obtain ⟨x, ts, a, b, rfl, _⟩ := h; rfl
  · refine ⟨_, (xs_one (xs_ret (x_lc (own := [("_law_k", 4)]) (gs := [4]) rfl sc_lless.nd (xi_range (by rfl) T.t_range (xa_cons (x_callB call_len c1_len (by rfl) T.t_len bt_len (xa_cons (x_var (pv 0)) xa_nil)) xa_nil)) (blkOk_by (by kernel_rfl)) (fun _ _ _ _ _ => (xg_name (pg_name (i := 4) sc_lless.nd rfl (.inl rfl)))) (fun _ _ _ _ _ => xts_nil) (fun _ _ _ _ _ => (x_op op_sub r2_I0 (x_op op_mulX r2_IC (x_var (pv 1)) (x_ix ix_seq r2_ix (x_var (pv 0)) (x_var (pv 4)) (fun _ _ => rfl))) (x_op op_mulX r2_IC (x_var (pv 3)) (x_ix ix_seq r2_ix (x_var (pv 2)) (x_var (pv 4)) (fun _ _ => rfl)))))))), ?_⟩
    intro bg l P h
    obtain ⟨r, o, m, i, rfl, hl, hk, h1, h2, rfl⟩ := h
    simp [lint, and_assoc]
    refine ⟨_, rfl, by rw [sizeLine_eq]; omega, ?_⟩
    refine lcW_map (fun k : Nat => D.int (k : Int)) D.int (fun k => m * vf r k - i * vf o k) (List.range r.length) [] _ (fun k hk' Y N y => ?_) ?_
    · have k1 : k < r.length := List.mem_range.mp hk'
      have k2 : k < o.length := by omega
      simp [and_assoc]
      have m1 : vf r k ∈ r := by rw [vf_lt k1]; exact List.getElem_mem k1
      have m2 : vf o k ∈ o := by rw [vf_lt k2]; exact List.getElem_mem k2
      exact ⟨_, at_vf k1, _, ⟨_, rfl, h1 _ m1, rfl⟩, _, at_vf k2, _, ⟨_, rfl, h2 _ m2, rfl⟩, _, ⟨_, rfl, _, rfl, rfl⟩, y⟩
    · simp [lessI]


def crossL (a b : List Int) (t : Nat) : List Int := (a.zip b).map fun p => p.1 * vf b t - p.2 * vf a t
def W_lcrossed : DW := fun _ l P => ∃ (a b : List Int) (t : Nat), l = [row a, row b, .int (t : Int)] ∧ t < a.length ∧ a.length = b.length ∧ (∀ x ∈ a, IntMulOk x (vf b t)) ∧ (∀ x ∈ b, IntMulOk x (vf a t)) ∧ P = (· = lint (crossL a b t))
theorem G_lcrossed (T : Tx K mg) : FnOk P w K mg base CX0 1 (He.ga K "_law_crossed") T.d_lcrossed.fd ["_law_a", "_law_b", "_law_at"] (spW K W_lcrossed) := by
  refine fn_okD (k := 0) T.d_lcrossed.F sc_lcrossed ?_ (by decide) (fun cdv A outer s H E hr => ?_)
  · intro bg l P h
    obtain ⟨x, ts, a, rfl, _⟩ := h; rfl
  · refine ⟨_, (xs_cons (xs_asg (x_tup (xa_cons (x_ix ix_seq r2_ix (x_var (pv 0)) (x_var (pv 2)) (fun _ _ => rfl)) (xa_cons (x_ix ix_seq r2_ix (x_var (pv 1)) (x_var (pv 2)) (fun _ _ => rfl)) xa_nil))) (xg_two rfl (xg_name (pg_name (i := 3) sc_lcrossed.nd rfl (.inr rfl))) (xg_name (pg_name (i := 4) sc_lcrossed.nd rfl (.inr rfl)))))
    (xs_one (xs_ret (x_lc (own := [("_law_p", 5), ("_law_q", 6)]) (gs := [5, 6]) rfl sc_lcrossed.nd (xi_zip (by rfl) T.t_zip (xa_cons (x_var (pv 0)) (xa_cons (x_var (pv 1)) xa_nil))) (blkOk_by (by kernel_rfl)) (fun _ _ _ _ _ => (xg_two rfl (xg_name (pg_name (i := 5) sc_lcrossed.nd rfl (.inl rfl))) (xg_name (pg_name (i := 6) sc_lcrossed.nd rfl (.inl rfl))))) (fun _ _ _ _ _ => xts_nil) (fun _ _ _ _ _ => (x_op op_sub r2_I0 (x_op op_mulX r2_IC (x_var (pv 5)) (x_var (pv 4))) (x_op op_mulX r2_IC (x_var (pv 6)) (x_var (pv 3))))))))), ?_⟩
    intro bg l P h
    obtain ⟨a, b, t, rfl, ht, hl, h1, h2, rfl⟩ := h
    have ht2 : t < b.length := by omega
    simp [row, lint, and_assoc]
    refine ⟨_, at_vf ht, _, at_vf ht2, by decide, ?_⟩
    rw [zipD_ints]
    refine lcW_map (fun p : Int × Int => D.tup [.int p.1, .int p.2]) D.int (fun p => p.1 * vf b t - p.2 * vf a t) _ [] _ (fun x hx Y N y => ?_) ?_
    · have m := List.of_mem_zip hx
      simp [and_assoc]
      exact ⟨h1 _ m.1, h2 _ m.2, y⟩
    · rfl

def W_lnegative : DW := fun _ l P => ∃ (a : List Int), l = [lint a] ∧ P = (· = row (negI a))
theorem G_lnegative (T : Tx K mg) : FnOk P w K mg base CX0 1 (He.ga K "_law_negative") T.d_lnegative.fd ["_law_row_here"] (spW K W_lnegative) := by
  refine fn_okD (k := 0) T.d_lnegative.F sc_lnegative ?_ (by decide) (fun cdv A outer s H E hr => ?_)
  · intro bg l P h
    obtain ⟨x, rfl, _⟩ := h; rfl
  · refine ⟨_, (xs_one (xs_ret (x_callTy call_tuple_of c1_tup (by rfl) T.t_tuple bt_tuple (xa_cons (x_lc (own := [("_law_part", 1)]) (gs := [1]) rfl sc_lnegative.nd (xi_list (x_var (pv 0))) (blkOk_by (by kernel_rfl)) (fun _ _ _ _ _ => (xg_name (pg_name (i := 1) sc_lnegative.nd rfl (.inl rfl)))) (fun _ _ _ _ _ => xts_nil) (fun _ _ _ _ _ => (x_op op_sub r2_I0 x_int (x_var (pv 1))))) xa_nil)))), ?_⟩
    intro bg l P h
    obtain ⟨a, rfl, rfl⟩ := h
    simp [lint, row, and_assoc]
    refine lcW_map D.int D.int (fun p => 0 - p) a [] _ (fun x hx Y N y => ?_) ?_
    · simp at y
      simpa [and_assoc] using y
    · rfl


def freedL (a b : List Int) (t : Nat) : List Int := if 0 < vf b t then crossL a b t else negI (crossL a b t)
def W_lfreed : DW := fun _ l P => ∃ (a b : List Int) (t : Nat), l = [row a, row b, .int (t : Int)] ∧ t < a.length ∧ a.length = b.length ∧ (∀ x ∈ a, IntMulOk x (vf b t)) ∧ (∀ x ∈ b, IntMulOk x (vf a t)) ∧ P = (· = row (freedL a b t))
theorem G_lfreed (T : Tx K mg) : FnOk P w K mg base CX0 2 (He.ga K "_law_freed") T.d_lfreed.fd ["_law_row_here", "_law_lead", "_law_at"] (spW K W_lfreed) := by
  refine fn_okD (k := 1) T.d_lfreed.F sc_lfreed ?_ (by decide) (fun cdv A outer s H E hr => ?_)
  · intro bg l P h
    obtain ⟨x, ts, a, rfl, _⟩ := h; rfl
  · refine ⟨_, (xs_cons (xs_set (i := 3) sc_lfreed.nd rfl (.inl rfl) (x_call (G_lcrossed T) (hr.mono (by decide)) (by rfl) T.d_lcrossed.g T.d_lcrossed.F.kp T.d_lcrossed.b (xa_cons (x_var (pv 0)) (xa_cons (x_var (pv 1)) (xa_cons (x_var (pv 2)) xa_nil)))))
    (xs_one (xs_ret (x_if (xt_cmp op_gt r2_B0 (x_ix ix_seq r2_ix (x_var (pv 1)) (x_var (pv 2)) (fun _ _ => rfl)) x_int (nomark _)) (x_callTy call_tuple_of c1_tup (by rfl) T.t_tuple bt_tuple (xa_cons (x_var (pv 3)) xa_nil)) (x_call (G_lnegative T) (hr.mono (by decide)) (by rfl) T.d_lnegative.g T.d_lnegative.F.kp T.d_lnegative.b (xa_cons (x_var (pv 3)) xa_nil)))))), ?_⟩
    intro bg l P h
    obtain ⟨a, b, t, rfl, ht, hl, h1, h2, rfl⟩ := h
    have ht2 : t < b.length := by omega
    simp [and_assoc]
    refine ⟨_, ⟨a, b, t, rfl, ht, hl, h1, h2, rfl⟩, ?_⟩
    rintro _ rfl
    refine ⟨_, ⟨b.map .int, .inr (.inl rfl), at_vf ht2⟩, _, ⟨_, rfl, rfl⟩, ?_⟩
    by_cases p : 0 < vf b t
    · refine .inr ⟨by rw [decide_eq_true p], _, .inl rfl, ?_⟩
      rw [freedL, if_pos p]
      rfl
    · refine .inl ⟨by rw [decide_eq_false p], _, ⟨_, rfl, rfl⟩, ?_⟩
      rintro _ rfl
      rw [freedL, if_neg p]


def wat (ts : List Str) (y : List Int) (n : Str) : Int := ((ts.zip y).lookup n).getD 0
def worthL (ts : List Str) (y : List Int) (s : List Str) : Int := (s.map fun n => wat ts y n).sum
theorem wat_get : ∀ {ts : List Str} {y : List Int} {n : Str}, y.length = ts.length → n ∈ ts → getS ts (y.map D.int) n = Option.some (.int (wat ts y n))
  | [], y, n, _, h => by cases h
  | t :: ts, [], n, h, _ => by simp at h
  | t :: ts, v :: y, n, h, hn => by
    unfold getS wat
    rw [List.map_cons, List.zip_cons_cons, List.zip_cons_cons, List.lookup_cons, List.lookup_cons]
    by_cases c : n = t
    · subst c
      rw [beq_self_eq_true]
      rfl
    · rw [beq_eq_false_iff_ne.mpr c]
      rcases List.mem_cons.mp hn with h' | h'
      · exact absurd h' c
      · exact wat_get (by simpa using h) h'
def W_lworth : DW := fun _ l P => ∃ (ts s : List Str) (y : List Int), l = [.dic (ts.map Sum.inr) (y.map .int), solD s] ∧ y.length = ts.length ∧ (∀ x ∈ s, x ∈ ts) ∧ P = (· = .int (worthL ts y s))
theorem G_lworth (T : Tx K mg) : FnOk P w K mg base CX0 1 (He.ga K "_law_worth") T.d_lworth.fd ["_law_worths", "_law_one_here"] (spW K W_lworth) := by
  refine fn_okD (k := 0) T.d_lworth.F sc_lworth ?_ (by decide) (fun cdv A outer s H E hr => ?_)
  · intro bg l P h
    obtain ⟨x, ts, a, rfl, _⟩ := h; rfl
  · refine ⟨_, (xs_one (xs_ret (x_callB (cr_sum rfl) c1_sum (by rfl) T.t_sum bt_sum (xa_cons (x_lc (own := [("_law_name", 2)]) (gs := [2]) rfl sc_lworth.nd (xi_tup (x_var (pv 1))) (blkOk_by (by kernel_rfl)) (fun _ _ _ _ _ => (xg_name (pg_name (i := 2) sc_lworth.nd rfl (.inl rfl)))) (fun _ _ _ _ _ => xts_nil) (fun _ _ _ _ _ => (x_dget (hu_of hr) (x_var (pv 0)) (x_var (pv 2)) (fun _ _ => rfl)))) xa_nil)))), ?_⟩
    intro bg l P h
    obtain ⟨ts, s, y, rfl, hl, hs, rfl⟩ := h
    simp [solD, and_assoc]
    refine lcW_map D.str D.int (fun n => wat ts y n) s [] _ (fun x hx Y N hY => ?_) ?_
    · simp [and_assoc]
      exact ⟨ts, rfl, _, wat_get hl (hs x hx), hY⟩
    · exact ⟨_, rfl, rfl⟩


/-- the worths fit the telling -/
def TFit (ts : List Str) (y : List Int) (t : Tel) : Prop := (t.1 = "alike" ∧ worthL ts y t.2.1 = worthL ts y t.2.2) ∨ (t.1 = "heavier" ∧ worthL ts y t.2.2 < worthL ts y t.2.1) ∨ (t.1 = "unlike" ∧ worthL ts y t.2.1 ≠ worthL ts y t.2.2)
def W_lfits_one : DW := fun _ l P => ∃ (ts : List Str) (t : Tel) (y : List Int), l = [telD t, .dic (ts.map Sum.inr) (y.map .int)] ∧ y.length = ts.length ∧ GTel ts t ∧ TFit ts y t ∧ P = (· = .bl true)
theorem G_lfits_one (T : Tx K mg) : FnOk P w K mg base CX0 2 (He.ga K "_law_fits_one") T.d_lfits_one.fd ["_law_telling", "_law_worths"] (spW K W_lfits_one) := by
  refine fn_okD (k := 1) T.d_lfits_one.F sc_lfits_one ?_ (by decide) (fun cdv A outer s H E hr => ?_)
  · intro bg l P h
    obtain ⟨x, ts, a, rfl, _⟩ := h; rfl
  · refine ⟨_, (xs_cons (xs_par (i := 2) (j := 3) rfl sc_lfits_one.nd rfl rfl (by decide) rfl rfl (xa_cons (x_call (G_lworth T) (hr.mono (by decide)) (by rfl) T.d_lworth.g T.d_lworth.F.kp T.d_lworth.b (xa_cons (x_var (pv 1)) (xa_cons (x_ix ix_seq r2_ix (x_var (pv 0)) x_int (fun _ _ => rfl)) xa_nil))) (xa_cons (x_call (G_lworth T) (hr.mono (by decide)) (by rfl) T.d_lworth.g T.d_lworth.F.kp T.d_lworth.b (xa_cons (x_var (pv 1)) (xa_cons (x_ix ix_seq r2_ix (x_var (pv 0)) x_int (fun _ _ => rfl)) xa_nil))) xa_nil)) (by rfl))
    (xs_cons (xs_if (xt_cmp op_eq r2_eq (x_ix ix_seq r2_ix (x_var (pv 0)) x_int (fun _ _ => rfl)) x_str (nomark _)) (xs_one (xs_ret (x_cmp op_eq r2_eq (x_var (pv 2)) (x_var (pv 3)) (nomark _)))) xs_nil)
    (xs_one (xs_ret (x_if (xt_cmp op_eq r2_eq (x_ix ix_seq r2_ix (x_var (pv 0)) x_int (fun _ _ => rfl)) x_str (nomark _)) (x_cmp op_gt r2_B0 (x_var (pv 2)) (x_var (pv 3)) (nomark _)) (x_cmp op_ne r2_ne (x_var (pv 2)) (x_var (pv 3)) (nomark _))))))), ?_⟩
    intro bg l P h
    obtain ⟨ts, t, y, rfl, hl, ht, hf, rfl⟩ := h
    have i0 : atI [.str t.1, solD t.2.1, solD t.2.2] 0 = Option.some (.str t.1) := rfl
    have i1 : atI [.str t.1, solD t.2.1, solD t.2.2] 1 = Option.some (solD t.2.1) := rfl
    have i2 : atI [.str t.1, solD t.2.1, solD t.2.2] 2 = Option.some (solD t.2.2) := rfl
    simp [telD, and_assoc]
    refine ⟨_, i1, _, ⟨ts, t.2.1, y, rfl, hl, ht.il, rfl⟩, ?_⟩
    rintro _ rfl
    refine ⟨_, i2, _, ⟨ts, t.2.2, y, rfl, hl, ht.ir, rfl⟩, ?_⟩
    rintro _ rfl
    refine ⟨_, i0, eqW (k := decide (t.1 = "alike")) rfl (fun n1 => ⟨_, i0, eqW (k := decide (t.1 = "heavier")) rfl (fun n2 => ?_) fun n2 => ?_⟩) fun n1 => ?_⟩
    · rcases hf with h | h | h
      · exact absurd h.1 (of_decide_eq_false n1)
      · exact absurd h.1 (of_decide_eq_false n2)
      · exact congrArg Option.some (decide_eq_false h.2)
    · refine ⟨_, rfl, _, rfl, ?_⟩
      rcases hf with h | h | h
      · exact absurd h.1 (of_decide_eq_false n1)
      · exact h.2
      · exact absurd (h.1.symm.trans (of_decide_eq_true n2)) (by decide +kernel)
    · rcases hf with h | h | h
      · exact congrArg Option.some (decide_eq_true h.2)
      · exact absurd (h.1.symm.trans (of_decide_eq_true n1)) (by decide +kernel)
      · exact absurd (h.1.symm.trans (of_decide_eq_true n1)) (by decide +kernel)

def W_lfits : DW := fun _ l P => ∃ (ts : List Str) (tl : List Tel) (y : List Int), l = [.lst (tl.map telD), .dic (ts.map Sum.inr) (y.map .int)] ∧ y.length = ts.length ∧ GTels ts tl ∧ (∀ t : Tel, t ∈ tl → TFit ts y t) ∧ P = (· = .bl true)
theorem G_lfits (T : Tx K mg) : FnOk P w K mg base CX0 3 (He.ga K "_law_fits") T.d_lfits.fd ["_law_tellings_here", "_law_worths"] (spW K W_lfits) := by
  refine fn_okD (k := 2) T.d_lfits.F sc_lfits ?_ (by decide) (fun cdv A outer s H E hr => ?_)
  · intro bg l P h
    obtain ⟨x, ts, a, rfl, _⟩ := h; rfl
  · refine ⟨_, (xs_one (xs_ret (x_cmp (op_eqD hr.units) r2_eqD (x_lc (own := [("_law_telling", 2)]) (gs := [2]) rfl sc_lfits.nd (xi_list (x_var (pv 0))) (blkOk_by (by kernel_rfl)) (fun _ _ _ _ _ => (xg_name (pg_name (i := 2) sc_lfits.nd rfl (.inl rfl)))) (fun _ _ _ _ _ => (xts_one (xt_not (xt_val (x_call (G_lfits_one T) (hr.mono (by decide)) (by rfl) T.d_lfits_one.g T.d_lfits_one.F.kp T.d_lfits_one.b (xa_cons (x_var (pv 2)) (xa_cons (x_var (pv 1)) xa_nil))))))) (fun _ _ _ _ _ => (x_var (pv 2)))) (x_lst xa_nil) (nomark _)))), ?_⟩
    intro bg l P h
    obtain ⟨ts, tl, y, rfl, hl, ht, hf, rfl⟩ := h
    simp [and_assoc, -Prod.forall]
    refine lcW_fil telD telD (fun _ => false) (fun u => u) tl [] _ (fun u hu Y N' hY hN' => ?_) ?_
    · simp
      refine ⟨_, ⟨ts, u, y, rfl, hl, ht u hu, hf u hu, rfl⟩, ?_⟩
      rintro _ rfl
      simp
      exact hN' rfl
    · rw [List.filter_eq_nil_iff.mpr (fun _ _ => Bool.false_ne_true)]
      exact ⟨okD_nil, okD_nil, by rw [show ([] ++ List.map telD (List.map (fun u => u) ([] : List Tel))) = [] from rfl, eqv_lst0]; rfl⟩
end
end K8
set_option Elab.async false
set_option linter.all false
set_option maxRecDepth 100000
set_option maxHeartbeats 4000000
/-! the law's own rank, its own elimination -/
namespace K8
open PySem
theorem vf_lint {r : List Int} {i : Nat} (f : Nat → Int) (h : i < r.length) : vf ((List.range r.length).map f) i = f i := by
  rw [vf_lt (by simpa using h)]
  simp
theorem vf_lessI {r o : List Int} {m k : Int} (i : Nat) (hl : r.length = o.length) : vf (lessI r m o k) i = m * vf r i - k * vf o i := by
  unfold lessI
  by_cases h : i < r.length
  · exact vf_lint _ h
  · rw [vf_ge (by simpa using h), vf_ge (r := r) (by omega), vf_ge (r := o) (by omega)]
    simp
theorem lessI_len (r o : List Int) (m k : Int) : (lessI r m o k).length = r.length := by simp [lessI]
theorem crossL_len {a b : List Int} (t : Nat) (h : a.length = b.length) : (crossL a b t).length = a.length := by simp [crossL, h]
theorem vf_crossL {a b : List Int} (t i : Nat) (h : a.length = b.length) : vf (crossL a b t) i = vf a i * vf b t - vf b i * vf a t := by
  by_cases hi : i < a.length
  · have hb : i < b.length := by omega
    rw [vf_lt (r := crossL a b t) (by rw [crossL_len t h]; exact hi), vf_lt (r := a) hi, vf_lt (r := b) hb]
    simp [crossL]
  · rw [vf_ge (r := crossL a b t) (by rw [crossL_len t h]; omega), vf_ge (r := a) (i := i) (by omega), vf_ge (r := b) (i := i) (by omega)]
    simp
theorem vf_negI (r : List Int) (i : Nat) : vf (negI r) i = - vf r i := by
  unfold vf negI
  rw [List.getD_eq_getElem?_getD, List.getD_eq_getElem?_getD, List.getElem?_map]
  cases r[i]? with
  | none => rfl
  | some x => show 0 - x = -x; omega
theorem freedL_len {a b : List Int} (t : Nat) (h : a.length = b.length) : (freedL a b t).length = a.length := by
  unfold freedL
  split
  · exact crossL_len t h
  · unfold negI; rw [List.length_map, crossL_len t h]
/-- the sign of the lead's part -/
def sg (x : Int) : Int := if 0 < x then 1 else -1
theorem vf_freedL {a b : List Int} (t i : Nat) (h : a.length = b.length) : vf (freedL a b t) i = sg (vf b t) * (vf a i * vf b t - vf b i * vf a t) := by
  unfold freedL sg
  split
  · rw [vf_crossL t i h]; omega
  · rw [vf_negI, vf_crossL t i h]; omega
/-! ### the rank -/
def cutC : Nat → Nat → List (List Int) → Nat
  | 0, _, _ => 0
  | k + 1, t, rest => match rest.filter fun r => decide (vf r t ≠ 0) with
    | [] => cutC k (t + 1) rest
    | lead :: more => 1 + cutC k (t + 1) ((rest.filter fun r => decide (vf r t = 0)) ++ more.map fun r => lessI r (vf lead t) lead (vf r t))
theorem cutC_zero : ∀ (k t : Nat) (rest : List (List Int)), (∀ r ∈ rest, ∀ j, vf r j = 0) → cutC k t rest = 0
  | 0, _, _, _ => rfl
  | k + 1, t, rest, h => by
    unfold cutC
    rw [List.filter_eq_nil_iff.mpr (fun r hr => by simp [h r hr t])]
    exact cutC_zero k (t + 1) rest h
theorem cutC_one : ∀ (k t : Nat) (a : List Int) (j : Nat), t ≤ j → j < t + k → vf a j ≠ 0 → cutC k t [a] = 1
  | 0, t, a, j, h1, h2, _ => by omega
  | k + 1, t, a, j, h1, h2, h3 => by
    unfold cutC
    by_cases e : vf a t = 0
    · have ne : t ≠ j := fun z => h3 (by rw [← z]; exact e)
      simp only [List.filter_cons, List.filter_nil, e, ne_eq, not_true_eq_false, decide_false, Bool.false_eq_true, if_false]
      exact cutC_one k (t + 1) a j (by omega) (by omega) h3
    · simp only [List.filter_cons, List.filter_nil, e, ne_eq, not_false_eq_true, decide_true, if_true, decide_false, Bool.false_eq_true, if_false, List.map_nil, List.append_nil]
      rw [cutC_zero k (t + 1) [] (fun r hr => by cases hr)]
theorem cutC_two {a b : List Int} (hl : b.length = a.length) (pr : ∀ i j, vf a i * vf b j = vf a j * vf b i) : ∀ (k t j : Nat), t ≤ j → j < t + k → vf a j ≠ 0 → cutC k t [a, b] = 1
  | 0, t, j, h1, h2, _ => by omega
  | k + 1, t, j, h1, h2, h3 => by
    unfold cutC
    by_cases e : vf a t = 0
    · have ne : t ≠ j := fun z => h3 (by rw [← z]; exact e)
      have eb : vf b t = 0 := by
        have := pr j t
        rw [e, Int.zero_mul] at this
        rcases Int.mul_eq_zero.mp this with h | h
        · exact absurd h h3
        · exact h
      simp only [List.filter_cons, List.filter_nil, e, eb, ne_eq, not_true_eq_false, decide_false, Bool.false_eq_true, if_false]
      exact cutC_two hl pr k (t + 1) j (by omega) (by omega) h3
    · by_cases eb : vf b t = 0
      · simp only [List.filter_cons, List.filter_nil, e, eb, ne_eq, not_true_eq_false, not_false_eq_true, decide_true, if_true, decide_false, Bool.false_eq_true, if_false, List.map_nil, List.append_nil]
        rw [cutC_zero k (t + 1) [b] (fun r hr i => by
          rw [List.mem_singleton.mp hr]
          have := pr t i
          rw [eb, Int.mul_zero] at this
          rcases Int.mul_eq_zero.mp this with h | h
          · exact absurd h e
          · exact h)]
      · simp only [List.filter_cons, List.filter_nil, e, eb, ne_eq, not_true_eq_false, not_false_eq_true, decide_true, if_true, decide_false, Bool.false_eq_true, if_false, List.map_cons, List.map_nil, List.nil_append]
        rw [cutC_zero k (t + 1) _ (fun r hr i => by
          rw [List.mem_singleton.mp hr, vf_lessI i hl]
          have := pr t i
          rw [this, Int.mul_comm (vf b t)]
          omega)]
theorem orth_prop {n : Nat} {a r : List Int} (ha : a.length = n) (hr : r.length = n) (h : Orth n [a] r) (i j : Nat) : vf a i * vf r j = vf a j * vf r i := by
  by_cases hi : i < n
  · by_cases hj : j < n
    · have hy := h (fun k => 1 * (if k = i then vf a j else 0) + (if k = j then - vf a i else 0)) (fun u hu => by
        rw [List.mem_singleton.mp hu, dotn_linr, dotn_unit 0, dotn_unit 0, if_pos hi, if_pos hj, Int.mul_comm (vf a i), Int.mul_neg]
        omega)
      rw [dotn_linr, dotn_unit 0, dotn_unit 0, if_pos hi, if_pos hj, Int.mul_neg, Int.mul_comm (vf r i), Int.mul_comm (vf r j)] at hy
      omega
    · rw [vf_ge (r := r) (i := j) (by omega), vf_ge (r := a) (i := j) (by omega)]
      omega
  · rw [vf_ge (r := a) (i := i) (by omega), vf_ge (r := r) (i := i) (by omega)]
    omega
theorem orth_zero {n : Nat} {rs : List (List Int)} {r : List Int} (hr : r.length = n) (hz : ∀ u ∈ rs, ∀ i, vf u i = 0) (h : Orth n rs r) (i : Nat) : vf r i = 0 := by
  by_cases hi : i < n
  · have hy := h (fun k => if k = i then 1 else 0) (fun u hu => by rw [dotn_unit 0, if_pos hi, hz u hu i]; omega)
    rw [dotn_unit 0, if_pos hi] at hy
    omega
  · exact vf_ge (by omega)
theorem held_law {n : Nat} {zs : List (List Int)} {r : List Int} (h1 : zs.length ≤ 1) (hz : ∀ u ∈ zs, u.length = n) (hr : r.length = n) (h : Orth n zs r) : cutC n 0 (zs ++ [r]) = cutC n 0 zs := by
  match zs, h1, hz, h with
  | [], _, _, h =>
    have z := orth_zero hr (fun u hu => by cases hu) h
    rw [cutC_zero n 0 [] (fun u hu => by cases hu)]
    exact cutC_zero n 0 _ (fun u hu i => by rw [List.mem_singleton.mp hu]; exact z i)
  | [a], _, hz, h =>
    have ha := hz a (List.mem_singleton.mpr rfl)
    by_cases az : ∃ j, j < n ∧ vf a j ≠ 0
    · obtain ⟨j, hj, aj⟩ := az
      rw [cutC_one n 0 a j (Nat.zero_le _) (by omega) aj]
      exact cutC_two (hr.trans ha.symm) (orth_prop ha hr h) n 0 j (Nat.zero_le _) (by omega) aj
    · have a0 : ∀ i, vf a i = 0 := fun i => by
        by_cases hi : i < n
        · exact Classical.not_not.mp fun z => az ⟨i, hi, z⟩
        · exact vf_ge (by omega)
      have z := orth_zero hr (fun u hu i => by rw [List.mem_singleton.mp hu]; exact a0 i) h
      rw [cutC_zero n 0 [a] (fun u hu i => by rw [List.mem_singleton.mp hu]; exact a0 i)]
      exact cutC_zero n 0 _ (fun u hu i => by
        rcases List.mem_append.mp hu with h | h
        · rw [List.mem_singleton.mp h]; exact a0 i
        · rw [List.mem_singleton.mp h]; exact z i)
  | _ :: _ :: _, h, _, _ => simp at h
end K8
set_option Elab.async false
set_option linter.all false
set_option maxRecDepth 100000
set_option maxHeartbeats 4000000
/-! the law's own elimination: what is found at the end holds for the rows it began with -/
namespace K8
open PySem
def Solv (n : Nat) (zs : List (List Int)) (ms : List Mk) : Prop := ∃ x : Vec, (∀ z ∈ zs, dotn n (vf z) x = 0) ∧ ∀ p ∈ ms, 0 < dotn n (vf p.1) x
theorem dot_move {n t : Nat} (ht : t < n) (u x : Vec) (c d : Int) : dotn n u (fun i => c * x i + (if i = t then d else 0)) = c * dotn n u x + u t * d := by
  rw [dotn_linr, dotn_unit 0, if_pos ht]
theorem dot_freed {n t : Nat} {a b : List Int} (h : a.length = b.length) (x : Vec) : dotn n (vf (freedL a b t)) x = sg (vf b t) * (vf b t * dotn n (vf a) x - vf a t * dotn n (vf b) x) := by
  rw [dotn_congr (u' := fun i => (sg (vf b t) * vf b t) * vf a i + (fun i => (- (sg (vf b t) * vf a t)) * vf b i + (fun _ => 0) i) i) (v' := x) (fun i _ => by rw [vf_freedL t i h]; grind) (fun _ _ => rfl), dotn_lin, dotn_lin, dotn_zero]
  grind
theorem dot_cross {n t : Nat} {a b : List Int} (h : a.length = b.length) (x : Vec) : dotn n (vf (crossL a b t)) x = vf b t * dotn n (vf a) x - vf a t * dotn n (vf b) x := by
  rw [dotn_congr (u' := fun i => (vf b t) * vf a i + (fun i => (- (vf a t)) * vf b i + (fun _ => 0) i) i) (v' := x) (fun i _ => by rw [vf_crossL t i h]; grind) (fun _ _ => rfl), dotn_lin, dotn_lin, dotn_zero]
  grind
theorem sg_pos {x : Int} (h : x ≠ 0) : 0 < sg x * x := by
  unfold sg
  split <;> omega
def freeZ (zs : List (List Int)) (lead : List Int) (t : Nat) : List (List Int) := zs.map fun r => freedL r lead t
def freeM (ms : List Mk) (lead : List Int) (t : Nat) : List Mk := ms.map fun p => (freedL p.1 lead t, p.2)
theorem freed_back {n t : Nat} (ht : t < n) {zs rest : List (List Int)} {ms : List Mk} {lead : List Int} (hl : lead.length = n) (hz : ∀ z ∈ zs, z = lead ∨ z ∈ rest) (hr : ∀ z ∈ rest, z.length = n) (hm : ∀ p ∈ ms, p.1.length = n) (h0 : vf lead t ≠ 0)
    (h : Solv n (freeZ rest lead t) (freeM ms lead t)) : Solv n zs ms := by
  obtain ⟨x, h1, h2⟩ := h
  refine ⟨fun i => (sg (vf lead t) * vf lead t) * x i + (if i = t then - (sg (vf lead t) * dotn n (vf lead) x) else 0), fun z hz' => ?_, fun p hp => ?_⟩
  · rw [dot_move ht]
    rcases hz z hz' with rfl | h
    · grind
    · have := h1 _ (List.mem_map.mpr ⟨z, h, rfl⟩)
      rw [dot_freed ((hr z h).trans hl.symm)] at this
      grind
  · rw [dot_move ht]
    have := h2 _ (List.mem_map.mpr ⟨p, hp, rfl⟩)
    have e := dot_freed (n := n) (t := t) ((hm p hp).trans hl.symm) x
    have e2 : dotn n (vf (freedL p.1 lead t)) x = sg (vf lead t) * vf lead t * dotn n (vf p.1) x + vf p.1 t * - (sg (vf lead t) * dotn n (vf lead) x) := by rw [e]; grind
    rw [← e2]
    exact this
/-! ### cut away -/
def bothM (a b : List Int) : List Int := (if (0 : Int) ∈ a ++ b then [0] else []) ++ (if (1 : Int) ∈ a ++ b then [1] else [])
def hasM (f : List Mk) (k : List Int) : Bool := f.any fun e => decide (e.2 = k)
def addC (t : Nat) (f : List Mk) (p q : Mk) : List Mk := if (decide (0 < vf p.1 t) && decide (vf q.1 t < 0) && !hasM f (bothM p.2 q.2)) = true then f ++ [(crossL q.1 p.1 t, bothM p.2 q.2)] else f
def cutZ (ms : List Mk) (t : Nat) : List Mk := ms.filter fun p => decide (vf p.1 t = 0)
def cutIn (ms : List Mk) (t : Nat) (f : List Mk) (p : Mk) : List Mk := ms.foldl (fun f q => addC t f p q) f
def cutAw (ms : List Mk) (t : Nat) : List Mk := ms.foldl (fun f p => cutIn ms t f p) (cutZ ms t)
inductive Md : List Mk → Prop
  | nil : Md []
  | one (r m : List Int) (h : m = [0] ∨ m = [1] ∨ m = [0, 1]) : Md [(r, m)]
  | two (r1 r2 : List Int) : Md [(r1, [0]), (r2, [1])]
theorem addC_no {t : Nat} {f : List Mk} {p q : Mk} (h : ¬ (0 < vf p.1 t ∧ vf q.1 t < 0)) : addC t f p q = f := by
  unfold addC
  rw [if_neg]
  intro z
  simp only [Bool.and_eq_true, decide_eq_true_eq] at z
  exact h z.1
theorem cut_one (r m : List Int) (t : Nat) : cutAw [(r, m)] t = if vf r t = 0 then [(r, m)] else [] := by
  unfold cutAw cutIn cutZ
  simp only [List.foldl_cons, List.foldl_nil]
  rw [addC_no (by show ¬ (0 < vf r t ∧ vf r t < 0); omega)]
  by_cases e : vf r t = 0 <;> simp [e]
theorem cut_pn {r1 r2 : List Int} {t : Nat} (h1 : 0 < vf r1 t) (h2 : vf r2 t < 0) : cutAw [(r1, [0]), (r2, [1])] t = [(crossL r2 r1 t, [0, 1])] := by
  unfold cutAw cutIn cutZ
  simp only [List.foldl_cons, List.foldl_nil]
  rw [addC_no (p := (r1, [0])) (q := (r1, [0])) (by show ¬ (0 < vf r1 t ∧ vf r1 t < 0); omega), addC_no (p := (r2, [1])) (q := (r1, [0])) (by show ¬ (0 < vf r2 t ∧ vf r1 t < 0); omega), addC_no (p := (r2, [1])) (q := (r2, [1])) (by show ¬ (0 < vf r2 t ∧ vf r2 t < 0); omega)]
  have e1 : ¬ vf r1 t = 0 := by omega
  have e2 : ¬ vf r2 t = 0 := by omega
  simp [addC, hasM, bothM, e1, e2, h1, h2]
theorem cut_np {r1 r2 : List Int} {t : Nat} (h1 : vf r1 t < 0) (h2 : 0 < vf r2 t) : cutAw [(r1, [0]), (r2, [1])] t = [(crossL r1 r2 t, [0, 1])] := by
  unfold cutAw cutIn cutZ
  simp only [List.foldl_cons, List.foldl_nil]
  rw [addC_no (p := (r1, [0])) (q := (r1, [0])) (by show ¬ (0 < vf r1 t ∧ vf r1 t < 0); omega), addC_no (p := (r1, [0])) (q := (r2, [1])) (by show ¬ (0 < vf r1 t ∧ vf r2 t < 0); omega), addC_no (p := (r2, [1])) (q := (r2, [1])) (by show ¬ (0 < vf r2 t ∧ vf r2 t < 0); omega)]
  have e1 : ¬ vf r1 t = 0 := by omega
  have e2 : ¬ vf r2 t = 0 := by omega
  simp [addC, hasM, bothM, e1, e2, h1, h2]
theorem cut_same {r1 r2 : List Int} {t : Nat} (h1 : ¬ (0 < vf r1 t ∧ vf r2 t < 0)) (h2 : ¬ (0 < vf r2 t ∧ vf r1 t < 0)) : cutAw [(r1, [0]), (r2, [1])] t = cutZ [(r1, [0]), (r2, [1])] t := by
  unfold cutAw cutIn
  simp only [List.foldl_cons, List.foldl_nil]
  rw [addC_no (p := (r1, [0])) (q := (r1, [0])) (by show ¬ (0 < vf r1 t ∧ vf r1 t < 0); omega), addC_no (p := (r1, [0])) (q := (r2, [1])) h1, addC_no (p := (r2, [1])) (q := (r1, [0])) h2, addC_no (p := (r2, [1])) (q := (r2, [1])) (by show ¬ (0 < vf r2 t ∧ vf r2 t < 0); omega)]
theorem cut_md {ms : List Mk} (h : Md ms) (t : Nat) : Md (cutAw ms t) := by
  cases h with
  | nil => exact .nil
  | one r m h =>
    rw [cut_one]
    split
    · exact .one r m h
    · exact .nil
  | two r1 r2 =>
    by_cases a : 0 < vf r1 t ∧ vf r2 t < 0
    · rw [cut_pn a.1 a.2]
      exact .one _ _ (.inr (.inr rfl))
    · by_cases b : 0 < vf r2 t ∧ vf r1 t < 0
      · rw [cut_np b.2 b.1]
        exact .one _ _ (.inr (.inr rfl))
      · rw [cut_same a b]
        unfold cutZ
        by_cases e1 : vf r1 t = 0 <;> by_cases e2 : vf r2 t = 0 <;> simp [e1, e2]
        · exact .two r1 r2
        · exact .one _ _ (.inl rfl)
        · exact .one _ _ (.inr (.inl rfl))
        · exact .nil
/-- each row of what is left is one of the rows or one crossed of two -/
theorem cut_rows {ms : List Mk} (h : Md ms) (t : Nat) : ∀ e ∈ cutAw ms t, e ∈ ms ∨ ∃ p ∈ ms, ∃ q ∈ ms, e.1 = crossL q.1 p.1 t := by
  cases h with
  | nil => intro e he; cases he
  | one r m h =>
    rw [cut_one]
    intro e he
    split at he
    · exact .inl he
    · cases he
  | two r1 r2 =>
    by_cases a : 0 < vf r1 t ∧ vf r2 t < 0
    · rw [cut_pn a.1 a.2]
      intro e he
      rw [List.mem_singleton.mp he]
      exact .inr ⟨(r1, [0]), by simp, (r2, [1]), by simp, rfl⟩
    · by_cases b : 0 < vf r2 t ∧ vf r1 t < 0
      · rw [cut_np b.2 b.1]
        intro e he
        rw [List.mem_singleton.mp he]
        exact .inr ⟨(r2, [1]), by simp, (r1, [0]), by simp, rfl⟩
      · rw [cut_same a b]
        intro e he
        exact .inl (List.mem_filter.mp he).1
theorem abs_bd (a b : Int) : - (a.natAbs : Int) ≤ a ∧ a ≤ (a.natAbs : Int) := by omega
theorem big_pos {u a : Int} {k : Int} (hu : 0 < u) (hk : (a.natAbs : Int) < k) : 0 < a + u * k := by
  have : 1 * k ≤ u * k := Int.mul_le_mul_of_nonneg_right (by omega) (by omega)
  omega
theorem big_neg {u a : Int} {k : Int} (hu : u < 0) (hk : (a.natAbs : Int) < k) : 0 < a + u * (-k) := by
  have := big_pos (u := -u) (a := a) (k := k) (by omega) hk
  rw [Int.neg_mul] at this
  rw [Int.mul_neg]
  exact this
theorem cut_back {n t : Nat} (ht : t < n) {zs : List (List Int)} {ms : List Mk} (h : Md ms) (hm : ∀ p ∈ ms, p.1.length = n) (hz : ∀ z ∈ zs, vf z t = 0) (hs : Solv n zs (cutAw ms t)) : Solv n zs ms := by
  obtain ⟨x, h1, h2⟩ := hs
  have zer : ∀ c d : Int, ∀ z ∈ zs, dotn n (vf z) (fun i => c * x i + (if i = t then d else 0)) = 0 := fun c d z hz' => by
    rw [dot_move ht, h1 z hz', hz z hz']
    omega
  cases h with
  | nil => exact ⟨x, h1, fun p hp => by cases hp⟩
  | one r m h =>
    rw [cut_one] at h2
    by_cases e : vf r t = 0
    · rw [if_pos e] at h2
      exact ⟨x, h1, h2⟩
    · by_cases pos : 0 < vf r t
      · refine ⟨_, zer 1 (((dotn n (vf r) x).natAbs : Int) + 1), fun p hp => ?_⟩
        rw [List.mem_singleton.mp hp, dot_move ht, Int.one_mul]
        exact big_pos (a := dotn n (vf r) x) pos (by omega)
      · refine ⟨_, zer 1 (-(((dotn n (vf r) x).natAbs : Int) + 1)), fun p hp => ?_⟩
        rw [List.mem_singleton.mp hp, dot_move ht, Int.one_mul]
        exact big_neg (u := vf r t) (a := dotn n (vf r) x) (by omega) (by omega)
  | two r1 r2 =>
    have l1 := hm (r1, [0]) (by simp)
    have l2 := hm (r2, [1]) (by simp)
    have fin : ∀ c d : Int, 0 < c * dotn n (vf r1) x + vf r1 t * d → 0 < c * dotn n (vf r2) x + vf r2 t * d → Solv n zs [(r1, [0]), (r2, [1])] := fun c d g1 g2 => ⟨_, zer c d, fun p hp => by
      simp only [List.mem_cons, List.not_mem_nil, or_false] at hp
      rcases hp with rfl | rfl
      · rw [dot_move ht]; exact g1
      · rw [dot_move ht]; exact g2⟩
    by_cases a : 0 < vf r1 t ∧ vf r2 t < 0
    · rw [cut_pn a.1 a.2] at h2
      have := h2 _ (List.mem_singleton.mpr rfl)
      rw [dot_cross (l2.trans l1.symm)] at this
      refine fin (2 * vf r1 t * (- vf r2 t)) (dotn n (vf r2) x * vf r1 t - dotn n (vf r1) x * (- vf r2 t)) ?_ ?_
      · have e : 2 * vf r1 t * (- vf r2 t) * dotn n (vf r1) x + vf r1 t * (dotn n (vf r2) x * vf r1 t - dotn n (vf r1) x * (- vf r2 t)) = vf r1 t * (vf r1 t * dotn n (vf r2) x - vf r2 t * dotn n (vf r1) x) := by grind
        rw [e]
        exact Int.mul_pos a.1 this
      · have e : 2 * vf r1 t * (- vf r2 t) * dotn n (vf r2) x + vf r2 t * (dotn n (vf r2) x * vf r1 t - dotn n (vf r1) x * (- vf r2 t)) = (- vf r2 t) * (vf r1 t * dotn n (vf r2) x - vf r2 t * dotn n (vf r1) x) := by grind
        rw [e]
        exact Int.mul_pos (by omega) this
    · by_cases b : 0 < vf r2 t ∧ vf r1 t < 0
      · rw [cut_np b.2 b.1] at h2
        have := h2 _ (List.mem_singleton.mpr rfl)
        rw [dot_cross (l1.trans l2.symm)] at this
        refine fin (2 * vf r2 t * (- vf r1 t)) (dotn n (vf r1) x * vf r2 t - dotn n (vf r2) x * (- vf r1 t)) ?_ ?_
        · have e : 2 * vf r2 t * (- vf r1 t) * dotn n (vf r1) x + vf r1 t * (dotn n (vf r1) x * vf r2 t - dotn n (vf r2) x * (- vf r1 t)) = (- vf r1 t) * (vf r2 t * dotn n (vf r1) x - vf r1 t * dotn n (vf r2) x) := by grind
          rw [e]
          exact Int.mul_pos (by omega) this
        · have e : 2 * vf r2 t * (- vf r1 t) * dotn n (vf r2) x + vf r2 t * (dotn n (vf r1) x * vf r2 t - dotn n (vf r2) x * (- vf r1 t)) = vf r2 t * (vf r2 t * dotn n (vf r1) x - vf r1 t * dotn n (vf r2) x) := by grind
          rw [e]
          exact Int.mul_pos b.1 this
      · rw [cut_same a b] at h2
        have k1 : vf r1 t = 0 → 0 < dotn n (vf r1) x := fun e => h2 (r1, [0]) (by simp [cutZ, e])
        have k2 : vf r2 t = 0 → 0 < dotn n (vf r2) x := fun e => h2 (r2, [1]) (by simp [cutZ, e])
        let k : Int := ((dotn n (vf r1) x).natAbs : Int) + ((dotn n (vf r2) x).natAbs : Int) + 1
        have kk : k = ((dotn n (vf r1) x).natAbs : Int) + ((dotn n (vf r2) x).natAbs : Int) + 1 := rfl
        by_cases neg : vf r1 t < 0 ∨ vf r2 t < 0
        · refine fin 1 (-k) ?_ ?_
          · rw [Int.one_mul]
            by_cases e : vf r1 t = 0
            · rw [e]; have := k1 e; omega
            · exact big_neg (by omega) (by omega)
          · rw [Int.one_mul]
            by_cases e : vf r2 t = 0
            · rw [e]; have := k2 e; omega
            · exact big_neg (by omega) (by omega)
        · refine fin 1 k ?_ ?_
          · rw [Int.one_mul]
            by_cases e : vf r1 t = 0
            · rw [e]; have := k1 e; omega
            · exact big_pos (by omega) (by omega)
          · rw [Int.one_mul]
            by_cases e : vf r2 t = 0
            · rw [e]; have := k2 e; omega
            · exact big_pos (by omega) (by omega)
end K8
set_option Elab.async false
set_option linter.all false
set_option maxRecDepth 100000
set_option maxHeartbeats 4000000
namespace K8
open PySem PySem.Spec PyProof.Rows L2
section
variable {P : Program} {w : World} {K : PySem.W.Frag} {mg : Str → Option Value} {base : Heap}

theorem okN.lint (r : List Int) : okN 1 (lint r) := okN.lst fun d hd => by
  obtain ⟨i, _, rfl⟩ := List.mem_map.mp hd
  exact .int i
theorem okD_lints (rs : List (List Int)) : okD (.lst (rs.map lint)) := (okN.lst (k := 1) (fun d hd => by
  obtain ⟨t, ht, rfl⟩ := List.mem_map.mp hd
  exact okN.lint t)).ok (by decide)
theorem okD_rows (rs : List (List Int)) : okD (rows rs) := (okN.lst (k := 1) (fun d hd => by
  obtain ⟨t, ht, rfl⟩ := List.mem_map.mp hd
  exact okN.row t)).ok (by decide)
theorem neW {d e : D} {k : Bool} {F G : Prop} (h : sEq d e = some k) (hf : k = true → F) (ht : k = false → G) :
    ∃ z, (sEq d e = some false ∧ z = D.bl true ∨ sEq d e = some true ∧ z = D.bl false) ∧ (z = D.bl false ∧ F ∨ z = D.bl true ∧ G) := by
  cases k with
  | false => exact ⟨_, .inl ⟨h, rfl⟩, .inr ⟨rfl, ht rfl⟩⟩
  | true => exact ⟨_, .inr ⟨h, rfl⟩, .inl ⟨rfl, hf rfl⟩⟩
theorem split_len (t : Nat) : ∀ l : List (List Int), (l.filter fun r => decide (vf r t = 0)).length + (l.filter fun r => decide (vf r t ≠ 0)).length = l.length
  | [] => rfl
  | r :: l => by
    have := split_len t l
    by_cases e : vf r t = 0 <;> simp [e] at this ⊢ <;> omega
theorem cutC_none {k t : Nat} {rest : List (List Int)} (h : rest.filter (fun r => decide (vf r t ≠ 0)) = []) : cutC (k + 1) t rest = cutC k (t + 1) rest := by
  conv => lhs; unfold cutC
  rw [h]
theorem cutC_some {k t : Nat} {rest more : List (List Int)} {lead : List Int} (h : rest.filter (fun r => decide (vf r t ≠ 0)) = lead :: more) : cutC (k + 1) t rest = 1 + cutC k (t + 1) ((rest.filter fun r => decide (vf r t = 0)) ++ more.map fun r => lessI r (vf lead t) lead (vf r t)) := by
  conv => lhs; unfold cutC
  rw [h]
theorem nat_mul_lt {a b c d : Nat} (h1 : a < c) (h2 : b < d) : a * b < c * d := Nat.mul_lt_mul'' h1 h2
theorem bd_two {a b c d : Int} {k : Nat} (ha : a.natAbs < 2 ^ k) (hb : b.natAbs < 2 ^ k) (hc : c.natAbs < 2 ^ k) (hd : d.natAbs < 2 ^ k) : (a * b - c * d).natAbs < 2 ^ (2 * k + 1) := by
  have h1 := nat_mul_lt ha hb
  have h2 := nat_mul_lt hc hd
  rw [← Int.natAbs_mul] at h1 h2
  have e : (2 : Nat) ^ (2 * k + 1) = 2 ^ k * 2 ^ k + 2 ^ k * 2 ^ k := by rw [Nat.pow_succ, show 2 * k = k + k by omega, Nat.pow_add]; omega
  omega
def bk : Nat → Nat
  | 0 => 2
  | k + 1 => 2 * bk k + 1
theorem bk_le {t : Nat} (h : t ≤ 4) : bk t ≤ 47 := by
  rcases (show t = 0 ∨ t = 1 ∨ t = 2 ∨ t = 3 ∨ t = 4 by omega) with rfl | rfl | rfl | rfl | rfl <;> decide
/-- rows of n small parts -/
structure RB (n b : Nat) (rs : List (List Int)) : Prop where
  len : ∀ r ∈ rs, r.length = n
  bd : ∀ r ∈ rs, ∀ i, (vf r i).natAbs < 2 ^ b
theorem RB.up {n b c : Nat} {rs : List (List Int)} (h : RB n b rs) (hc : b ≤ c) : RB n c rs := ⟨h.len, fun r hr i => Nat.lt_of_lt_of_le (h.bd r hr i) (Nat.pow_le_pow_right (by decide) hc)⟩
theorem RB.sub {n b : Nat} {rs rs' : List (List Int)} (h : RB n b rs) (hs : ∀ r ∈ rs', r ∈ rs) : RB n b rs' := ⟨fun r hr => h.len r (hs r hr), fun r hr => h.bd r (hs r hr)⟩
theorem vf_mem {r : List Int} {x : Int} (h : x ∈ r) : ∃ i, vf r i = x := by
  obtain ⟨i, hi, rfl⟩ := List.mem_iff_getElem.mp h
  exact ⟨i, vf_lt hi⟩
def W_lcut : DW := fun _ l P => ∃ rs n, l = [rows rs] ∧ RB n 2 rs ∧ n ≤ 4 ∧ rs.length ≤ 100 ∧ P = fun d => ∃ found : List (List Int), d = .lst (found.map lint) ∧ found.length = cutC n 0 rs
theorem G_lcut (T : Tx K mg) : FnOk P w K mg base CX0 2 (He.ga K "_law_cut") T.d_lcut.fd ["_law_rows_here"] (spW K W_lcut) := by
  refine fn_okD (k := 1) T.d_lcut.F sc_lcut ?_ (by decide) (fun cdv A outer s H E hr => ?_)
  · intro bg l P h
    obtain ⟨x, y, rfl, _⟩ := h; rfl
  · refine ⟨_, (xs_cons (xs_parO1 (i := 1) (j := 2) rfl sc_lcut.nd rfl rfl (by decide) rfl rfl (x_lc (own := [("_law_row_here", 7)]) (gs := [7]) rfl sc_lcut.nd (xi_list (x_var (pv 0))) (blkOk_by (by kernel_rfl)) (fun _ _ _ _ _ => (xg_name (pg_name (i := 7) sc_lcut.nd rfl (.inl rfl)))) (fun _ _ _ _ _ => xts_nil) (fun _ _ _ _ _ => (x_callTy call_list_of c1_list (by rfl) T.t_list bt_list (xa_cons (x_var (pv 7)) xa_nil)))) (by rfl))
    (xs_cons (xs_for PassesOwn.never rfl (xi_range (by rfl) T.t_range (xa_cons (x_if (xt_cmp (op_neD hr.units) r2_neD (x_var (pv 0)) (x_lst xa_nil) (nomark _)) (x_callB call_len c1_len (by rfl) T.t_len bt_len (xa_cons (x_ix ix_seq r2_ix (x_var (pv 0)) x_int (fun _ _ => rfl)) xa_nil)) x_int) xa_nil)) (xg_name (pg_name (i := 3) sc_lcut.nd rfl (.inr rfl))) (xs_cons (xs_setLc (i := 4) (own := [("_law_row_here", 7)]) (gs := [7]) rfl sc_lcut.nd rfl rfl (sw_true rfl rfl rfl (by decide +kernel)) (xi_list (x_var (pv 2))) (blkOk_by (by kernel_rfl)) (fun _ _ _ _ _ => (xg_name (pg_name (i := 7) sc_lcut.nd rfl (.inl rfl)))) (fun _ _ _ _ _ => (xts_one (xt_cmp op_ne r2_ne (x_ix ix_seq r2_ix (x_var (pv 7)) (x_var (pv 3)) (fun _ _ => rfl)) x_int (nomark _)))) (fun _ _ _ _ _ => (x_var (pv 7))))
    (xs_one (xs_if (xt_cmp (op_neD hr.units) r2_neD (x_var (pv 4)) (x_lst xa_nil) (nomark _)) (xs_cons (xs_set (i := 5) sc_lcut.nd rfl (.inl rfl) (x_ix ix_seq r2_ix (x_var (pv 4)) x_int (fun _ _ => rfl)))
    (xs_cons (xs_append (i := 1) (pv 1) (x_var (pv 5)))
    (xs_cons (xs_setLcO (i := 6) (own := [("_law_row_here", 7)]) (gs := [7]) rfl sc_lcut.nd rfl rfl (sw_true rfl rfl rfl (by decide +kernel)) (xi_list (x_var (pv 2))) (blkOk_by (by kernel_rfl)) (fun _ _ _ _ _ => (xg_name (pg_name (i := 7) sc_lcut.nd rfl (.inl rfl)))) (fun _ _ _ _ _ => (xts_one (xt_cmp op_eq r2_eq (x_ix ix_seq r2_ix (x_var (pv 7)) (x_var (pv 3)) (fun _ _ => rfl)) x_int (nomark _)))) (fun _ _ _ _ _ => (x_var (pv 7))))
    (xs_cons (xs_for PassesOwn.never rfl (xi_list (x_slice sl_list s3_L (x_var (pv 4)) (xo_some x_int) xo_none)) (xg_name (pg_name (i := 7) sc_lcut.nd rfl (.inl rfl))) (xs_one (xs_append (i := 6) (pv 6) (x_call (G_lless T) (hr.mono (by decide)) (by rfl) T.d_lless.g T.d_lless.F.kp T.d_lless.b (xa_cons (x_var (pv 7)) (xa_cons (x_ix ix_seq r2_ix (x_var (pv 5)) (x_var (pv 3)) (fun _ _ => rfl)) (xa_cons (x_var (pv 5)) (xa_cons (x_ix ix_seq r2_ix (x_var (pv 7)) (x_var (pv 3)) (fun _ _ => rfl)) xa_nil))))))))
    (xs_one (xs_frz 6 (xs_set (i := 2) sc_lcut.nd rfl (.inl rfl) (x_var (pv 6))))))))) xs_nil))))
    (xs_one (xs_frz 1 (xs_ret (x_var (pv 1))))))), ?_⟩
    intro bg l P h
    obtain ⟨rs, n, rfl, hb, hn, hk, rfl⟩ := h
    simp [rows, and_assoc]
    refine lcW_map row lint (fun r => r) rs [] _ (fun r hr Y N hY => ?_) ?_
    · simp [row]
      exact hY
    · rw [List.map_id', List.nil_append]
      refine ⟨okD_rows rs, okD_nil, ?_⟩
      rw [eqv_lst0]
      by_cases e : rs.map row = []
      · have e' : rs = [] := List.map_eq_nil_iff.mp e
        subst e'
        refine .inl ⟨decide_eq_true e, 0, rfl, by decide, ?_⟩
        simp [forW]
        exact (cutC_zero n 0 [] (fun r hr => by cases hr)).symm
      · have hp : 0 < rs.length := by
          have := List.length_pos_iff.mpr e
          rwa [List.length_map] at this
        refine .inr ⟨decide_eq_false e, _, atI_nat (j := 0) (by rw [List.getElem?_map, List.getElem?_eq_getElem hp]; rfl), _, .inl ⟨(rs[0]).map .int, .inr (.inl rfl), rfl⟩, n, ?_, ?_, ?_⟩
        · rw [List.length_map, hb.len _ (List.getElem_mem hp)]
        · rw [sizeLine_eq]; omega
        · refine forW_run (fun t ds => ∃ (found rest : List (List Int)) (s3 s4 s5 s6 s7 : Sl), found.length + cutC (n - t) t rest = cutC n 0 rs ∧ RB n (bk t) rest ∧ rest.length ≤ rs.length ∧ found.length ≤ t ∧ t ≤ n ∧
            ds = [Sl.val (D.lst (List.map row rs)), Sl.own (found.map lint), Sl.val (D.lst (rest.map lint)), s3, s4, s5, s6, s7]) _ 0 _ ⟨[], rs, _, _, _, _, _, by simp, hb, Nat.le_refl _, Nat.le_refl _, Nat.zero_le _, rfl⟩ (fun i x ds hx hI N hN => ?_) fun ds hI => ?_
          · obtain ⟨found, rest, s3, s4, s5, s6, s7, hc, hr, hl, hf, ht, rfl⟩ := hI
            have hi : i < n := by
              have := (List.getElem?_eq_some_iff.mp hx).1
              simpa using this
            have ex : x = .int ((i : Nat) : Int) := by
              rw [List.getElem?_map, List.getElem?_range hi] at hx
              exact (Option.some.inj hx).symm
            subst ex
            rw [Nat.zero_add] at hc hr hf ht
            have b47 := bk_le (t := i) (by omega)
            simp
            refine lcW_fil lint lint (fun r => decide (vf r i ≠ 0)) (fun r => r) rest [] _ (fun r hr' Y N' hY hN' => ?_) ?_
            · have lr : i < r.length := by rw [hr.len r hr']; exact hi
              simp [lint]
              exact ⟨_, at_vf lr, neW (k := decide (vf r i = 0)) rfl (fun h => hN' (by simpa using h)) (fun h => hY (by simpa using h))⟩
            · rw [List.map_id', List.nil_append]
              have ok2 : okD (.lst ((rest.filter fun r => decide (vf r i ≠ 0)).map lint)) := okD_lints _
              refine ⟨_, ⟨ok2, okD_nil, rfl⟩, ?_⟩
              rw [eqv_lst0]
              rw [show n - i = (n - (i + 1)) + 1 by omega] at hc
              cases hs : rest.filter (fun r => decide (vf r i ≠ 0)) with
              | nil =>
                rw [cutC_none hs] at hc
                refine .inl ⟨rfl, hN _ ⟨found, rest, _, _, _, _, _, ?_, hr.up ?_, hl, by omega, by omega, rfl⟩⟩
                · rw [Nat.zero_add]; exact hc
                · rw [Nat.zero_add]; show bk i ≤ 2 * bk i + 1; omega
              | cons lead more =>
                rw [cutC_some hs] at hc
                have hmem : ∀ r, r ∈ lead :: more → r ∈ rest := fun r hr' => by
                  rw [← hs] at hr'
                  exact (List.mem_filter.mp hr').1
                have hlead := hmem lead (List.mem_cons_self ..)
                have ll := hr.len lead hlead
                refine .inr ⟨rfl, lint lead, atI_nat (j := 0) rfl, by rw [sizeLine_eq]; omega, ?_⟩
                refine lcW_fil lint lint (fun r => decide (vf r i = 0)) (fun r => r) rest [] _ (fun r hr' Y N' hY hN' => ?_) ?_
                · have lr : i < r.length := by rw [hr.len r hr']; exact hi
                  simp [lint]
                  exact ⟨_, at_vf lr, eqW (k := decide (vf r i = 0)) rfl hN' hY⟩
                · rw [List.map_id', List.nil_append, cut_from1, List.map_cons, List.drop_one, List.tail_cons]
                  refine forW_run (fun m ds => m ≤ more.length ∧ ∃ s7, ds = [Sl.val (D.lst (List.map row rs)), Sl.own (List.map lint found ++ [lint lead]), Sl.val (D.lst (List.map lint rest)), Sl.val (D.int ↑i), Sl.val (D.lst (lint lead :: List.map lint more)),
                      Sl.val (lint lead), Sl.own (((rest.filter fun r => decide (vf r i = 0)) ++ (more.take m).map fun r => lessI r (vf lead i) lead (vf r i)).map lint), s7]) _ 0 _ ⟨Nat.zero_le _, s7, by simp⟩ (fun m x ds hx hI N2 hN2 => ?_) fun ds hI => ?_
                  · obtain ⟨hm, s7, rfl⟩ := hI
                    rw [List.getElem?_map] at hx
                    obtain ⟨r, hr1, rfl⟩ := Option.map_eq_some_iff.mp hx
                    have hm' := (List.getElem?_eq_some_iff.mp hr1).1
                    have rin := hmem r (List.mem_cons_of_mem _ (List.mem_of_getElem? hr1))
                    have lr := hr.len r rin
                    have tk : more.take (0 + m + 1) = more.take m ++ [r] := by rw [Nat.zero_add, List.take_add_one, hr1]; rfl
                    have sl := split_len i rest
                    rw [hs, List.length_cons] at sl
                    simp
                    refine ⟨by rw [sizeLine_eq]; omega, _, ⟨_, .inl rfl, at_vf (by omega)⟩, _, ⟨_, .inl rfl, at_vf (by omega)⟩, _, ⟨r, lead, vf lead i, vf r i, rfl, lr.trans ll.symm, by omega, fun x hx => ?_, fun x hx => ?_, rfl⟩, ?_⟩
                    · obtain ⟨j, rfl⟩ := vf_mem hx
                      exact mulOk (hr.bd _ hlead _) (hr.bd _ rin _) (by omega)
                    · obtain ⟨j, rfl⟩ := vf_mem hx
                      exact mulOk (hr.bd _ rin _) (hr.bd _ hlead _) (by omega)
                    · rintro _ rfl
                      refine hN2 _ ⟨by omega, .val (lint r), ?_⟩
                      rw [tk]
                      simp
                  · obtain ⟨hm, s7, rfl⟩ := hI
                    rw [List.length_map, Nat.zero_add, List.take_length]
                    simp
                    have sl := split_len i rest
                    rw [hs, List.length_cons] at sl
                    refine hN _ ⟨found ++ [lead], (rest.filter fun r => decide (vf r i = 0)) ++ more.map fun r => lessI r (vf lead i) lead (vf r i), .val (.int (i : Int)), .val (.lst (lint lead :: more.map lint)), .val (lint lead), .val (.lst ((rest.filter fun r => decide (vf r i = 0)).map lint ++ more.map (lint ∘ fun r => lessI r (vf lead i) lead (vf r i)))), s7, ?_, ⟨fun r hr' => ?_, fun r hr' j => ?_⟩, ?_, ?_, by omega, ?_⟩
                    · rw [List.length_append, Nat.zero_add]
                      show found.length + 1 + _ = _
                      omega
                    · rcases List.mem_append.mp hr' with h | h
                      · exact hr.len r (List.mem_filter.mp h).1
                      · obtain ⟨u, hu, rfl⟩ := List.mem_map.mp h
                        rw [lessI_len]
                        exact hr.len u (hmem u (List.mem_cons_of_mem _ hu))
                    · rw [Nat.zero_add]
                      rcases List.mem_append.mp hr' with h | h
                      · exact Nat.lt_of_lt_of_le (hr.bd r (List.mem_filter.mp h).1 j) (Nat.pow_le_pow_right (by decide) (by show bk i ≤ 2 * bk i + 1; omega))
                      · obtain ⟨u, hu, rfl⟩ := List.mem_map.mp h
                        have hu' := hmem u (List.mem_cons_of_mem _ hu)
                        rw [vf_lessI j ((hr.len u hu').trans ll.symm)]
                        exact bd_two (hr.bd _ hlead _) (hr.bd _ hu' _) (hr.bd _ hu' _) (hr.bd _ hlead _)
                    · rw [List.length_append, List.length_map]
                      omega
                    · rw [List.length_append, List.length_singleton]
                      omega
                    · simp
          · obtain ⟨found, rest, s3, s4, s5, s6, s7, hc, hr, hl, hf, ht, rfl⟩ := hI
            simp
            refine ⟨found, rfl, ?_⟩
            rw [List.length_map, List.length_range, Nat.zero_add, Nat.sub_self] at hc
            exact hc
end
end K8
set_option Elab.async false
set_option linter.all false
set_option maxRecDepth 100000
set_option maxHeartbeats 4000000
namespace K8
open PySem PySem.Spec PyProof.Rows L2
section
variable {P : Program} {w : World} {K : PySem.W.Frag} {mg : Str → Option Value} {base : Heap}
def W_lrank : DW := fun _ l P => ∃ rs n, l = [rows rs] ∧ RB n 2 rs ∧ n ≤ 4 ∧ rs.length ≤ 100 ∧ P = (· = .int ((cutC n 0 rs : Nat) : Int))
theorem G_lrank (T : Tx K mg) : FnOk P w K mg base CX0 3 (He.ga K "_law_rank") T.d_lrank.fd ["_law_rows_here"] (spW K W_lrank) := by
  refine fn_okD (k := 2) T.d_lrank.F sc_lrank ?_ (by decide) (fun cdv A outer s H E hr => ?_)
  · intro bg l P h
    obtain ⟨x, y, rfl, _⟩ := h; rfl
  · refine ⟨_, (xs_one (xs_ret (x_callB call_len c1_len (by rfl) T.t_len bt_len (xa_cons (x_call (G_lcut T) (hr.mono (by decide)) (by rfl) T.d_lcut.g T.d_lcut.F.kp T.d_lcut.b (xa_cons (x_var (pv 0)) xa_nil)) xa_nil)))), ?_⟩
    intro bg l P h
    obtain ⟨rs, n, rfl, hb, hn, hk, rfl⟩ := h
    simp [and_assoc]
    refine ⟨_, ⟨rs, n, rfl, hb, hn, hk, rfl⟩, ?_⟩
    rintro _ ⟨found, rfl, hf⟩
    exact .inl ⟨_, .inl rfl, by rw [List.length_map, hf]⟩


def heldB (n : Nat) (zs : List (List Int)) (r : List Int) : Bool := decide (cutC n 0 (zs ++ [r]) = cutC n 0 zs)
theorem heldB_no {n : Nat} {zs : List (List Int)} {r : List Int} (hb : RB n 2 (zs ++ [r])) (h1 : zs.length ≤ 1) (h : heldB n zs r = false) : ¬ Orth n zs r := fun o =>
  of_decide_eq_false h (held_law h1 (hb.sub fun u hu => List.mem_append_left _ hu).len (hb.len r (List.mem_append_right _ (List.mem_singleton.mpr rfl))) o)
def W_lis_held : DW := fun _ l P => ∃ zs r n, l = [rows zs, row r] ∧ RB n 2 (zs ++ [r]) ∧ n ≤ 4 ∧ zs.length ≤ 1 ∧ P = (· = .bl (heldB n zs r))
theorem G_lis_held (T : Tx K mg) : FnOk P w K mg base CX0 4 (He.ga K "_law_is_held") T.d_lis_held.fd ["_law_rows_here", "_law_row_here"] (spW K W_lis_held) := by
  refine fn_okD (k := 3) T.d_lis_held.F sc_lis_held ?_ (by decide) (fun cdv A outer s H E hr => ?_)
  · intro bg l P h
    obtain ⟨x, y, z, rfl, _⟩ := h; rfl
  · refine ⟨_, (xs_one (xs_ret (x_cmp op_eq r2_eq (x_call (G_lrank T) (hr.mono (by decide)) (by rfl) T.d_lrank.g T.d_lrank.F.kp T.d_lrank.b (xa_cons (x_op op_cat r2_catL (x_var (pv 0)) (x_lst (xa_cons (x_var (pv 1)) xa_nil))) xa_nil)) (x_call (G_lrank T) (hr.mono (by decide)) (by rfl) T.d_lrank.g T.d_lrank.F.kp T.d_lrank.b (xa_cons (x_var (pv 0)) xa_nil)) (nomark _)))), ?_⟩
    intro bg l P h
    obtain ⟨zs, r, n, rfl, hb, hn, hk, rfl⟩ := h
    have hz : RB n 2 zs := hb.sub fun u hu => List.mem_append_left _ hu
    simp [rows, and_assoc]
    refine ⟨by decide, by rw [sizeLine_eq]; omega, _, ⟨zs ++ [r], n, by simp [rows], hb, hn, by rw [List.length_append]; simp; omega, rfl⟩, ?_⟩
    rintro _ rfl
    refine ⟨_, ⟨zs, n, rfl, hz, hn, by omega, rfl⟩, ?_⟩
    rintro _ rfl
    have e : (decide ((cutC n 0 (zs ++ [r]) : Int) = (cutC n 0 zs : Int))) = heldB n zs r := by
      unfold heldB
      exact decide_eq_decide.mpr Int.ofNat_inj
    cases h : heldB n zs r with
    | false => exact .inl ⟨congrArg Option.some (e.trans h), rfl⟩
    | true => exact .inr ⟨congrArg Option.some (e.trans h), rfl⟩


def kd (f : List Mk) : KD := f.map fun e => (e.2, row e.1)
theorem kd_has (f : List Mk) (k : List Int) : hasD (kd f) k = hasM f k := by
  unfold hasD hasM kd
  rw [List.any_map]
  rfl
theorem kd_put {f : List Mk} {k r : List Int} (h : hasM f k = false) : putD (kd f) k (row r) = kd (f ++ [(r, k)]) := by
  unfold putD
  rw [kd_has, h, if_neg Bool.false_ne_true]
  unfold kd
  rw [List.map_append]
  rfl
theorem kd_get : ∀ {f : List Mk} {i : Nat} {e : Mk}, (f.map (·.2)).Nodup → f[i]? = Option.some e → getD' (kd f) e.2 = Option.some (row e.1)
  | [], i, e, _, h => by simp at h
  | x :: f, 0, e, _, h => by
    simp at h
    subst h
    unfold getD' kd
    rw [List.map_cons, List.find?_cons_of_pos (by simp)]
    rfl
  | x :: f, i + 1, e, nd, h => by
    rw [List.map_cons, List.nodup_cons] at nd
    have hf : f[i]? = Option.some e := by simpa using h
    have := kd_get nd.2 hf
    unfold getD' kd at this ⊢
    rw [List.map_cons, List.find?_cons_of_neg]
    · exact this
    · intro z
      have z' : x.2 = e.2 := of_decide_eq_true z
      exact nd.1 (by rw [z']; exact List.mem_map.mpr ⟨e, List.mem_of_getElem? hf, rfl⟩)
theorem kd_keys (f : List Mk) : (kd f).map (·.1) = f.map (·.2) := by
  unfold kd
  rw [List.map_map]
  rfl
theorem asc_uniq : ∀ {a b : List Int}, a.Pairwise (· < ·) → b.Pairwise (· < ·) → (∀ k, k ∈ a ↔ k ∈ b) → a = b
  | [], [], _, _, _ => rfl
  | [], y :: b, _, _, h => by have := (h y).mpr (List.mem_cons_self ..); cases this
  | x :: a, [], _, _, h => by have := (h x).mp (List.mem_cons_self ..); cases this
  | x :: a, y :: b, ha, hb, h => by
    rw [List.pairwise_cons] at ha hb
    have e : x = y := by
      rcases List.mem_cons.mp ((h x).mp (List.mem_cons_self ..)) with e | hx
      · exact e
      · rcases List.mem_cons.mp ((h y).mpr (List.mem_cons_self ..)) with e | hy
        · exact e.symm
        · have h1 := hb.1 x hx
          have h2 := ha.1 y hy
          omega
    subst e
    rw [asc_uniq ha.2 hb.2 fun k => ⟨fun hk => ?_, fun hk => ?_⟩]
    · rcases List.mem_cons.mp ((h k).mp (List.mem_cons_of_mem _ hk)) with e | h'
      · have := ha.1 k hk; omega
      · exact h'
    · rcases List.mem_cons.mp ((h k).mpr (List.mem_cons_of_mem _ hk)) with e | h'
      · have := hb.1 k hk; omega
      · exact h'
theorem both_asc (a b : List Int) : (bothM a b).Pairwise (· < ·) := by
  unfold bothM
  split <;> split <;> simp
theorem both_mem {a b : List Int} (h : ∀ k ∈ a ++ b, k = 0 ∨ k = 1) (k : Int) : k ∈ bothM a b ↔ k ∈ a ++ b := by
  unfold bothM
  constructor
  · intro hk
    rcases List.mem_append.mp hk with hk | hk
    · by_cases e : (0 : Int) ∈ a ++ b
      · rw [if_pos e] at hk
        rw [List.mem_singleton.mp hk]; exact e
      · rw [if_neg e] at hk; cases hk
    · by_cases e : (1 : Int) ∈ a ++ b
      · rw [if_pos e] at hk
        rw [List.mem_singleton.mp hk]; exact e
      · rw [if_neg e] at hk; cases hk
  · intro hk
    rcases h k hk with rfl | rfl
    · exact List.mem_append_left _ (by rw [if_pos hk]; simp)
    · exact List.mem_append_right _ (by rw [if_pos hk]; simp)
theorem Md.marks {ms : List Mk} (h : Md ms) : ∀ e ∈ ms, ∀ k ∈ e.2, k = 0 ∨ k = 1 := by
  cases h with
  | nil => intro e he; cases he
  | one r m h =>
    intro e he k hk
    rw [List.mem_singleton.mp he] at hk
    rcases h with rfl | rfl | rfl <;> simp at hk <;> omega
  | two r1 r2 =>
    intro e he k hk
    simp only [List.mem_cons, List.not_mem_nil, or_false] at he
    rcases he with rfl | rfl <;> simp at hk <;> omega
theorem Md.nodup {ms : List Mk} (h : Md ms) : (ms.map (·.2)).Nodup := by
  cases h with
  | nil => exact List.Pairwise.nil
  | one r m h => simp
  | two r1 r2 => simp
theorem Md.few {ms : List Mk} (h : Md ms) : ms.length ≤ 2 := by
  cases h <;> simp
theorem Md.mlen {ms : List Mk} (h : Md ms) : ∀ e ∈ ms, e.2.length ≤ 2 := by
  cases h with
  | nil => intro e he; cases he
  | one r m h =>
    intro e he
    rw [List.mem_singleton.mp he]
    rcases h with rfl | rfl | rfl <;> simp
  | two r1 r2 =>
    intro e he
    simp only [List.mem_cons, List.not_mem_nil, or_false] at he
    rcases he with rfl | rfl <;> simp
theorem addC_len (t : Nat) (f : List Mk) (p q : Mk) : (addC t f p q).length ≤ f.length + 1 := by
  unfold addC
  split
  · rw [List.length_append]; simp
  · omega
/-- the marks are of one length, and stand in order -/
theorem Md.keys {ms : List Mk} (h : Md ms) : ∃ d, 1 ≤ d ∧ d ≤ 2 ∧ (∀ k ∈ ms.map (·.2), k.length = d ∧ TS.Bd 2 k) ∧
    ∀ ks' : List (List Int), ks'.Perm (ms.map (·.2)) → ks'.Pairwise (fun n m => TS.code 2 n ≤ TS.code 2 m) → ks' = ms.map (·.2) := by
  have bd : ∀ k : List Int, (∀ z ∈ k, z = 0 ∨ z = 1) → TS.Bd 2 k := fun k hk z hz => by rcases hk z hz with rfl | rfl <;> decide
  have mk := h.marks
  cases h with
  | nil => exact ⟨1, by decide, by decide, (fun k hk => by simp at hk), fun ks' hp _ => List.Perm.eq_nil hp⟩
  | one r m h =>
    refine ⟨m.length, by rcases h with rfl | rfl | rfl <;> decide, by rcases h with rfl | rfl | rfl <;> decide, fun k hk => ?_, fun ks' hp _ => List.Perm.eq_singleton hp⟩
    have e : k = m := by simpa using hk
    subst e
    exact ⟨rfl, bd k (mk (r, k) (List.mem_singleton.mpr rfl))⟩
  | two r1 r2 =>
    refine ⟨1, by decide, by decide, fun k hk => ?_, fun ks' hp hpw => ?_⟩
    · have e : k = [0] ∨ k = [1] := by simpa using hk
      rcases e with rfl | rfl
      · exact ⟨rfl, bd _ (fun z hz => .inl (by simpa using hz))⟩
      · exact ⟨rfl, bd _ (fun z hz => .inr (by simpa using hz))⟩
    · have hl := hp.length_eq
      match ks', hl, hp, hpw with
      | [u, v], _, hp, hpw =>
        have hu : u = [0] ∨ u = [1] := by simpa using hp.mem_iff.mp (List.mem_cons_self ..)
        have hv : v = [0] ∨ v = [1] := by simpa using hp.mem_iff.mp (List.mem_cons_of_mem _ (List.mem_cons_self ..))
        have nd : [u, v].Nodup := hp.nodup_iff.mpr (by simp)
        rcases hu with rfl | rfl <;> rcases hv with rfl | rfl
        · simp at nd
        · rfl
        · simp [TS.code] at hpw
        · simp at nd
def W_lcut_away : DW := fun _ l P => ∃ ms n b t, l = [prs ms, .int ((t : Nat) : Int)] ∧ Md ms ∧ t < n ∧ RB n b (ms.map (·.1)) ∧ b ≤ 100 ∧ P = (· = prs (cutAw ms t))
theorem G_lcut_away (T : Tx K mg) : FnOk P w K mg base CX0 2 (He.ga K "_law_cut_away") T.d_lcut_away.fd ["_law_made", "_law_at"] (spW K W_lcut_away) := by
  refine fn_okD (k := 1) T.d_lcut_away.F sc_lcut_away ?_ (by decide) (fun cdv A outer s H E hr => ?_)
  · intro bg l P h
    obtain ⟨x, y, z, t, rfl, _⟩ := h; rfl
  · refine ⟨_, (xs_cons (xs_setDP (i := 2) (Nat.lt_of_le_of_lt (Nat.add_le_add_left (show 2 ≤ 64 by decide) _) hr.units) rfl sc_lcut_away.nd rfl (.inl rfl) (by rfl) T.t_dict (x_lc (own := [("_law_row_here", 3), ("_law_some", 4)]) (gs := [3, 4]) rfl sc_lcut_away.nd (xi_list (x_var (pv 0))) (blkOk_by (by kernel_rfl)) (fun _ _ _ _ _ => (xg_two rfl (xg_name (pg_name (i := 3) sc_lcut_away.nd rfl (.inl rfl))) (xg_name (pg_name (i := 4) sc_lcut_away.nd rfl (.inl rfl))))) (fun _ _ _ _ _ => (xts_one (xt_cmp op_eq r2_eq (x_ix ix_seq r2_ix (x_var (pv 3)) (x_var (pv 1)) (fun _ _ => rfl)) x_int (nomark _)))) (fun _ _ _ _ _ => (x_tup (xa_cons (x_var (pv 4)) (xa_cons (x_var (pv 3)) xa_nil))))))
    (xs_cons (xs_for PassesOwn.never rfl (xi_list (x_var (pv 0))) (xg_two rfl (xg_name (pg_name (i := 3) sc_lcut_away.nd rfl (.inl rfl))) (xg_name (pg_name (i := 4) sc_lcut_away.nd rfl (.inr rfl)))) (xs_one (xs_for PassesOwn.never rfl (xi_list (x_var (pv 0))) (xg_two rfl (xg_name (pg_name (i := 5) sc_lcut_away.nd rfl (.inl rfl))) (xg_name (pg_name (i := 6) sc_lcut_away.nd rfl (.inl rfl)))) (xs_cons (xs_set (i := 7) sc_lcut_away.nd rfl (.inl rfl) (x_callTy call_tuple_of c1_tup (by rfl) T.t_tuple bt_tuple (xa_cons (x_sset rfl (by rfl) T.t_sorted (by rfl) T.t_set (x_op op_catA r2_catT (x_var (pv 4)) (x_var (pv 6)))) xa_nil)))
    (xs_one (xs_if (PXW.xt (xw_and (xt_cmp op_gt r2_B0 (x_ix ix_seq r2_ix (x_var (pv 3)) (x_var (pv 1)) (fun _ _ => rfl)) x_int (nomark _)) (xw_and (xt_cmp op_lt r2_B0 (x_ix ix_seq r2_ix (x_var (pv 5)) (x_var (pv 1)) (fun _ _ => rfl)) x_int (nomark _)) (xw_and1 (xt_notinT (i := 2) (Nat.lt_of_le_of_lt (Nat.add_le_add_left (show 1 ≤ 64 by decide) _) hr.units) (pv 2) (x_var (pv 7))))))) (xs_one (xs_putT (i := 2) (Nat.lt_of_le_of_lt (Nat.add_le_add_left (show 1 ≤ 64 by decide) _) hr.units) (pv 2) (x_var (pv 7)) (x_callTy call_tuple_of c1_tup (by rfl) T.t_tuple bt_tuple (xa_cons (x_call (G_lcrossed T) (hr.mono (by decide)) (by rfl) T.d_lcrossed.g T.d_lcrossed.F.kp T.d_lcrossed.b (xa_cons (x_var (pv 5)) (xa_cons (x_var (pv 3)) (xa_cons (x_var (pv 1)) xa_nil)))) xa_nil)))) xs_nil))))))
    (xs_cons (xs_ownNew (i := 8) sc_lcut_away.nd rfl (.inl rfl) xa_nil)
    (xss_lockR 2 (xs_cons (xs_for PassesOwn.never rfl (xi_list (x_sortDk rfl (by rfl) T.t_sorted (x_var (pv 2)))) (xg_name (pg_name (i := 4) sc_lcut_away.nd rfl (.inr rfl))) (xs_one (xs_if (xt_cmp (op_eqD hr.units) r2_eqD (x_lc (own := [("_law_one_here", 9)]) (gs := [9]) rfl sc_lcut_away.nd (xi_keysT (x_var (pv 2))) (blkOk_by (by kernel_rfl)) (fun _ _ _ _ _ => (xg_name (pg_name (i := 9) sc_lcut_away.nd rfl (.inl rfl)))) (fun _ _ _ _ _ => (xts_one (PXW.xt (xw_and (xt_cmp op_lt r2_B0 (x_callB call_len c1_len (by rfl) T.t_len bt_len (xa_cons (x_var (pv 9)) xa_nil)) (x_callB call_len c1_len (by rfl) T.t_len bt_len (xa_cons (x_var (pv 4)) xa_nil)) (nomark _)) (xw_and1 (xt_cmp (op_eqD hr.units) r2_eqD (x_lc (own := [("_law_k", 10)]) (gs := [10]) rfl sc_lcut_away.nd (xi_tup (x_var (pv 9))) (blkOk_by (by kernel_rfl)) (fun _ _ _ _ _ => (xg_name (pg_name (i := 10) sc_lcut_away.nd rfl (.inl rfl)))) (fun _ _ _ _ _ => (xts_one (xt_cmp op_notIn_seq r2_in (x_var (pv 10)) (x_var (pv 4)) (by rfl)))) (fun _ _ _ _ _ => (x_var (pv 10)))) (x_lst xa_nil) (nomark _))))))) (fun _ _ _ _ _ => (x_var (pv 9)))) (x_lst xa_nil) (nomark _)) (xs_one (xs_append (i := 8) (pv 8) (x_tup (xa_cons (x_getT (Nat.lt_of_le_of_lt (Nat.add_le_add_left (show 1 ≤ 64 by decide) _) hr.units) (x_var (pv 2)) (x_var (pv 4)) noSl_name) (xa_cons (x_var (pv 4)) xa_nil))))) xs_nil)))
    (xs_one (xs_frz 8 (xs_ret (x_var (pv 8)))))))))), ?_⟩
    intro bg l P h
    obtain ⟨ms, n, b, t, rfl, hm, ht, hb, b1, rfl⟩ := h
    simp [prs, and_assoc]
    have cap : ∀ e ∈ ms, t < e.1.length ∧ e.1.length = n := fun e he => by
      have := hb.len e.1 (List.mem_map.mpr ⟨e, he, rfl⟩)
      exact ⟨by omega, this⟩
    have mk := hm.marks
    have few := hm.few
    have eF : cutAw ms t = ms.foldl (fun f p => cutIn ms t f p) (cutZ ms t) := rfl
    refine lcW_fil pr (fun e : Mk => .tup [row e.2, row e.1]) (fun e => decide (vf e.1 t = 0)) (fun e => e) ms [] _ (fun e he Y N hY hN => ?_) ?_
    · simp [pr, and_assoc]
      exact ⟨_, ⟨_, .inr (.inl rfl), at_vf (cap e he).1⟩, eqW (k := decide (vf e.1 t = 0)) rfl hN fun h => ⟨by decide, hY h⟩⟩
    · refine ⟨kd (cutZ ms t), ?_, ?_, ?_⟩
      · simp [kd, row, cutZ]
      · rw [kd_keys]
        exact hm.nodup.sublist (List.Sublist.map _ List.filter_sublist)
      · refine forW_run (fun i ds => i ≤ ms.length ∧ ((ms.take i).foldl (fun f p => cutIn ms t f p) (cutZ ms t)).length ≤ 10 + 10 * i ∧ ∃ s3 s4 s5 s6 s7, ds = [Sl.val (D.lst (List.map pr ms)), Sl.val (D.int ↑t), Sl.ownT (kd ((ms.take i).foldl (fun f p => cutIn ms t f p) (cutZ ms t))), s3, s4, s5, s6, s7, Sl.no, Sl.no, Sl.no]) _ 0 _ ⟨Nat.zero_le _, (by have : (cutZ ms t).length ≤ ms.length := List.length_filter_le ..; simp; omega), _, _, _, _, _, rfl⟩ (fun i x ds hx hI N hN => ?_) fun ds hI => ?_
        · obtain ⟨hi, hlen, s3, s4, s5, s6, s7, rfl⟩ := hI
          rw [List.getElem?_map] at hx
          obtain ⟨e, he, rfl⟩ := Option.map_eq_some_iff.mp hx
          have hi' := (List.getElem?_eq_some_iff.mp he).1
          have hem := List.mem_of_getElem? he
          have tk : ms.take (0 + i + 1) = ms.take i ++ [e] := by rw [Nat.zero_add, List.take_add_one, he]; rfl
          rw [Nat.zero_add] at *
          generalize hf0 : (ms.take i).foldl (fun f p => cutIn ms t f p) (cutZ ms t) = f0 at *
          simp [pr, and_assoc]
          refine forW_run (fun j ds => j ≤ ms.length ∧ ((ms.take j).foldl (fun f q => addC t f e q) f0).length ≤ 10 + 10 * i + j ∧ ∃ s5 s6 s7, ds = [Sl.val (D.lst (List.map pr ms)), Sl.val (D.int ↑t), Sl.ownT (kd ((ms.take j).foldl (fun f q => addC t f e q) f0)), Sl.val (row e.1), Sl.val (row e.2), s5, s6, s7, Sl.no, Sl.no, Sl.no]) _ 0 _ ⟨Nat.zero_le _, (by simpa using hlen), s5, s6, s7, rfl⟩ (fun j x ds hx hI N2 hN2 => ?_) fun ds hI => ?_
          · obtain ⟨hj, hl2, s5, s6, s7, rfl⟩ := hI
            rw [List.getElem?_map] at hx
            obtain ⟨q, hq, rfl⟩ := Option.map_eq_some_iff.mp hx
            have hj' := (List.getElem?_eq_some_iff.mp hq).1
            have hqm := List.mem_of_getElem? hq
            have tk2 : ms.take (0 + j + 1) = ms.take j ++ [q] := by rw [Nat.zero_add, List.take_add_one, hq]; rfl
            have fo : (ms.take (0 + j + 1)).foldl (fun f q => addC t f e q) f0 = addC t ((ms.take j).foldl (fun f q => addC t f e q) f0) e q := by rw [tk2, List.foldl_append]; rfl
            rw [fo] at hN2
            simp only [Nat.zero_add] at hl2 hj hN2 ⊢
            generalize hf1 : (ms.take j).foldl (fun f q => addC t f e q) f0 = f1 at *
            have al := addC_len t f1 e q
            simp [pr, and_assoc]
            refine ⟨_, ⟨e.2.map .int, rfl, q.2.map .int, rfl, ?_, rfl⟩, e.2 ++ q.2, .inl (by simp), ?_, fun mm hasc hmem => ?_⟩
            · have := hm.mlen e hem
              have := hm.mlen q hqm
              rw [List.length_map, List.length_map, sizeLine_eq]
              omega
            · have := hm.mlen e hem
              have := hm.mlen q hqm
              rw [List.length_append]
              omega
            · have emm : mm = bothM e.2 q.2 := asc_uniq hasc (both_asc _ _) fun k => (hmem k).trans (both_mem (fun k hk => by
                rcases List.mem_append.mp hk with h | h
                · exact mk e hem k h
                · exact mk q hqm k h) k).symm
              subst emm
              have ls := fun z => (hb.bd e.1 (List.mem_map.mpr ⟨e, hem, rfl⟩) z)
              have lq := fun z => (hb.bd q.1 (List.mem_map.mpr ⟨q, hqm, rfl⟩) z)
              have no : addC t f1 e q = f1 → N2 [Sl.val (D.lst (List.map pr ms)), Sl.val (D.int ↑t), Sl.ownT (kd f1), Sl.val (row e.1), Sl.val (row e.2), Sl.val (row q.1), Sl.val (row q.2), Sl.val (D.tup (List.map D.int (bothM e.2 q.2))), Sl.no, Sl.no, Sl.no] := fun h => hN2 _ ⟨by omega, by omega, _, _, _, by rw [h]⟩
              refine ⟨_, ⟨_, .inr (.inl rfl), at_vf (cap e hem).1⟩, _, ⟨_, rfl, rfl⟩, ?_⟩
              by_cases p1 : 0 < vf e.1 t
              · refine .inr ⟨by rw [decide_eq_true p1], _, ⟨_, .inr (.inl rfl), at_vf (cap q hqm).1⟩, _, ⟨_, rfl, rfl⟩, ?_⟩
                by_cases p2 : vf q.1 t < 0
                · refine .inr ⟨by rw [decide_eq_true p2], bothM e.2 q.2, rfl, ?_⟩
                  rw [kd_has]
                  by_cases p3 : hasM f1 (bothM e.2 q.2) = true
                  · rw [if_pos p3]
                    refine no ?_
                    unfold addC
                    rw [p3]
                    simp
                  · rw [if_neg p3]
                    refine ⟨_, ⟨q.1, e.1, t, rfl, (cap q hqm).1, (cap q hqm).2.trans (cap e hem).2.symm, fun x hx => ?_, fun x hx => ?_, rfl⟩, ?_⟩
                    · obtain ⟨z, rfl⟩ := vf_mem hx
                      exact mulOk (lq z) (ls t) (by omega)
                    · obtain ⟨z, rfl⟩ := vf_mem hx
                      exact mulOk (ls z) (lq t) (by omega)
                    · rintro _ rfl
                      have p3' : hasM f1 (bothM e.2 q.2) = false := by simpa using p3
                      refine ⟨_, ⟨_, .inl rfl, rfl⟩, ?_, bothM e.2 q.2, rfl, ?_⟩
                      · rw [kd, List.length_map, sizeLine_eq]
                        omega
                      · refine hN2 _ ⟨by omega, by omega, .val (row q.1), .val (row q.2), .val (D.tup (List.map D.int (bothM e.2 q.2))), ?_⟩
                        have ea : addC t f1 e q = f1 ++ [(crossL q.1 e.1 t, bothM e.2 q.2)] := by
                          unfold addC
                          rw [p3', decide_eq_true p1, decide_eq_true p2]
                          rfl
                        rw [ea, ← kd_put p3']
                        rfl
                · refine .inl ⟨by rw [decide_eq_false p2], no (addC_no fun z => p2 z.2)⟩
              · refine .inl ⟨by rw [decide_eq_false p1], no (addC_no fun z => p1 z.1)⟩
          · obtain ⟨hj, hl2, s5, s6, s7, rfl⟩ := hI
            rw [List.length_map, Nat.zero_add, List.take_length] at *
            show N _
            refine hN _ ⟨by omega, ?_, .val (row e.1), .val (row e.2), s5, s6, s7, ?_⟩
            · rw [tk, List.foldl_append, hf0]
              show (cutIn ms t f0 e).length ≤ _
              unfold cutIn
              omega
            · rw [tk, List.foldl_append, hf0]
              rfl
        · obtain ⟨hi, hlen, s3, s4, s5, s6, s7, rfl⟩ := hI
          rw [List.length_map, Nat.zero_add, List.take_length, ← eF]
          have hF := cut_md hm t
          generalize cutAw ms t = F at *
          obtain ⟨d, d1, d2, hk, hord⟩ := hF.keys
          have fewF := hF.few
          simp [and_assoc]
          refine ⟨by rw [kd, List.length_map]; omega, d, d1, by omega, 2, fun k x hx => ?_, fun ks' hp hpw => ?_⟩
          · obtain ⟨e, he, eq⟩ := List.mem_map.mp hx
            cases eq
            exact hk _ (List.mem_map.mpr ⟨e, he, rfl⟩)
          · have ek := hord ks' (by rw [← kd_keys]; exact hp) hpw
            subst ek
            rw [List.map_map]
            refine forW_run (fun i ds => i ≤ F.length ∧ ∃ s3 s4 s5 s6 s7, ds = [Sl.val (D.lst (List.map pr ms)), Sl.val (D.int ↑t), Sl.val (D.dkt ((kd F).map (·.1)) ((kd F).map (·.2))), s3, s4, s5, s6, s7, Sl.own ((F.take i).map pr), Sl.no, Sl.no]) _ 0 _ ⟨Nat.zero_le _, s3, s4, s5, s6, s7, rfl⟩ (fun i x ds hx hI N hN => ?_) fun ds hI => ?_
            · obtain ⟨hi, s3, s4, s5, s6, s7, rfl⟩ := hI
              rw [List.getElem?_map] at hx
              obtain ⟨e, he, rfl⟩ := Option.map_eq_some_iff.mp hx
              have hi' := (List.getElem?_eq_some_iff.mp he).1
              have hem := List.mem_of_getElem? he
              have tk : F.take (0 + i + 1) = F.take i ++ [e] := by rw [Nat.zero_add, List.take_add_one, he]; rfl
              rw [tk] at hN
              rw [Nat.zero_add] at *
              have ke := (hk e.2 (List.mem_map.mpr ⟨e, hem, rfl⟩)).1
              have kx : ∀ x ∈ kd F, x.1.length = d := fun x hx => by
                obtain ⟨u, hu, rfl⟩ := List.mem_map.mp hx
                exact (hk u.2 (List.mem_map.mpr ⟨u, hu, rfl⟩)).1
              simp [and_assoc]
              refine ⟨by rw [kd, List.length_map, sizeLine_eq]; omega, fun k x hx => by rw [kx (k, x) hx, sizeLine_eq]; omega, ?_⟩
              refine lcW_fil ((fun k => D.tup (List.map D.int k)) ∘ fun x : List Int × D => x.1) (fun _ => D.non) (fun _ => false) (fun x => x) (kd F) [] _ (fun x hx Y N' hY hN' => ?_) ?_
              · simp [kx x hx, ke]
                exact hN' rfl
              · rw [List.filter_eq_nil_iff.mpr (fun _ _ => Bool.false_ne_true)]
                refine ⟨okD_nil, okD_nil, .inr ⟨by rw [eqv_lst0]; rfl, ?_⟩⟩
                refine ⟨by rw [sizeLine_eq]; omega, kd F, rfl, rfl, e.2, rfl, row e.1, kd_get hF.nodup he, by decide, hN _ ⟨by omega, s3, .val (D.tup (List.map D.int e.2)), s5, s6, s7, ?_⟩⟩
                rw [List.map_append, List.map_take]
                rfl
            · obtain ⟨hi, s3, s4, s5, s6, s7, rfl⟩ := hI
              rw [List.length_map, Nat.zero_add, List.take_length]
              simp
              exact noT_prs F
end
end K8
set_option Elab.async false
set_option linter.all false
set_option maxRecDepth 100000
set_option maxHeartbeats 4000000
namespace K8
open PySem PySem.Spec PyProof.Rows L2
section
variable {P : Program} {w : World} {K : PySem.W.Frag} {mg : Str → Option Value} {base : Heap}

theorem md_mk0 {gs : List (List Int)} (h : gs.length ≤ 2) : Md (mk0 gs) := by
  match gs, h with
  | [], _ => exact .nil
  | [a], _ => exact .one a [0] (.inl rfl)
  | [a, b], _ => exact .two a b
  | _ :: _ :: _ :: _, h => simp at h
theorem md_free {ms : List Mk} (h : Md ms) (lead : List Int) (t : Nat) : Md (freeM ms lead t) := by
  cases h with
  | nil => exact .nil
  | one r m h => exact .one _ m h
  | two r1 r2 => exact .two _ _
theorem mk0_fst (gs : List (List Int)) : (mk0 gs).map (·.1) = gs := by
  unfold mk0
  rw [List.map_map]
  have : ((fun x : Mk => x.1) ∘ fun p : List Int × Nat => (p.1, [((p.2 : Nat) : Int)])) = fun p : List Int × Nat => p.1 := rfl
  rw [this, List.zipIdx_map_fst]
theorem sg_abs (x y : Int) : (sg x * y).natAbs = y.natAbs := by
  unfold sg
  split
  · rw [Int.one_mul]
  · rw [Int.natAbs_mul]
    simp
theorem freed_bd {b : Nat} {r lead : List Int} {t : Nat} (hl : r.length = lead.length) (hr : ∀ i, (vf r i).natAbs < 2 ^ b) (hd : ∀ i, (vf lead i).natAbs < 2 ^ b) (i : Nat) : (vf (freedL r lead t) i).natAbs < 2 ^ (2 * b + 1) := by
  rw [vf_freedL t i hl, sg_abs]
  exact bd_two (hr _) (hd _) (hd _) (hr _)
theorem okD_prs (ms : List Mk) : okD (prs ms) := (okN.lst (k := 2) (fun d hd => by
  obtain ⟨t, ht, rfl⟩ := List.mem_map.mp hd
  exact okN.pr t)).ok (by decide)
theorem okD_ints (l : List Int) : okD (.lst (l.map .int)) := (okN.lint l).ok (by decide)
theorem solv_nil (n : Nat) (zs : List (List Int)) : Solv n zs [] := ⟨fun _ => 0, fun z _ => by rw [dotn_comm, dotn_zero], fun p hp => by cases hp⟩
def W_lcan : DW := fun _ l P => ∃ zs gs n, l = [rows zs, rows gs, .int ((n : Nat) : Int)] ∧ RB n 2 (zs ++ gs) ∧ (zs ++ gs).length ≤ 2 ∧ n ≤ 4 ∧ P = fun d => ∃ k, d = .bl k ∧ (k = true → ∃ x : Vec, (∀ z ∈ zs, dotn n (vf z) x = 0) ∧ ∀ g ∈ gs, 0 < dotn n (vf g) x) ∧ (gs = [] → k = true)
theorem G_lcan (T : Tx K mg) : FnOk P w K mg base CX0 3 (He.ga K "_law_can") T.d_lcan.fd ["_law_zeros", "_law_aboves", "_law_many"] (spW K W_lcan) := by
  refine fn_okD (k := 2) T.d_lcan.F sc_lcan ?_ (by decide) (fun cdv A outer s H E hr => ?_)
  · intro bg l P h
    obtain ⟨x, y, z, rfl, _⟩ := h; rfl
  · refine ⟨_, (xs_cons (xs_setLc (i := 3) (own := [("_law_k", 7), ("_law_row_here", 8)]) (gs := [7, 8]) rfl sc_lcan.nd rfl rfl (sw_true rfl rfl rfl (by decide +kernel)) (xi_enum (by rfl) T.t_enumerate (xa_cons (x_var (pv 1)) xa_nil)) (blkOk_by (by kernel_rfl)) (fun _ _ _ _ _ => (xg_two rfl (xg_name (pg_name (i := 7) sc_lcan.nd rfl (.inl rfl))) (xg_name (pg_name (i := 8) sc_lcan.nd rfl (.inl rfl))))) (fun _ _ _ _ _ => xts_nil) (fun _ _ _ _ _ => (x_tup (xa_cons (x_callTy call_tuple_of c1_tup (by rfl) T.t_tuple bt_tuple (xa_cons (x_var (pv 8)) xa_nil)) (xa_cons (x_tup (xa_cons (x_var (pv 7)) xa_nil)) xa_nil)))))
    (xs_cons (xs_for PassesOwn.never rfl (xi_range (by rfl) T.t_range (xa_cons (x_var (pv 2)) xa_nil)) (xg_name (pg_name (i := 4) sc_lcan.nd rfl (.inr rfl))) (xs_cons (xs_setLc (i := 5) (own := [("_law_k", 7)]) (gs := [7]) rfl sc_lcan.nd rfl rfl (sw_true rfl rfl rfl (by decide +kernel)) (xi_range (by rfl) T.t_range (xa_cons (x_callB call_len c1_len (by rfl) T.t_len bt_len (xa_cons (x_var (pv 0)) xa_nil)) xa_nil)) (blkOk_by (by kernel_rfl)) (fun _ _ _ _ _ => (xg_name (pg_name (i := 7) sc_lcan.nd rfl (.inl rfl)))) (fun _ _ _ _ _ => (xts_one (xt_cmp op_ne r2_ne (x_ix ix_seq r2_ix (x_ix ix_seq r2_ix (x_var (pv 0)) (x_var (pv 7)) (fun _ _ => rfl)) (x_var (pv 4)) (fun _ _ => rfl)) x_int (nomark _)))) (fun _ _ _ _ _ => (x_var (pv 7))))
    (xs_one (xs_if (xt_cmp (op_neD hr.units) r2_neD (x_var (pv 5)) (x_lst xa_nil) (nomark _)) (xs_cons (xs_set (i := 6) sc_lcan.nd rfl (.inr rfl) (x_ix ix_seq r2_ix (x_var (pv 0)) (x_ix ix_seq r2_ix (x_var (pv 5)) x_int (fun _ _ => rfl)) (fun _ _ => rfl)))
    (xs_cons (xs_set (i := 0) sc_lcan.nd rfl (.inr rfl) (x_lc (own := [("_law_row_here", 8)]) (gs := [8]) rfl sc_lcan.nd (xi_list (x_op op_cat r2_catL (x_slice sl_list s3_L (x_var (pv 0)) xo_none (xo_some (x_ix ix_seq r2_ix (x_var (pv 5)) x_int (fun _ _ => rfl)))) (x_slice sl_list s3_L (x_var (pv 0)) (xo_some (x_op op_add r2_I0 (x_ix ix_seq r2_ix (x_var (pv 5)) x_int (fun _ _ => rfl)) x_int)) xo_none))) (blkOk_by (by kernel_rfl)) (fun _ _ _ _ _ => (xg_name (pg_name (i := 8) sc_lcan.nd rfl (.inl rfl)))) (fun _ _ _ _ _ => xts_nil) (fun _ _ _ _ _ => (x_call (G_lfreed T) (hr.mono (by decide)) (by rfl) T.d_lfreed.g T.d_lfreed.F.kp T.d_lfreed.b (xa_cons (x_var (pv 8)) (xa_cons (x_var (pv 6)) (xa_cons (x_var (pv 4)) xa_nil)))))))
    (xs_one (xs_setLc (i := 3) (own := [("_law_row_here", 8), ("_law_some", 9)]) (gs := [8, 9]) rfl sc_lcan.nd rfl rfl (sw_true rfl rfl rfl (by decide +kernel)) (xi_list (x_var (pv 3))) (blkOk_by (by kernel_rfl)) (fun _ _ _ _ _ => (xg_two rfl (xg_name (pg_name (i := 8) sc_lcan.nd rfl (.inl rfl))) (xg_name (pg_name (i := 9) sc_lcan.nd rfl (.inl rfl))))) (fun _ _ _ _ _ => xts_nil) (fun _ _ _ _ _ => (x_tup (xa_cons (x_call (G_lfreed T) (hr.mono (by decide)) (by rfl) T.d_lfreed.g T.d_lfreed.F.kp T.d_lfreed.b (xa_cons (x_var (pv 8)) (xa_cons (x_var (pv 6)) (xa_cons (x_var (pv 4)) xa_nil)))) (xa_cons (x_var (pv 9)) xa_nil)))))))) (xs_one (xs_set (i := 3) sc_lcan.nd rfl (.inl rfl) (x_call (G_lcut_away T) (hr.mono (by decide)) (by rfl) T.d_lcut_away.g T.d_lcut_away.F.kp T.d_lcut_away.b (xa_cons (x_var (pv 3)) (xa_cons (x_var (pv 4)) xa_nil)))))))))
    (xs_one (xs_ret (x_cmp (op_eqD hr.units) r2_eqD (x_var (pv 3)) (x_lst xa_nil) (nomark _)))))), ?_⟩
    intro bg l P h
    obtain ⟨zs, gs, n, rfl, hb, hl, hn, rfl⟩ := h
    have hz : RB n 2 zs := hb.sub fun u hu => List.mem_append_left _ hu
    have hg : RB n 2 gs := hb.sub fun u hu => List.mem_append_right _ hu
    rw [List.length_append] at hl
    simp [rows, and_assoc]
    rw [show enumD (gs.map row) = gs.zipIdx.map (fun p : List Int × Nat => D.tup [.int ((p.2 : Nat) : Int), row p.1]) by unfold enumD; rw [List.zipIdx_map, List.map_map]; rfl]
    refine lcW_map (fun p : List Int × Nat => D.tup [.int ((p.2 : Nat) : Int), row p.1]) pr (fun p => (p.1, [(p.2 : Int)])) _ [] _ (fun p hp Y N' y => ?_) ?_
    · simp [and_assoc]
      exact ⟨_, ⟨_, .inr rfl, rfl⟩, by decide, by decide, y⟩
    · have e0 : (gs.zipIdx.map fun p => (p.1, [((p.2 : Nat) : Int)])) = mk0 gs := rfl
      rw [e0, List.nil_append]
      refine ⟨n, rfl, by rw [sizeLine_eq]; omega, ?_⟩
      refine forW_run (fun t ds => ∃ (zs' : List (List Int)) (ms : List Mk) (s4 s5 s6 : Sl), t ≤ n ∧ Md ms ∧ RB n (bk t) zs' ∧ RB n (bk t) (ms.map (·.1)) ∧ zs'.length ≤ 2 ∧ (Solv n zs' ms → Solv n zs (mk0 gs)) ∧ (gs = [] → ms = []) ∧
        ds = [Sl.val (D.lst (zs'.map row)), Sl.val (D.lst (gs.map row)), Sl.val (D.int ↑n), Sl.val (D.lst (ms.map pr)), s4, s5, s6, .no, .no, .no]) _ 0 _ ⟨zs, mk0 gs, _, _, _, Nat.zero_le _, md_mk0 (by omega), hz, by rw [mk0_fst]; exact hg, by omega, fun h => h, fun h => by rw [h]; rfl, rfl⟩ (fun i x ds hx hI N hN => ?_) fun ds hI => ?_
      · obtain ⟨zs', ms, s4, s5, s6, ht, hm, rz, rm, lz, hs, h0, rfl⟩ := hI
        have hi : i < n := by
          have := (List.getElem?_eq_some_iff.mp hx).1
          simpa using this
        have ex : x = .int ((i : Nat) : Int) := by
          rw [List.getElem?_map, List.getElem?_range hi] at hx
          exact (Option.some.inj hx).symm
        subst ex
        simp only [Nat.zero_add] at hN rz rm ht
        have b47 := bk_le (t := i) (by omega)
        simp
        refine ⟨zs'.length, rfl, by rw [sizeLine_eq]; omega, ?_⟩
        refine lcW_fil (fun k : Nat => D.int (k : Int)) (fun k : Nat => D.int (k : Int)) (fun k => decide (vf (zs'.getD k []) i ≠ 0)) (fun k => k) (List.range zs'.length) [] _ (fun k hk Y N' hY hN' => ?_) ?_
        · have k1 : k < zs'.length := List.mem_range.mp hk
          have gk : zs'.getD k [] = zs'[k] := by rw [List.getD_eq_getElem?_getD, List.getElem?_eq_getElem k1]; rfl
          have lk := rz.len _ (List.getElem_mem k1)
          rw [gk] at hY hN'
          simp [and_assoc]
          refine ⟨_, atI_nat (by rw [List.getElem?_map, List.getElem?_eq_getElem k1]; rfl), _, ⟨_, .inr (.inl rfl), at_vf (by omega)⟩, neW (k := decide (vf zs'[k] i = 0)) rfl (fun h => hN' (by simpa using h)) (fun h => hY (by simpa using h))⟩
        · rw [List.map_id', List.nil_append]
          have okl : okD (.lst (((List.range zs'.length).filter fun k => decide (vf (zs'.getD k []) i ≠ 0)).map fun k : Nat => D.int (k : Int))) := by
            have := okD_ints ((((List.range zs'.length).filter fun k => decide (vf (zs'.getD k []) i ≠ 0))).map fun k : Nat => (k : Int))
            rwa [List.map_map] at this
          refine ⟨_, ⟨okl, okD_nil, rfl⟩, ?_⟩
          rw [eqv_lst0]
          cases hs2 : (List.range zs'.length).filter (fun k => decide (vf (zs'.getD k []) i ≠ 0)) with
          | nil =>
            have hzero : ∀ z ∈ zs', vf z i = 0 := fun z hz => by
              obtain ⟨k, k1, rfl⟩ := List.mem_iff_getElem.mp hz
              have := List.filter_eq_nil_iff.mp hs2 k (List.mem_range.mpr k1)
              rw [List.getD_eq_getElem?_getD, List.getElem?_eq_getElem k1] at this
              simpa using this
            refine .inl ⟨rfl, _, ⟨ms, n, bk i, i, rfl, hm, hi, rm, by omega, rfl⟩, ?_⟩
            rintro _ rfl
            refine hN _ ⟨zs', cutAw ms i, _, _, _, by omega, cut_md hm i, rz.up (by show bk i ≤ 2 * bk i + 1; omega), ⟨fun r hr => ?_, fun r hr j => ?_⟩, lz, fun h => hs (cut_back hi hm (fun p hp => rm.len _ (List.mem_map.mpr ⟨p, hp, rfl⟩)) hzero h), fun h => by rw [h0 h]; rfl, rfl⟩
            · obtain ⟨e, he, rfl⟩ := List.mem_map.mp hr
              rcases cut_rows hm i e he with h | ⟨p, hp, q, hq, h⟩
              · exact rm.len _ (List.mem_map.mpr ⟨e, h, rfl⟩)
              · have lp := rm.len _ (List.mem_map.mpr ⟨p, hp, rfl⟩)
                have lq := rm.len _ (List.mem_map.mpr ⟨q, hq, rfl⟩)
                rw [h, crossL_len i (lq.trans lp.symm), lq]
            · obtain ⟨e, he, rfl⟩ := List.mem_map.mp hr
              rcases cut_rows hm i e he with h | ⟨p, hp, q, hq, h⟩
              · exact Nat.lt_of_lt_of_le (rm.bd _ (List.mem_map.mpr ⟨e, h, rfl⟩) j) (Nat.pow_le_pow_right (by decide) (by show bk i ≤ 2 * bk i + 1; omega))
              · have mp : p.1 ∈ ms.map (·.1) := List.mem_map.mpr ⟨p, hp, rfl⟩
                have mq : q.1 ∈ ms.map (·.1) := List.mem_map.mpr ⟨q, hq, rfl⟩
                rw [h, vf_crossL i j ((rm.len _ mq).trans (rm.len _ mp).symm)]
                exact bd_two (rm.bd _ mq _) (rm.bd _ mp _) (rm.bd _ mp _) (rm.bd _ mq _)
          | cons j0 more =>
            have hj := List.mem_filter.mp (show j0 ∈ (List.range zs'.length).filter (fun k => decide (vf (zs'.getD k []) i ≠ 0)) by rw [hs2]; exact List.mem_cons_self ..)
            have j1 : j0 < zs'.length := List.mem_range.mp hj.1
            have gj : zs'.getD j0 [] = zs'[j0] := by rw [List.getD_eq_getElem?_getD, List.getElem?_eq_getElem j1]; rfl
            have nz : vf zs'[j0] i ≠ 0 := by have := hj.2; rw [gj] at this; simpa using this
            obtain ⟨lead, hle⟩ : ∃ lead, lead = zs'[j0] := ⟨_, rfl⟩
            rw [← hle] at nz
            have lin : lead ∈ zs' := by rw [hle]; exact List.getElem_mem j1
            have ll := rz.len _ lin
            have lb := rz.bd _ lin
            have a0 : atI (((j0 :: more).map fun k : Nat => D.int (k : Int))) 0 = Option.some (.int (j0 : Int)) := atI_nat (j := 0) rfl
            refine .inr ⟨rfl, _, a0, _, ⟨_, rfl, atI_nat (by rw [List.getElem?_map, List.getElem?_eq_getElem j1, ← hle]; rfl)⟩, _, a0, _, rfl, _, a0, _, ⟨_, rfl, rfl⟩, (((j0 + 1 : Nat)) : Int), rfl, ?_⟩
            rw [cut_to, cut_from]
            have rest : ((zs'.map row).take j0 ++ (zs'.map row).drop (j0 + 1)) = (zs'.take j0 ++ zs'.drop (j0 + 1)).map row := by rw [List.map_append, List.map_take, List.map_drop]
            obtain ⟨R, hR⟩ : ∃ R, R = zs'.take j0 ++ zs'.drop (j0 + 1) := ⟨_, rfl⟩
            have Rsub : ∀ z ∈ R, z ∈ zs' := fun z hz => by
              rw [hR] at hz
              rcases List.mem_append.mp hz with h | h
              · exact List.mem_of_mem_take h
              · exact List.mem_of_mem_drop h
            have Rall : ∀ z ∈ zs', z = lead ∨ z ∈ R := fun z hz => by
              obtain ⟨k, k1, rfl⟩ := List.mem_iff_getElem.mp hz
              by_cases e : k = j0
              · subst e; exact .inl hle.symm
              · right
                rw [hR]
                rcases Nat.lt_or_gt_of_ne e with h | h
                · exact List.mem_append_left _ (List.mem_iff_getElem?.mpr ⟨k, by rw [List.getElem?_take_of_lt h, List.getElem?_eq_getElem k1]⟩)
                · exact List.mem_append_right _ (List.mem_iff_getElem?.mpr ⟨k - (j0 + 1), by rw [List.getElem?_drop, show j0 + 1 + (k - (j0 + 1)) = k by omega, List.getElem?_eq_getElem k1]⟩)
            have Rlen : R.length ≤ 2 := by
              rw [hR, List.length_append, List.length_take, List.length_drop]
              omega
            refine ⟨_, ⟨?_, rfl⟩, _, rfl, ?_⟩
            · rw [List.length_take, List.length_drop, List.length_map, sizeLine_eq]
              omega
            rw [rest, ← hR]
            have fr : ∀ r : List Int, r.length = n → (∀ j, (vf r j).natAbs < 2 ^ bk i) → W_lfreed none [row r, row lead, D.int ((i : Nat) : Int)] (· = row (freedL r lead i)) := fun r lr br => ⟨r, lead, i, rfl, by omega, lr.trans ll.symm, fun x hx => by
              obtain ⟨j, rfl⟩ := vf_mem hx
              exact mulOk (br j) (lb i) (by omega), fun x hx => by
              obtain ⟨j, rfl⟩ := vf_mem hx
              exact mulOk (lb j) (br i) (by omega), rfl⟩
            refine lcW_map row row (fun r => freedL r lead i) R [] _ (fun r hr Y N' hY => ?_) ?_
            · simp
              exact ⟨_, fr r (rz.len _ (Rsub r hr)) (rz.bd _ (Rsub r hr)), fun d hd => by rw [hd]; exact hY⟩
            · rw [List.nil_append]
              refine lcW_map pr pr (fun p => (freedL p.1 lead i, p.2)) ms [] _ (fun p hp Y N' hY => ?_) ?_
              · have mp : p.1 ∈ ms.map (·.1) := List.mem_map.mpr ⟨p, hp, rfl⟩
                simp [pr, and_assoc]
                exact ⟨_, fr p.1 (rm.len _ mp) (rm.bd _ mp), fun d hd => by rw [hd]; exact ⟨by decide, hY⟩⟩
              · rw [List.nil_append]
                refine hN _ ⟨freeZ R lead i, freeM ms lead i, _, _, _, by omega, md_free hm lead i, ⟨fun r hr => ?_, fun r hr j => ?_⟩, ⟨fun r hr => ?_, fun r hr j => ?_⟩, by unfold freeZ; rw [List.length_map]; exact Rlen, fun h => hs (freed_back hi ll Rall (fun z hz => rz.len _ (Rsub z hz)) (fun p hp => rm.len _ (List.mem_map.mpr ⟨p, hp, rfl⟩)) nz h), fun h => by rw [h0 h]; rfl, rfl⟩
                · obtain ⟨u, hu, rfl⟩ := List.mem_map.mp hr
                  have lu := rz.len _ (Rsub u hu)
                  rw [freedL_len i (lu.trans ll.symm), lu]
                · obtain ⟨u, hu, rfl⟩ := List.mem_map.mp hr
                  exact freed_bd ((rz.len _ (Rsub u hu)).trans ll.symm) (rz.bd _ (Rsub u hu)) lb j
                · obtain ⟨e, he, rfl⟩ := List.mem_map.mp hr
                  obtain ⟨u, hu, rfl⟩ := List.mem_map.mp he
                  have lu := rm.len _ (List.mem_map.mpr ⟨u, hu, rfl⟩)
                  show (freedL u.1 lead i).length = n
                  rw [freedL_len i (lu.trans ll.symm), lu]
                · obtain ⟨e, he, rfl⟩ := List.mem_map.mp hr
                  obtain ⟨u, hu, rfl⟩ := List.mem_map.mp he
                  have mu : u.1 ∈ ms.map (·.1) := List.mem_map.mpr ⟨u, hu, rfl⟩
                  exact freed_bd ((rm.len _ mu).trans ll.symm) (rm.bd _ mu) lb j
      · obtain ⟨zs', ms, s4, s5, s6, ht, hm, rz, rm, lz, hs, h0, rfl⟩ := hI
        simp [and_assoc]
        refine ⟨okD_prs ms, okD_nil, ?_⟩
        rw [eqv_lst0]
        by_cases e : ms.map pr = []
        · have em : ms = [] := List.map_eq_nil_iff.mp e
          subst em
          obtain ⟨x, h1, h2⟩ := hs (solv_nil n zs')
          refine .inr ⟨decide_eq_true e, x, h1, fun g hg' => ?_⟩
          rw [← mk0_fst gs] at hg'
          obtain ⟨p, hp, rfl⟩ := List.mem_map.mp hg'
          exact h2 p hp
        · exact .inl ⟨decide_eq_false e, fun z => e (by rw [h0 z]; rfl)⟩
end
end K8
set_option Elab.async false
set_option linter.all false
set_option maxRecDepth 100000
set_option maxHeartbeats 4000000
/-! near a point that fits -/
namespace K8
theorem big_c (n : Nat) (y : Vec) : ∀ L : List (List Int), ∃ c : Int, 0 < c ∧ ∀ r ∈ L, ((dotn n (vf r) y).natAbs : Int) < c
  | [] => ⟨1, by decide, fun r hr => by cases hr⟩
  | u :: L => by
    obtain ⟨c, h0, h⟩ := big_c n y L
    refine ⟨c + ((dotn n (vf u) y).natAbs : Int) + 1, by omega, fun r hr => ?_⟩
    rcases List.mem_cons.mp hr with rfl | hr
    · omega
    · have := h r hr
      omega
theorem far_ne {c p q : Int} (hp : p ≠ 0) (hq : (q.natAbs : Int) < c) : c * p + q ≠ 0 := by
  intro e
  have h1 : (c * p).natAbs = q.natAbs := by omega
  rw [Int.natAbs_mul] at h1
  have h2 : c.natAbs * 1 ≤ c.natAbs * p.natAbs := Nat.mul_le_mul_left _ (by omega)
  omega
/-- a long way along a point that fits, and a step that keeps the alike ones -/
theorem fit_near {n : Nat} {A G U : List (List Int)} {x y : Vec} (hx : Fit n A G U x) (hy : ∀ r ∈ A, dotn n (vf r) y = 0) : ∃ c : Int, 0 < c ∧ Fit n A G U fun i => c * x i + y i := by
  obtain ⟨c, c0, hc⟩ := big_c n y (G ++ U)
  refine ⟨c, c0, fun r hr => ?_, fun r hr => moved_goal (hx.2.1 r hr) (hc r (List.mem_append_left _ hr)), fun r hr => ?_⟩
  · rw [dotn_comb, hx.1 r hr, hy r hr]
    omega
  · rw [dotn_comb]
    exact far_ne (hx.2.2 r hr) (hc r (List.mem_append_right _ hr))
theorem fit_more {n : Nat} {A G : List (List Int)} : ∀ {U : List (List Int)}, (∃ x, Fit n A G [] x) → (∀ u ∈ U, ∃ y : Vec, (∀ r ∈ A, dotn n (vf r) y = 0) ∧ dotn n (vf u) y ≠ 0) → ∃ x, Fit n A G U x
  | [], h, _ => h
  | u :: U, h, hu => by
    obtain ⟨x, hx⟩ := fit_more (U := U) h fun v hv => hu v (List.mem_cons_of_mem _ hv)
    obtain ⟨y, hy, hn⟩ := hu u (List.mem_cons_self ..)
    by_cases e : dotn n (vf u) x = 0
    · obtain ⟨c, c0, hf⟩ := fit_near hx hy
      refine ⟨_, hf.1, hf.2.1, fun r hr => ?_⟩
      rcases List.mem_cons.mp hr with rfl | hr
      · rw [dotn_comb, e]
        simpa using hn
      · exact hf.2.2 r hr
    · refine ⟨x, hx.1, hx.2.1, fun r hr => ?_⟩
      rcases List.mem_cons.mp hr with rfl | hr
      · exact e
      · exact hx.2.2 r hr
theorem not_orth {n : Nat} {A : List (List Int)} {u : List Int} (h : ¬ Orth n A u) : ∃ y : Vec, (∀ r ∈ A, dotn n (vf r) y = 0) ∧ dotn n (vf u) y ≠ 0 := by
  unfold Orth at h
  obtain ⟨y, hy⟩ := Classical.not_forall.mp h
  obtain ⟨h1, h2⟩ := Classical.not_imp.mp hy
  exact ⟨y, h1, h2⟩
end K8
set_option Elab.async false
set_option linter.all false
set_option maxRecDepth 100000
set_option maxHeartbeats 4000000
namespace K8
open PySem PySem.Spec PyProof.Rows L2
section
variable {P : Program} {w : World} {K : PySem.W.Frag} {mg : Str → Option Value} {base : Heap}

theorem count3 (ts : List Str) : ∀ tl : List Tel, (rowsOf ts tl "alike").length + (rowsOf ts tl "heavier").length + (rowsOf ts tl "unlike").length ≤ tl.length
  | [] => Nat.le_refl _
  | t :: tl => by
    have ih := count3 ts tl
    unfold rowsOf at ih ⊢
    simp only [List.length_map] at ih ⊢
    have n1 : ¬ (("alike" : Str) = "heavier") := by decide +kernel
    have n2 : ¬ (("alike" : Str) = "unlike") := by decide +kernel
    have n3 : ¬ (("heavier" : Str) = "unlike") := by decide +kernel
    have n4 : ¬ (("heavier" : Str) = "alike") := by decide +kernel
    by_cases h1 : t.1 = "alike"
    · simp [h1, n1, n2]; omega
    · by_cases h2 : t.1 = "heavier"
      · simp [h2, n3, n4]; omega
      · by_cases h3 : t.1 = "unlike"
        · have m1 : ¬ (("unlike" : Str) = "alike") := by decide +kernel
          have m2 : ¬ (("unlike" : Str) = "heavier") := by decide +kernel
          simp [h3, m1, m2]; omega
        · simp [h1, h2, h3]; omega
structure DTold (ts : List Str) (tl : List Tel) : Prop where
  th : GThings ts
  nd : ts.Nodup
  n2 : 2 ≤ ts.length
  n4 : ts.length ≤ 4
  tel : GTels ts tl
theorem DTold.rb {ts : List Str} {tl : List Tel} (h : DTold ts tl) (wd : Str) : RB ts.length 2 (rowsOf ts tl wd) := ⟨fun r hr => by
  obtain ⟨t, _, _, rfl⟩ := rowsOf_mem hr
  exact rowOf_len .., fun r hr => by
  obtain ⟨t, ht, _, rfl⟩ := rowsOf_mem hr
  exact rowOf_small (h.tel t ht).l.few (h.tel t ht).r.few⟩
theorem RB.app {n b : Nat} {r s : List (List Int)} (h : RB n b r) (k : RB n b s) : RB n b (r ++ s) := ⟨fun x hx => (List.mem_append.mp hx).elim (h.len x) (k.len x), fun x hx => (List.mem_append.mp hx).elim (h.bd x) (k.bd x)⟩
def W_lstands : DW := fun _ l P => ∃ ts tl, l = [solD ts, .lst (tl.map telD)] ∧ DTold ts tl ∧ tl.length ≤ 2 ∧ P = fun d => ∃ k, d = .bl k ∧ (k = true → ∃ x, FT ts tl x) ∧ (tl = [] → k = true)
theorem G_lstands (T : Tx K mg) : FnOk P w K mg base CX0 5 (He.ga K "_law_stands") T.d_lstands.fd ["_law_things_here", "_law_tellings_here"] (spW K W_lstands) := by
  refine fn_okD (k := 4) T.d_lstands.F sc_lstands ?_ (by decide) (fun cdv A outer s H E hr => ?_)
  · intro bg l P h
    obtain ⟨x, y, rfl, _⟩ := h; rfl
  · refine ⟨_, (xs_cons (xs_asg (x_tup (xa_cons (x_call (G_lrows T) (hr.mono (by decide)) (by rfl) T.d_lrows.g T.d_lrows.F.kp T.d_lrows.b (xa_cons (x_var (pv 0)) (xa_cons (x_var (pv 1)) (xa_cons x_str xa_nil)))) (xa_cons (x_call (G_lrows T) (hr.mono (by decide)) (by rfl) T.d_lrows.g T.d_lrows.F.kp T.d_lrows.b (xa_cons (x_var (pv 0)) (xa_cons (x_var (pv 1)) (xa_cons x_str xa_nil)))) xa_nil))) (xg_two rfl (xg_name (pg_name (i := 2) sc_lstands.nd rfl (.inr rfl))) (xg_name (pg_name (i := 3) sc_lstands.nd rfl (.inl rfl)))))
    (xs_cons (xs_if (xt_cmp (op_neD hr.units) r2_neD (x_lc (own := [("_law_row_here", 4)]) (gs := [4]) rfl sc_lstands.nd (xi_list (x_call (G_lrows T) (hr.mono (by decide)) (by rfl) T.d_lrows.g T.d_lrows.F.kp T.d_lrows.b (xa_cons (x_var (pv 0)) (xa_cons (x_var (pv 1)) (xa_cons x_str xa_nil))))) (blkOk_by (by kernel_rfl)) (fun _ _ _ _ _ => (xg_name (pg_name (i := 4) sc_lstands.nd rfl (.inl rfl)))) (fun _ _ _ _ _ => (xts_one (xt_val (x_call (G_lis_held T) (hr.mono (by decide)) (by rfl) T.d_lis_held.g T.d_lis_held.F.kp T.d_lis_held.b (xa_cons (x_var (pv 2)) (xa_cons (x_var (pv 4)) xa_nil)))))) (fun _ _ _ _ _ => (x_var (pv 4)))) (x_lst xa_nil) (nomark _)) (xs_one (xs_ret x_bl)) xs_nil)
    (xs_one (xs_ret (x_call (G_lcan T) (hr.mono (by decide)) (by rfl) T.d_lcan.g T.d_lcan.F.kp T.d_lcan.b (xa_cons (x_var (pv 2)) (xa_cons (x_var (pv 3)) (xa_cons (x_callB call_len c1_len (by rfl) T.t_len bt_len (xa_cons (x_var (pv 0)) xa_nil)) xa_nil)))))))), ?_⟩
    intro bg l P h
    obtain ⟨ts, tl, rfl, ht, h2, rfl⟩ := h
    have c3 := count3 ts tl
    simp [and_assoc]
    refine ⟨_, ⟨ts, tl, "alike", rfl, rfl⟩, ?_⟩
    rintro _ rfl
    refine ⟨_, ⟨ts, tl, "heavier", rfl, rfl⟩, ?_⟩
    rintro _ rfl
    refine ⟨by decide, _, ⟨ts, tl, "unlike", rfl, rfl⟩, ?_⟩
    rintro _ rfl
    refine ⟨_, rfl, ?_⟩
    have rz := ht.rb "alike"
    have rg := ht.rb "heavier"
    have ru := ht.rb "unlike"
    have rone : ∀ u ∈ rowsOf ts tl "unlike", RB ts.length 2 (rowsOf ts tl "alike" ++ [u]) := fun u hu => rz.app (ru.sub fun v hv => by rw [List.mem_singleton.mp hv]; exact hu)
    have zl : ∀ u ∈ rowsOf ts tl "unlike", (rowsOf ts tl "alike").length ≤ 1 := fun u hu => by
      have := List.length_pos_of_mem hu
      omega
    refine lcW_fil row row (fun u => heldB ts.length (rowsOf ts tl "alike") u) (fun u => u) _ [] _ (fun u hu Y N' hY hN' => ?_) ?_
    · simp
      refine ⟨_, ⟨_, u, ts.length, rfl, rone u hu, ht.n4, zl u hu, rfl⟩, ?_⟩
      rintro _ rfl
      cases hh : heldB ts.length (rowsOf ts tl "alike") u with
      | false => exact .inl ⟨rfl, hN' hh⟩
      | true => exact .inr ⟨rfl, hY hh⟩
    · rw [List.map_id', List.nil_append]
      refine ⟨okD_rows _, okD_nil, ?_⟩
      rw [eqv_lst0]
      by_cases e : ((rowsOf ts tl "unlike").filter fun u => heldB ts.length (rowsOf ts tl "alike") u).map row = []
      · refine .inl ⟨decide_eq_true e, _, .inl ⟨ts.map .str, .inr (.inr rfl), rfl⟩, _, ⟨rowsOf ts tl "alike", rowsOf ts tl "heavier", ts.length, by rw [List.length_map], rz.app rg, by rw [List.length_append]; omega, ht.n4, rfl⟩, ?_⟩
        rintro _ ⟨k, rfl, h1, h3⟩
        cases k with
        | false => exact .inl ⟨rfl, fun z => by
            subst z
            cases h3 rfl⟩
        | true =>
          obtain ⟨x, hx1, hx2⟩ := h1 rfl
          refine .inr ⟨rfl, fit_more ⟨x, hx1, hx2, fun r hr => by cases hr⟩ fun u hu => not_orth (heldB_no (rone u hu) (zl u hu) ?_)⟩
          have := List.filter_eq_nil_iff.mp (List.map_eq_nil_iff.mp e) u hu
          simpa using this
      · refine .inr ⟨decide_eq_false e, fun z => e ?_⟩
        subst z
        rfl

def W_lstanding : DW := fun bg l P => ∃ b k, bg = Option.some b ∧ l = [.ref b, .int ((k : Nat) : Int), .int 2, .lst (wordsL.map .str)] ∧ 2 ≤ k ∧ k ≤ 4 ∧ P = fun d => ∃ ts tl, d = .tup [solD ts, .lst (tl.map telD)] ∧ DTold ts tl ∧ tl.length ≤ 2 ∧ ∃ x, FT ts tl x
theorem G_lstanding (T : Tx K mg) : FnOk P w K mg base CX0 6 (He.ga K "_law_standing") T.d_lstanding.fd ["_law_bag_here", "_law_many", "_law_tell_upto", "_law_words"] (spW K W_lstanding) := by
  refine fn_okD (k := 5) T.d_lstanding.F sc_lstanding ?_ (by decide) (fun cdv A outer s H E hr => ?_)
  · intro bg l P h
    obtain ⟨x, y, _, rfl, _⟩ := h; rfl
  · refine ⟨_, (xs_cons (xs_set (i := 4) sc_lstanding.nd rfl (.inl rfl) (x_callBg (G_lthings T) (hr.mono (by decide)) (by rfl) T.d_lthings.g T.d_lthings.F.kp T.d_lthings.b (xa_cons (x_var (pv 0)) (xa_cons (x_var (pv 1)) xa_nil))))
    (xs_cons (xs_set (i := 5) sc_lstanding.nd rfl (.inl rfl) (x_call (G_lfew_of T) (hr.mono (by decide)) (by rfl) T.d_lfew_of.g T.d_lfew_of.F.kp T.d_lfew_of.b (xa_cons (x_var (pv 4)) (xa_cons (x_callBg (G_ltellings T) (hr.mono (by decide)) (by rfl) T.d_ltellings.g T.d_ltellings.F.kp T.d_ltellings.b (xa_cons (x_var (pv 0)) (xa_cons (x_var (pv 4)) (xa_cons (x_var (pv 2)) (xa_cons (x_var (pv 3)) xa_nil))))) xa_nil))))
    (xs_cons (xs_while PassesOwn.never (xt_not (xt_val (x_call (G_lstands T) (hr.mono (by decide)) (by rfl) T.d_lstands.g T.d_lstands.F.kp T.d_lstands.b (xa_cons (x_var (pv 4)) (xa_cons (x_var (pv 5)) xa_nil))))) (xs_one (xs_set (i := 5) sc_lstanding.nd rfl (.inl rfl) (x_slice sl_list s3_L (x_var (pv 5)) xo_none (xo_some (x_un un_neg u1_I x_int))))))
    (xs_one (xs_ret (x_tup (xa_cons (x_var (pv 4)) (xa_cons (x_var (pv 5)) xa_nil)))))))), ?_⟩
    intro bg l P h
    obtain ⟨b, k, rfl, rfl, h0, h1, rfl⟩ := h
    simp [and_assoc]
    refine ⟨_, ⟨b, k, rfl, rfl, h0, h1, rfl⟩, ?_⟩
    rintro _ ⟨ts, rfl, gt, nd, lt⟩
    have tne : ts ≠ [] := fun z => by rw [z] at lt; simp at lt; omega
    refine ⟨_, ⟨b, ts, 2, rfl, rfl, tne, gt, by decide, rfl⟩, ?_⟩
    rintro _ ⟨tl0, rfl, l0, g0⟩
    refine ⟨_, ⟨ts, tl0, rfl, gt.few, g0, by omega, rfl⟩, ?_⟩
    rintro _ ⟨tl, rfl, l1, g1⟩
    refine while_run (fun tl : List Tel => [Sl.val (D.ref b), Sl.val (D.int ↑k), Sl.val (D.int 2), Sl.val (D.lst (List.map D.str wordsL)), Sl.val (solD ts), Sl.val (D.lst (tl.map telD))]) (fun tl => GTels ts tl ∧ tl.length ≤ 2) List.length (fun tl h N hN => ?_) tl ⟨g1, by omega⟩
    simp [and_assoc]
    have dt : DTold ts tl := ⟨gt, nd, by omega, by omega, h.1⟩
    refine ⟨_, ⟨ts, tl, rfl, dt, h.2, rfl⟩, ?_⟩
    rintro _ ⟨kk, rfl, hs, hn⟩
    cases kk with
    | true => exact .inr ⟨rfl, by decide, ts, rfl, tl, rfl, dt, h.2, hs rfl⟩
    | false =>
      have ne : tl ≠ [] := fun z => by cases hn z
      refine .inl ⟨rfl, ?_⟩
      rw [cut_last, ← List.map_dropLast]
      have hl := List.length_dropLast (xs := tl)
      have hp := List.length_pos_iff.mpr ne
      exact hN _ ⟨fun t ht => h.1 t ((List.dropLast_sublist tl).subset ht), by omega⟩ (by omega)
end
end K8
set_option Elab.async false
set_option linter.all false
set_option maxRecDepth 100000
set_option maxHeartbeats 4000000
/-! words that stay -/
namespace K8
open PySem
/-- the worth of one less the worth of other -/
def RR (ts a b : List Str) (x : Vec) : Int := dotn ts.length (vf (rowOf ts a b)) x
def OO (ts : List Str) (tl : List Tel) (a b : List Str) : Prop := Orth ts.length (rowsOf ts tl "alike") (rowOf ts a b)
def TF (ts : List Str) (t : Tel) (x : Vec) : Prop := (t.1 = "alike" → RR ts t.2.1 t.2.2 x = 0) ∧ (t.1 = "heavier" → 0 < RR ts t.2.1 t.2.2 x) ∧ (t.1 = "unlike" → RR ts t.2.1 t.2.2 x ≠ 0)
theorem ne_ah : ¬ (("alike" : Str) = "heavier") := by decide +kernel
theorem ne_au : ¬ (("alike" : Str) = "unlike") := by decide +kernel
theorem ne_hu : ¬ (("heavier" : Str) = "unlike") := by decide +kernel
theorem mem_rowsOf {ts : List Str} {tl : List Tel} {wd : Str} {t : Tel} (h : t ∈ tl) (e : t.1 = wd) : rowOf ts t.2.1 t.2.2 ∈ rowsOf ts tl wd := List.mem_map.mpr ⟨t, List.mem_filter.mpr ⟨h, decide_eq_true e⟩, rfl⟩
theorem FT_iff {ts : List Str} {tl : List Tel} {x : Vec} : FT ts tl x ↔ ∀ t : Tel, t ∈ tl → TF ts t x := by
  constructor
  · intro h t ht
    exact ⟨fun e => h.1 _ (mem_rowsOf ht e), fun e => h.2.1 _ (mem_rowsOf ht e), fun e => h.2.2 _ (mem_rowsOf ht e)⟩
  · intro h
    refine ⟨fun r hr => ?_, fun r hr => ?_, fun r hr => ?_⟩ <;> obtain ⟨t, ht, e, rfl⟩ := rowsOf_mem hr
    · exact (h t ht).1 e
    · exact (h t ht).2.1 e
    · exact (h t ht).2.2 e
theorem FT_app {ts : List Str} {tl : List Tel} {t : Tel} {x : Vec} : FT ts (tl ++ [t]) x ↔ FT ts tl x ∧ TF ts t x := by
  rw [FT_iff, FT_iff]
  constructor
  · intro h
    exact ⟨fun u hu => h u (List.mem_append_left _ hu), h t (List.mem_append_right _ (List.mem_singleton.mpr rfl))⟩
  · rintro ⟨h1, h2⟩ u hu
    rcases List.mem_append.mp hu with h | h
    · exact h1 u h
    · rw [List.mem_singleton.mp h]; exact h2
theorem rowsOf_app (ts : List Str) (tl : List Tel) (t : Tel) (wd : Str) : rowsOf ts (tl ++ [t]) wd = rowsOf ts tl wd ++ rowsOf ts [t] wd := by
  unfold rowsOf
  rw [List.filter_append, List.map_append]
theorem OO_app {ts : List Str} {tl : List Tel} {a b : List Str} (t : Tel) (h : OO ts tl a b) : OO ts (tl ++ [t]) a b := fun x hx => h x fun u hu => hx u (by rw [rowsOf_app]; exact List.mem_append_left _ hu)
theorem OO_same {ts : List Str} {tl : List Tel} {a b : List Str} {t : Tel} (ht : t.1 ≠ "alike") : OO ts (tl ++ [t]) a b ↔ OO ts tl a b := by
  unfold OO
  rw [rowsOf_app, show rowsOf ts [t] "alike" = [] by unfold rowsOf; simp [ht], List.append_nil]
theorem OO_zero {ts : List Str} {tl : List Tel} {a b : List Str} {x : Vec} (h : OO ts tl a b) (hx : FT ts tl x) : RR ts a b x = 0 := h x hx.1
theorem sg1 {ts a b : List Str} {x : Vec} : SgOk ts a b 1 x ↔ 0 < RR ts a b x := by
  unfold SgOk RR
  rw [if_neg (by decide), Int.one_mul]
theorem sgm {ts a b : List Str} {x : Vec} : SgOk ts a b (-1) x ↔ RR ts a b x < 0 := by
  unfold SgOk RR
  rw [if_neg (by decide)]
  omega
theorem sg0 {ts a b : List Str} {x : Vec} : SgOk ts a b 0 x ↔ RR ts a b x = 0 := by
  unfold SgOk RR
  rw [if_pos rfl]
/-- the five words -/
theorem word_cases {ts : List Str} {tl : List Tel} {a b : List Str} {wd : Str} (h : WordIs ts tl a b wd) :
    (wd = "alike" ∧ OO ts tl a b) ∨ (wd = "heavier" ∧ ¬ OO ts tl a b ∧ ∀ x, FT ts tl x → 0 ≤ RR ts a b x) ∨ (wd = "lighter" ∧ ¬ OO ts tl a b ∧ (∃ x, FT ts tl x ∧ RR ts a b x < 0) ∧ ∀ x, FT ts tl x → RR ts a b x ≤ 0) ∨
    (wd = "unlike" ∧ ¬ OO ts tl a b ∧ (∃ x, FT ts tl x ∧ RR ts a b x < 0) ∧ (∃ x, FT ts tl x ∧ 0 < RR ts a b x) ∧ ∀ x, FT ts tl x → RR ts a b x ≠ 0) ∨
    (wd = "open" ∧ ¬ OO ts tl a b ∧ (∃ x, FT ts tl x ∧ RR ts a b x < 0) ∧ (∃ x, FT ts tl x ∧ 0 < RR ts a b x) ∧ ∃ x, FT ts tl x ∧ RR ts a b x = 0) := by
  unfold WordIs at h
  simp only [sg1, sgm, sg0] at h
  rcases h with ⟨e, h⟩ | ⟨n, ⟨e, h⟩ | ⟨h1, ⟨e, h⟩ | ⟨h2, ⟨e, h⟩ | ⟨e, h⟩⟩⟩⟩
  · exact .inl ⟨e, h⟩
  · exact .inr (.inl ⟨e, n, fun x hx => by have := h x hx; omega⟩)
  · exact .inr (.inr (.inl ⟨e, n, h1, fun x hx => by have := h x hx; omega⟩))
  · exact .inr (.inr (.inr (.inl ⟨e, n, h1, h2, h⟩)))
  · exact .inr (.inr (.inr (.inr ⟨e, n, h1, h2, h⟩)))
/-- where both are equal somewhere and not held, each is greater somewhere -/
theorem both_ways {ts : List Str} {tl : List Tel} {a b : List Str} (n : ¬ OO ts tl a b) {x : Vec} (hx : FT ts tl x) (h0 : RR ts a b x = 0) : (∃ z, FT ts tl z ∧ RR ts a b z < 0) ∧ ∃ z, FT ts tl z ∧ 0 < RR ts a b z := by
  obtain ⟨y, hy, hn⟩ := not_orth n
  have h0' : dotn ts.length (vf (rowOf ts a b)) x = 0 := h0
  have step : ∀ s : Int, ∃ z, FT ts tl z ∧ RR ts a b z = s * dotn ts.length (vf (rowOf ts a b)) y := fun s => by
    have hy' : ∀ r ∈ rowsOf ts tl "alike", dotn ts.length (vf r) (fun i => s * y i + (fun _ => 0) i) = 0 := fun r hr => by
      rw [dotn_comb, hy r hr, dotn_comm, dotn_zero]
      omega
    obtain ⟨c, c0, hf⟩ := fit_near hx hy'
    refine ⟨_, hf, ?_⟩
    unfold RR
    rw [dotn_comb, h0', dotn_comb, dotn_comm _ _ (fun _ => 0), dotn_zero]
    omega
  obtain ⟨z1, f1, e1⟩ := step 1
  obtain ⟨z2, f2, e2⟩ := step (-1)
  rcases Int.lt_or_lt_of_ne hn with h | h
  · exact ⟨⟨z1, f1, by rw [e1]; omega⟩, ⟨z2, f2, by rw [e2]; omega⟩⟩
  · exact ⟨⟨z2, f2, by rw [e2]; omega⟩, ⟨z1, f1, by rw [e1]; omega⟩⟩
theorem stays {ts : List Str} {tl : List Tel} {t : Tel} {a b : List Str} {w1 w2 : Str} (h1 : WordIs ts tl a b w1) (h2 : WordIs ts (tl ++ [t]) a b w2) (hs : ∃ x, FT ts (tl ++ [t]) x) : StayOk w1 w2 := by
  obtain ⟨x', hx'⟩ := hs
  have fx := (FT_app.mp hx').1
  have no : ∀ {p : Prop}, RR ts a b x' ≠ 0 → OO ts (tl ++ [t]) a b → p := fun h o => absurd (OO_zero o hx') h
  rcases word_cases h1 with ⟨e1, o⟩ | ⟨e1, n, g⟩ | ⟨e1, n, _, g⟩ | ⟨e1, n, _, _, g⟩ | ⟨e1, _⟩
  · rcases word_cases h2 with ⟨e2, _⟩ | ⟨_, n, _⟩ | ⟨_, n, _⟩ | ⟨_, n, _⟩ | ⟨_, n, _⟩
    · exact .inr (.inl (e2.trans e1.symm))
    all_goals exact absurd (OO_app t o) n
  · have gp : ∀ x, FT ts tl x → 0 < RR ts a b x := fun x hx => by
      have := g x hx
      by_cases z : RR ts a b x = 0
      · obtain ⟨⟨u, hu, hn⟩, _⟩ := both_ways n hx z
        have := g u hu
        omega
      · omega
    have p := gp x' fx
    rcases word_cases h2 with ⟨_, o⟩ | ⟨e2, _⟩ | ⟨_, _, ⟨u, hu, hn⟩, _⟩ | ⟨_, _, ⟨u, hu, hn⟩, _⟩ | ⟨_, _, ⟨u, hu, hn⟩, _⟩
    · exact no (by omega) o
    · exact .inr (.inl (e2.trans e1.symm))
    all_goals
      have := gp u (FT_app.mp hu).1
      omega
  · have gp : ∀ x, FT ts tl x → RR ts a b x < 0 := fun x hx => by
      have := g x hx
      by_cases z : RR ts a b x = 0
      · obtain ⟨_, ⟨u, hu, hn⟩⟩ := both_ways n hx z
        have := g u hu
        omega
      · omega
    have p := gp x' fx
    rcases word_cases h2 with ⟨_, o⟩ | ⟨_, _, k⟩ | ⟨e2, _⟩ | ⟨_, _, _, ⟨u, hu, hn⟩, _⟩ | ⟨_, _, _, ⟨u, hu, hn⟩, _⟩
    · exact no (by omega) o
    · have := k x' hx'
      omega
    · exact .inr (.inl (e2.trans e1.symm))
    all_goals
      have := gp u (FT_app.mp hu).1
      omega
  · have p := g x' fx
    rcases word_cases h2 with ⟨_, o⟩ | ⟨e2, _⟩ | ⟨e2, _⟩ | ⟨e2, _⟩ | ⟨_, _, _, _, ⟨u, hu, hn⟩⟩
    · exact no p o
    · exact .inr (.inr ⟨e1, .inl e2⟩)
    · exact .inr (.inr ⟨e1, .inr e2⟩)
    · exact .inr (.inl (e2.trans e1.symm))
    · exact absurd hn (g u (FT_app.mp hu).1)
  · exact .inl e1
theorem rr_swap (ts a b : List Str) (x : Vec) : RR ts b a x = - RR ts a b x := by
  unfold RR
  have e : rowOf ts b a = (rowOf ts a b).map ((-1) * ·) := by
    unfold rowOf
    rw [List.map_map]
    exact List.map_congr_left fun n _ => by show (b.count n : Int) - (a.count n : Int) = (-1) * ((a.count n : Int) - (b.count n : Int)); omega
  rw [e, dot_scale]
  omega
abbrev tA (a b : List Str) : Tel := ("alike", a, b)
abbrev tH (a b : List Str) : Tel := ("heavier", a, b)
abbrev tU (a b : List Str) : Tel := ("unlike", a, b)
theorem open_alike {ts : List Str} {tl : List Tel} {a b : List Str} (h : WordIs ts tl a b "open") : (∃ x, FT ts (tl ++ [tA a b]) x) ∧ ∀ wd, WordIs ts (tl ++ [tA a b]) a b wd → wd = "alike" := by
  rcases word_cases h with ⟨e, _⟩ | ⟨e, _⟩ | ⟨e, _⟩ | ⟨e, _⟩ | ⟨_, n, _, _, ⟨x, hx, h0⟩⟩
  · exact absurd e (by decide +kernel)
  · exact absurd e (by decide +kernel)
  · exact absurd e (by decide +kernel)
  · exact absurd e (by decide +kernel)
  · refine ⟨⟨x, FT_app.mpr ⟨hx, fun _ => h0, fun e => absurd e ne_ah, fun e => absurd e ne_au⟩⟩, fun wd hw => ?_⟩
    have o : OO ts (tl ++ [tA a b]) a b := fun y hy => hy _ (by rw [rowsOf_app]; exact List.mem_append_right _ (mem_rowsOf (t := tA a b) (List.mem_singleton.mpr rfl) rfl))
    rcases word_cases hw with ⟨e, _⟩ | ⟨_, n, _⟩ | ⟨_, n, _⟩ | ⟨_, n, _⟩ | ⟨_, n, _⟩
    · exact e
    all_goals exact absurd o n
theorem open_heavier {ts : List Str} {tl : List Tel} {a b : List Str} (h : WordIs ts tl a b "open") : (∃ x, FT ts (tl ++ [tH a b]) x) ∧ ∀ wd, WordIs ts (tl ++ [tH a b]) a b wd → wd = "heavier" := by
  rcases word_cases h with ⟨e, _⟩ | ⟨e, _⟩ | ⟨e, _⟩ | ⟨e, _⟩ | ⟨_, n, _, ⟨x, hx, hp⟩, _⟩
  · exact absurd e (by decide +kernel)
  · exact absurd e (by decide +kernel)
  · exact absurd e (by decide +kernel)
  · exact absurd e (by decide +kernel)
  · have nh : ("heavier" : Str) ≠ "alike" := fun e => ne_ah e.symm
    refine ⟨⟨x, FT_app.mpr ⟨hx, fun e => absurd e nh, fun _ => hp, fun e => absurd e ne_hu⟩⟩, fun wd hw => ?_⟩
    have no : ¬ OO ts (tl ++ [tH a b]) a b := fun o => n ((OO_same (t := tH a b) nh).mp o)
    have pos : ∀ y, FT ts (tl ++ [tH a b]) y → 0 < RR ts a b y := fun y hy => (FT_app.mp hy).2.2.1 rfl
    rcases word_cases hw with ⟨_, o⟩ | ⟨e, _⟩ | ⟨_, _, ⟨u, hu, hn⟩, _⟩ | ⟨_, _, ⟨u, hu, hn⟩, _⟩ | ⟨_, _, ⟨u, hu, hn⟩, _⟩
    · exact absurd o no
    · exact e
    all_goals
      have := pos u hu
      omega
theorem open_lighter {ts : List Str} {tl : List Tel} {a b : List Str} (h : WordIs ts tl a b "open") : (∃ x, FT ts (tl ++ [tH b a]) x) ∧ ∀ wd, WordIs ts (tl ++ [tH b a]) a b wd → wd = "lighter" := by
  rcases word_cases h with ⟨e, _⟩ | ⟨e, _⟩ | ⟨e, _⟩ | ⟨e, _⟩ | ⟨_, n, ⟨x, hx, hp⟩, _, _⟩
  · exact absurd e (by decide +kernel)
  · exact absurd e (by decide +kernel)
  · exact absurd e (by decide +kernel)
  · exact absurd e (by decide +kernel)
  · have nh : ("heavier" : Str) ≠ "alike" := fun e => ne_ah e.symm
    have fx : FT ts (tl ++ [tH b a]) x := FT_app.mpr ⟨hx, fun e => absurd e nh, fun _ => by show 0 < RR ts b a x; rw [rr_swap]; omega, fun e => absurd e ne_hu⟩
    refine ⟨⟨x, fx⟩, fun wd hw => ?_⟩
    have no : ¬ OO ts (tl ++ [tH b a]) a b := fun o => n ((OO_same (t := tH b a) nh).mp o)
    have pos : ∀ y, FT ts (tl ++ [tH b a]) y → RR ts a b y < 0 := fun y hy => by
      have h : 0 < RR ts b a y := (FT_app.mp hy).2.2.1 rfl
      rw [rr_swap] at h
      omega
    rcases word_cases hw with ⟨_, o⟩ | ⟨_, _, k⟩ | ⟨e, _⟩ | ⟨_, _, _, ⟨u, hu, hn⟩, _⟩ | ⟨_, _, _, ⟨u, hu, hn⟩, _⟩
    · exact absurd o no
    · have := k x fx
      have := pos x fx
      omega
    · exact e
    all_goals
      have := pos u hu
      omega
theorem open_unlike {ts : List Str} {tl : List Tel} {a b : List Str} (h : WordIs ts tl a b "open") : (∃ x, FT ts (tl ++ [tU a b]) x) ∧ ∀ wd, WordIs ts (tl ++ [tU a b]) a b wd → wd = "unlike" := by
  rcases word_cases h with ⟨e, _⟩ | ⟨e, _⟩ | ⟨e, _⟩ | ⟨e, _⟩ | ⟨_, n, ⟨x, hx, hp⟩, ⟨y, hy, hq⟩, _⟩
  · exact absurd e (by decide +kernel)
  · exact absurd e (by decide +kernel)
  · exact absurd e (by decide +kernel)
  · exact absurd e (by decide +kernel)
  · have nh : ("unlike" : Str) ≠ "alike" := fun e => ne_au e.symm
    have nh2 : ("unlike" : Str) ≠ "heavier" := fun e => ne_hu e.symm
    have up : ∀ z, FT ts tl z → RR ts a b z ≠ 0 → FT ts (tl ++ [tU a b]) z := fun z hz hn => FT_app.mpr ⟨hz, fun e => absurd e nh, fun e => absurd e nh2, fun _ => hn⟩
    have fx := up x hx (by omega)
    have fy := up y hy (by omega)
    refine ⟨⟨x, fx⟩, fun wd hw => ?_⟩
    have no : ¬ OO ts (tl ++ [tU a b]) a b := fun o => n ((OO_same (t := tU a b) nh).mp o)
    rcases word_cases hw with ⟨_, o⟩ | ⟨_, _, k⟩ | ⟨_, _, _, k⟩ | ⟨e, _⟩ | ⟨_, _, _, _, ⟨u, hu, hn⟩⟩
    · exact absurd o no
    · have := k x fx; omega
    · have := k y fy; omega
    · exact e
    · exact absurd hn ((FT_app.mp hu).2.2.2 rfl)
/-! ### worths by names -/
theorem dot_none : ∀ {ts : List Str} {n : Str} (y : List Int), n ∉ ts → dotn ts.length (vf (ts.map fun m => if m = n then (1 : Int) else 0)) (vf y) = 0 := fun {ts n} y h => by
  rw [dotn_congr (u' := fun _ => 0) (v' := vf y) (fun i hi => by
    rw [vf_lt (by simpa using hi)]
    simp only [List.getElem_map]
    rw [if_neg]
    intro e
    exact h (by rw [← e]; exact List.getElem_mem hi)) (fun _ _ => rfl), dotn_zero]
theorem vf_tail (x : Int) (l : List Int) : (fun i => vf (x :: l) (i + 1)) = vf l := by
  funext i
  exact vf_cons x l i
theorem dot_one : ∀ {ts : List Str} {y : List Int} {n : Str}, ts.Nodup → y.length = ts.length → n ∈ ts → dotn ts.length (vf (ts.map fun m => if m = n then (1 : Int) else 0)) (vf y) = wat ts y n
  | [], _, _, _, _, h => by cases h
  | t :: ts, [], n, _, h, _ => by simp at h
  | t :: ts, v :: y, n, nd, hl, hn => by
    rw [List.nodup_cons] at nd
    rw [List.length_cons, dotn_cons, List.map_cons, vf_tail, vf_tail]
    have e0 : vf ((if t = n then (1 : Int) else 0) :: ts.map fun m => if m = n then (1 : Int) else 0) 0 = if t = n then 1 else 0 := rfl
    have e1 : vf (v :: y) 0 = v := rfl
    rw [e0, e1]
    unfold wat
    rw [List.zip_cons_cons, List.lookup_cons]
    by_cases c : n = t
    · subst c
      rw [if_pos rfl, dot_none y nd.1, beq_self_eq_true]
      simp
    · rw [if_neg (fun e => c e.symm), beq_eq_false_iff_ne.mpr c]
      have := dot_one (ts := ts) (y := y) (n := n) nd.2 (by simpa using hl) (by rcases List.mem_cons.mp hn with h | h; exact absurd h c; exact h)
      rw [this]
      unfold wat
      simp
theorem dot_worth {ts : List Str} {y : List Int} (nd : ts.Nodup) (hl : y.length = ts.length) : ∀ {s : List Str}, (∀ x ∈ s, x ∈ ts) → dotn ts.length (vf (ts.map fun m => (s.count m : Int))) (vf y) = worthL ts y s
  | [], _ => by
    rw [dotn_congr (u' := fun _ => 0) (v' := vf y) (fun i hi => by rw [vf_lt (by simpa using hi)]; simp) (fun _ _ => rfl), dotn_zero]
    rfl
  | n :: s, h => by
    have ih := dot_worth nd hl (s := s) fun x hx => h x (List.mem_cons_of_mem _ hx)
    have e : ∀ i, i < ts.length → vf (ts.map fun m => ((n :: s).count m : Int)) i = 1 * vf (ts.map fun m => (s.count m : Int)) i + vf (ts.map fun m => if m = n then (1 : Int) else 0) i := fun i hi => by
      rw [vf_lt (by simpa using hi), vf_lt (by simpa using hi), vf_lt (by simpa using hi)]
      simp only [List.getElem_map, List.count_cons]
      by_cases c : ts[i] = n
      · rw [if_pos c, if_pos (by rw [c]; exact beq_self_eq_true _)]
        omega
      · rw [if_neg c, if_neg (by rw [beq_iff_eq]; exact fun e => c e.symm)]
        omega
    rw [dotn_congr e (fun _ _ => rfl), dotn_lin, ih, dot_one nd hl (h n (List.mem_cons_self ..))]
    unfold worthL
    rw [List.map_cons, List.sum_cons]
    omega
theorem rr_worth {ts : List Str} {y : List Int} (nd : ts.Nodup) (hl : y.length = ts.length) {a b : List Str} (ha : ∀ x ∈ a, x ∈ ts) (hb : ∀ x ∈ b, x ∈ ts) : RR ts a b (vf y) = worthL ts y a - worthL ts y b := by
  unfold RR
  have e : ∀ i, i < ts.length → vf (rowOf ts a b) i = (-1) * vf (ts.map fun m => (b.count m : Int)) i + vf (ts.map fun m => (a.count m : Int)) i := fun i hi => by
    unfold rowOf
    rw [vf_lt (by simpa using hi), vf_lt (by simpa using hi), vf_lt (by simpa using hi)]
    simp only [List.getElem_map]
    omega
  rw [dotn_congr e (fun _ _ => rfl), dotn_lin, dot_worth nd hl ha, dot_worth nd hl hb]
  omega
theorem fits_all {ts : List Str} {tl : List Tel} {y : List Int} (nd : ts.Nodup) (hl : y.length = ts.length) (hg : ∀ t : Tel, t ∈ tl → GTel ts t) (h : FT ts tl (vf y)) : ∀ t : Tel, t ∈ tl → TFit ts y t := fun t ht => by
  have g := hg t ht
  have f := FT_iff.mp h t ht
  have e := rr_worth nd hl g.il g.ir
  have w := g.wd
  simp only [wordsL, List.mem_cons, List.not_mem_nil, or_false] at w
  rcases w with w | w | w
  · have := f.1 w
    exact .inl ⟨w, by omega⟩
  · have := f.2.1 w
    exact .inr (.inl ⟨w, by omega⟩)
  · have := f.2.2 w
    exact .inr (.inr ⟨w, by omega⟩)
end K8
set_option Elab.async false
set_option linter.all false
set_option maxRecDepth 100000
set_option maxHeartbeats 4000000
namespace K8
open PySem PySem.Spec PyProof.Rows L2
section
variable {P : Program} {w : World} {K : PySem.W.Frag} {mg : Str → Option Value} {base : Heap}

theorem DTold.ok {ts : List Str} {tl : List Tel} (h : DTold ts tl) (l4 : tl.length ≤ 4) : TlOk ts tl := ⟨h.th, h.tel, h.n2, h.n4, h.nd, l4⟩
theorem DTold.more {ts : List Str} {tl : List Tel} {t : Tel} (h : DTold ts tl) (g : GTel ts t) : DTold ts (tl ++ [t]) := ⟨h.th, h.nd, h.n2, h.n4, fun u hu => by
  rcases List.mem_append.mp hu with h' | h'
  · exact h.tel u h'
  · rw [List.mem_singleton.mp h']; exact g⟩
theorem GPair.tel {ts a b : List Str} (h : GPair ts a b) {w : Str} (hw : w ∈ wordsL) : GTel ts (w, a, b) := ⟨hw, h.l, h.r, h.il, h.ir⟩
theorem GPair.swap {ts a b : List Str} (h : GPair ts a b) : GPair ts b a := ⟨h.r, h.l, h.ir, h.il⟩
def W_lopen_right (K : PySem.W.Frag) : DW := fun _ l P => ∃ ts tl a b, l = [toldD K ts tl, .tup [solD a, solD b]] ∧ DTold ts tl ∧ tl.length ≤ 3 ∧ GPair ts a b ∧ WordIs ts tl a b "open" ∧ P = (· = .bl true)
theorem G_lopen_right (T : Tx K mg) : FnOk P w K mg base CX0 17 (He.ga K "_law_open_right") T.d_lopen_right.fd ["_law_told", "_law_pair_here"] (spW K (W_lopen_right K)) := by
  refine fn_okD (k := 16) T.d_lopen_right.F sc_lopen_right ?_ (by decide) (fun cdv A outer s H E hr => ?_)
  · intro bg l P h
    obtain ⟨x, y, z, t, rfl, _⟩ := h; rfl
  · refine ⟨_, (xs_cons (xs_asg (x_var (pv 1)) (xg_two rfl (xg_name (pg_name (i := 2) sc_lopen_right.nd rfl (.inl rfl))) (xg_name (pg_name (i := 3) sc_lopen_right.nd rfl (.inl rfl)))))
    (xs_cons (xs_set (i := 4) sc_lopen_right.nd rfl (.inl rfl) (x_lst (xa_cons (x_meth T.cls T.h_with_telling (G_Told_with_telling T) (hr.mono (by decide)) T.m_with_telling.b (x_var (pv 0)) (xa_cons (x_tup (xa_cons x_str (xa_cons (x_var (pv 2)) (xa_cons (x_var (pv 3)) xa_nil)))) xa_nil)) (xa_cons (x_meth T.cls T.h_with_telling (G_Told_with_telling T) (hr.mono (by decide)) T.m_with_telling.b (x_var (pv 0)) (xa_cons (x_tup (xa_cons x_str (xa_cons (x_var (pv 2)) (xa_cons (x_var (pv 3)) xa_nil)))) xa_nil)) xa_nil))))
    (xs_cons (xs_set (i := 4) sc_lopen_right.nd rfl (.inl rfl) (x_op op_cat r2_catL (x_var (pv 4)) (x_lst (xa_cons (x_meth T.cls T.h_with_telling (G_Told_with_telling T) (hr.mono (by decide)) T.m_with_telling.b (x_var (pv 0)) (xa_cons (x_tup (xa_cons x_str (xa_cons (x_var (pv 3)) (xa_cons (x_var (pv 2)) xa_nil)))) xa_nil)) (xa_cons (x_meth T.cls T.h_with_telling (G_Told_with_telling T) (hr.mono (by decide)) T.m_with_telling.b (x_var (pv 0)) (xa_cons (x_tup (xa_cons x_str (xa_cons (x_var (pv 2)) (xa_cons (x_var (pv 3)) xa_nil)))) xa_nil)) xa_nil)))))
    (xs_cons (xs_if (xt_cmp (op_neD hr.units) r2_neD (x_lc (own := [("_law_each", 6)]) (gs := [6]) rfl sc_lopen_right.nd (xi_list (x_var (pv 4))) (blkOk_by (by kernel_rfl)) (fun _ _ _ _ _ => (xg_name (pg_name (i := 6) sc_lopen_right.nd rfl (.inl rfl)))) (fun _ _ _ _ _ => (xts_one (xt_cmp op_isnot_bl r2_notB (x_call (G_stands_all T) (hr.mono (by decide)) (by rfl) T.d_stands_all.g T.d_stands_all.F.kp T.d_stands_all.b (xa_cons (x_var (pv 6)) xa_nil)) x_bl (nomark _)))) (fun _ _ _ _ _ => (x_var (pv 6)))) (x_lst xa_nil) (nomark _)) (xs_one (xs_ret x_bl)) xs_nil)
    (xs_cons (xs_setLc (i := 5) (own := [("_law_each", 6)]) (gs := [6]) rfl sc_lopen_right.nd rfl rfl (sw_true rfl rfl rfl (by decide +kernel)) (xi_list (x_var (pv 4))) (blkOk_by (by kernel_rfl)) (fun _ _ _ _ _ => (xg_name (pg_name (i := 6) sc_lopen_right.nd rfl (.inl rfl)))) (fun _ _ _ _ _ => xts_nil) (fun _ _ _ _ _ => (x_call (G_word_of T) (hr.mono (by decide)) (by rfl) T.d_word_of.g T.d_word_of.F.kp T.d_word_of.b (xa_cons (x_var (pv 6)) (xa_cons (x_var (pv 1)) xa_nil)))))
    (xs_one (xs_ret (x_and (x_cmp (op_eqD hr.units) r2_eqD (x_slice sl_list s3_L (x_var (pv 5)) xo_none (xo_some x_int)) (x_lst (xa_cons x_str (xa_cons x_str (xa_cons x_str xa_nil)))) (nomark _)) (x_one (x_cmp op_eq r2_eq (x_ix ix_seq r2_ix (x_var (pv 5)) x_int (fun _ _ => rfl)) x_str (nomark _))))))))))), ?_⟩
    intro bg l P h
    obtain ⟨ts, tl, a, b, rfl, ht, h3, hp, hw, rfl⟩ := h
    have wt : ∀ t : Tel, GTel ts t → W_Told_with_telling K none [toldD K ts tl, telD t] (· = toldD K ts (tl ++ [t])) := fun t gt => ⟨ts, tl, t, rfl, ht.th, ht.tel, by omega, gt, rfl⟩
    simp [toldD, and_assoc]
    refine ⟨by decide +kernel, by decide +kernel, by decide, _, wt (tA a b) (hp.tel (by decide)), ?_⟩
    rintro _ rfl
    refine ⟨by decide +kernel, by decide +kernel, by decide, _, wt (tH a b) (hp.tel (by decide)), ?_⟩
    rintro _ rfl
    refine ⟨by decide, by decide +kernel, by decide +kernel, by decide, _, wt (tH b a) (hp.swap.tel (by decide)), ?_⟩
    rintro _ rfl
    refine ⟨by decide +kernel, by decide +kernel, by decide, _, wt (tU a b) (hp.tel (by decide)), ?_⟩
    rintro _ rfl
    refine ⟨by decide, by decide, ?_⟩
    have all : ∀ t : Tel, t ∈ [tA a b, tH a b, tH b a, tU a b] → GTel ts t ∧ ∃ x, FT ts (tl ++ [t]) x := fun t ht' => by
      simp only [List.mem_cons, List.not_mem_nil, or_false] at ht'
      rcases ht' with rfl | rfl | rfl | rfl
      · exact ⟨hp.tel (by decide), (open_alike hw).1⟩
      · exact ⟨hp.tel (by decide), (open_heavier hw).1⟩
      · exact ⟨hp.swap.tel (by decide), (open_lighter hw).1⟩
      · exact ⟨hp.tel (by decide), (open_unlike hw).1⟩
    have okT : ∀ t : Tel, t ∈ [tA a b, tH a b, tH b a, tU a b] → TlOk ts (tl ++ [t]) := fun t ht' => (ht.more (all t ht').1).ok (by rw [List.length_append]; simp; omega)
    refine lcW_fil (fun t : Tel => toldD K ts (tl ++ [t])) (fun _ => D.non) (fun _ => false) (fun t => t) [tA a b, tH a b, tH b a, tU a b] [] _ (fun t ht' Y N' hY hN' => ?_) ?_
    · simp
      refine ⟨_, ⟨ts, tl ++ [t], rfl, okT t ht', rfl⟩, ?_⟩
      rintro _ (⟨rfl, _⟩ | ⟨rfl, no⟩)
      · simp
        exact hN' rfl
      · obtain ⟨x, hx⟩ := (all t ht').2
        exact absurd hx (no x)
    · rw [List.filter_eq_nil_iff.mpr (fun _ _ => Bool.false_ne_true)]
      refine ⟨okD_nil, okD_nil, by rw [show ([] ++ List.map (fun _ => D.non) (List.map (fun t => t) ([] : List Tel))) = [] from rfl, eqv_lst0]; rfl, ?_⟩
      refine lcW_rel (fun t : Tel => toldD K ts (tl ++ [t])) D.str (fun _ => true) (fun t y => WordIs ts (tl ++ [t]) a b y) [tA a b, tH a b, tH b a, tU a b] [] _ (fun t ht' Y N' hY hN' => ?_) fun ys hys => ?_
      · simp
        refine ⟨_, ⟨ts, tl ++ [t], a, b, rfl, okT t ht', hp.l.few, hp.r.few, (all t ht').2, rfl⟩, ?_⟩
        rintro _ ⟨wd, rfl, hwd⟩
        exact hY rfl wd hwd
      · rw [List.filter_eq_self.mpr (fun _ _ => rfl)] at hys
        cases hys with
        | cons r1 hys =>
        cases hys with
        | cons r2 hys =>
        cases hys with
        | cons r3 hys =>
        cases hys with
        | cons r4 hys =>
        cases hys
        rw [(open_alike hw).2 _ r1, (open_heavier hw).2 _ r2, (open_lighter hw).2 _ r3, (open_unlike hw).2 _ r4]
        have o3 : okD (D.lst [D.str "alike", D.str "heavier", D.str "lighter"]) := (okN.lst (k := 0) (fun d hd => by
          simp only [List.mem_cons, List.not_mem_nil, or_false] at hd
          rcases hd with rfl | rfl | rfl <;> exact okN.str (by decide +kernel))).ok (by decide)
        exact ⟨by decide, o3, o3, by decide +kernel, D.str "unlike", rfl, by decide +kernel⟩
end
end K8
set_option Elab.async false
set_option linter.all false
set_option maxRecDepth 100000
set_option maxHeartbeats 4000000
namespace K8
open PySem PySem.Spec PyProof.Rows L2
section
variable {P : Program} {w : World} {K : PySem.W.Frag} {mg : Str → Option Value} {base : Heap}

theorem G_lbag (T : Tx K mg) : FnOk P w K mg base CX0 1 (He.ga K "_law_bag") T.d_lbag.fd ["_law_script"] (spBag K) := by
  refine FunD.ok (k := 0) T.d_lbag.F sc_lbag (fun vs H Q E ⟨v, _, _, e, _⟩ => by rw [e]; rfl) (fun cdv A outer s H vs Q E hr h => ?_)
  obtain ⟨v, K0, ns, rfl, kh, rv, l63, q⟩ := h
  refine ⟨_, PSs.nox (pss_one (ps_ret (pe_lst (pa_cons pe_int (pa_cons pe_int (pa_cons pe_int (pa_cons (PX.pe (x_lc (own := [("_law_cell", 1)]) (gs := [1]) rfl sc_lbag.nd (xi_list (x_slice sl_list s3_F (x_var (pv 0)) xo_none (xo_some x_int))) (blkOk_by (by kernel_rfl)) (fun _ _ _ _ _ => (xg_name (pg_name (i := 1) sc_lbag.nd rfl (.inl rfl)))) (fun _ _ _ _ _ => xts_nil) (fun _ _ _ _ _ => (x_callB call_abs c1_abs (by rfl) T.t_abs bt_abs (xa_cons (x_var (pv 1)) xa_nil))))) pa_nil))))))), ?_⟩
  have s0 : SE K ⟨H, K0, none, 0⟩ K0 (L2.start ["_law_script", "_law_cell"] [v]) H (startD ["_law_script", "_law_cell"] [.fls ns]) :=
    start_SE kh (fun b z => nomatch z) (.cons _ _ _ _ rv .nil) (by simp)
  refine ⟨_, K0, _, s0, ?_⟩
  simp [and_assoc]
  refine ⟨l63, ?_⟩
  have ec : cutD (ns.map D.int) none (Option.some 63) = (ns.take 63).map D.int := by
    have := cut_to (ns.map D.int) 63
    rw [← List.map_take] at this
    exact this
  rw [ec]
  refine lcW_map D.int D.int (fun x : Int => if x < 0 then -x else x) (ns.take 63) [] _ (fun x hx Y N hY => ?_) ?_
  · simp [and_assoc]
    exact hY
  · intro v' K' H' n r
    refine ⟨by decide, fun p hp => ?_⟩
    rw [List.nil_append] at r
    obtain ⟨c, vs, rfl, hc, rr, _⟩ := r.lstK
    rw [Reps.ints rr] at hc
    have kp := kv_none n.kh hp
    have h0 : H p = none := by
      cases e : H p with
      | none => rfl
      | some o =>
        rw [n.le p o (fun z => by cases z) e] at hp
        cases hp
    refine q p c K' _ h0 (Nx.trans (fun b z => by cases z) n (Nx.of_ex n.kh (Evl.Ex.new hp))) kp ⟨0, 1234567891, 0, _, upd_same, hc, by decide, by decide, by decide, ?_, fun z hz => ?_⟩
    · rw [List.length_map, List.length_take]
      omega
    · obtain ⟨x, _, rfl⟩ := List.mem_map.mp hz
      show 0 ≤ (if x < 0 then -x else x)
      split <;> omega
end
end K8
set_option Elab.async false
set_option linter.all false
set_option maxRecDepth 100000
set_option maxHeartbeats 4000000
namespace K8
open PySem PySem.Spec PyProof.Rows L2
section
variable {P : Program} {w : World} {K : PySem.W.Frag} {mg : Str → Option Value} {base : Heap}

def pD (p : List Str × List Str) : D := .tup [solD p.1, solD p.2]
theorem okD_pD {ts : List Str} {cs : List (List Str × List Str)} (h : ∀ p : List Str × List Str, p ∈ cs → GPair ts p.1 p.2) : okD (.lst (cs.map pD)) := (okN.lst (k := 2) (fun d hd => by
  obtain ⟨p, hp, rfl⟩ := List.mem_map.mp hd
  refine okN.tup fun d hd => ?_
  simp only [List.mem_cons, List.not_mem_nil, or_false] at hd
  rcases hd with rfl | rfl
  · exact okN.solD (h p hp).l.nm
  · exact okN.solD (h p hp).r.nm)).ok (by decide)
theorem fork {c : Bool} {W1 : (D → Prop) → Prop} {W2 : D → (D → Prop) → Prop} {F : Prop} (hc : c = false → ∃ P1, W1 P1 ∧ ∀ d, P1 d → ∃ P2, W2 d P2 ∧ ∀ e, P2 e → e = .bl true) (hF : F) :
    (c = true ∧ F) ∨ (c = false ∧ ∃ P1, W1 P1 ∧ ∀ d, P1 d → ∃ P2, W2 d P2 ∧ ∀ e, P2 e → e = .bl true ∧ F) := by
  cases c with
  | true => exact .inl ⟨rfl, hF⟩
  | false =>
    obtain ⟨P1, h1, h2⟩ := hc rfl
    exact .inr ⟨rfl, P1, h1, fun d hd => by
      obtain ⟨P2, h3, h4⟩ := h2 d hd
      exact ⟨P2, h3, fun e he => ⟨h4 e he, hF⟩⟩⟩
theorem All2.at' {α β : Type} {R : α → β → Prop} : ∀ {xs : List α} {ys : List β}, All2 R xs ys → ∀ i (h : i < xs.length) (g : i < ys.length), R xs[i] ys[i]
  | _, _, .nil, i, h, _ => absurd h (Nat.not_lt_zero _)
  | _, _, .cons h t, 0, _, _ => h
  | _, _, .cons h t, i + 1, _, _ => All2.at' t i _ _
def W_law : DW := fun bg l P => bg = none ∧ ∃ ns : List Int, l = [.fls ns] ∧ ns.length ≤ 63 ∧ P = (· = .bl true)
theorem G_law (T : Tx K mg) : FnOk P w K mg base CX0 18 (He.ga K "law") T.d_law.fd ["_law_script"] (spW K W_law) := by
  refine fn_okD (k := 17) T.d_law.F sc_law ?_ (by decide) (fun cdv A outer s H E hr => ?_)
  · intro bg l P h
    obtain ⟨_, x, rfl, _⟩ := h; rfl
  · refine ⟨_, (xss_bag (i := 1) sc_law.nd rfl (.inr rfl) (G_lbag T) (hr.mono (by decide)) (by rfl) T.d_lbag.g T.d_lbag.F.kp T.d_lbag.b (x_var (pv 0)) (xs_cons (xs_asg (x_callBg (G_lstanding T) (hr.mono (by decide)) (by rfl) T.d_lstanding.g T.d_lstanding.F.kp T.d_lstanding.b (xa_cons (x_var (pv 1)) (xa_cons (x_op op_add r2_I0 x_int (x_callBg (G_ltake T) (hr.mono (by decide)) (by rfl) T.d_ltake.g T.d_ltake.F.kp T.d_ltake.b (xa_cons (x_var (pv 1)) (xa_cons x_int xa_nil)))) (xa_cons x_int (xa_cons (x_lst (xa_cons x_str (xa_cons x_str (xa_cons x_str xa_nil)))) xa_nil))))) (xg_two rfl (xg_name (pg_name (i := 2) sc_law.nd rfl (.inr rfl))) (xg_name (pg_name (i := 3) sc_law.nd rfl (.inr rfl)))))
    (xs_cons (xs_set (i := 4) sc_law.nd rfl (.inr rfl) (x_make T.h_init (G_Told_init T) (hr.mono (by decide)) (by rfl) T.g_Told T.m_init.b (xa_cons (x_var (pv 2)) (xa_cons (x_var (pv 3)) xa_nil))))
    (xs_cons (xs_set (i := 5) sc_law.nd rfl (.inr rfl) (x_lc (own := [("_law_k", 7)]) (gs := [7]) rfl sc_law.nd (xi_range (by rfl) T.t_range (xa_cons x_int xa_nil)) (blkOk_by (by kernel_rfl)) (fun _ _ _ _ _ => (xg_name (pg_name (i := 7) sc_law.nd rfl (.inl rfl)))) (fun _ _ _ _ _ => xts_nil) (fun _ _ _ _ _ => (x_callBg (G_lnear_pair T) (hr.mono (by decide)) (by rfl) T.d_lnear_pair.g T.d_lnear_pair.F.kp T.d_lnear_pair.b (xa_cons (x_var (pv 1)) (xa_cons (x_var (pv 2)) (xa_cons (x_var (pv 3)) xa_nil)))))))
    (xs_cons (xs_set (i := 6) sc_law.nd rfl (.inr rfl) (x_lc (own := [("_law_pair_here", 11)]) (gs := [11]) rfl sc_law.nd (xi_list (x_var (pv 5))) (blkOk_by (by kernel_rfl)) (fun _ _ _ _ _ => (xg_name (pg_name (i := 11) sc_law.nd rfl (.inl rfl)))) (fun _ _ _ _ _ => xts_nil) (fun _ _ _ _ _ => (x_call (G_word_of T) (hr.mono (by decide)) (by rfl) T.d_word_of.g T.d_word_of.F.kp T.d_word_of.b (xa_cons (x_var (pv 4)) (xa_cons (x_var (pv 11)) xa_nil))))))
    (xs_cons (xs_for PassesOwn.never rfl (xi_range (by rfl) T.t_range (xa_cons x_int xa_nil)) (xg_name (pg_name (i := 7) sc_law.nd rfl (.inl rfl))) (xs_cons (xs_setLc (i := 8) (own := [("_law_at", 12)]) (gs := [12]) rfl sc_law.nd rfl rfl (sw_true rfl rfl rfl (by decide +kernel)) (xi_range (by rfl) T.t_range (xa_cons x_int xa_nil)) (blkOk_by (by kernel_rfl)) (fun _ _ _ _ _ => (xg_name (pg_name (i := 12) sc_law.nd rfl (.inl rfl)))) (fun _ _ _ _ _ => (xts_one (xt_cmp op_eq r2_eq (x_ix ix_seq r2_ix (x_var (pv 6)) (x_var (pv 12)) (fun _ _ => rfl)) x_str (nomark _)))) (fun _ _ _ _ _ => (x_ix ix_seq r2_ix (x_var (pv 5)) (x_var (pv 12)) (fun _ _ => rfl))))
    (xs_cons (xs_if (PXW.xt (xw_and (xt_cmp (op_neD hr.units) r2_neD (x_var (pv 8)) (x_lst xa_nil) (nomark _)) (xw_and1 (xt_not (xt_val (x_call (G_lopen_right T) (hr.mono (by decide)) (by rfl) T.d_lopen_right.g T.d_lopen_right.F.kp T.d_lopen_right.b (xa_cons (x_var (pv 4)) (xa_cons (x_callBg (G_lone T) (hr.mono (by decide)) (by rfl) T.d_lone.g T.d_lone.F.kp T.d_lone.b (xa_cons (x_var (pv 1)) (xa_cons (x_var (pv 8)) xa_nil))) xa_nil)))))))) (xs_one (xs_ret x_bl)) xs_nil)
    (xs_cons (xs_set (i := 9) sc_law.nd rfl (.inr rfl) (x_meth T.cls T.h_with_telling (G_Told_with_telling T) (hr.mono (by decide)) T.m_with_telling.b (x_var (pv 4)) (xa_cons (x_op op_catA r2_catT (x_tup (xa_cons (x_callBg (G_lone T) (hr.mono (by decide)) (by rfl) T.d_lone.g T.d_lone.F.kp T.d_lone.b (xa_cons (x_var (pv 1)) (xa_cons (x_lst (xa_cons x_str (xa_cons x_str (xa_cons x_str xa_nil)))) xa_nil))) xa_nil)) (x_callBg (G_lpair T) (hr.mono (by decide)) (by rfl) T.d_lpair.g T.d_lpair.F.kp T.d_lpair.b (xa_cons (x_var (pv 1)) (xa_cons (x_var (pv 2)) xa_nil)))) xa_nil)))
    (xs_one (xs_if (xt_val (x_call (G_stands_all T) (hr.mono (by decide)) (by rfl) T.d_stands_all.g T.d_stands_all.F.kp T.d_stands_all.b (xa_cons (x_var (pv 9)) xa_nil))) (xs_cons (xs_set (i := 10) sc_law.nd rfl (.inr rfl) (x_lc (own := [("_law_pair_here", 11)]) (gs := [11]) rfl sc_law.nd (xi_list (x_var (pv 5))) (blkOk_by (by kernel_rfl)) (fun _ _ _ _ _ => (xg_name (pg_name (i := 11) sc_law.nd rfl (.inl rfl)))) (fun _ _ _ _ _ => xts_nil) (fun _ _ _ _ _ => (x_call (G_word_of T) (hr.mono (by decide)) (by rfl) T.d_word_of.g T.d_word_of.F.kp T.d_word_of.b (xa_cons (x_var (pv 9)) (xa_cons (x_var (pv 11)) xa_nil))))))
    (xs_cons (xs_if (xt_cmp (op_neD hr.units) r2_neD (x_lc (own := [("_law_at", 12)]) (gs := [12]) rfl sc_law.nd (xi_range (by rfl) T.t_range (xa_cons x_int xa_nil)) (blkOk_by (by kernel_rfl)) (fun _ _ _ _ _ => (xg_name (pg_name (i := 12) sc_law.nd rfl (.inl rfl)))) (fun _ _ _ _ _ => (xts_one (xt_not (xt_val (x_call (G_lstays T) (hr.mono (by decide)) (by rfl) T.d_lstays.g T.d_lstays.F.kp T.d_lstays.b (xa_cons (x_ix ix_seq r2_ix (x_var (pv 6)) (x_var (pv 12)) (fun _ _ => rfl)) (xa_cons (x_ix ix_seq r2_ix (x_var (pv 10)) (x_var (pv 12)) (fun _ _ => rfl)) xa_nil))))))) (fun _ _ _ _ _ => (x_var (pv 12)))) (x_lst xa_nil) (nomark _)) (xs_one (xs_ret x_bl)) xs_nil)
    (xs_cons (xs_if (xt_not (xt_val (x_call (G_lfits T) (hr.mono (by decide)) (by rfl) T.d_lfits.g T.d_lfits.F.kp T.d_lfits.b (xa_cons (x_meth0 T.cls T.h_tellings (G_Told_tellings T) (hr.mono (by decide)) T.m_tellings.b (x_var (pv 4))) (xa_cons (x_call (G_some_worths T) (hr.mono (by decide)) (by rfl) T.d_some_worths.g T.d_some_worths.F.kp T.d_some_worths.b (xa_cons (x_var (pv 9)) xa_nil)) xa_nil))))) (xs_one (xs_ret x_bl)) xs_nil)
    (xs_one (xs_asg (x_tup (xa_cons (x_var (pv 9)) (xa_cons (x_var (pv 10)) xa_nil))) (xg_two rfl (xg_name (pg_name (i := 4) sc_law.nd rfl (.inr rfl))) (xg_name (pg_name (i := 6) sc_law.nd rfl (.inr rfl))))))))) xs_nil))))))
    (xs_one (xs_ret x_bl)))))))), ?_⟩
    intro bg l P h
    obtain ⟨rfl, ns, rfl, l63, rfl⟩ := h
    simp [and_assoc]
    refine ⟨l63, fun b => ⟨_, ⟨b, 3, rfl, rfl, by decide, by decide, rfl⟩, ?_⟩⟩
    rintro _ ⟨r, rfl, r0, r1⟩
    refine ⟨_, ⟨r, rfl, rfl⟩, by decide, _, ⟨b, (2 + r).toNat, rfl, by rw [Int.toNat_of_nonneg (by omega)]; rfl, by omega, by omega, rfl⟩, ?_⟩
    rintro _ ⟨ts, tl0, rfl, dt0, l0, ft0⟩
    have tne : ts ≠ [] := fun z => by have := dt0.n2; rw [z] at this; simp at this
    refine ⟨_, _, .inl rfl, _, rfl, ⟨ts, tl0, rfl, rfl, dt0.th, dt0.tel⟩, 6, rfl, by decide, ?_⟩
    refine lcW_rel (fun i : Nat => D.int (i : Int)) pD (fun _ => true) (fun _ p => GPair ts p.1 p.2) (List.range 6) [] _ (fun i _ Y N hY hN => ?_) fun cs hcs => ?_
    · simp
      refine ⟨_, ⟨b, ts, tl0, rfl, rfl, tne, dt0.th, dt0.tel, by omega, rfl⟩, ?_⟩
      rintro _ ⟨a, c, rfl, hp⟩
      exact hY rfl (a, c) hp
    rw [List.nil_append]
    have lcs : cs.length = 6 := by
      rw [hcs.length, List.filter_eq_self.mpr (fun _ _ => rfl), List.length_range]
    have gcs : ∀ p : List Str × List Str, p ∈ cs → GPair ts p.1 p.2 := fun p hp => by
      obtain ⟨_, _, h⟩ := hcs.right p hp
      exact h
    have wordsAt : ∀ (tl : List Tel), DTold ts tl → tl.length ≤ 4 → (∃ x, FT ts tl x) → ∀ p : List Str × List Str, p ∈ cs → W_word_of K none [toldD K ts tl, pD p] fun d => ∃ wd : Str, d = .str wd ∧ WordIs ts tl p.1 p.2 wd := fun tl dt h4 ft p hp =>
      ⟨ts, tl, p.1, p.2, rfl, dt.ok h4, (gcs p hp).l.few, (gcs p hp).r.few, ft, rfl⟩
    refine lcW_rel pD D.str (fun _ => true) (fun p wd => WordIs ts tl0 p.1 p.2 wd) cs [] _ (fun p hp Y N hY hN => ?_) fun ws hws => ?_
    · simp
      refine ⟨_, wordsAt tl0 dt0 (by omega) ft0 p hp, ?_⟩
      rintro _ ⟨wd, rfl, h⟩
      exact hY rfl wd h
    rw [List.filter_eq_self.mpr (fun _ _ => rfl)] at hws
    rw [List.nil_append]
    refine ⟨2, rfl, by decide, ?_⟩
    refine forW_run (fun k ds => ∃ (tl : List Tel) (ws : List Str) (s7 s8 s9 s10 : Sl), DTold ts tl ∧ tl.length ≤ 2 + k ∧ k ≤ 2 ∧ (∃ x, FT ts tl x) ∧ All2 (fun (p : List Str × List Str) wd => WordIs ts tl p.1 p.2 wd) cs ws ∧
      ds = [Sl.val (D.fls ns), Sl.val (D.ref b), Sl.val (solD ts), Sl.val (.lst (tl0.map telD)), Sl.val (toldD K ts tl), Sl.val (D.lst (cs.map pD)), Sl.val (D.lst (ws.map D.str)), s7, s8, s9, s10, .no, .no]) _ 0 _ ⟨tl0, ws, _, _, _, _, dt0, by omega, by decide, ft0, hws, rfl⟩ (fun k x ds hx hI N hN => ?_) fun ds hI => ?_
    · obtain ⟨tl, ws, s7, s8, s9, s10, dt, lt, hk, ft, hw, rfl⟩ := hI
      have hk' : k < 2 := by
        have := (List.getElem?_eq_some_iff.mp hx).1
        simpa using this
      have lws : ws.length = 6 := hw.length.trans lcs
      simp only [Nat.zero_add] at hN lt hk
      simp [and_assoc]
      refine ⟨6, rfl, by decide, ?_⟩
      refine lcW_fil (fun i : Nat => D.int (i : Int)) pD (fun i => decide (ws.getD i "" = "open")) (fun i => cs.getD i ([], [])) (List.range 6) [] _ (fun i hi Y N' hY hN' => ?_) ?_
      · have i6 : i < 6 := List.mem_range.mp hi
        have gw : atI (ws.map D.str) (i : Int) = Option.some (.str (ws.getD i "")) := by
          refine atI_nat ?_
          rw [List.getElem?_map, List.getD_eq_getElem?_getD, List.getElem?_eq_getElem (by omega)]
          rfl
        have gc : atI (cs.map pD) (i : Int) = Option.some (pD (cs.getD i ([], []))) := by
          refine atI_nat ?_
          rw [List.getElem?_map, List.getD_eq_getElem?_getD, List.getElem?_eq_getElem (by omega)]
          rfl
        simp [and_assoc]
        refine ⟨_, gw, eqW (k := decide (ws.getD i "" = "open")) rfl hN' fun h => ⟨_, gc, hY h⟩⟩
      rw [List.nil_append]
      obtain ⟨ones, hones⟩ : ∃ ones, ones = ((List.range 6).filter fun i => decide (ws.getD i "" = "open")).map fun i => cs.getD i ([], []) := ⟨_, rfl⟩
      rw [← hones]
      have gon : ∀ p : List Str × List Str, p ∈ ones → GPair ts p.1 p.2 ∧ WordIs ts tl p.1 p.2 "open" := fun p hp => by
        rw [hones] at hp
        obtain ⟨i, hi, rfl⟩ := List.mem_map.mp hp
        obtain ⟨h1, h2⟩ := List.mem_filter.mp hi
        have i6 : i < 6 := List.mem_range.mp h1
        have e1 : cs.getD i ([], []) = cs[i] := by rw [List.getD_eq_getElem?_getD, List.getElem?_eq_getElem (by omega)]; rfl
        have e2 : ws.getD i "" = ws[i] := by rw [List.getD_eq_getElem?_getD, List.getElem?_eq_getElem (by omega)]; rfl
        have h3 := of_decide_eq_true h2
        have h4 := hw.at' i (by omega) (by omega)
        rw [e1]
        rw [e2] at h3
        rw [h3] at h4
        exact ⟨gcs _ (List.getElem_mem (by omega)), h4⟩
      refine ⟨okD_pD fun p hp => (gon p hp).1, okD_nil, ?_⟩
      rw [eqv_lst0]
      refine fork (fun hc => ?_) ?_
      · have ne : ones.map pD ≠ [] := of_decide_eq_false hc
        refine ⟨_, ⟨b, _, ones.map pD, rfl, rfl, .inl rfl, List.length_pos_iff.mpr ne, ?_, rfl⟩, ?_⟩
        · rw [List.length_map, hones, List.length_map]
          have := List.length_filter_le (fun i => decide (ws.getD i "" = "open")) (List.range 6)
          rw [List.length_range] at this
          omega
        · intro d hd
          obtain ⟨p, hp, rfl⟩ := List.mem_map.mp hd
          exact ⟨_, ⟨ts, tl, p.1, p.2, rfl, dt, by omega, (gon p hp).1, (gon p hp).2, rfl⟩, fun e he => he⟩
      · have nw : ¬ (("with_telling" : Str) ∈ [("its_things" : Str), "its_tellings"]) := by decide +kernel
        have nt : ¬ (("tellings" : Str) ∈ [("its_things" : Str), "its_tellings"]) := by decide +kernel
        refine ⟨_, ⟨_, rfl⟩, nw, by decide, _, ⟨b, _, wordsL.map .str, rfl, rfl, .inl rfl, by decide, by decide, rfl⟩, ?_⟩
        intro d hd
        obtain ⟨w0, hw0, rfl⟩ := words_mem hd
        refine ⟨by decide, _, ⟨b, ts, rfl, rfl, tne, dt.th, rfl⟩, ?_⟩
        rintro _ ⟨a, c, rfl, ha, hc⟩
        have gt : GTel ts (w0, a, c) := ⟨hw0, ha.gsum dt.th, hc.gsum dt.th, ha.sub, hc.sub⟩
        refine ⟨_, ⟨_, rfl, by show 3 ≤ sizeLine; decide, rfl⟩, _, ⟨ts, tl, (w0, a, c), rfl, dt.th, dt.tel, by omega, gt, rfl⟩, ?_⟩
        rintro _ rfl
        have dt2 := dt.more gt
        have l2 : (tl ++ [((w0, a, c) : Tel)]).length ≤ 4 := by rw [List.length_append]; simp; omega
        refine ⟨_, ⟨ts, tl ++ [(w0, a, c)], rfl, dt2.ok l2, rfl⟩, ?_⟩
        rintro _ (⟨rfl, ft2⟩ | ⟨rfl, _⟩)
        · refine .inr ⟨rfl, ?_⟩
          refine lcW_rel pD D.str (fun _ => true) (fun p wd => WordIs ts (tl ++ [(w0, a, c)]) p.1 p.2 wd) cs [] _ (fun p hp Y N' hY hN' => ?_) fun ws2 hws2 => ?_
          · simp
            refine ⟨_, wordsAt _ dt2 l2 ft2 p hp, ?_⟩
            rintro _ ⟨wd, rfl, h⟩
            exact hY rfl wd h
          rw [List.filter_eq_self.mpr (fun _ _ => rfl)] at hws2
          rw [List.nil_append]
          have lws2 : ws2.length = 6 := hws2.length.trans lcs
          refine ⟨6, rfl, by decide, ?_⟩
          refine lcW_fil (fun i : Nat => D.int (i : Int)) (fun _ => D.non) (fun _ => false) (fun i => i) (List.range 6) [] _ (fun i hi Y N' hY hN' => ?_) ?_
          · have i6 : i < 6 := List.mem_range.mp hi
            have g1 : atI (ws.map D.str) (i : Int) = Option.some (.str ws[i]) := atI_nat (by rw [List.getElem?_map, List.getElem?_eq_getElem (by omega)]; rfl)
            have g2 : atI (ws2.map D.str) (i : Int) = Option.some (.str ws2[i]) := atI_nat (by rw [List.getElem?_map, List.getElem?_eq_getElem (by omega)]; rfl)
            simp [and_assoc]
            refine ⟨_, g1, _, g2, _, ⟨_, _, rfl, stays (hw.at' i (by omega) (by omega)) (hws2.at' i (by omega) (by omega)) ft2, rfl⟩, ?_⟩
            rintro _ rfl
            simp
            exact hN' rfl
          · rw [List.filter_eq_nil_iff.mpr (fun _ _ => Bool.false_ne_true)]
            refine ⟨okD_nil, okD_nil, by rw [show ([] ++ List.map (fun _ => D.non) (List.map (fun i => i) ([] : List Nat))) = [] from rfl, eqv_lst0]; rfl, ?_⟩
            refine ⟨_, ⟨_, rfl⟩, nt, _, ⟨ts, tl, rfl, rfl⟩, ?_⟩
            rintro _ rfl
            refine ⟨_, ⟨ts, tl ++ [(w0, a, c)], rfl, dt2.ok l2, ft2, rfl⟩, ?_⟩
            rintro _ ⟨y, rfl, yl, fy⟩
            refine ⟨_, ⟨ts, tl, y, rfl, yl, dt.tel, fits_all dt.nd yl dt.tel (FT_app.mp fy).1, rfl⟩, ?_⟩
            rintro _ rfl
            exact ⟨rfl, by decide, hN _ ⟨tl ++ [(w0, a, c)], ws2, _, _, _, _, dt2, by rw [List.length_append]; simp; omega, by omega, ft2, hws2, rfl⟩⟩
        · refine .inl ⟨rfl, hN _ ⟨tl, ws, _, _, _, _, dt, by omega, by omega, ft, hw, rfl⟩⟩
    · obtain ⟨tl, ws, s7, s8, s9, s10, dt, lt, hk, ft, hw, rfl⟩ := hI
      simp
end
end K8
set_option Elab.async false
set_option linter.all false
set_option maxRecDepth 100000
set_option maxHeartbeats 0
/-! the head: what the top leaves, by names -/
namespace K8
open PySem PySem.Spec PyProof.Rows L2
def dd_row_of : He.DefD := ⟨("row_of", none), "row_of", "row_of", defArgs s_row_of, defBody s_row_of, defScope s_row_of, [], []⟩
def dd_added : He.DefD := ⟨("added", none), "added", "added", defArgs s_added, defBody s_added, defScope s_added, [], []⟩
def dd_taken : He.DefD := ⟨("taken", none), "taken", "taken", defArgs s_taken, defBody s_taken, defScope s_taken, [], []⟩
def dd_times : He.DefD := ⟨("times", none), "times", "times", defArgs s_times, defBody s_times, defScope s_times, [], []⟩
def dd_mixture : He.DefD := ⟨("mixture", none), "mixture", "mixture", defArgs s_mixture, defBody s_mixture, defScope s_mixture, [], []⟩
def dd_dot : He.DefD := ⟨("dot", none), "dot", "dot", defArgs s_dot, defBody s_dot, defScope s_dot, [], []⟩
def dd_unit : He.DefD := ⟨("unit", none), "unit", "unit", defArgs s_unit, defBody s_unit, defScope s_unit, [], []⟩
def dd_less_times : He.DefD := ⟨("less_times", none), "less_times", "less_times", defArgs s_less_times, defBody s_less_times, defScope s_less_times, [], []⟩
def dd_brought_down : He.DefD := ⟨("brought_down", none), "brought_down", "brought_down", defArgs s_brought_down, defBody s_brought_down, defScope s_brought_down, [], []⟩
def dd_steps_led : He.DefD := ⟨("steps_led", none), "steps_led", "steps_led", defArgs s_steps_led, defBody s_steps_led, defScope s_steps_led, [], []⟩
def dd_width_of : He.DefD := ⟨("width_of", none), "width_of", "width_of", defArgs s_width_of, defBody s_width_of, defScope s_width_of, [], []⟩
def dd_steps : He.DefD := ⟨("steps", none), "steps", "steps", defArgs s_steps, defBody s_steps, defScope s_steps, [], []⟩
def dd_rank : He.DefD := ⟨("rank", none), "rank", "rank", defArgs s_rank, defBody s_rank, defScope s_rank, [], []⟩
def dd_frame : He.DefD := ⟨("frame", none), "frame", "frame", defArgs s_frame, defBody s_frame, defScope s_frame, [], []⟩
def dd_is_held : He.DefD := ⟨("is_held", none), "is_held", "is_held", defArgs s_is_held, defBody s_is_held, defScope s_is_held, [], []⟩
def dd_common_part : He.DefD := ⟨("common_part", none), "common_part", "common_part", defArgs s_common_part, defBody s_common_part, defScope s_common_part, [], []⟩
def dd_shortened : He.DefD := ⟨("shortened", none), "shortened", "shortened", defArgs s_shortened, defBody s_shortened, defScope s_shortened, [], []⟩
def dd_is_less : He.DefD := ⟨("is_less", none), "is_less", "is_less", defArgs s_is_less, defBody s_is_less, defScope s_is_less, [], []⟩
def dd_without_last : He.DefD := ⟨("without_last", none), "without_last", "without_last", defArgs s_without_last, defBody s_without_last, defScope s_without_last, [], []⟩
def dd_between : He.DefD := ⟨("between", none), "between", "between", defArgs s_between, defBody s_between, defScope s_between, [], []⟩
def dd_greater : He.DefD := ⟨("greater", none), "greater", "greater", defArgs s_greater, defBody s_greater, defScope s_greater, [], []⟩
def dd_lesser : He.DefD := ⟨("lesser", none), "lesser", "lesser", defArgs s_lesser, defBody s_lesser, defScope s_lesser, [], []⟩
def dd_point_by : He.DefD := ⟨("point_by", none), "point_by", "point_by", defArgs s_point_by, defBody s_point_by, defScope s_point_by, [], []⟩
def dd_point_above : He.DefD := ⟨("point_above", none), "point_above", "point_above", defArgs s_point_above, defBody s_point_above, defScope s_point_above, [], []⟩
def dd_seen_by : He.DefD := ⟨("seen_by", none), "seen_by", "seen_by", defArgs s_seen_by, defBody s_seen_by, defScope s_seen_by, [], []⟩
def dd_powers : He.DefD := ⟨("powers", none), "powers", "powers", defArgs s_powers, defBody s_powers, defScope s_powers, [], []⟩
def dd_moved : He.DefD := ⟨("moved", none), "moved", "moved", defArgs s_moved, defBody s_moved, defScope s_moved, [], []⟩
def dd_worths_above : He.DefD := ⟨("worths_above", none), "worths_above", "worths_above", defArgs s_worths_above, defBody s_worths_above, defScope s_worths_above, [], []⟩
def dd_some_worths : He.DefD := ⟨("some_worths", none), "some_worths", "some_worths", defArgs s_some_worths, defBody s_some_worths, defScope s_some_worths, [], []⟩
def dd_stands_all : He.DefD := ⟨("stands_all", none), "stands_all", "stands_all", defArgs s_stands_all, defBody s_stands_all, defScope s_stands_all, [], []⟩
def dd_worths_for : He.DefD := ⟨("worths_for", none), "worths_for", "worths_for", defArgs s_worths_for, defBody s_worths_for, defScope s_worths_for, [], []⟩
def dd_word_of : He.DefD := ⟨("word_of", none), "word_of", "word_of", defArgs s_word_of, defBody s_word_of, defScope s_word_of, [], []⟩
def dd_is_name : He.DefD := ⟨("is_name", none), "is_name", "is_name", defArgs s_is_name, defBody s_is_name, defScope s_is_name, [], []⟩
def dd_are_things : He.DefD := ⟨("are_things", none), "are_things", "are_things", defArgs s_are_things, defBody s_are_things, defScope s_are_things, [], []⟩
def dd_is_sum : He.DefD := ⟨("is_sum", none), "is_sum", "is_sum", defArgs s_is_sum, defBody s_is_sum, defScope s_is_sum, [], []⟩
def dd_is_pair : He.DefD := ⟨("is_pair", none), "is_pair", "is_pair", defArgs s_is_pair, defBody s_is_pair, defScope s_is_pair, [], []⟩
def dd_is_telling : He.DefD := ⟨("is_telling", none), "is_telling", "is_telling", defArgs s_is_telling, defBody s_is_telling, defScope s_is_telling, [], []⟩
def dd_is_telling_of : He.DefD := ⟨("is_telling_of", none), "is_telling_of", "is_telling_of", defArgs s_is_telling_of, defBody s_is_telling_of, defScope s_is_telling_of, [], []⟩
def dd_are_tellings_of : He.DefD := ⟨("are_tellings_of", none), "are_tellings_of", "are_tellings_of", defArgs s_are_tellings_of, defBody s_are_tellings_of, defScope s_are_tellings_of, [], []⟩
def dd_lbag : He.DefD := ⟨("_law_bag", none), "_law_bag", "_law_bag", defArgs s_lbag, defBody s_lbag, defScope s_lbag, [], []⟩
def dd_ltake : He.DefD := ⟨("_law_take", none), "_law_take", "_law_take", defArgs s_ltake, defBody s_ltake, defScope s_ltake, [], []⟩
def dd_lone : He.DefD := ⟨("_law_one", none), "_law_one", "_law_one", defArgs s_lone, defBody s_lone, defScope s_lone, [], []⟩
def dd_lthings : He.DefD := ⟨("_law_things", none), "_law_things", "_law_things", defArgs s_lthings, defBody s_lthings, defScope s_lthings, [], []⟩
def dd_lsum : He.DefD := ⟨("_law_sum", none), "_law_sum", "_law_sum", defArgs s_lsum, defBody s_lsum, defScope s_lsum, [], []⟩
def dd_lpair : He.DefD := ⟨("_law_pair", none), "_law_pair", "_law_pair", defArgs s_lpair, defBody s_lpair, defScope s_lpair, [], []⟩
def dd_ltellings : He.DefD := ⟨("_law_tellings", none), "_law_tellings", "_law_tellings", defArgs s_ltellings, defBody s_ltellings, defScope s_ltellings, [], []⟩
def dd_lrow : He.DefD := ⟨("_law_row", none), "_law_row", "_law_row", defArgs s_lrow, defBody s_lrow, defScope s_lrow, [], []⟩
def dd_lrows : He.DefD := ⟨("_law_rows", none), "_law_rows", "_law_rows", defArgs s_lrows, defBody s_lrows, defScope s_lrows, [], []⟩
def dd_lless : He.DefD := ⟨("_law_less", none), "_law_less", "_law_less", defArgs s_lless, defBody s_lless, defScope s_lless, [], []⟩
def dd_lcut : He.DefD := ⟨("_law_cut", none), "_law_cut", "_law_cut", defArgs s_lcut, defBody s_lcut, defScope s_lcut, [], []⟩
def dd_lrank : He.DefD := ⟨("_law_rank", none), "_law_rank", "_law_rank", defArgs s_lrank, defBody s_lrank, defScope s_lrank, [], []⟩
def dd_lis_held : He.DefD := ⟨("_law_is_held", none), "_law_is_held", "_law_is_held", defArgs s_lis_held, defBody s_lis_held, defScope s_lis_held, [], []⟩
def dd_lworth : He.DefD := ⟨("_law_worth", none), "_law_worth", "_law_worth", defArgs s_lworth, defBody s_lworth, defScope s_lworth, [], []⟩
def dd_lfits_one : He.DefD := ⟨("_law_fits_one", none), "_law_fits_one", "_law_fits_one", defArgs s_lfits_one, defBody s_lfits_one, defScope s_lfits_one, [], []⟩
def dd_lfits : He.DefD := ⟨("_law_fits", none), "_law_fits", "_law_fits", defArgs s_lfits, defBody s_lfits, defScope s_lfits, [], []⟩
def dd_lfreed : He.DefD := ⟨("_law_freed", none), "_law_freed", "_law_freed", defArgs s_lfreed, defBody s_lfreed, defScope s_lfreed, [], []⟩
def dd_lcut_away : He.DefD := ⟨("_law_cut_away", none), "_law_cut_away", "_law_cut_away", defArgs s_lcut_away, defBody s_lcut_away, defScope s_lcut_away, [], []⟩
def dd_lcan : He.DefD := ⟨("_law_can", none), "_law_can", "_law_can", defArgs s_lcan, defBody s_lcan, defScope s_lcan, [], []⟩
def dd_lnegative : He.DefD := ⟨("_law_negative", none), "_law_negative", "_law_negative", defArgs s_lnegative, defBody s_lnegative, defScope s_lnegative, [], []⟩
def dd_lstands : He.DefD := ⟨("_law_stands", none), "_law_stands", "_law_stands", defArgs s_lstands, defBody s_lstands, defScope s_lstands, [], []⟩
def dd_lstanding : He.DefD := ⟨("_law_standing", none), "_law_standing", "_law_standing", defArgs s_lstanding, defBody s_lstanding, defScope s_lstanding, [], []⟩
def dd_lnear_pair : He.DefD := ⟨("_law_near_pair", none), "_law_near_pair", "_law_near_pair", defArgs s_lnear_pair, defBody s_lnear_pair, defScope s_lnear_pair, [], []⟩
def dd_lcrossed : He.DefD := ⟨("_law_crossed", none), "_law_crossed", "_law_crossed", defArgs s_lcrossed, defBody s_lcrossed, defScope s_lcrossed, [], []⟩
def dd_lfew_of : He.DefD := ⟨("_law_few_of", none), "_law_few_of", "_law_few_of", defArgs s_lfew_of, defBody s_lfew_of, defScope s_lfew_of, [], []⟩
def dd_lstays : He.DefD := ⟨("_law_stays", none), "_law_stays", "_law_stays", defArgs s_lstays, defBody s_lstays, defScope s_lstays, [], []⟩
def dd_lopen_right : He.DefD := ⟨("_law_open_right", none), "_law_open_right", "_law_open_right", defArgs s_lopen_right, defBody s_lopen_right, defScope s_lopen_right, [], []⟩
def dd_law : He.DefD := ⟨("law", none), "law", "law", defArgs s_law, defBody s_law, defScope s_law, [], []⟩
def dm_init : He.DefD := ⟨("Told", some "__init__"), "__init__", "Told.__init__", defArgs s_Told_init, defBody s_Told_init, defScope s_Told_init, [], []⟩
def dm_tellings : He.DefD := ⟨("Told", some "tellings"), "tellings", "Told.tellings", defArgs s_Told_tellings, defBody s_Told_tellings, defScope s_Told_tellings, [], []⟩
def dm_rows : He.DefD := ⟨("Told", some "rows"), "rows", "Told.rows", defArgs s_Told_rows, defBody s_Told_rows, defScope s_Told_rows, [], []⟩
def dm_with_telling : He.DefD := ⟨("Told", some "with_telling"), "with_telling", "Told.with_telling", defArgs s_Told_with_telling, defBody s_Told_with_telling, defScope s_Told_with_telling, [], []⟩
abbrev s_Told_things : Stmt := inC (topS 57) 1
theorem sc_Told_things : FnScope ["self"] ["self"] (defScope s_Told_things) := ⟨rfl, rfl, rfl, by decide +kernel, rfl, by decide +kernel, by decide +kernel⟩
def dp_things : He.DefD := ⟨("Told", some "things"), "things", "Told.things", defArgs s_Told_things, defBody s_Told_things, defScope s_Told_things, [], []⟩
def fn0 : List He.DefD := [dd_row_of, dd_added, dd_taken, dd_times, dd_mixture, dd_dot, dd_unit, dd_less_times, dd_brought_down, dd_steps_led, dd_width_of, dd_steps, dd_rank, dd_frame, dd_is_held, dd_common_part, dd_shortened, dd_is_less, dd_without_last, dd_between, dd_greater, dd_lesser, dd_point_by, dd_point_above, dd_seen_by, dd_powers, dd_moved, dd_worths_above, dd_some_worths, dd_stands_all]
def fn1 : List He.DefD := [dd_worths_for, dd_word_of, dd_is_name, dd_are_things, dd_is_sum, dd_is_pair, dd_is_telling, dd_is_telling_of, dd_are_tellings_of, dd_lbag, dd_ltake, dd_lone, dd_lthings, dd_lsum, dd_lpair, dd_ltellings, dd_lrow, dd_lrows, dd_lless, dd_lcut, dd_lrank, dd_lis_held, dd_lworth, dd_lfits_one, dd_lfits, dd_lfreed, dd_lcut_away, dd_lcan, dd_lnegative, dd_lstands]
def fn2 : List He.DefD := [dd_lstanding, dd_lnear_pair, dd_lcrossed, dd_lfew_of, dd_lstays, dd_lopen_right, dd_law, dm_init, dm_tellings, dm_rows, dm_with_telling]
def fnL : List He.DefD := fn0 ++ fn1 ++ fn2
def fa0 : List He.Fa := [.glo "row_of", .glo "added", .glo "taken", .glo "times", .glo "mixture", .glo "dot", .glo "unit", .glo "less_times", .glo "brought_down", .glo "steps_led", .glo "width_of", .glo "steps", .glo "rank", .glo "frame", .glo "is_held", .glo "common_part", .glo "shortened", .glo "is_less", .glo "without_last", .glo "between", .glo "greater", .glo "lesser", .glo "point_by", .glo "point_above", .glo "seen_by", .glo "powers", .glo "moved", .glo "worths_above", .glo "some_worths", .glo "stands_all"]
def fa1 : List He.Fa := [.glo "worths_for", .glo "word_of", .glo "is_name", .glo "are_things", .glo "is_sum", .glo "is_pair", .glo "is_telling", .glo "is_telling_of", .glo "are_tellings_of", .glo "_law_bag", .glo "_law_take", .glo "_law_one", .glo "_law_things", .glo "_law_sum", .glo "_law_pair", .glo "_law_tellings", .glo "_law_row", .glo "_law_rows", .glo "_law_less", .glo "_law_cut", .glo "_law_rank", .glo "_law_is_held", .glo "_law_worth", .glo "_law_fits_one", .glo "_law_fits", .glo "_law_freed", .glo "_law_cut_away", .glo "_law_can", .glo "_law_negative", .glo "_law_stands"]
def fa2 : List He.Fa := [.glo "_law_standing", .glo "_law_near_pair", .glo "_law_crossed", .glo "_law_few_of", .glo "_law_stays", .glo "_law_open_right", .glo "law", .free "tuple", .free "list", .free "int", .free "len", .free "sum", .free "abs", .free "max", .free "min", .free "all", .free "any", .free "sorted", .free "set", .free "dict", .free "range", .free "enumerate", .free "zip", .free "isinstance", .free "str", .free "bool", .cls "Told", .mkr "Told", .glo "Told", .glo "WORDS"]
def fa3 : List He.Fa := [.int "MOST_THINGS" 6, .int "MOST_IN_SUMS" 3, .str "LETTERS" letters, .noat "Told" "its_things", .noat "Told" "its_tellings", .meth "Told" "tellings", .meth "Told" "rows", .meth "Told" "with_telling"]
def faL : List He.Fa := fa0 ++ fa1 ++ fa2 ++ fa3
/-! ### the property's getter -/
def toldC (K : PySem.W.Frag) : Addr := He.ga K "Told"
def propP (K : PySem.W.Frag) : Addr := He.ma K (toldC K) "things"
def headA : Option (List Value) → Addr
  | some (.ref a :: _) => a
  | _ => 0
def isHeadA : Option (List Value) → Bool
  | some (.ref _ :: _) => true
  | _ => false
theorem headA_ok {o : Option (List Value)} (h : isHeadA o = true) : ∃ rest, o = some (.ref (headA o) :: rest) := by
  unfold isHeadA at h
  split at h
  · exact ⟨_, rfl⟩
  · cases h
def propG (K : PySem.W.Frag) : Addr := headA (PySem.W.recIn K (propP K) "property")
def propB (K : PySem.W.Frag) : Bool :=
  He.eqO (PySem.W.findIn K (.ref (toldC K)) "things") (some (some (.ref (propP K)))) &&
    (He.eqO (PySem.W.specialIn K (.ref (propP K)) "__get__") (some (some (.builtin "property.__get__"))) &&
      (decide (PySem.W.takesIn K (.ref (propP K)) = some true) && isHeadA (PySem.W.recIn K (propP K) "property")))
theorem propB_ok {K : PySem.W.Frag} (h : propB K = true) : PropOf K (toldC K) "things" (propP K) (propG K) := by
  obtain ⟨h1, h⟩ := He.ba h
  obtain ⟨h2, h⟩ := He.ba h
  obtain ⟨h3, h4⟩ := He.ba h
  obtain ⟨rest, e⟩ := headA_ok h4
  exact ⟨He.eqO_ok h1, He.eqO_ok h2, of_decide_eq_true h3, rest, e⟩
/-- the def that stands at an address -/
def atF (K : PySem.W.Frag) (a : Addr) : Option FuncData := match K.lookup a with
  | some o => (match o.data with
    | .func fd => some fd
    | _ => none)
  | none => none
def seenF (fd : FuncData) : He.FnW := some (fd.name, fd.qualname, fd.params, fd.body, fd.scope, fd.globals, fd.closure, fd.builtins)
def fnA (K : PySem.W.Frag) (a : Addr) : He.FnW := (atF K a).bind seenF
def okA (K : PySem.W.Frag) (a : Addr) (q : Str) : Bool := PySem.W.keepIn K (.ref a) && ((atF K a).any fun fd => PySem.W.codeIn K fd.code q && (He.dflB K fd.defaults [] && He.kwdB K fd.kwdefaults []))
theorem atF_ok {K : PySem.W.Frag} {a : Addr} {fd : FuncData} (h : atF K a = some fd) : ∃ oc od osl, K.lookup a = some ⟨oc, od, .func fd, osl⟩ := by
  unfold atF at h
  cases e : K.lookup a with
  | none => rw [e] at h; cases h
  | some o =>
    rw [e] at h
    obtain ⟨oc, od, dt, osl⟩ := o
    cases dt <;> first | (cases h; exact ⟨oc, od, osl, rfl⟩) | cases h
theorem funA {K : PySem.W.Frag} {a : Addr} {x q : Str} {ps : Arguments} {body : List Stmt} {sc : Scope} (e : fnA K a = some (x, q, ps, .stmts body, sc, mainGlobals, [], builtinsNs)) (c : okA K a q = true) : ∃ fd, FunD K x q ps body sc [] [] a fd := by
  obtain ⟨kp, c2⟩ := He.ba c
  unfold fnA at e
  cases h : atF K a with
  | none => rw [h] at c2; cases c2
  | some fd =>
    rw [h] at c2 e
    obtain ⟨oc, od, osl, lk⟩ := atF_ok h
    obtain ⟨k1, k2⟩ := He.ba (show (PySem.W.codeIn K fd.code q && (He.dflB K fd.defaults [] && He.kwdB K fd.kwdefaults [])) = true from c2)
    obtain ⟨k3, k4⟩ := He.ba k2
    have e2 : seenF fd = some (x, q, ps, .stmts body, sc, mainGlobals, [], builtinsNs) := e
    unfold seenF at e2
    simp only [Option.some.injEq, Prod.mk.injEq] at e2
    obtain ⟨e1, e3, e4, e5, e6, e7, e8, e9⟩ := e2
    refine ⟨fd, ⟨oc, od, fd.defaults, fd.kwdefaults, fd.doc, fd.pyModule, fd.annotations, fd.code, fd.closureTuple, osl, ?_, lk, k1, He.dflB_ok k3, He.kwdB_ok k4⟩, kp⟩
    cases fd
    simp only at e1 e3 e4 e5 e6 e7 e8 e9
    subst e1 e3 e4 e5 e6 e7 e8 e9
    rfl
/-! ### the hook -/
def wordsV : List He.Dv := [.str "alike", .str "heavier", .str "unlike"]
def moreB (K : PySem.W.Frag) : Bool := propB K && (He.tupB K "WORDS" wordsV && okA K (propG K) "Told.things")
abbrev Al8 : Type := He.AlD × Bool × He.FnW
def obs8 (K : PySem.W.Frag) : Al8 := (He.obsD faL fnL K, moreB K, fnA K (propG K))
def val8 : Al8 := (He.valD fnL, true, dp_things.val)
def refs8 (o : Obj) : List Addr := match o.data with
  | .dict es _ => es.toList.flatMap fun e => He.refV e.val
  | .func fd => He.refV fd.code
  | .cls cd => [cd.ns]
  | .fields vs => (match o.cls with
    | .type n => if n == "property" then vs.toList.flatMap He.refV else []
    | _ => [])
  | _ => []
def lev8 (g : Addr → Option Obj) (l : List Addr) : List Addr := l.flatMap fun a => match g a with
  | some o => refs8 o
  | none => []
/-- what the module's names reach, step by step: five steps reach the code of a property's getter -/
def as8 (g : Addr → Option Obj) : Nat → List Addr → List Addr
  | 0, l => l
  | n + 1, l => l ++ as8 g n (lev8 g l)
def obs8G (g : Addr → Option Obj) : Al8 := obs8 (He.frG g (as8 g 5 [mainGlobals]))
def hook8 : PySem.W.Hook where
  α := Al8
  obs := fun s => obs8G s.heap.get?
  val := fun _ => val8
  says := fun _ h => ∃ K : PySem.W.Frag, K.In h ∧ obs8 K = val8
  of := fun _ _ e => ⟨_, He.frG_in, e⟩
  keeps := fun _ _ _ ⟨K, hK, c⟩ k => ⟨K, PySem.W.Frag.In.keeps hK k, c⟩
def ob8 (s : PySem.W.SharedT) : Al8 := obs8G (HandSHeadRun.getT s)
theorem ob8_eq (s : PySem.W.SharedT) : ob8 s = hook8.obs s.abs := by
  have e : HandSHeadRun.getT s = s.abs.heap.get? := funext (HandSHeadRun.getT_eq s)
  show obs8G _ = obs8G _
  rw [e]
abbrev R8 : PySem.W.OpenRow := PySem.W.OpenLaw.row PySem.Challenge.rw_asmuchas_k68_whole_words_that_stay
def loose0 : List PySem.Str := ["_wall", "MuchError", "Wrong", "NoTelling", "NothingFits", "TooMany", "row_of", "added", "taken", "times", "mixture", "dot", "unit", "less_times", "brought_down", "steps_led", "width_of", "steps", "rank", "frame", "is_held", "common_part", "shortened", "is_less", "without_last", "between", "greater", "lesser", "point_by", "point_above"]
def loose1 : List PySem.Str := ["seen_by", "powers", "moved", "worths_above", "some_worths", "stands_all", "worths_for", "word_of", "LETTERS", "WORDS", "MOST_THINGS", "MOST_IN_SUMS", "is_integer", "is_name", "are_things", "is_sum", "is_pair", "is_telling", "is_telling_of", "are_tellings_of", "Told", "_law_bag", "_law_take", "_law_one", "_law_things", "_law_sum", "_law_pair", "_law_tellings", "_law_row", "_law_rows"]
def loose2 : List PySem.Str := ["_law_less", "_law_cut", "_law_rank", "_law_is_held", "_law_worth", "_law_fits_one", "_law_fits", "_law_freed", "_law_cut_away", "_law_can", "_law_negative", "_law_stands", "_law_standing", "_law_near_pair", "_law_crossed", "_law_few_of", "_law_stays", "_law_open_right"]
def loose8 : List PySem.Str := loose0 ++ loose1 ++ loose2
end K8
set_option Elab.async false
set_option linter.all false
set_option maxRecDepth 100000
set_option maxHeartbeats 0
/-! the run of the top -/
namespace K8
open PySem PySem.Spec PyProof.Rows L2
theorem run8 (w : World) : HandSHeadRun.RunEq R8 (PySem.W.view R8.prog [86]) hook8 ob8 6000 loose8 w := by
  intro os
  kernel_rfl
end K8
set_option Elab.async false
set_option linter.all false
set_option maxRecDepth 100000
set_option maxHeartbeats 4000000
/-! what the walks lean on, from the head's facts -/
namespace K8
open PySem PySem.Spec PyProof.Rows L2
section
variable {K : PySem.W.Frag} {h : Heap} {mg : Str → Option Value}
theorem dn_of {x : Str} {st : Stmt} {ps : List Str} (X : K.In h) (G : h.Ns mainGlobals mg) (g : (He.Fa.glo x).ok K = true) (F : ∃ fd, FunD K x x (defArgs st) (defBody st) (defScope st) [] [] (He.ga K x) fd)
    (b : ∀ (kV doc pm : Value) (an : Option Addr) (cdv ct : Value) (us : List Value), us.length = ps.length → bindArgs (PySem.W.fnOf x x (defArgs st) (defBody st) (defScope st) .none kV doc pm an cdv ct) ⟨us, []⟩ = pure (ps.zip us)) : Nonempty (Dn K mg x st ps) := by
  obtain ⟨fd, F⟩ := F
  exact ⟨⟨fd, F, He.glo_ok X G g, F.bindsN b⟩⟩
theorem dm_of {m q : Str} {st : Stmt} {ps : List Str} (F : ∃ fd, FunD K m q (defArgs st) (defBody st) (defScope st) [] [] (He.ma K (He.ga K "Told") m) fd)
    (b : ∀ (kV doc pm : Value) (an : Option Addr) (cdv ct : Value) (us : List Value), us.length = ps.length → bindArgs (PySem.W.fnOf m q (defArgs st) (defBody st) (defScope st) .none kV doc pm an cdv ct) ⟨us, []⟩ = pure (ps.zip us)) : Nonempty (Dm K m q st ps) := by
  obtain ⟨fd, F⟩ := F
  exact ⟨⟨fd, F, F.bindsN b⟩⟩
theorem says1 (c : obs8 K = val8) : He.SaysD faL fnL K := congrArg (fun z : Al8 => z.1) c
theorem says2 (c : obs8 K = val8) : moreB K = true := congrArg (fun z : Al8 => z.2.1) c
theorem says3 (c : obs8 K = val8) : fnA K (propG K) = dp_things.val := congrArg (fun z : Al8 => z.2.2) c
theorem getter_ok {P : Program} {w : World} {base : Heap} (k : Nat) (c : Cls K (He.ga K "Told")) (n : NoAttr K (He.ga K "Told") "its_things") {g : Addr} {fd : FuncData} (F : FunD K "things" "Told.things" (defArgs s_Told_things) (defBody s_Told_things) (defScope s_Told_things) [] [] g fd) :
    FnOk P w K mg base CX0 (k + 1) g fd ["self"] (getSp (He.ga K "Told") "its_things") := by
  refine F.ok sc_Told_things (fun vs H Q E ⟨a, dx, fs, v, e, _⟩ => by rw [e]; rfl) (fun cdv A outer s H vs Q E hr ⟨a, dx, fs, v, e, ea, l, q⟩ => ?_)
  subst e
  exact ⟨_, PSs.nox (pss_one (ps_ret (pe_fld (pv 0) rfl))), .ref a, rfl, a, _, dx, fs, v, rfl, ea, c, n, l, q⟩

theorem n_row_of (X : K.In h) (G : h.Ns mainGlobals mg) (c : obs8 K = val8) : Nonempty (Dn K mg "row_of" s_row_of ["things", "pair"]) := dn_of X G ((says1 c).fact 0 rfl) ((says1 c).def_ 0 (d := dd_row_of) rfl) (fun _ _ _ _ _ _ us hl => match us, hl with | [_, _], _ => rfl)
theorem n_added (X : K.In h) (G : h.Ns mainGlobals mg) (c : obs8 K = val8) : Nonempty (Dn K mg "added" s_added ["one", "other"]) := dn_of X G ((says1 c).fact 1 rfl) ((says1 c).def_ 1 (d := dd_added) rfl) (fun _ _ _ _ _ _ us hl => match us, hl with | [_, _], _ => rfl)
theorem n_taken (X : K.In h) (G : h.Ns mainGlobals mg) (c : obs8 K = val8) : Nonempty (Dn K mg "taken" s_taken ["one", "other"]) := dn_of X G ((says1 c).fact 2 rfl) ((says1 c).def_ 2 (d := dd_taken) rfl) (fun _ _ _ _ _ _ us hl => match us, hl with | [_, _], _ => rfl)
theorem n_times (X : K.In h) (G : h.Ns mainGlobals mg) (c : obs8 K = val8) : Nonempty (Dn K mg "times" s_times ["row", "number"]) := dn_of X G ((says1 c).fact 3 rfl) ((says1 c).def_ 3 (d := dd_times) rfl) (fun _ _ _ _ _ _ us hl => match us, hl with | [_, _], _ => rfl)
theorem n_mixture (X : K.In h) (G : h.Ns mainGlobals mg) (c : obs8 K = val8) : Nonempty (Dn K mg "mixture" s_mixture ["rows", "numbers", "many"]) := dn_of X G ((says1 c).fact 4 rfl) ((says1 c).def_ 4 (d := dd_mixture) rfl) (fun _ _ _ _ _ _ us hl => match us, hl with | [_, _, _], _ => rfl)
theorem n_dot (X : K.In h) (G : h.Ns mainGlobals mg) (c : obs8 K = val8) : Nonempty (Dn K mg "dot" s_dot ["one", "other"]) := dn_of X G ((says1 c).fact 5 rfl) ((says1 c).def_ 5 (d := dd_dot) rfl) (fun _ _ _ _ _ _ us hl => match us, hl with | [_, _], _ => rfl)
theorem n_unit (X : K.In h) (G : h.Ns mainGlobals mg) (c : obs8 K = val8) : Nonempty (Dn K mg "unit" s_unit ["at", "many"]) := dn_of X G ((says1 c).fact 6 rfl) ((says1 c).def_ 6 (d := dd_unit) rfl) (fun _ _ _ _ _ _ us hl => match us, hl with | [_, _], _ => rfl)
theorem n_less_times (X : K.In h) (G : h.Ns mainGlobals mg) (c : obs8 K = val8) : Nonempty (Dn K mg "less_times" s_less_times ["pair", "lead", "number"]) := dn_of X G ((says1 c).fact 7 rfl) ((says1 c).def_ 7 (d := dd_less_times) rfl) (fun _ _ _ _ _ _ us hl => match us, hl with | [_, _, _], _ => rfl)
theorem n_brought_down (X : K.In h) (G : h.Ns mainGlobals mg) (c : obs8 K = val8) : Nonempty (Dn K mg "brought_down" s_brought_down ["some", "at"]) := dn_of X G ((says1 c).fact 8 rfl) ((says1 c).def_ 8 (d := dd_brought_down) rfl) (fun _ _ _ _ _ _ us hl => match us, hl with | [_, _], _ => rfl)
theorem n_steps_led (X : K.In h) (G : h.Ns mainGlobals mg) (c : obs8 K = val8) : Nonempty (Dn K mg "steps_led" s_steps_led ["rows", "many"]) := dn_of X G ((says1 c).fact 9 rfl) ((says1 c).def_ 9 (d := dd_steps_led) rfl) (fun _ _ _ _ _ _ us hl => match us, hl with | [_, _], _ => rfl)
theorem n_width_of (X : K.In h) (G : h.Ns mainGlobals mg) (c : obs8 K = val8) : Nonempty (Dn K mg "width_of" s_width_of ["rows"]) := dn_of X G ((says1 c).fact 10 rfl) ((says1 c).def_ 10 (d := dd_width_of) rfl) (fun _ _ _ _ _ _ us hl => match us, hl with | [_], _ => rfl)
theorem n_steps (X : K.In h) (G : h.Ns mainGlobals mg) (c : obs8 K = val8) : Nonempty (Dn K mg "steps" s_steps ["rows"]) := dn_of X G ((says1 c).fact 11 rfl) ((says1 c).def_ 11 (d := dd_steps) rfl) (fun _ _ _ _ _ _ us hl => match us, hl with | [_], _ => rfl)
theorem n_rank (X : K.In h) (G : h.Ns mainGlobals mg) (c : obs8 K = val8) : Nonempty (Dn K mg "rank" s_rank ["rows"]) := dn_of X G ((says1 c).fact 12 rfl) ((says1 c).def_ 12 (d := dd_rank) rfl) (fun _ _ _ _ _ _ us hl => match us, hl with | [_], _ => rfl)
theorem n_frame (X : K.In h) (G : h.Ns mainGlobals mg) (c : obs8 K = val8) : Nonempty (Dn K mg "frame" s_frame ["rows", "many"]) := dn_of X G ((says1 c).fact 13 rfl) ((says1 c).def_ 13 (d := dd_frame) rfl) (fun _ _ _ _ _ _ us hl => match us, hl with | [_, _], _ => rfl)
theorem n_is_held (X : K.In h) (G : h.Ns mainGlobals mg) (c : obs8 K = val8) : Nonempty (Dn K mg "is_held" s_is_held ["rows", "row"]) := dn_of X G ((says1 c).fact 14 rfl) ((says1 c).def_ 14 (d := dd_is_held) rfl) (fun _ _ _ _ _ _ us hl => match us, hl with | [_, _], _ => rfl)
theorem n_common_part (X : K.In h) (G : h.Ns mainGlobals mg) (c : obs8 K = val8) : Nonempty (Dn K mg "common_part" s_common_part ["numbers"]) := dn_of X G ((says1 c).fact 15 rfl) ((says1 c).def_ 15 (d := dd_common_part) rfl) (fun _ _ _ _ _ _ us hl => match us, hl with | [_], _ => rfl)
theorem n_shortened (X : K.In h) (G : h.Ns mainGlobals mg) (c : obs8 K = val8) : Nonempty (Dn K mg "shortened" s_shortened ["row"]) := dn_of X G ((says1 c).fact 16 rfl) ((says1 c).def_ 16 (d := dd_shortened) rfl) (fun _ _ _ _ _ _ us hl => match us, hl with | [_], _ => rfl)
theorem n_is_less (X : K.In h) (G : h.Ns mainGlobals mg) (c : obs8 K = val8) : Nonempty (Dn K mg "is_less" s_is_less ["one", "other"]) := dn_of X G ((says1 c).fact 17 rfl) ((says1 c).def_ 17 (d := dd_is_less) rfl) (fun _ _ _ _ _ _ us hl => match us, hl with | [_, _], _ => rfl)
theorem n_without_last (X : K.In h) (G : h.Ns mainGlobals mg) (c : obs8 K = val8) : Nonempty (Dn K mg "without_last" s_without_last ["marked"]) := dn_of X G ((says1 c).fact 18 rfl) ((says1 c).def_ 18 (d := dd_without_last) rfl) (fun _ _ _ _ _ _ us hl => match us, hl with | [_], _ => rfl)
theorem n_between (X : K.In h) (G : h.Ns mainGlobals mg) (c : obs8 K = val8) : Nonempty (Dn K mg "between" s_between ["lower", "upper"]) := dn_of X G ((says1 c).fact 19 rfl) ((says1 c).def_ 19 (d := dd_between) rfl) (fun _ _ _ _ _ _ us hl => match us, hl with | [_, _], _ => rfl)
theorem n_greater (X : K.In h) (G : h.Ns mainGlobals mg) (c : obs8 K = val8) : Nonempty (Dn K mg "greater" s_greater ["one", "other"]) := dn_of X G ((says1 c).fact 20 rfl) ((says1 c).def_ 20 (d := dd_greater) rfl) (fun _ _ _ _ _ _ us hl => match us, hl with | [_, _], _ => rfl)
theorem n_lesser (X : K.In h) (G : h.Ns mainGlobals mg) (c : obs8 K = val8) : Nonempty (Dn K mg "lesser" s_lesser ["one", "other"]) := dn_of X G ((says1 c).fact 21 rfl) ((says1 c).def_ 21 (d := dd_lesser) rfl) (fun _ _ _ _ _ _ us hl => match us, hl with | [_, _], _ => rfl)
theorem n_point_by (X : K.In h) (G : h.Ns mainGlobals mg) (c : obs8 K = val8) : Nonempty (Dn K mg "point_by" s_point_by ["marked", "many"]) := dn_of X G ((says1 c).fact 22 rfl) ((says1 c).def_ 22 (d := dd_point_by) rfl) (fun _ _ _ _ _ _ us hl => match us, hl with | [_, _], _ => rfl)
theorem n_point_above (X : K.In h) (G : h.Ns mainGlobals mg) (c : obs8 K = val8) : Nonempty (Dn K mg "point_above" s_point_above ["rows", "many"]) := dn_of X G ((says1 c).fact 23 rfl) ((says1 c).def_ 23 (d := dd_point_above) rfl) (fun _ _ _ _ _ _ us hl => match us, hl with | [_, _], _ => rfl)
theorem n_seen_by (X : K.In h) (G : h.Ns mainGlobals mg) (c : obs8 K = val8) : Nonempty (Dn K mg "seen_by" s_seen_by ["frame_rows", "row"]) := dn_of X G ((says1 c).fact 24 rfl) ((says1 c).def_ 24 (d := dd_seen_by) rfl) (fun _ _ _ _ _ _ us hl => match us, hl with | [_, _], _ => rfl)
theorem n_powers (X : K.In h) (G : h.Ns mainGlobals mg) (c : obs8 K = val8) : Nonempty (Dn K mg "powers" s_powers ["number", "many"]) := dn_of X G ((says1 c).fact 25 rfl) ((says1 c).def_ 25 (d := dd_powers) rfl) (fun _ _ _ _ _ _ us hl => match us, hl with | [_, _], _ => rfl)
theorem n_moved (X : K.In h) (G : h.Ns mainGlobals mg) (c : obs8 K = val8) : Nonempty (Dn K mg "moved" s_moved ["point", "goals", "bars"]) := dn_of X G ((says1 c).fact 26 rfl) ((says1 c).def_ 26 (d := dd_moved) rfl) (fun _ _ _ _ _ _ us hl => match us, hl with | [_, _, _], _ => rfl)
theorem n_worths_above (X : K.In h) (G : h.Ns mainGlobals mg) (c : obs8 K = val8) : Nonempty (Dn K mg "worths_above" s_worths_above ["told", "alikes", "heaviers"]) := dn_of X G ((says1 c).fact 27 rfl) ((says1 c).def_ 27 (d := dd_worths_above) rfl) (fun _ _ _ _ _ _ us hl => match us, hl with | [_, _, _], _ => rfl)
theorem n_some_worths (X : K.In h) (G : h.Ns mainGlobals mg) (c : obs8 K = val8) : Nonempty (Dn K mg "some_worths" s_some_worths ["told"]) := dn_of X G ((says1 c).fact 28 rfl) ((says1 c).def_ 28 (d := dd_some_worths) rfl) (fun _ _ _ _ _ _ us hl => match us, hl with | [_], _ => rfl)
theorem n_stands_all (X : K.In h) (G : h.Ns mainGlobals mg) (c : obs8 K = val8) : Nonempty (Dn K mg "stands_all" s_stands_all ["told"]) := dn_of X G ((says1 c).fact 29 rfl) ((says1 c).def_ 29 (d := dd_stands_all) rfl) (fun _ _ _ _ _ _ us hl => match us, hl with | [_], _ => rfl)
theorem n_worths_for (X : K.In h) (G : h.Ns mainGlobals mg) (c : obs8 K = val8) : Nonempty (Dn K mg "worths_for" s_worths_for ["told", "pair", "sign"]) := dn_of X G ((says1 c).fact 30 rfl) ((says1 c).def_ 30 (d := dd_worths_for) rfl) (fun _ _ _ _ _ _ us hl => match us, hl with | [_, _, _], _ => rfl)
theorem n_word_of (X : K.In h) (G : h.Ns mainGlobals mg) (c : obs8 K = val8) : Nonempty (Dn K mg "word_of" s_word_of ["told", "pair"]) := dn_of X G ((says1 c).fact 31 rfl) ((says1 c).def_ 31 (d := dd_word_of) rfl) (fun _ _ _ _ _ _ us hl => match us, hl with | [_, _], _ => rfl)
theorem n_is_name (X : K.In h) (G : h.Ns mainGlobals mg) (c : obs8 K = val8) : Nonempty (Dn K mg "is_name" s_is_name ["thing"]) := dn_of X G ((says1 c).fact 32 rfl) ((says1 c).def_ 32 (d := dd_is_name) rfl) (fun _ _ _ _ _ _ us hl => match us, hl with | [_], _ => rfl)
theorem n_are_things (X : K.In h) (G : h.Ns mainGlobals mg) (c : obs8 K = val8) : Nonempty (Dn K mg "are_things" s_are_things ["thing"]) := dn_of X G ((says1 c).fact 33 rfl) ((says1 c).def_ 33 (d := dd_are_things) rfl) (fun _ _ _ _ _ _ us hl => match us, hl with | [_], _ => rfl)
theorem n_is_sum (X : K.In h) (G : h.Ns mainGlobals mg) (c : obs8 K = val8) : Nonempty (Dn K mg "is_sum" s_is_sum ["thing"]) := dn_of X G ((says1 c).fact 34 rfl) ((says1 c).def_ 34 (d := dd_is_sum) rfl) (fun _ _ _ _ _ _ us hl => match us, hl with | [_], _ => rfl)
theorem n_is_pair (X : K.In h) (G : h.Ns mainGlobals mg) (c : obs8 K = val8) : Nonempty (Dn K mg "is_pair" s_is_pair ["thing"]) := dn_of X G ((says1 c).fact 35 rfl) ((says1 c).def_ 35 (d := dd_is_pair) rfl) (fun _ _ _ _ _ _ us hl => match us, hl with | [_], _ => rfl)
theorem n_is_telling (X : K.In h) (G : h.Ns mainGlobals mg) (c : obs8 K = val8) : Nonempty (Dn K mg "is_telling" s_is_telling ["thing"]) := dn_of X G ((says1 c).fact 36 rfl) ((says1 c).def_ 36 (d := dd_is_telling) rfl) (fun _ _ _ _ _ _ us hl => match us, hl with | [_], _ => rfl)
theorem n_is_telling_of (X : K.In h) (G : h.Ns mainGlobals mg) (c : obs8 K = val8) : Nonempty (Dn K mg "is_telling_of" s_is_telling_of ["things", "thing"]) := dn_of X G ((says1 c).fact 37 rfl) ((says1 c).def_ 37 (d := dd_is_telling_of) rfl) (fun _ _ _ _ _ _ us hl => match us, hl with | [_, _], _ => rfl)
theorem n_are_tellings_of (X : K.In h) (G : h.Ns mainGlobals mg) (c : obs8 K = val8) : Nonempty (Dn K mg "are_tellings_of" s_are_tellings_of ["things", "thing"]) := dn_of X G ((says1 c).fact 38 rfl) ((says1 c).def_ 38 (d := dd_are_tellings_of) rfl) (fun _ _ _ _ _ _ us hl => match us, hl with | [_, _], _ => rfl)
theorem n_lbag (X : K.In h) (G : h.Ns mainGlobals mg) (c : obs8 K = val8) : Nonempty (Dn K mg "_law_bag" s_lbag ["_law_script"]) := dn_of X G ((says1 c).fact 39 rfl) ((says1 c).def_ 39 (d := dd_lbag) rfl) (fun _ _ _ _ _ _ us hl => match us, hl with | [_], _ => rfl)
theorem n_ltake (X : K.In h) (G : h.Ns mainGlobals mg) (c : obs8 K = val8) : Nonempty (Dn K mg "_law_take" s_ltake ["_law_bag_here", "_law_many"]) := dn_of X G ((says1 c).fact 40 rfl) ((says1 c).def_ 40 (d := dd_ltake) rfl) (fun _ _ _ _ _ _ us hl => match us, hl with | [_, _], _ => rfl)
theorem n_lone (X : K.In h) (G : h.Ns mainGlobals mg) (c : obs8 K = val8) : Nonempty (Dn K mg "_law_one" s_lone ["_law_bag_here", "_law_things_here"]) := dn_of X G ((says1 c).fact 41 rfl) ((says1 c).def_ 41 (d := dd_lone) rfl) (fun _ _ _ _ _ _ us hl => match us, hl with | [_, _], _ => rfl)
theorem n_lthings (X : K.In h) (G : h.Ns mainGlobals mg) (c : obs8 K = val8) : Nonempty (Dn K mg "_law_things" s_lthings ["_law_bag_here", "_law_many"]) := dn_of X G ((says1 c).fact 42 rfl) ((says1 c).def_ 42 (d := dd_lthings) rfl) (fun _ _ _ _ _ _ us hl => match us, hl with | [_, _], _ => rfl)
theorem n_lsum (X : K.In h) (G : h.Ns mainGlobals mg) (c : obs8 K = val8) : Nonempty (Dn K mg "_law_sum" s_lsum ["_law_bag_here", "_law_things_here", "_law_many"]) := dn_of X G ((says1 c).fact 43 rfl) ((says1 c).def_ 43 (d := dd_lsum) rfl) (fun _ _ _ _ _ _ us hl => match us, hl with | [_, _, _], _ => rfl)
theorem n_lpair (X : K.In h) (G : h.Ns mainGlobals mg) (c : obs8 K = val8) : Nonempty (Dn K mg "_law_pair" s_lpair ["_law_bag_here", "_law_things_here"]) := dn_of X G ((says1 c).fact 44 rfl) ((says1 c).def_ 44 (d := dd_lpair) rfl) (fun _ _ _ _ _ _ us hl => match us, hl with | [_, _], _ => rfl)
theorem n_ltellings (X : K.In h) (G : h.Ns mainGlobals mg) (c : obs8 K = val8) : Nonempty (Dn K mg "_law_tellings" s_ltellings ["_law_bag_here", "_law_things_here", "_law_many", "_law_words"]) := dn_of X G ((says1 c).fact 45 rfl) ((says1 c).def_ 45 (d := dd_ltellings) rfl) (fun _ _ _ _ _ _ us hl => match us, hl with | [_, _, _, _], _ => rfl)
theorem n_lrow (X : K.In h) (G : h.Ns mainGlobals mg) (c : obs8 K = val8) : Nonempty (Dn K mg "_law_row" s_lrow ["_law_things_here", "_law_pair_here"]) := dn_of X G ((says1 c).fact 46 rfl) ((says1 c).def_ 46 (d := dd_lrow) rfl) (fun _ _ _ _ _ _ us hl => match us, hl with | [_, _], _ => rfl)
theorem n_lrows (X : K.In h) (G : h.Ns mainGlobals mg) (c : obs8 K = val8) : Nonempty (Dn K mg "_law_rows" s_lrows ["_law_things_here", "_law_tellings_here", "_law_word"]) := dn_of X G ((says1 c).fact 47 rfl) ((says1 c).def_ 47 (d := dd_lrows) rfl) (fun _ _ _ _ _ _ us hl => match us, hl with | [_, _, _], _ => rfl)
theorem n_lless (X : K.In h) (G : h.Ns mainGlobals mg) (c : obs8 K = val8) : Nonempty (Dn K mg "_law_less" s_lless ["_law_row_here", "_law_mine", "_law_other", "_law_its"]) := dn_of X G ((says1 c).fact 48 rfl) ((says1 c).def_ 48 (d := dd_lless) rfl) (fun _ _ _ _ _ _ us hl => match us, hl with | [_, _, _, _], _ => rfl)
theorem n_lcut (X : K.In h) (G : h.Ns mainGlobals mg) (c : obs8 K = val8) : Nonempty (Dn K mg "_law_cut" s_lcut ["_law_rows_here"]) := dn_of X G ((says1 c).fact 49 rfl) ((says1 c).def_ 49 (d := dd_lcut) rfl) (fun _ _ _ _ _ _ us hl => match us, hl with | [_], _ => rfl)
theorem n_lrank (X : K.In h) (G : h.Ns mainGlobals mg) (c : obs8 K = val8) : Nonempty (Dn K mg "_law_rank" s_lrank ["_law_rows_here"]) := dn_of X G ((says1 c).fact 50 rfl) ((says1 c).def_ 50 (d := dd_lrank) rfl) (fun _ _ _ _ _ _ us hl => match us, hl with | [_], _ => rfl)
theorem n_lis_held (X : K.In h) (G : h.Ns mainGlobals mg) (c : obs8 K = val8) : Nonempty (Dn K mg "_law_is_held" s_lis_held ["_law_rows_here", "_law_row_here"]) := dn_of X G ((says1 c).fact 51 rfl) ((says1 c).def_ 51 (d := dd_lis_held) rfl) (fun _ _ _ _ _ _ us hl => match us, hl with | [_, _], _ => rfl)
theorem n_lworth (X : K.In h) (G : h.Ns mainGlobals mg) (c : obs8 K = val8) : Nonempty (Dn K mg "_law_worth" s_lworth ["_law_worths", "_law_one_here"]) := dn_of X G ((says1 c).fact 52 rfl) ((says1 c).def_ 52 (d := dd_lworth) rfl) (fun _ _ _ _ _ _ us hl => match us, hl with | [_, _], _ => rfl)
theorem n_lfits_one (X : K.In h) (G : h.Ns mainGlobals mg) (c : obs8 K = val8) : Nonempty (Dn K mg "_law_fits_one" s_lfits_one ["_law_telling", "_law_worths"]) := dn_of X G ((says1 c).fact 53 rfl) ((says1 c).def_ 53 (d := dd_lfits_one) rfl) (fun _ _ _ _ _ _ us hl => match us, hl with | [_, _], _ => rfl)
theorem n_lfits (X : K.In h) (G : h.Ns mainGlobals mg) (c : obs8 K = val8) : Nonempty (Dn K mg "_law_fits" s_lfits ["_law_tellings_here", "_law_worths"]) := dn_of X G ((says1 c).fact 54 rfl) ((says1 c).def_ 54 (d := dd_lfits) rfl) (fun _ _ _ _ _ _ us hl => match us, hl with | [_, _], _ => rfl)
theorem n_lfreed (X : K.In h) (G : h.Ns mainGlobals mg) (c : obs8 K = val8) : Nonempty (Dn K mg "_law_freed" s_lfreed ["_law_row_here", "_law_lead", "_law_at"]) := dn_of X G ((says1 c).fact 55 rfl) ((says1 c).def_ 55 (d := dd_lfreed) rfl) (fun _ _ _ _ _ _ us hl => match us, hl with | [_, _, _], _ => rfl)
theorem n_lcut_away (X : K.In h) (G : h.Ns mainGlobals mg) (c : obs8 K = val8) : Nonempty (Dn K mg "_law_cut_away" s_lcut_away ["_law_made", "_law_at"]) := dn_of X G ((says1 c).fact 56 rfl) ((says1 c).def_ 56 (d := dd_lcut_away) rfl) (fun _ _ _ _ _ _ us hl => match us, hl with | [_, _], _ => rfl)
theorem n_lcan (X : K.In h) (G : h.Ns mainGlobals mg) (c : obs8 K = val8) : Nonempty (Dn K mg "_law_can" s_lcan ["_law_zeros", "_law_aboves", "_law_many"]) := dn_of X G ((says1 c).fact 57 rfl) ((says1 c).def_ 57 (d := dd_lcan) rfl) (fun _ _ _ _ _ _ us hl => match us, hl with | [_, _, _], _ => rfl)
theorem n_lnegative (X : K.In h) (G : h.Ns mainGlobals mg) (c : obs8 K = val8) : Nonempty (Dn K mg "_law_negative" s_lnegative ["_law_row_here"]) := dn_of X G ((says1 c).fact 58 rfl) ((says1 c).def_ 58 (d := dd_lnegative) rfl) (fun _ _ _ _ _ _ us hl => match us, hl with | [_], _ => rfl)
theorem n_lstands (X : K.In h) (G : h.Ns mainGlobals mg) (c : obs8 K = val8) : Nonempty (Dn K mg "_law_stands" s_lstands ["_law_things_here", "_law_tellings_here"]) := dn_of X G ((says1 c).fact 59 rfl) ((says1 c).def_ 59 (d := dd_lstands) rfl) (fun _ _ _ _ _ _ us hl => match us, hl with | [_, _], _ => rfl)
theorem n_lstanding (X : K.In h) (G : h.Ns mainGlobals mg) (c : obs8 K = val8) : Nonempty (Dn K mg "_law_standing" s_lstanding ["_law_bag_here", "_law_many", "_law_tell_upto", "_law_words"]) := dn_of X G ((says1 c).fact 60 rfl) ((says1 c).def_ 60 (d := dd_lstanding) rfl) (fun _ _ _ _ _ _ us hl => match us, hl with | [_, _, _, _], _ => rfl)
theorem n_lnear_pair (X : K.In h) (G : h.Ns mainGlobals mg) (c : obs8 K = val8) : Nonempty (Dn K mg "_law_near_pair" s_lnear_pair ["_law_bag_here", "_law_things_here", "_law_tellings_here"]) := dn_of X G ((says1 c).fact 61 rfl) ((says1 c).def_ 61 (d := dd_lnear_pair) rfl) (fun _ _ _ _ _ _ us hl => match us, hl with | [_, _, _], _ => rfl)
theorem n_lcrossed (X : K.In h) (G : h.Ns mainGlobals mg) (c : obs8 K = val8) : Nonempty (Dn K mg "_law_crossed" s_lcrossed ["_law_a", "_law_b", "_law_at"]) := dn_of X G ((says1 c).fact 62 rfl) ((says1 c).def_ 62 (d := dd_lcrossed) rfl) (fun _ _ _ _ _ _ us hl => match us, hl with | [_, _, _], _ => rfl)
theorem n_lfew_of (X : K.In h) (G : h.Ns mainGlobals mg) (c : obs8 K = val8) : Nonempty (Dn K mg "_law_few_of" s_lfew_of ["_law_things_here", "_law_tellings_here"]) := dn_of X G ((says1 c).fact 63 rfl) ((says1 c).def_ 63 (d := dd_lfew_of) rfl) (fun _ _ _ _ _ _ us hl => match us, hl with | [_, _], _ => rfl)
theorem n_lstays (X : K.In h) (G : h.Ns mainGlobals mg) (c : obs8 K = val8) : Nonempty (Dn K mg "_law_stays" s_lstays ["_law_before", "_law_later"]) := dn_of X G ((says1 c).fact 64 rfl) ((says1 c).def_ 64 (d := dd_lstays) rfl) (fun _ _ _ _ _ _ us hl => match us, hl with | [_, _], _ => rfl)
theorem n_lopen_right (X : K.In h) (G : h.Ns mainGlobals mg) (c : obs8 K = val8) : Nonempty (Dn K mg "_law_open_right" s_lopen_right ["_law_told", "_law_pair_here"]) := dn_of X G ((says1 c).fact 65 rfl) ((says1 c).def_ 65 (d := dd_lopen_right) rfl) (fun _ _ _ _ _ _ us hl => match us, hl with | [_, _], _ => rfl)
theorem n_law (X : K.In h) (G : h.Ns mainGlobals mg) (c : obs8 K = val8) : Nonempty (Dn K mg "law" s_law ["_law_script"]) := dn_of X G ((says1 c).fact 66 rfl) ((says1 c).def_ 66 (d := dd_law) rfl) (fun _ _ _ _ _ _ us hl => match us, hl with | [_], _ => rfl)
theorem nm_init (c : obs8 K = val8) : Nonempty (Dm K "__init__" "Told.__init__" s_Told_init ["self", "things", "tellings"]) := dm_of ((says1 c).def_ 67 (d := dm_init) rfl) (fun _ _ _ _ _ _ us hl => match us, hl with | [_, _, _], _ => rfl)
theorem nm_tellings (c : obs8 K = val8) : Nonempty (Dm K "tellings" "Told.tellings" s_Told_tellings ["self"]) := dm_of ((says1 c).def_ 68 (d := dm_tellings) rfl) (fun _ _ _ _ _ _ us hl => match us, hl with | [_], _ => rfl)
theorem nm_rows (c : obs8 K = val8) : Nonempty (Dm K "rows" "Told.rows" s_Told_rows ["self", "word"]) := dm_of ((says1 c).def_ 69 (d := dm_rows) rfl) (fun _ _ _ _ _ _ us hl => match us, hl with | [_, _], _ => rfl)
theorem nm_with_telling (c : obs8 K = val8) : Nonempty (Dm K "with_telling" "Told.with_telling" s_Told_with_telling ["self", "telling"]) := dm_of ((says1 c).def_ 70 (d := dm_with_telling) rfl) (fun _ _ _ _ _ _ us hl => match us, hl with | [_, _], _ => rfl)
theorem tx_of (X : K.In h) (G : h.Ns mainGlobals mg) (c : obs8 K = val8) : Nonempty (Tx K mg) := by
  obtain ⟨d_row_of⟩ := n_row_of X G c
  obtain ⟨d_added⟩ := n_added X G c
  obtain ⟨d_taken⟩ := n_taken X G c
  obtain ⟨d_times⟩ := n_times X G c
  obtain ⟨d_mixture⟩ := n_mixture X G c
  obtain ⟨d_dot⟩ := n_dot X G c
  obtain ⟨d_unit⟩ := n_unit X G c
  obtain ⟨d_less_times⟩ := n_less_times X G c
  obtain ⟨d_brought_down⟩ := n_brought_down X G c
  obtain ⟨d_steps_led⟩ := n_steps_led X G c
  obtain ⟨d_width_of⟩ := n_width_of X G c
  obtain ⟨d_steps⟩ := n_steps X G c
  obtain ⟨d_rank⟩ := n_rank X G c
  obtain ⟨d_frame⟩ := n_frame X G c
  obtain ⟨d_is_held⟩ := n_is_held X G c
  obtain ⟨d_common_part⟩ := n_common_part X G c
  obtain ⟨d_shortened⟩ := n_shortened X G c
  obtain ⟨d_is_less⟩ := n_is_less X G c
  obtain ⟨d_without_last⟩ := n_without_last X G c
  obtain ⟨d_between⟩ := n_between X G c
  obtain ⟨d_greater⟩ := n_greater X G c
  obtain ⟨d_lesser⟩ := n_lesser X G c
  obtain ⟨d_point_by⟩ := n_point_by X G c
  obtain ⟨d_point_above⟩ := n_point_above X G c
  obtain ⟨d_seen_by⟩ := n_seen_by X G c
  obtain ⟨d_powers⟩ := n_powers X G c
  obtain ⟨d_moved⟩ := n_moved X G c
  obtain ⟨d_worths_above⟩ := n_worths_above X G c
  obtain ⟨d_some_worths⟩ := n_some_worths X G c
  obtain ⟨d_stands_all⟩ := n_stands_all X G c
  obtain ⟨d_worths_for⟩ := n_worths_for X G c
  obtain ⟨d_word_of⟩ := n_word_of X G c
  obtain ⟨d_is_name⟩ := n_is_name X G c
  obtain ⟨d_are_things⟩ := n_are_things X G c
  obtain ⟨d_is_sum⟩ := n_is_sum X G c
  obtain ⟨d_is_pair⟩ := n_is_pair X G c
  obtain ⟨d_is_telling⟩ := n_is_telling X G c
  obtain ⟨d_is_telling_of⟩ := n_is_telling_of X G c
  obtain ⟨d_are_tellings_of⟩ := n_are_tellings_of X G c
  obtain ⟨d_lbag⟩ := n_lbag X G c
  obtain ⟨d_ltake⟩ := n_ltake X G c
  obtain ⟨d_lone⟩ := n_lone X G c
  obtain ⟨d_lthings⟩ := n_lthings X G c
  obtain ⟨d_lsum⟩ := n_lsum X G c
  obtain ⟨d_lpair⟩ := n_lpair X G c
  obtain ⟨d_ltellings⟩ := n_ltellings X G c
  obtain ⟨d_lrow⟩ := n_lrow X G c
  obtain ⟨d_lrows⟩ := n_lrows X G c
  obtain ⟨d_lless⟩ := n_lless X G c
  obtain ⟨d_lcut⟩ := n_lcut X G c
  obtain ⟨d_lrank⟩ := n_lrank X G c
  obtain ⟨d_lis_held⟩ := n_lis_held X G c
  obtain ⟨d_lworth⟩ := n_lworth X G c
  obtain ⟨d_lfits_one⟩ := n_lfits_one X G c
  obtain ⟨d_lfits⟩ := n_lfits X G c
  obtain ⟨d_lfreed⟩ := n_lfreed X G c
  obtain ⟨d_lcut_away⟩ := n_lcut_away X G c
  obtain ⟨d_lcan⟩ := n_lcan X G c
  obtain ⟨d_lnegative⟩ := n_lnegative X G c
  obtain ⟨d_lstands⟩ := n_lstands X G c
  obtain ⟨d_lstanding⟩ := n_lstanding X G c
  obtain ⟨d_lnear_pair⟩ := n_lnear_pair X G c
  obtain ⟨d_lcrossed⟩ := n_lcrossed X G c
  obtain ⟨d_lfew_of⟩ := n_lfew_of X G c
  obtain ⟨d_lstays⟩ := n_lstays X G c
  obtain ⟨d_lopen_right⟩ := n_lopen_right X G c
  obtain ⟨d_law⟩ := n_law X G c
  obtain ⟨m_init⟩ := nm_init c
  obtain ⟨m_tellings⟩ := nm_tellings c
  obtain ⟨m_rows⟩ := nm_rows c
  obtain ⟨m_with_telling⟩ := nm_with_telling c
  obtain ⟨b1, b⟩ := He.ba (says2 c)
  obtain ⟨b2, b3⟩ := He.ba b
  obtain ⟨pfd, PF⟩ := funA (says3 c) b3
  have cl := He.cls_ok ((says1 c).fact 86 rfl : (He.Fa.cls "Told").ok K = true)
  have na1 := He.noat_ok ((says1 c).fact 93 rfl : (He.Fa.noat "Told" "its_things").ok K = true)
  have na2 := He.noat_ok ((says1 c).fact 94 rfl : (He.Fa.noat "Told" "its_tellings").ok K = true)
  exact ⟨{ d_row_of := d_row_of, d_added := d_added, d_taken := d_taken, d_times := d_times, d_mixture := d_mixture, d_dot := d_dot, d_unit := d_unit, d_less_times := d_less_times, d_brought_down := d_brought_down, d_steps_led := d_steps_led, d_width_of := d_width_of, d_steps := d_steps, d_rank := d_rank, d_frame := d_frame, d_is_held := d_is_held, d_common_part := d_common_part, d_shortened := d_shortened, d_is_less := d_is_less, d_without_last := d_without_last, d_between := d_between, d_greater := d_greater, d_lesser := d_lesser, d_point_by := d_point_by, d_point_above := d_point_above, d_seen_by := d_seen_by, d_powers := d_powers, d_moved := d_moved, d_worths_above := d_worths_above, d_some_worths := d_some_worths, d_stands_all := d_stands_all, d_worths_for := d_worths_for, d_word_of := d_word_of, d_is_name := d_is_name, d_are_things := d_are_things, d_is_sum := d_is_sum, d_is_pair := d_is_pair, d_is_telling := d_is_telling, d_is_telling_of := d_is_telling_of, d_are_tellings_of := d_are_tellings_of, d_lbag := d_lbag, d_ltake := d_ltake, d_lone := d_lone, d_lthings := d_lthings, d_lsum := d_lsum, d_lpair := d_lpair, d_ltellings := d_ltellings, d_lrow := d_lrow, d_lrows := d_lrows, d_lless := d_lless, d_lcut := d_lcut, d_lrank := d_lrank, d_lis_held := d_lis_held, d_lworth := d_lworth, d_lfits_one := d_lfits_one, d_lfits := d_lfits, d_lfreed := d_lfreed, d_lcut_away := d_lcut_away, d_lcan := d_lcan, d_lnegative := d_lnegative, d_lstands := d_lstands, d_lstanding := d_lstanding, d_lnear_pair := d_lnear_pair, d_lcrossed := d_lcrossed, d_lfew_of := d_lfew_of, d_lstays := d_lstays, d_lopen_right := d_lopen_right, d_law := d_law, t_tuple := He.free_ok X G ((says1 c).fact 67 rfl), t_list := He.free_ok X G ((says1 c).fact 68 rfl), t_int := He.free_ok X G ((says1 c).fact 69 rfl), t_len := He.free_ok X G ((says1 c).fact 70 rfl), t_sum := He.free_ok X G ((says1 c).fact 71 rfl), t_abs := He.free_ok X G ((says1 c).fact 72 rfl), t_max := He.free_ok X G ((says1 c).fact 73 rfl), t_min := He.free_ok X G ((says1 c).fact 74 rfl), t_all := He.free_ok X G ((says1 c).fact 75 rfl), t_any := He.free_ok X G ((says1 c).fact 76 rfl), t_sorted := He.free_ok X G ((says1 c).fact 77 rfl), t_set := He.free_ok X G ((says1 c).fact 78 rfl), t_dict := He.free_ok X G ((says1 c).fact 79 rfl), t_range := He.free_ok X G ((says1 c).fact 80 rfl), t_enumerate := He.free_ok X G ((says1 c).fact 81 rfl), t_zip := He.free_ok X G ((says1 c).fact 82 rfl), t_isinstance := He.free_ok X G ((says1 c).fact 83 rfl), t_str := He.free_ok X G ((says1 c).fact 84 rfl), t_bool := He.free_ok X G ((says1 c).fact 85 rfl), m_init := m_init, m_tellings := m_tellings, m_rows := m_rows, m_with_telling := m_with_telling, h_tellings := He.meth_ok ((says1 c).fact 95 rfl), h_rows := He.meth_ok ((says1 c).fact 96 rfl), h_with_telling := He.meth_ok ((says1 c).fact 97 rfl), h_init := He.mkr_ok ((says1 c).fact 87 rfl), g_Told := He.glo_ok X G ((says1 c).fact 88 rfl), cls := cl, na1 := na1, na2 := na2, pp := propP K, pg := propG K, pfd := pfd, prop := propB_ok b1, pok := fun k => getter_ok k cl na1 PF, pb := PF.bindsN (fun _ _ _ _ _ _ us hl => match us, hl with | [_], _ => rfl), g_LETTERS := He.str_ok X G ((says1 c).fact 92 rfl), g_MOST_THINGS := He.int_ok X G ((says1 c).fact 90 rfl), g_MOST_IN_SUMS := He.int_ok X G ((says1 c).fact 91 rfl), g_WORDS := He.glo_ok X G ((says1 c).fact 89 rfl), w_WORDS := fun H => He.tupB_ok b2 H }⟩
end
end K8
set_option Elab.async false
set_option linter.all false
set_option maxRecDepth 100000
set_option maxHeartbeats 0
namespace K8
open PySem PySem.Spec PyProof.Rows L2
theorem law_sp {K : PySem.W.Frag} {H : Hp} {a : Addr} {ns : List Int} (hl : ns.length ≤ 63) (hO : Only H) (hS : SqL K H a (ns.map V.int)) : spW K W_law [.ref a] H (fun v _ => v = .bl true) fun _ _ _ => False := by
  have r : Rep K H (.ref a) (.fls ns) := by
    refine .fls a ns ?_
    rcases hS with (e | e) | e
    · rcases hO a with z | ⟨o, xs, z⟩
      · rw [z] at e; cases e
      · rw [z] at e; cases e
    · exact .inl e
    · exact .inr e
  refine ⟨none, H, [.fls ns], (· = .bl true), Evl.Ex.refl H, (fun b z => by cases z), .cons _ _ _ _ r .nil, ⟨rfl, ns, rfl, hl, rfl⟩, fun d v K' H' hd n rv => ?_⟩
  subst hd
  cases rv
  rfl
theorem facts8 {P : Program} {w : World} {K : PySem.W.Frag} {h : Heap} {mg : Str → Option Value} {f : Addr} (X : K.In h) (G : h.Ns mainGlobals mg) (hfa : mg ("law" : Str) = some (.ref f)) (c : obs8 K = val8) :
    ∃ fd : FuncData, (∀ (s : Shared) (v : Value), BindsTo s fd ⟨[v], []⟩ [("_law_script", v)]) ∧ ∀ base : Heap, K.In base → base.Ns mainGlobals mg → FnOk P w K mg base CX0 18 f fd ["_law_script"] (spW K W_law) := by
  obtain ⟨T⟩ := tx_of X G c
  have e := hfa.symm.trans T.d_law.g
  cases e
  have b := FunD.bindsA (ps := ["_law_script"]) T.d_law.F fun _ _ _ _ _ _ us hl => match us, hl with | [_], _ => rfl
  exact ⟨T.d_law.fd, fun s v => b s [v] rfl, fun base _ _ => G_law T⟩
end K8
open PySem PySem.W PySem.Calls PyProof.Rows
theorem PySem.Challenge.cw_asmuchas_k68_whole_words_that_stay_holds : PySem.Challenge.rw_asmuchas_k68_whole_words_that_stay.Holds := by
  w_on; o_law
  refine HandSHeadRun.head_any (r := OpenLaw.row PySem.Challenge.rw_asmuchas_k68_whole_words_that_stay) (q := view (OpenLaw.row PySem.Challenge.rw_asmuchas_k68_whole_words_that_stay).prog [86]) (H := K8.hook8) (ob := K8.ob8) (M := 6000) (loose := K8.loose8)
    (d := HandSHeadRun.topDef (OpenLaw.row PySem.Challenge.rw_asmuchas_k68_whole_words_that_stay).prog 86) (kwd := []) K8.ob8_eq
    (by kernel_rfl) (fun s => by kernel_rfl) K8.run8 (by kernel_rfl) (by kernel_rfl) (by kernel_rfl) (by rfl) (by first | assumption | decide +kernel) (by decide +kernel) ⟨rfl, rfl, rfl, rfl, rfl, by decide +kernel⟩ ?hw ?hc
  case hw => w_witness2
  case hc =>
    refine L2.walk_ofE (l := PySem.Challenge.rw_asmuchas_k68_whole_words_that_stay) (n := 63) (k := 18) (x := "_law_script") (CX := L2.CX0) rfl (by decide) (by kernel_rfl) ⟨rfl, by decide, by decide⟩ ?F (fun _ _ _ _ z => z)
    intro w mg fa h Y G hmg0
    obtain ⟨K, KX, c⟩ := Y
    have hmg : mg ("law" : PySem.Str) = some (.ref fa) := by
      have e : (HandSHeadRun.topDef (OpenLaw.row PySem.Challenge.rw_asmuchas_k68_whole_words_that_stay).prog 86).name = ("law" : PySem.Str) := by kernel_rfl
      rw [← e]
      exact hmg0
    obtain ⟨fd, hb, hF⟩ := K8.facts8 (P := (PySem.Challenge.rw_asmuchas_k68_whole_words_that_stay).prog) (w := w) KX G hmg c
    exact ⟨K, fd, K8.spW K K8.W_law, KX, hb, fun H a ns hl hO hS => K8.law_sp hl hO hS, hF⟩
