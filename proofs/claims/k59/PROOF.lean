import PyProof.Rows.All
import Wide.All
import OpenK.AllK
import Wide.FinOn
import HandS.ForMost
import HandS.Deep
import HandS.DictTup
import HandS.SetKeys
import HandS.TupAny
import HandS.Wide
import HandS.WideMore
import HandS.Conv
import HandS.Codes
import HandS.IsInst
import HandS.Sort
import HandS.NoneIn
import HandS.Defaults
import HandS.Head0
import HandS.Head1
import HandS.Head2
import HandS.HeadEnd
import HandS.HeadHook1
import HandS.HeadHook2
import HandS.HeadHook4
import HandS.More
import KE.KTupSum
import PyProof.ReprRoads
import PyProof.StrLawsRepr
import PyProof.ReprLen
import KE.KStateDown
import HandS.Words
import HandS.WordsExc
import PySem.Challenge.RW_walkrooms_k59_machines_gone_on
set_option Elab.async false
set_option linter.all false
set_option maxRecDepth 100000
set_option maxHeartbeats 4000000
namespace D3
open PySem PySem.Spec PyProof.Rows L2

/-! ### data: tuples are values, what changes has an address -/
inductive D where
  | non | bl (b : Bool) | int (i : Int) | str (x : Str) | ty (n : String) | ref (a : Addr) | tup (ds : List D) | ctu (ds : List D) | lro (ds : List D)
inductive DK where
  | k | t
inductive DO where
  | lst (ds : List D)
  | dic (t : DK) (kvs : List (D × D))
  | fdic (u : HO) (t : DK) (kvs : List (D × D))
  | ins (C dx : Addr) (fs : List (Str × D))
abbrev DH := Addr → Option DO
abbrev DSt := List (Option D)
def put (G : DH) (a : Addr) (o : DO) : DH := fun b => if b = a then some o else G b
theorem put_same {G : DH} {a : Addr} {o : DO} : put G a o a = some o := by unfold put; rw [if_pos rfl]
theorem put_ne {G : DH} {a b : Addr} {o : DO} (h : b ≠ a) : put G a o b = G b := by unfold put; rw [if_neg h]
theorem put_put {G : DH} {a : Addr} {o u : DO} : put (put G a o) a u = put G a u := by
  funext b; unfold put; split <;> rfl
theorem put_comm {G : DH} {a b : Addr} {o u : DO} (h : a ≠ b) : put (put G a o) b u = put (put G b u) a o := by
  funext c; unfold put
  by_cases h1 : c = a
  · by_cases h2 : c = b
    · exact absurd (h1.symm.trans h2) h
    · rw [if_neg h2, if_pos h1, if_pos h1]
  · rw [if_neg h1, if_neg h1]
theorem ne_none {G : DH} {a b : Addr} {o : DO} (h : G a = some o) (h' : G b = none) : a ≠ b := by
  intro e; subst e; rw [h] at h'; cases h'
def lookD : DSt → Nat → Option D
  | [], _ => none
  | x :: _, 0 => x
  | _ :: xs, n + 1 => lookD xs n
def setD : DSt → Nat → D → DSt
  | [], _, _ => []
  | _ :: xs, 0, d => some d :: xs
  | x :: xs, n + 1, d => x :: setD xs n d
def Le (G0 G1 : DH) : Prop := ∀ a o, G0 a = some o → G1 a = some o
theorem Le.refl (G : DH) : Le G G := fun _ _ h => h
theorem Le.trans {G0 G1 G2 : DH} (h : Le G0 G1) (k : Le G1 G2) : Le G0 G2 := fun a o e => k a o (h a o e)
theorem Le.put {G0 G1 : DH} {a : Addr} {o : DO} (h : Le G0 G1) (n : G0 a = none) : Le G0 (put G1 a o) := fun b u e => by
  rw [put_ne (ne_none e n)]; exact h b u e
theorem Le.both {G0 G1 : DH} {a : Addr} {o : DO} (h : Le G0 G1) : Le (D3.put G0 a o) (D3.put G1 a o) := fun b u e => by
  by_cases q : b = a
  · subst q; rw [put_same] at e ⊢; exact e
  · rw [put_ne q] at e ⊢; exact h b u e
theorem Le.free {G0 G1 : DH} {a : Addr} (h : Le G0 G1) (n : G1 a = none) : G0 a = none := by
  cases q : G0 a with
  | none => rfl
  | some o => rw [h a o q] at n; cases n

/-! ### how the layer below bears it -/
/-- a list that stays (the script) -/
def SqF (K : PySem.W.Frag) (H : Hp) (a : Addr) (xs : List V) : Prop :=
  (∃ o, H a = some (.frz o (.lst xs))) ∨
    ∃ (o : Obj) (its : Array Value) (n : Nat), K.lookup a = some o ∧ o.cls = .type "list" ∧ o.dict = none ∧ o.data = .seq its n ∧ its.size ≤ sizeLine ∧ Vals xs its.toList
theorem SqF.sq {K : PySem.W.Frag} {H : Hp} {a : Addr} {xs : List V} (h : SqF K H a xs) : SqL K H a xs := by
  rcases h with ⟨o, h⟩ | h
  · exact .inl (.inr ⟨o, h⟩)
  · exact .inr h
/-- a tuple of the written part -/
def CoT (K : PySem.W.Frag) (a : Addr) (xs : List V) : Prop := ∃ (o : Obj) (its : Array Value) (n : Nat), K.lookup a = some o ∧ o.cls = .type "tuple" ∧ o.data = .seq its n ∧ its.size ≤ sizeLine ∧ Vals xs its.toList
def kD : Key → D
  | .inl i => .int i
  | .inr x => .str x
mutual
inductive Rp (K : PySem.W.Frag) (H : Hp) : V → D → Prop
  | non : Rp K H .non .non
  | bl (b : Bool) : Rp K H (.bl b) (.bl b)
  | int (i : Int) : Rp K H (.int i) (.int i)
  | str (x : Str) : Rp K H (.str x) (.str x)
  | ty (n : String) : Rp K H (.ty n) (.ty n)
  | ref (a : Addr) : Rp K H (.ref a) (.ref a)
  | tup {a : Addr} {xs : List V} {ds : List D} : H a = some (.tup xs) → RpL K H xs ds → Rp K H (.ref a) (.tup ds)
  | ctu {a : Addr} {xs : List V} {ds : List D} : CoT K a xs → RpL K H xs ds → Rp K H (.ref a) (.ctu ds)
  | lro {a : Addr} {xs : List V} {ds : List D} : SqF K H a xs → RpL K H xs ds → Rp K H (.ref a) (.lro ds)
inductive RpL (K : PySem.W.Frag) (H : Hp) : List V → List D → Prop
  | nil : RpL K H [] []
  | cons {v : V} {vs : List V} {d : D} {ds : List D} : Rp K H v d → RpL K H vs ds → RpL K H (v :: vs) (d :: ds)
end
def RpP (K : PySem.W.Frag) (H : Hp) : V × V → D × D → Prop := fun p q => Rp K H p.1 q.1 ∧ Rp K H p.2 q.2
def RepO (K : PySem.W.Frag) (H : Hp) (a : Addr) : DO → Prop
  | .lst ds => ∃ xs, H a = some (.lst xs) ∧ RpL K H xs ds
  | .dic .k kvs => ∃ ks, H a = some (.dK ks) ∧ Paired (fun (p : Key × V) (q : D × D) => q.1 = kD p.1 ∧ Rp K H p.2 q.2) ks kvs
  | .dic .t kvs => ∃ ks, H a = some (.dT ks) ∧ Paired (fun (p : List Key × V) (q : D × D) => q.1 = .tup (p.1.map kD) ∧ Rp K H p.2 q.2) ks kvs
  | .fdic u .k kvs => ∃ o ks, u = .frz o (.dK ks) ∧ H a = some (.frz o (.dK ks)) ∧ Paired (fun (p : Key × V) (q : D × D) => q.1 = kD p.1 ∧ Rp K H p.2 q.2) ks kvs
  | .fdic u .t kvs => ∃ o ks, u = .frz o (.dT ks) ∧ H a = some (.frz o (.dT ks)) ∧ Paired (fun (p : List Key × V) (q : D × D) => q.1 = .tup (p.1.map kD) ∧ Rp K H p.2 q.2) ks kvs
  | .ins C dx fs => ∃ vs, H a = some (.ins C dx vs) ∧ Paired (fun (p : Str × V) (q : Str × D) => p.1 = q.1 ∧ Rp K H p.2 q.2) vs fs
def RepH (K : PySem.W.Frag) (H : Hp) (G : DH) : Prop := ∀ a o, G a = some o → RepO K H a o
def RepS (K : PySem.W.Frag) (H : Hp) (σ : L2.St) (δ : DSt) : Prop := σ.length = δ.length ∧ ∀ i d, lookD δ i = some d → ∃ v, σ[i]? = some (some v) ∧ Rp K H v d
/-- what is not G's stays, and stays out -/
def Fm (H : Hp) (G : DH) (H' : Hp) (G' : DH) : Prop := ∀ p o, H p = some o → G p = none → H' p = some o ∧ G' p = none
theorem Fm.refl (H : Hp) (G : DH) : Fm H G H G := fun _ _ h n => ⟨h, n⟩
theorem Fm.trans {H H1 H2 : Hp} {G G1 G2 : DH} (a : Fm H G H1 G1) (b : Fm H1 G1 H2 G2) : Fm H G H2 G2 := fun p o h n =>
  let ⟨h1, n1⟩ := a p o h n
  b p o h1 n1
theorem Fm.le {H H' : Hp} {G G' G0 : DH} (f : Fm H G H' G') (l : Le G0 G') : Fm H G H' G0 := fun p o h n =>
  let ⟨h1, n1⟩ := f p o h n
  ⟨h1, l.free n1⟩
theorem RepH.le {K : PySem.W.Frag} {H : Hp} {G0 G1 : DH} (r : RepH K H G1) (l : Le G0 G1) : RepH K H G0 := fun a o e => r a o (l a o e)
section
variable {K : PySem.W.Frag} {H H' : Hp} {G G' : DH}
/-- who is in G is none of the things that stay -/
theorem RepO.at_ {p : Addr} {o : DO} (q : RepO K H p o) : ∃ u, H p = some u ∧ (∀ xs, u ≠ .tup xs) ∧ ∀ ob xs, u ≠ .frz ob (.lst xs) := by
  cases o with
  | lst ds => obtain ⟨xs, hx, _⟩ := q; exact ⟨_, hx, (fun _ z => nomatch z), (fun _ _ z => nomatch z)⟩
  | dic t kvs =>
    cases t with
    | k => obtain ⟨xs, hx, _⟩ := q; exact ⟨_, hx, (fun _ z => nomatch z), (fun _ _ z => nomatch z)⟩
    | t => obtain ⟨xs, hx, _⟩ := q; exact ⟨_, hx, (fun _ z => nomatch z), (fun _ _ z => nomatch z)⟩
  | fdic u t kvs =>
    cases t with
    | k => obtain ⟨o, xs, _, hx, _⟩ := q; exact ⟨_, hx, (fun _ z => nomatch z), (fun _ _ z => nomatch z)⟩
    | t => obtain ⟨o, xs, _, hx, _⟩ := q; exact ⟨_, hx, (fun _ z => nomatch z), (fun _ _ z => nomatch z)⟩
  | ins C dx fs => obtain ⟨xs, hx, _⟩ := q; exact ⟨_, hx, (fun _ z => nomatch z), (fun _ _ z => nomatch z)⟩
theorem RepH.noTup {p : Addr} {xs : List V} (r : RepH K H G) (h : H p = some (.tup xs)) : G p = none := by
  cases e : G p with
  | none => rfl
  | some u =>
    obtain ⟨w, hw, n, _⟩ := (r p u e).at_
    rw [h] at hw; exact absurd (Option.some.inj hw).symm (n xs)
theorem RepH.noFl {p : Addr} {ob : Obj} {xs : List V} (r : RepH K H G) (h : H p = some (.frz ob (.lst xs))) : G p = none := by
  cases e : G p with
  | none => rfl
  | some u =>
    obtain ⟨w, hw, _, n⟩ := (r p u e).at_
    rw [h] at hw; exact absurd (Option.some.inj hw).symm (n ob xs)
theorem RepH.free {p : Addr} (r : RepH K H G) (h : H p = none) : G p = none := by
  cases e : G p with
  | none => rfl
  | some u =>
    obtain ⟨w, hw, _⟩ := (r p u e).at_
    rw [h] at hw; cases hw
/-- what stays true -/
theorem tup_fm {a : Addr} {xs : List V} (r : RepH K H G) (f : Fm H G H' G') (h : H a = some (.tup xs)) : H' a = some (.tup xs) := (f a _ h (r.noTup h)).1
theorem sqF_fm {a : Addr} {xs : List V} (r : RepH K H G) (f : Fm H G H' G') (h : SqF K H a xs) : SqF K H' a xs := by
  rcases h with ⟨o, h⟩ | h
  · exact .inl ⟨o, (f a _ h (r.noFl h)).1⟩
  · exact .inr h
mutual
theorem Rp.fm (r : RepH K H G) (f : Fm H G H' G') : ∀ {v : V} {d : D}, Rp K H v d → Rp K H' v d
  | _, _, .non => .non
  | _, _, .bl b => .bl b
  | _, _, .int i => .int i
  | _, _, .str x => .str x
  | _, _, .ty n => .ty n
  | _, _, .ref a => .ref a
  | _, _, .tup h l => .tup (tup_fm r f h) (RpL.fm r f l)
  | _, _, .ctu h l => .ctu h (RpL.fm r f l)
  | _, _, .lro h l => .lro (sqF_fm r f h) (RpL.fm r f l)
theorem RpL.fm (r : RepH K H G) (f : Fm H G H' G') : ∀ {vs : List V} {ds : List D}, RpL K H vs ds → RpL K H' vs ds
  | _, _, .nil => .nil
  | _, _, .cons h l => .cons (Rp.fm r f h) (RpL.fm r f l)
end
theorem RepS.fm {σ : L2.St} {δ : DSt} (s : RepS K H σ δ) (r : RepH K H G) (f : Fm H G H' G') : RepS K H' σ δ :=
  ⟨s.1, fun i d e => let ⟨v, e1, q⟩ := s.2 i d e; ⟨v, e1, q.fm r f⟩⟩
end
section
variable {K : PySem.W.Frag} {H : Hp} {G : DH}
/-! #### shapes -/
theorem RpL.length : ∀ {vs : List V} {ds : List D}, RpL K H vs ds → vs.length = ds.length
  | _, _, .nil => rfl
  | _, _, .cons _ l => by rw [List.length_cons, List.length_cons, l.length]
theorem RpL.append : ∀ {vs ws : List V} {ds es : List D}, RpL K H vs ds → RpL K H ws es → RpL K H (vs ++ ws) (ds ++ es)
  | _, _, _, _, .nil, b => b
  | _, _, _, _, .cons h l, b => .cons h (l.append b)
theorem RpL.take : ∀ {vs : List V} {ds : List D} (n : Nat), RpL K H vs ds → RpL K H (vs.take n) (ds.take n)
  | _, _, 0, _ => by rw [List.take_zero, List.take_zero]; exact .nil
  | _, _, _ + 1, .nil => .nil
  | _, _, n + 1, .cons h l => .cons h (l.take n)
theorem RpL.drop : ∀ {vs : List V} {ds : List D} (n : Nat), RpL K H vs ds → RpL K H (vs.drop n) (ds.drop n)
  | _, _, 0, h => h
  | _, _, _ + 1, .nil => .nil
  | _, _, n + 1, .cons h l => l.drop n
theorem RpL.get : ∀ {vs : List V} {ds : List D} {i : Nat} {d : D}, RpL K H vs ds → ds[i]? = some d → ∃ v, vs[i]? = some v ∧ Rp K H v d
  | _, _, i, d, .nil, e => by simp at e
  | _, _, 0, d, .cons h l, e => by simp at e; subst e; exact ⟨_, rfl, h⟩
  | _, _, i + 1, d, .cons h l, e => by
    obtain ⟨v, e1, r⟩ := l.get (i := i) (d := d) (by simpa using e)
    exact ⟨v, by simpa using e1, r⟩
theorem RpL.get' : ∀ {vs : List V} {ds : List D} {i : Nat} {v : V}, RpL K H vs ds → vs[i]? = some v → ∃ d, ds[i]? = some d ∧ Rp K H v d
  | _, _, i, d, .nil, e => by simp at e
  | _, _, 0, d, .cons h l, e => by simp at e; subst e; exact ⟨_, rfl, h⟩
  | _, _, i + 1, d, .cons h l, e => by
    obtain ⟨v, e1, r⟩ := l.get' (i := i) (v := d) (by simpa using e)
    exact ⟨v, by simpa using e1, r⟩
theorem RpL.set {v : V} {d : D} (h : Rp K H v d) : ∀ {vs : List V} {ds : List D} (i : Nat), RpL K H vs ds → RpL K H (vs.set i v) (ds.set i d)
  | _, _, _, .nil => .nil
  | _, _, 0, .cons _ l => .cons h l
  | _, _, i + 1, .cons q l => .cons q (l.set h i)
theorem RpL.dropLast {vs : List V} {ds : List D} (h : RpL K H vs ds) : RpL K H vs.dropLast ds.dropLast := by
  rw [List.dropLast_eq_take, List.dropLast_eq_take, h.length]; exact h.take _
theorem RpL.eraseIdx : ∀ {vs : List V} {ds : List D} (i : Nat), RpL K H vs ds → RpL K H (vs.eraseIdx i) (ds.eraseIdx i)
  | _, _, _, .nil => .nil
  | _, _, 0, .cons _ l => l
  | _, _, i + 1, .cons h l => .cons h (l.eraseIdx i)
theorem RpL.reverse : ∀ {vs : List V} {ds : List D}, RpL K H vs ds → RpL K H vs.reverse ds.reverse
  | _, _, .nil => .nil
  | _, _, .cons h l => by rw [List.reverse_cons, List.reverse_cons]; exact l.reverse.append (.cons h .nil)
theorem look_len {δ : DSt} {i : Nat} {d : D} (h : lookD δ i = some d) : i < δ.length := by
  induction δ generalizing i with
  | nil => cases h
  | cons x xs ih =>
    cases i with
    | zero => exact Nat.succ_pos _
    | succ i => exact Nat.succ_lt_succ (ih h)
theorem setD_len (δ : DSt) (i : Nat) (d : D) : (setD δ i d).length = δ.length := by
  induction δ generalizing i with
  | nil => rfl
  | cons x xs ih =>
    cases i with
    | zero => rfl
    | succ i => show (setD xs i d).length + 1 = xs.length + 1; rw [ih]
theorem look_set (δ : DSt) (i j : Nat) (d e : D) (h : lookD (setD δ i d) j = some e) : (j = i ∧ e = d) ∨ (j ≠ i ∧ lookD δ j = some e) := by
  induction δ generalizing i j with
  | nil => cases h
  | cons x xs ih =>
    cases i with
    | zero =>
      cases j with
      | zero => exact .inl ⟨rfl, (Option.some.inj h).symm⟩
      | succ j => exact .inr ⟨Nat.succ_ne_zero j, h⟩
    | succ i =>
      cases j with
      | zero => exact .inr ⟨(Nat.succ_ne_zero i).symm, h⟩
      | succ j =>
        rcases ih i j h with ⟨a, b⟩ | ⟨a, b⟩
        · exact .inl ⟨by rw [a], b⟩
        · exact .inr ⟨fun z => a (Nat.succ.inj z), b⟩
theorem RepS.set {σ : L2.St} {δ : DSt} {v : V} {d : D} (s : RepS K H σ δ) (i : Nat) (h : Rp K H v d) : RepS K H (σ.set i (some v)) (setD δ i d) := by
  refine ⟨by rw [List.length_set, setD_len]; exact s.1, fun j e he => ?_⟩
  rcases look_set δ i j d e he with ⟨a, b⟩ | ⟨a, b⟩
  · subst a; subst b
    have hl : j < σ.length := by
      have := look_len he
      rw [setD_len] at this; rw [s.1]; exact this
    exact ⟨v, by rw [List.getElem?_set_self hl], h⟩
  · obtain ⟨w, e1, q⟩ := s.2 j e b
    exact ⟨w, by rw [List.getElem?_set_ne (Ne.symm a)]; exact e1, q⟩

/-! #### what is laid, what is written -/
theorem fm_new {p : Addr} {o : HO} (hp : H p = none) (o' : DO) : Fm H G (upd H p o) (put G p o') := fun b u h n => by
  have ne : b ≠ p := L2.ne_of_none h hp
  exact ⟨by rw [upd_ne ne]; exact h, by rw [put_ne ne]; exact n⟩
theorem fm_new' {p : Addr} {o : HO} (hp : H p = none) : Fm H G (upd H p o) G := fun b u h n => by
  have ne : b ≠ p := L2.ne_of_none h hp
  exact ⟨by rw [upd_ne ne]; exact h, n⟩
theorem fm_write {p : Addr} {o : HO} {q : DO} (o' : DO) (hp : G p = some q) : Fm H G (upd H p o) (put G p o') := fun b u h n => by
  have ne : b ≠ p := fun z => by rw [z, hp] at n; cases n
  exact ⟨by rw [upd_ne ne]; exact h, by rw [put_ne ne]; exact n⟩
theorem paired_imp {α β : Type} {F F' : α → β → Prop} (h : ∀ a b, F a b → F' a b) : ∀ {l : List α} {m : List β}, Paired F l m → Paired F' l m
  | _, _, .nil => .nil
  | _, _, .cons r t => .cons (h _ _ r) (paired_imp h t)
theorem RepO.fm {H' : Hp} {G' : DH} {a : Addr} {o : DO} (r : RepH K H G) (f : Fm H G H' G') (ho : RepO K H a o) (k : ∀ u, H a = some u → H' a = some u) : RepO K H' a o := by
  cases o with
  | lst ds =>
    obtain ⟨xs, hx, q⟩ := ho
    exact ⟨xs, k _ hx, q.fm r f⟩
  | dic t kvs =>
    cases t with
    | k =>
      obtain ⟨xs, hx, q⟩ := ho
      exact ⟨xs, k _ hx, paired_imp (fun _ _ h => ⟨h.1, h.2.fm r f⟩) q⟩
    | t =>
      obtain ⟨xs, hx, q⟩ := ho
      exact ⟨xs, k _ hx, paired_imp (fun _ _ h => ⟨h.1, h.2.fm r f⟩) q⟩
  | fdic u t kvs =>
    cases t with
    | k =>
      obtain ⟨o, xs, hu, hx, q⟩ := ho
      exact ⟨o, xs, hu, k _ hx, paired_imp (fun _ _ h => ⟨h.1, h.2.fm r f⟩) q⟩
    | t =>
      obtain ⟨o, xs, hu, hx, q⟩ := ho
      exact ⟨o, xs, hu, k _ hx, paired_imp (fun _ _ h => ⟨h.1, h.2.fm r f⟩) q⟩
  | ins C dx fs =>
    obtain ⟨xs, hx, q⟩ := ho
    exact ⟨xs, k _ hx, paired_imp (fun _ _ h => ⟨h.1, h.2.fm r f⟩) q⟩
theorem RepH.new {p : Addr} {o : HO} {o' : DO} (r : RepH K H G) (hp : H p = none) (ho : RepO K (upd H p o) p o') : RepH K (upd H p o) (put G p o') := fun a u e => by
  by_cases h : a = p
  · subst h; rw [put_same] at e; cases e; exact ho
  · rw [put_ne h] at e
    exact RepO.fm r (fm_new (o := o) hp o') (r a u e) fun z hz => by rw [upd_ne h]; exact hz
theorem RepH.new' {p : Addr} {o : HO} (r : RepH K H G) (hp : H p = none) : RepH K (upd H p o) G := fun a u e => by
  have h : a ≠ p := ne_none e (r.free hp)
  exact RepO.fm r (fm_new' (o := o) hp) (r a u e) fun z hz => by rw [upd_ne h]; exact hz
theorem RepH.write {p : Addr} {o : HO} {o' q : DO} (r : RepH K H G) (hp : G p = some q) (ho : RepO K (upd H p o) p o') : RepH K (upd H p o) (put G p o') := fun a u e => by
  by_cases h : a = p
  · subst h; rw [put_same] at e; cases e; exact ho
  · rw [put_ne h] at e
    exact RepO.fm r (fm_write (o := o) o' hp) (r a u e) fun z hz => by rw [upd_ne h]; exact hz
end

/-! ### readings over data -/
abbrev DQ := D → DH → Prop
abbrev DE := DSt → DH → DQ → Prop
abbrev DT := DSt → DH → (Bool → DH → Prop) → Prop
abbrev DA := DSt → DH → (List D → DH → Prop) → Prop
structure DEnds where
  nx : DSt → DH → Prop
  rt : DQ
  bk : DSt → DH → Prop := fun _ _ => False
  ct : DSt → DH → Prop := fun _ _ => False
abbrev DS := DEnds → DSt → DH → Prop
abbrev DSp := List D → DH → DQ → Prop

/-- a value's end, below -/
def upQ (K : PySem.W.Frag) (H : Hp) (G : DH) (Q : DQ) : VK := fun v H' => ∃ d G', Q d G' ∧ Fm H G H' G' ∧ Rp K H' v d ∧ RepH K H' G'
def upB (K : PySem.W.Frag) (H : Hp) (G : DH) (Q : Bool → DH → Prop) : Bool → Hp → Prop := fun b H' => ∃ G', Q b G' ∧ Fm H G H' G' ∧ RepH K H' G'
def upA (K : PySem.W.Frag) (H : Hp) (G : DH) (Q : List D → DH → Prop) : List V → Hp → Prop := fun vs H' => ∃ ds G', Q ds G' ∧ Fm H G H' G' ∧ RpL K H' vs ds ∧ RepH K H' G'
def upN (K : PySem.W.Frag) (H : Hp) (G : DH) (Q : DSt → DH → Prop) : L2.St → Hp → Prop := fun σ' H' => ∃ δ' G', Q δ' G' ∧ Fm H G H' G' ∧ RepS K H' σ' δ' ∧ RepH K H' G'
def up (K : PySem.W.Frag) (t : DE) : TE := fun σ H Q => ∃ δ G Q', RepS K H σ δ ∧ RepH K H G ∧ t δ G Q' ∧ ∀ v H', upQ K H G Q' v H' → Q v H'
def upT (K : PySem.W.Frag) (t : DT) : TT := fun σ H Q => ∃ δ G Q', RepS K H σ δ ∧ RepH K H G ∧ t δ G Q' ∧ ∀ b H', upB K H G Q' b H' → Q b H'
def upAs (K : PySem.W.Frag) (t : DA) : TA := fun σ H Q => ∃ δ G Q', RepS K H σ δ ∧ RepH K H G ∧ t δ G Q' ∧ ∀ vs H', upA K H G Q' vs H' → Q vs H'
def upS (K : PySem.W.Frag) (t : DS) : TS := fun D σ H => ∃ δ G D', RepS K H σ δ ∧ RepH K H G ∧ t D' δ G ∧ (∀ σ' H', upN K H G D'.nx σ' H' → D.nx σ' H') ∧ (∀ v H', upQ K H G D'.rt v H' → D.rt v H') ∧
  (∀ σ' H', upN K H G D'.bk σ' H' → D.bk σ' H') ∧ (∀ σ' H', upN K H G D'.ct σ' H' → D.ct σ' H')
def upSp (K : PySem.W.Frag) (sp : DSp) : Sp := fun vs H Q _ => ∃ ds G Q', RpL K H vs ds ∧ RepH K H G ∧ sp ds G Q' ∧ ∀ v H', upQ K H G Q' v H' → Q v H'
section
variable {K : PySem.W.Frag} {H H1 : Hp} {G G1 : DH}
theorem upQ.step {Q : DQ} {v : V} {H' : Hp} (f : Fm H G H1 G1) (h : upQ K H1 G1 Q v H') : upQ K H G Q v H' := let ⟨d, G', q, f', r⟩ := h; ⟨d, G', q, f.trans f', r⟩
theorem upB.step {Q : Bool → DH → Prop} {v : Bool} {H' : Hp} (f : Fm H G H1 G1) (h : upB K H1 G1 Q v H') : upB K H G Q v H' := let ⟨G', q, f', r⟩ := h; ⟨G', q, f.trans f', r⟩
theorem upA.step {Q : List D → DH → Prop} {v : List V} {H' : Hp} (f : Fm H G H1 G1) (h : upA K H1 G1 Q v H') : upA K H G Q v H' := let ⟨d, G', q, f', r⟩ := h; ⟨d, G', q, f.trans f', r⟩
theorem upN.step {Q : DSt → DH → Prop} {v : L2.St} {H' : Hp} (f : Fm H G H1 G1) (h : upN K H1 G1 Q v H') : upN K H G Q v H' := let ⟨d, G', q, f', r⟩ := h; ⟨d, G', q, f.trans f', r⟩
end
abbrev PD (X : Cx) (e : Expr) (t : DE) : Prop := PE X e (up X.K t)
abbrev PDT (X : Cx) (e : Expr) (t : DT) : Prop := PT X e (upT X.K t)
abbrev PDA (X : Cx) (es : List Expr) (t : DA) : Prop := PA X es (upAs X.K t)
abbrev PDS (X : Cx) (st : Stmt) (t : DS) : Prop := PS X st (upS X.K t)
abbrev PDSs (X : Cx) (st : List Stmt) (t : DS) : Prop := PSs X st (upS X.K t)
theorem imp_pe {X : Cx} {e : Expr} {t u : TE} (h : PE X e t) (i : ∀ σ H Q, u σ H Q → t σ H Q) : PE X e u := ⟨fun pins s σ H Q I q => h.run pins s σ H Q I (i _ _ _ q)⟩
theorem imp_pt {X : Cx} {e : Expr} {t u : TT} (h : PT X e t) (i : ∀ σ H Q, u σ H Q → t σ H Q) : PT X e u := ⟨fun pins s σ H Q I q => h.run pins s σ H Q I (i _ _ _ q)⟩
theorem imp_pa {X : Cx} {e : List Expr} {t u : TA} (h : PA X e t) (i : ∀ σ H Q, u σ H Q → t σ H Q) : PA X e u := ⟨fun pos pins s σ H Q I q => h.run pos pins s σ H Q I (i _ _ _ q)⟩
theorem imp_ps {X : Cx} {e : Stmt} {t u : TS} (h : PS X e t) (i : ∀ D σ H, u D σ H → t D σ H) : PS X e u := ⟨fun pins s σ H D I q => h.run pins s σ H D I (i _ _ _ q)⟩
theorem imp_pss {X : Cx} {e : List Stmt} {t u : TS} (h : PSs X e t) (i : ∀ D σ H, u D σ H → t D σ H) : PSs X e u := ⟨fun pins s σ H D I q => h.run pins s σ H D I (i _ _ _ q)⟩

/-! ### names, constants, what is put together -/
def dV (i : Nat) : DE := fun δ G Q => match lookD δ i with
  | some d => Q d G
  | none => False
def dC (d : D) : DE := fun _ G Q => Q d G
section
variable {X : Cx} {pos : Pos}
theorem up_var {K : PySem.W.Frag} {i : Nat} {σ : L2.St} {H : Hp} {Q : VK} (h : up K (dV i) σ H Q) : tVar i σ H Q := by
  obtain ⟨δ, G, Q', rs, rh, h, k⟩ := h
  unfold dV at h
  cases e : lookD δ i with
  | none => rw [e] at h; exact h.elim
  | some d =>
    rw [e] at h
    obtain ⟨v, ev, r⟩ := rs.2 i d e
    exact ⟨v, ev, k _ _ ⟨d, G, h, Fm.refl _ _, r, rh⟩⟩
theorem pdv (i : Nat) {x : Str} (hN : X.N[i]? = some x := by rfl) (hv : Vis X.env.scope x := by first | exact Or.inl rfl | exact Or.inr (Or.inl rfl) | exact Or.inr (Or.inr rfl)) (hd : (x == ("__debug__" : Str)) = false := by decide)
    (hcd : (x == ("__classdict__" : Str)) = false := by decide) : PD X (.Name x pos) (dV i) := imp_pe (pe_var hN hv hd hcd) fun _ _ _ h => up_var h
theorem up_c {K : PySem.W.Frag} {d : D} {v : V} (r : ∀ H, Rp K H v d) {σ : L2.St} {H : Hp} {Q : VK} (h : up K (dC d) σ H Q) : tC v σ H Q := by
  obtain ⟨δ, G, Q', rs, rh, h, k⟩ := h
  exact k _ _ ⟨d, G, h, Fm.refl _ _, r H, rh⟩
theorem pd_int {i j} : PD X (.Constant (.int i) j pos) (dC (.int i)) := imp_pe pe_int fun _ _ _ h => up_c (fun _ => .int i) h
theorem pd_bl {b j} : PD X (.Constant (.bool b) j pos) (dC (.bl b)) := imp_pe pe_bl fun _ _ _ h => up_c (fun _ => .bl b) h
theorem pd_non {j} : PD X (.Constant .none j pos) (dC .non) := imp_pe pe_non fun _ _ _ h => up_c (fun _ => .non) h
theorem pd_str {x j} : PD X (.Constant (.str x) j pos) (dC (.str x)) := imp_pe pe_str fun _ _ _ h => up_c (fun _ => .str x) h
/-- a module's constant -/
theorem pd_glob {x : Str} {v : V} {d : D} {u : Value} (hg : Gl X x) (hm : X.mg x = some u) (r : RelV v u) (rd : ∀ H, Rp X.K H v d) (hd : (x == ("__debug__" : Str)) = false := by decide) : PD X (.Name x pos) (dC d) :=
  imp_pe (pe_glob hg hm r hd) fun _ _ _ h => up_c rd h
theorem pd_bltn {x : Str} {v : V} {d : D} {u : Value} (hg : Gl X x) (hm : X.mg x = none) (hv : bootBuiltins x = some u) (r : RelV v u) (rd : ∀ H, Rp X.K H v d) (hn : x ≠ "__name__" := by decide) (hd : (x == ("__debug__" : Str)) = false := by decide) : PD X (.Name x pos) (dC d) :=
  imp_pe (pe_bltn hg hm hv r hn hd) fun _ _ _ h => up_c rd h

/-! #### two in a row -/
abbrev DR2 := D → D → DH → DQ → Prop
def dBin (r : DR2) (ta tb : DE) : DE := fun δ G Q => ta δ G fun x G1 => tb δ G1 fun y G2 => r x y G2 Q
/-- the rule r above is served by the rule r' below -/
def Up2 (K : PySem.W.Frag) (r : DR2) (r' : R2) : Prop := ∀ {x y : D} {v w : V} {H : Hp} {G : DH} {Q : DQ} {Qv : VK}, r x y G Q → Rp K H v x → Rp K H w y → RepH K H G → (∀ u H', upQ K H G Q u H' → Qv u H') → r' v w H Qv
theorem up_bin {K : PySem.W.Frag} {r : DR2} {r' : R2} (hr : Up2 K r r') {ta tb : DE} {σ : L2.St} {H : Hp} {Q : VK} (h : up K (dBin r ta tb) σ H Q) : tOp r' (up K ta) (up K tb) σ H Q := by
  obtain ⟨δ, G, Q', rs, rh, h, k⟩ := h
  refine ⟨δ, G, _, rs, rh, h, fun v H1 ⟨x, G1, h1, f1, rx, rh1⟩ => ?_⟩
  refine ⟨δ, G1, _, rs.fm rh f1, rh1, h1, fun w H2 ⟨y, G2, h2, f2, ry, rh2⟩ => ?_⟩
  exact hr h2 (rx.fm rh1 f2) ry rh2 fun u H' q => k u H' ((q.step f2).step f1)
theorem pd_op {op : Operator} {r : DR2} {r' : R2} {a b : Expr} {ta tb : DE} (ho : OpR X (binaryOp op) r') (hr : Up2 X.K r r') (ha : PD X a ta) (hb : PD X b tb) : PD X (.BinOp a op b pos) (dBin r ta tb) :=
  imp_pe (pe_op ho ha hb) fun _ _ _ h => up_bin hr h
theorem pd_cmp {op : CmpOp} {r : DR2} {r' : R2} {a b : Expr} {ta tb : DE} (ho : OpR X (compareOp op) r') (hr : Up2 X.K r r') (ha : PD X a ta) (hb : PD X b tb) (hm : behindInMarks op b = false) : PD X (.Compare a [op] [b] pos) (dBin r ta tb) :=
  imp_pe (pe_cmpR ho ha hb hm) fun _ _ _ h => up_bin hr h
/-- a test by a value that is a bool -/
def dTest (t : DE) : DT := fun δ G Q => t δ G fun d G' => match d with
  | .bl b => Q b G'
  | _ => False
theorem up_test {K : PySem.W.Frag} {t : DE} {σ : L2.St} {H : Hp} {Q : Bool → Hp → Prop} (h : upT K (dTest t) σ H Q) : tTest (up K t) σ H Q := by
  obtain ⟨δ, G, Q', rs, rh, h, k⟩ := h
  refine ⟨δ, G, _, rs, rh, h, fun v H1 ⟨x, G1, h1, f1, rx, rh1⟩ => ?_⟩
  cases rx with
  | bl b => exact ⟨b, rfl, k _ _ ⟨G1, h1, f1, rh1⟩⟩
  | _ => exact h1.elim
theorem imp_cmpT {op : CmpOp} {r : DR2} {r' : R2} {a b : Expr} {ta tb : DE} (ho : OpR X (compareOp op) r') (hr : Up2 X.K r r') (ha : PD X a ta) (hb : PD X b tb) (hm : behindInMarks op b = false) : PDT X (.Compare a [op] [b] pos) (dTest (dBin r ta tb)) :=
  imp_pt (pt_cmpR ho ha hb hm) fun σ H Q h => by
    have q := up_test h
    obtain ⟨δ, G, Q', rs, rh, h, k⟩ := q
    exact up_bin hr ⟨δ, G, Q', rs, rh, h, k⟩
/-! #### lists of arguments -/
def dNil : DA := fun _ G Q => Q [] G
def dCons (t : DE) (ts : DA) : DA := fun δ G Q => t δ G fun d G1 => ts δ G1 fun ds G2 => Q (d :: ds) G2
end
end D3

set_option Elab.async false
set_option linter.all false
set_option maxRecDepth 100000
set_option maxHeartbeats 4000000
namespace D3
open PySem PySem.Spec PyProof.Rows L2

/-! ### equality of data -/
mutual
def D.dec : (a b : D) → Decidable (a = b)
  | .non, .non => .isTrue rfl
  | .bl a, .bl b => if h : a = b then .isTrue (by rw [h]) else .isFalse fun e => h (D.bl.inj e)
  | .int a, .int b => if h : a = b then .isTrue (by rw [h]) else .isFalse fun e => h (D.int.inj e)
  | .str a, .str b => if h : a = b then .isTrue (by rw [h]) else .isFalse fun e => h (D.str.inj e)
  | .ty a, .ty b => if h : a = b then .isTrue (by rw [h]) else .isFalse fun e => h (D.ty.inj e)
  | .ref a, .ref b => if h : a = b then .isTrue (by rw [h]) else .isFalse fun e => h (D.ref.inj e)
  | .tup a, .tup b => match D.decL a b with
    | .isTrue h => .isTrue (by rw [h])
    | .isFalse h => .isFalse fun e => h (D.tup.inj e)
  | .ctu a, .ctu b => match D.decL a b with
    | .isTrue h => .isTrue (by rw [h])
    | .isFalse h => .isFalse fun e => h (D.ctu.inj e)
  | .lro a, .lro b => match D.decL a b with
    | .isTrue h => .isTrue (by rw [h])
    | .isFalse h => .isFalse fun e => h (D.lro.inj e)
  | .non, .bl _ | .non, .int _ | .non, .str _ | .non, .ty _ | .non, .ref _ | .non, .tup _ | .non, .ctu _ | .non, .lro _ => .isFalse fun e => nomatch e
  | .bl _, .non | .bl _, .int _ | .bl _, .str _ | .bl _, .ty _ | .bl _, .ref _ | .bl _, .tup _ | .bl _, .ctu _ | .bl _, .lro _ => .isFalse fun e => nomatch e
  | .int _, .non | .int _, .bl _ | .int _, .str _ | .int _, .ty _ | .int _, .ref _ | .int _, .tup _ | .int _, .ctu _ | .int _, .lro _ => .isFalse fun e => nomatch e
  | .str _, .non | .str _, .bl _ | .str _, .int _ | .str _, .ty _ | .str _, .ref _ | .str _, .tup _ | .str _, .ctu _ | .str _, .lro _ => .isFalse fun e => nomatch e
  | .ty _, .non | .ty _, .bl _ | .ty _, .int _ | .ty _, .str _ | .ty _, .ref _ | .ty _, .tup _ | .ty _, .ctu _ | .ty _, .lro _ => .isFalse fun e => nomatch e
  | .ref _, .non | .ref _, .bl _ | .ref _, .int _ | .ref _, .str _ | .ref _, .ty _ | .ref _, .tup _ | .ref _, .ctu _ | .ref _, .lro _ => .isFalse fun e => nomatch e
  | .tup _, .non | .tup _, .bl _ | .tup _, .int _ | .tup _, .str _ | .tup _, .ty _ | .tup _, .ref _ | .tup _, .ctu _ | .tup _, .lro _ => .isFalse fun e => nomatch e
  | .ctu _, .non | .ctu _, .bl _ | .ctu _, .int _ | .ctu _, .str _ | .ctu _, .ty _ | .ctu _, .ref _ | .ctu _, .tup _ | .ctu _, .lro _ => .isFalse fun e => nomatch e
  | .lro _, .non | .lro _, .bl _ | .lro _, .int _ | .lro _, .str _ | .lro _, .ty _ | .lro _, .ref _ | .lro _, .tup _ | .lro _, .ctu _ => .isFalse fun e => nomatch e
def D.decL : (a b : List D) → Decidable (a = b)
  | [], [] => .isTrue rfl
  | [], _ :: _ => .isFalse fun e => nomatch e
  | _ :: _, [] => .isFalse fun e => nomatch e
  | a :: as, b :: bs => match D.dec a b with
    | .isFalse h => .isFalse fun e => h (List.cons.inj e).1
    | .isTrue h => match D.decL as bs with
      | .isFalse k => .isFalse fun e => k (List.cons.inj e).2
      | .isTrue k => .isTrue (by rw [h, k])
end
instance : DecidableEq D := D.dec
/-! what data looks like to ==: through lists, too -/
mutual
inductive Dt (G : DH) : D → PyData → Prop
  | non : Dt G .non .none
  | bl (b : Bool) : Dt G (.bl b) (.bool b)
  | int (i : Int) : Dt G (.int i) (.int i)
  | str (x : Str) : Dt G (.str x) (.str x)
  | tup {ds : List D} {ps : List PyData} : DtL G ds ps → Dt G (.tup ds) (.tuple ps)
  | lst {a : Addr} {ds : List D} {ps : List PyData} : G a = some (.lst ds) → DtL G ds ps → Dt G (.ref a) (.list ps)
  | lro {ds : List D} {ps : List PyData} : DtL G ds ps → Dt G (.lro ds) (.list ps)
inductive DtL (G : DH) : List D → List PyData → Prop
  | nil : DtL G [] []
  | cons {d : D} {ds : List D} {p : PyData} {ps : List PyData} : Dt G d p → DtL G ds ps → DtL G (d :: ds) (p :: ps)
end
mutual
/-- the same of what has no list within -/
def D.py : D → PyData
  | .non => .none
  | .bl b => .bool b
  | .int i => .int i
  | .str x => .str x
  | .tup ds => .tuple (D.pyL ds)
  | _ => .none
def D.pyL : List D → List PyData
  | [] => []
  | d :: ds => d.py :: D.pyL ds
end
mutual
/-- texts, numbers, None, and tuples of such -/
def D.nb : D → Bool
  | .non => true
  | .int _ => true
  | .str x => PyData.strOk x
  | .tup ds => D.nbL ds
  | _ => false
def D.nbL : List D → Bool
  | [] => true
  | d :: ds => d.nb && D.nbL ds
end
mutual
def D.dep : D → Nat
  | .tup ds => D.depL ds + 1
  | _ => 0
def D.depL : List D → Nat
  | [] => 0
  | d :: ds => max d.dep (D.depL ds)
end
mutual
theorem dt_nb (G : DH) : ∀ {d : D}, d.nb = true → Dt G d d.py
  | .non, _ => .non
  | .int i, _ => .int i
  | .str x, _ => .str x
  | .tup ds, h => .tup (dtL_nb G (ds := ds) h)
  | .bl _, h => nomatch h
  | .ty _, h => nomatch h
  | .ref _, h => nomatch h
  | .ctu _, h => nomatch h
  | .lro _, h => nomatch h
theorem dtL_nb (G : DH) : ∀ {ds : List D}, D.nbL ds = true → DtL G ds (D.pyL ds)
  | [], _ => .nil
  | d :: ds, h => by
    have h' : (d.nb && D.nbL ds) = true := h
    rw [Bool.and_eq_true] at h'
    exact .cons (dt_nb G h'.1) (dtL_nb G h'.2)
end
mutual
theorem lay_nb : ∀ {d : D}, d.nb = true → d.py.canLay0 = true
  | .non, _ => rfl
  | .int i, _ => rfl
  | .str x, h => h
  | .tup ds, h => layL_nb (ds := ds) h
  | .bl _, h => nomatch h
  | .ty _, h => nomatch h
  | .ref _, h => nomatch h
  | .ctu _, h => nomatch h
  | .lro _, h => nomatch h
theorem layL_nb : ∀ {ds : List D}, D.nbL ds = true → PyData.canLayAll0 (D.pyL ds) = true
  | [], _ => rfl
  | d :: ds, h => by
    have h' : (d.nb && D.nbL ds) = true := h
    rw [Bool.and_eq_true] at h'
    show (d.py.canLay0 && PyData.canLayAll0 (D.pyL ds)) = true
    rw [Bool.and_eq_true]
    exact ⟨lay_nb h'.1, layL_nb h'.2⟩
end
mutual
theorem dep_py : ∀ d : D, d.py.depth = d.dep
  | .non => rfl
  | .int i => rfl
  | .str x => rfl
  | .tup ds => by
    show PyData.depth (.tuple (D.pyL ds)) = D.depL ds + 1
    rw [PyData.depth, depL_py ds]
  | .bl _ => rfl
  | .ty _ => rfl
  | .ref _ => rfl
  | .ctu _ => rfl
  | .lro _ => rfl
theorem depL_py : ∀ ds : List D, PyData.depthAll (D.pyL ds) = D.depL ds
  | [] => rfl
  | d :: ds => by
    show PyData.depthAll (d.py :: D.pyL ds) = max d.dep (D.depL ds)
    rw [PyData.depthAll, dep_py d, depL_py ds]
end
mutual
theorem eqv_nb : ∀ (a b : D), a.nb = true → b.nb = true → PyData.eqv a.py b.py = decide (a = b)
  | .non, .non, _, _ => by simp [D.py, PyData.eqv]
  | .int i, .int j, _, _ => by
    show (i == j) = _
    by_cases h : i = j
    · subst h; simp
    · rw [decide_eq_false (fun e => h (D.int.inj e))]; exact beq_eq_false_iff_ne.mpr h
  | .str i, .str j, _, _ => by
    show (i == j) = _
    by_cases h : i = j
    · subst h; simp
    · rw [decide_eq_false (fun e => h (D.str.inj e))]; exact beq_eq_false_iff_ne.mpr h
  | .tup a, .tup b, h, k => by
    show PyData.eqvAll (D.pyL a) (D.pyL b) = _
    rw [eqvL_nb a b h k]
    by_cases e : a = b
    · subst e; simp
    · rw [decide_eq_false e, decide_eq_false (fun q => e (D.tup.inj q))]
  | .non, .int _, _, _ | .non, .str _, _, _ | .non, .tup _, _, _ => by rw [decide_eq_false (fun e => nomatch e)]; rfl
  | .int _, .non, _, _ | .int _, .str _, _, _ | .int _, .tup _, _, _ => by rw [decide_eq_false (fun e => nomatch e)]; rfl
  | .str _, .non, _, _ | .str _, .int _, _, _ | .str _, .tup _, _, _ => by rw [decide_eq_false (fun e => nomatch e)]; rfl
  | .tup _, .non, _, _ | .tup _, .int _, _, _ | .tup _, .str _, _, _ => by rw [decide_eq_false (fun e => nomatch e)]; rfl
  | .bl _, _, h, _ => nomatch h
  | .ty _, _, h, _ => nomatch h
  | .ref _, _, h, _ => nomatch h
  | .ctu _, _, h, _ => nomatch h
  | .lro _, _, h, _ => nomatch h
  | _, .bl _, _, h => nomatch h
  | _, .ty _, _, h => nomatch h
  | _, .ref _, _, h => nomatch h
  | _, .ctu _, _, h => nomatch h
  | _, .lro _, _, h => nomatch h
theorem eqvL_nb : ∀ (a b : List D), D.nbL a = true → D.nbL b = true → PyData.eqvAll (D.pyL a) (D.pyL b) = decide (a = b)
  | [], [], _, _ => rfl
  | [], _ :: _, _, _ => by rw [decide_eq_false (fun e => nomatch e)]; rfl
  | _ :: _, [], _, _ => by rw [decide_eq_false (fun e => nomatch e)]; rfl
  | a :: as, b :: bs, h, k => by
    have h' : (a.nb && D.nbL as) = true := h
    have k' : (b.nb && D.nbL bs) = true := k
    rw [Bool.and_eq_true] at h' k'
    show PyData.eqvAll (a.py :: D.pyL as) (b.py :: D.pyL bs) = _
    rw [PyData.eqvAll, eqv_nb a b h'.1 k'.1, eqvL_nb as bs h'.2 k'.2]
    by_cases e1 : a = b
    · by_cases e2 : as = bs
      · subst e1; subst e2; simp
      · rw [decide_eq_false e2, decide_eq_false (fun q => e2 (List.cons.inj q).2), Bool.and_false]
    · rw [decide_eq_false e1, decide_eq_false (fun q => e1 (List.cons.inj q).1), Bool.false_and]
end
theorem nb_shaped {d : D} (h : d.nb = true) (k : d.dep ≤ 64) : SeqAt.shaped d.py = true := by
  show (d.py.canLay0 && decide (d.py.depth ≤ 64)) = true
  rw [Bool.and_eq_true, dep_py]
  exact ⟨lay_nb h, decide_eq_true k⟩
section
variable {K : PySem.W.Frag} {H : Hp} {G : DH}
mutual
theorem dp_of (r : RepH K H G) : ∀ {d : D} {p : PyData} {v : V}, Dt G d p → Rp K H v d → Dp K H v p
  | _, _, _, .non, .non => .non
  | _, _, _, .bl b, .bl _ => .bl b
  | _, _, _, .int i, .int _ => .int i
  | _, _, _, .str x, .str _ => .str x
  | _, _, _, .tup h, .tup s l => .tup (SqT.of s) (dpL_of r h l)
  | _, _, _, .lst e h, rv => by
    cases rv with
    | ref b =>
      obtain ⟨xs, hx, l⟩ := r _ _ e
      exact .lst (SqL.of hx) (dpL_of r h l)
  | _, _, _, .lro h, .lro s l => .lst s.sq (dpL_of r h l)
theorem dpL_of (r : RepH K H G) : ∀ {ds : List D} {ps : List PyData} {vs : List V}, DtL G ds ps → RpL K H vs ds → DpAll K H vs ps
  | _, _, _, .nil, .nil => .nil
  | _, _, _, .cons h t, .cons q l => .cons (dp_of r h q) (dpL_of r t l)
end
end

/-! ### operators by values -/
def dAdd : DR2 := fun x y G Q => match x, y with
  | .int i, .int j => Q (.int (i + j)) G
  | .str a, .str b => a.length + b.length ≤ sizeLine ∧ Q (.str (a ++ b)) G
  | .tup a, .tup b => a.length + b.length ≤ sizeLine ∧ Q (.tup (a ++ b)) G
  | .ref a, .ref b => ∃ xs ys, G a = some (.lst xs) ∧ G b = some (.lst ys) ∧ xs.length + ys.length ≤ sizeLine ∧ ∀ p, G p = none → Q (.ref p) (put G p (.lst (xs ++ ys)))
  | _, _ => False
def dSub : DR2 := fun x y G Q => match x, y with
  | .int i, .int j => Q (.int (i - j)) G
  | _, _ => False
def dMul : DR2 := fun x y G Q => match x, y with
  | .int i, .int j => ((-(2 ^ 64) < i ∧ i < 2 ^ 64) ∨ (-(2 ^ 64) < j ∧ j < 2 ^ 64)) ∧ Q (.int (i * j)) G
  | _, _ => False
def dMod : DR2 := fun x y G Q => match x, y with
  | .int i, .int j => 0 < j ∧ Q (.int (i % j)) G
  | _, _ => False
def dFdiv : DR2 := fun x y G Q => match x, y with
  | .int i, .int j => (0 < j ∧ j < 1073741824) ∧ Q (.int (i / j)) G
  | _, _ => False
def dPow : DR2 := fun x y G Q => match x, y with
  | .int i, .int j => (0 ≤ j ∧ j ≤ 1000000 ∧ i.natAbs < 2 ^ 64) ∧ Q (.int (i ^ j.toNat)) G
  | _, _ => False
section
variable {X : Cx}
theorem end_q {K : PySem.W.Frag} {H : Hp} {G : DH} {Q : DQ} {Qv : VK} {v : V} {d : D} (k : ∀ u H', upQ K H G Q u H' → Qv u H') (q : Q d G) (r : Rp K H v d) (rh : RepH K H G) : Qv v H := k _ _ ⟨d, G, q, Fm.refl _ _, r, rh⟩
theorem end_new {K : PySem.W.Frag} {H : Hp} {G : DH} {Q : DQ} {Qv : VK} {p : Addr} {o : HO} {o' : DO} (k : ∀ u H', upQ K H G Q u H' → Qv u H') (hp : H p = none) (rh : RepH K H G) (ho : RepO K (upd H p o) p o') (q : G p = none → Q (.ref p) (put G p o')) : Qv (.ref p) (upd H p o) :=
  k _ _ ⟨.ref p, put G p o', q (rh.free hp), fm_new hp o', .ref p, rh.new hp ho⟩
theorem end_tup {K : PySem.W.Frag} {H : Hp} {G : DH} {Q : DQ} {Qv : VK} {p : Addr} {xs : List V} {ds : List D} (k : ∀ u H', upQ K H G Q u H' → Qv u H') (hp : H p = none) (rh : RepH K H G) (r : RpL K H xs ds) (q : Q (.tup ds) G) : Qv (.ref p) (upd H p (.tup xs)) := by
  have f : Fm H G (upd H p (.tup xs)) G := fm_new' hp
  exact k _ _ ⟨.tup ds, G, q, f, .tup upd_same (r.fm rh f), rh.new' hp⟩
theorem rep_lst {K : PySem.W.Frag} {H : Hp} {G : DH} {p : Addr} {xs : List V} {ds : List D} (hp : H p = none) (rh : RepH K H G) (r : RpL K H xs ds) : RepO K (upd H p (.lst xs)) p (.lst ds) :=
  ⟨xs, upd_same, r.fm rh (fm_new' hp)⟩
theorem len_eq {K : PySem.W.Frag} {H : Hp} {xs ys : List V} {as bs : List D} (r : RpL K H xs as) (s : RpL K H ys bs) {n : Nat} (h : as.length + bs.length ≤ n) : xs.length + ys.length ≤ n := by rw [r.length, s.length]; exact h
theorem up_add {K : PySem.W.Frag} : Up2 K dAdd (fun x y H Q => rI0 (fun i j => .int (i + j)) x y H Q ∨ ((∃ i j, x = .str i ∧ y = .str j ∧ i.length + j.length ≤ sizeLine ∧ Q (.str (i ++ j)) H) ∨ (rCatA K x y H Q ∨ rCat x y H Q))) := by
  intro x y v w H G Q Qv h rx ry rh k
  cases rx with
  | int i =>
    cases ry with
    | int j => exact .inl ⟨i, j, rfl, rfl, end_q k h (.int _) rh⟩
    | _ => exact h.elim
  | str a =>
    cases ry with
    | str b => exact .inr (.inl ⟨a, b, rfl, rfl, h.1, end_q k h.2 (.str _) rh⟩)
    | _ => exact h.elim
  | tup s l =>
    rename_i a xs as
    cases ry with
    | tup s' l' =>
      rename_i b ys bs
      refine .inr (.inr (.inl ⟨a, b, xs, ys, rfl, rfl, SqT.of s, SqT.of s', len_eq l l' h.1, fun e => ?_, fun _ e => ?_, fun _ _ p hp => ?_⟩))
      · subst e
        cases l
        exact end_q k h.2 (.tup s' l') rh
      · subst e
        cases l'
        have q := h.2
        rw [List.append_nil] at q
        exact end_q k q (.tup s l) rh
      · exact end_tup k hp rh (l.append l') h.2
    | _ => exact h.elim
  | ref a =>
    cases ry with
    | ref b =>
      obtain ⟨xs, ys, ea, eb, hl, q⟩ := h
      obtain ⟨vs, ha, la⟩ := rh a _ ea
      obtain ⟨ws, hb, lb⟩ := rh b _ eb
      exact .inr (.inr (.inr ⟨a, b, vs, ws, rfl, rfl, ha, hb, len_eq la lb hl, fun p hp => end_new k hp rh (rep_lst hp rh (la.append lb)) (q p)⟩))
    | _ => exact h.elim
  | _ => exact h.elim
theorem up_sub {K : PySem.W.Frag} : Up2 K dSub (rI0 fun i j => .int (i - j)) := by
  intro x y v w H G Q Qv h rx ry rh k
  cases rx with
  | int i =>
    cases ry with
    | int j => exact ⟨i, j, rfl, rfl, end_q k h (.int _) rh⟩
    | _ => exact h.elim
  | _ => exact h.elim
theorem up_mul {K : PySem.W.Frag} : Up2 K dMul (rI CMul fun i j => .int (i * j)) := by
  intro x y v w H G Q Qv h rx ry rh k
  cases rx with
  | int i =>
    cases ry with
    | int j => exact ⟨i, j, rfl, rfl, h.1, end_q k h.2 (.int _) rh⟩
    | _ => exact h.elim
  | _ => exact h.elim
theorem up_mod {K : PySem.W.Frag} : Up2 K dMod (rI (fun _ j => 0 < j) fun i j => .int (i % j)) := by
  intro x y v w H G Q Qv h rx ry rh k
  cases rx with
  | int i =>
    cases ry with
    | int j => exact ⟨i, j, rfl, rfl, h.1, end_q k h.2 (.int _) rh⟩
    | _ => exact h.elim
  | _ => exact h.elim
theorem up_fdiv {K : PySem.W.Frag} : Up2 K dFdiv (rI CDiv fun i j => .int (i / j)) := by
  intro x y v w H G Q Qv h rx ry rh k
  cases rx with
  | int i =>
    cases ry with
    | int j => exact ⟨i, j, rfl, rfl, h.1, end_q k h.2 (.int _) rh⟩
    | _ => exact h.elim
  | _ => exact h.elim
theorem up_pow {K : PySem.W.Frag} : Up2 K dPow (rI CPow fun i j => .int (i ^ j.toNat)) := by
  intro x y v w H G Q Qv h rx ry rh k
  cases rx with
  | int i =>
    cases ry with
    | int j => exact ⟨i, j, rfl, rfl, h.1, end_q k h.2 (.int _) rh⟩
    | _ => exact h.elim
  | _ => exact h.elim
section
variable {pos : Pos} {a b : Expr} {ta tb : DE}
theorem pd_add (ha : PD X a ta) (hb : PD X b tb) : PD X (.BinOp a .Add b pos) (dBin dAdd ta tb) := pd_op (op_add.or (op_add_str.or (op_catA.or op_cat))) up_add ha hb
theorem pd_sub (ha : PD X a ta) (hb : PD X b tb) : PD X (.BinOp a .Sub b pos) (dBin dSub ta tb) := pd_op op_sub up_sub ha hb
theorem pd_mul (ha : PD X a ta) (hb : PD X b tb) : PD X (.BinOp a .Mult b pos) (dBin dMul ta tb) := pd_op op_mul up_mul ha hb
theorem pd_mod (ha : PD X a ta) (hb : PD X b tb) : PD X (.BinOp a .Mod b pos) (dBin dMod ta tb) := pd_op op_mod up_mod ha hb
theorem pd_fdiv (ha : PD X a ta) (hb : PD X b tb) : PD X (.BinOp a .FloorDiv b pos) (dBin dFdiv ta tb) := pd_op op_fdiv up_fdiv ha hb
theorem pd_pow (ha : PD X a ta) (hb : PD X b tb) : PD X (.BinOp a .Pow b pos) (dBin dPow ta tb) := pd_op op_pow up_pow ha hb
end

/-! ### comparisons -/
def dEqG (n : Bool) : DR2 := fun x y G Q => match x, y with
  | .int i, .int j => Q (.bl (n ^^ decide (i = j))) G
  | .str i, .str j => Q (.bl (n ^^ decide (i = j))) G
  | .bl i, .bl j => Q (.bl (n ^^ decide (i = j))) G
  | _, _ => ∃ p q, Dt G x p ∧ Dt G y q ∧ SeqAt.shaped p = true ∧ SeqAt.shaped q = true ∧ Q (.bl (n ^^ PyData.eqv p q)) G
abbrev dEq : DR2 := dEqG false
abbrev dNe : DR2 := dEqG true
theorem xor_f {b : Bool} : (false ^^ b) = b := by cases b <;> rfl
theorem xor_t {b : Bool} : (true ^^ b) = !b := by cases b <;> rfl
theorem up_eq {K : PySem.W.Frag} : Up2 K dEq (fun x y H Q => rEq x y H Q ∨ rEqD K x y H Q) := by
  intro x y v w H G Q Qv h rx ry rh k
  by_cases c : (∃ i j, x = .int i ∧ y = .int j) ∨ (∃ i j, x = .str i ∧ y = .str j) ∨ (∃ i j, x = .bl i ∧ y = .bl j)
  · rcases c with ⟨i, j, rfl, rfl⟩ | ⟨i, j, rfl, rfl⟩ | ⟨i, j, rfl, rfl⟩
    · cases rx; cases ry
      refine .inl ⟨rfl, ?_⟩
      have e : (false ^^ decide (i = j)) = decide (V.int i = V.int j) := by rw [xor_f]; by_cases q : i = j <;> simp [q]
      rw [← e]; exact end_q k h (.bl _) rh
    · cases rx; cases ry
      refine .inl ⟨rfl, ?_⟩
      have e : (false ^^ decide (i = j)) = decide (V.str i = V.str j) := by rw [xor_f]; by_cases q : i = j <;> simp [q]
      rw [← e]; exact end_q k h (.bl _) rh
    · cases rx; cases ry
      refine .inl ⟨rfl, ?_⟩
      have e : (false ^^ decide (i = j)) = decide (V.bl i = V.bl j) := by rw [xor_f]; by_cases q : i = j <;> simp [q]
      rw [← e]; exact end_q k h (.bl _) rh
  · have h' : ∃ p q, Dt G x p ∧ Dt G y q ∧ SeqAt.shaped p = true ∧ SeqAt.shaped q = true ∧ Q (.bl (false ^^ PyData.eqv p q)) G := by
      unfold dEq dEqG at h
      split at h
      · exact absurd (.inl ⟨_, _, rfl, rfl⟩) c
      · exact absurd (.inr (.inl ⟨_, _, rfl, rfl⟩)) c
      · exact absurd (.inr (.inr ⟨_, _, rfl, rfl⟩)) c
      · exact h
    obtain ⟨p, q, hp, hq, s1, s2, z⟩ := h'
    rw [xor_f] at z
    exact .inr ⟨p, q, dp_of rh hp rx, dp_of rh hq ry, s1, s2, end_q k z (.bl _) rh⟩
theorem up_ne {K : PySem.W.Frag} : Up2 K dNe (fun x y H Q => rNe x y H Q ∨ rNeD K x y H Q) := by
  intro x y v w H G Q Qv h rx ry rh k
  by_cases c : (∃ i j, x = .int i ∧ y = .int j) ∨ (∃ i j, x = .str i ∧ y = .str j) ∨ (∃ i j, x = .bl i ∧ y = .bl j)
  · rcases c with ⟨i, j, rfl, rfl⟩ | ⟨i, j, rfl, rfl⟩ | ⟨i, j, rfl, rfl⟩
    · cases rx; cases ry
      refine .inl ⟨rfl, ?_⟩
      have e : (true ^^ decide (i = j)) = !decide (V.int i = V.int j) := by rw [xor_t]; by_cases q : i = j <;> simp [q]
      rw [← e]; exact end_q k h (.bl _) rh
    · cases rx; cases ry
      refine .inl ⟨rfl, ?_⟩
      have e : (true ^^ decide (i = j)) = !decide (V.str i = V.str j) := by rw [xor_t]; by_cases q : i = j <;> simp [q]
      rw [← e]; exact end_q k h (.bl _) rh
    · cases rx; cases ry
      refine .inl ⟨rfl, ?_⟩
      have e : (true ^^ decide (i = j)) = !decide (V.bl i = V.bl j) := by rw [xor_t]; by_cases q : i = j <;> simp [q]
      rw [← e]; exact end_q k h (.bl _) rh
  · have h' : ∃ p q, Dt G x p ∧ Dt G y q ∧ SeqAt.shaped p = true ∧ SeqAt.shaped q = true ∧ Q (.bl (true ^^ PyData.eqv p q)) G := by
      unfold dNe dEqG at h
      split at h
      · exact absurd (.inl ⟨_, _, rfl, rfl⟩) c
      · exact absurd (.inr (.inl ⟨_, _, rfl, rfl⟩)) c
      · exact absurd (.inr (.inr ⟨_, _, rfl, rfl⟩)) c
      · exact h
    obtain ⟨p, q, hp, hq, s1, s2, z⟩ := h'
    rw [xor_t] at z
    exact .inr ⟨p, q, dp_of rh hp rx, dp_of rh hq ry, s1, s2, end_q k z (.bl _) rh⟩
def dCmp (f : Int → Int → Bool) : DR2 := fun x y G Q => match x, y with
  | .int i, .int j => Q (.bl (f i j)) G
  | _, _ => False
abbrev dLt : DR2 := dCmp fun i j => decide (i < j)
abbrev dLe : DR2 := dCmp fun i j => decide (i ≤ j)
abbrev dGt : DR2 := dCmp fun i j => decide (j < i)
abbrev dGe : DR2 := dCmp fun i j => decide (j ≤ i)
theorem up_ord {K : PySem.W.Frag} {f : Int → Int → Bool} : Up2 K (dCmp f) (rI0 fun i j => .bl (f i j)) := by
  intro x y v w H G Q Qv h rx ry rh k
  cases rx with
  | int i =>
    cases ry with
    | int j => exact ⟨i, j, rfl, rfl, end_q k h (.bl _) rh⟩
    | _ => exact h.elim
  | _ => exact h.elim
/-- is None, is not None -/
def dIsN (n : Bool) : DR2 := fun x y G Q => match x, y with
  | .non, .non => Q (.bl (n ^^ true)) G
  | _, .non => Q (.bl (n ^^ false)) G
  | _, _ => False
theorem isN_q {n : Bool} {x : D} {G : DH} {Q : DQ} (h : dIsN n x .non G Q) : Q (.bl (n ^^ decide (x = .non))) G := by
  cases x <;> first | exact h | (rw [decide_eq_false (fun e => nomatch e)]; exact h)
theorem isN_y {n : Bool} {x y : D} {G : DH} {Q : DQ} (h : dIsN n x y G Q) : y = .non := by
  unfold dIsN at h
  split at h
  · rfl
  · rfl
  · exact h.elim
theorem rp_non {K : PySem.W.Frag} {H : Hp} {v : V} {d : D} (r : Rp K H v d) : decide (v = .non) = decide (d = .non) := by
  cases r <;> first | rfl | (rw [decide_eq_false (fun e => nomatch e), decide_eq_false (fun e => nomatch e)])
theorem up_is {K : PySem.W.Frag} : Up2 K (dIsN false) (fun x y H Q => y = .non ∧ Q (.bl (decide (x = .non))) H) := by
  intro x y v w H G Q Qv h rx ry rh k
  have e := isN_y h
  subst e
  cases ry
  have q := isN_q h
  rw [xor_f] at q
  exact ⟨rfl, by rw [rp_non rx]; exact end_q k q (.bl _) rh⟩
theorem up_isnot {K : PySem.W.Frag} : Up2 K (dIsN true) (fun x y H Q => y = .non ∧ Q (.bl (!decide (x = .non))) H) := by
  intro x y v w H G Q Qv h rx ry rh k
  have e := isN_y h
  subst e
  cases ry
  have q := isN_q h
  rw [xor_t] at q
  exact ⟨rfl, by rw [rp_non rx]; exact end_q k q (.bl _) rh⟩
end
end D3

set_option Elab.async false
set_option linter.all false
set_option maxRecDepth 100000
set_option maxHeartbeats 4000000
namespace D3
open PySem PySem.Spec PyProof.Rows L2

/-! ### dicts, as lists of pairs -/
def dval (kvs : List (D × D)) (k : D) : Option D := (kvs.find? fun p => decide (p.1 = k)).map (·.2)
def dput (kvs : List (D × D)) (k v : D) : List (D × D) := if (kvs.any fun p => decide (p.1 = k)) = true then kvs.map fun p => if p.1 = k then (p.1, v) else p else kvs ++ [(k, v)]
def ddrop (kvs : List (D × D)) (k : D) : List (D × D) := kvs.filter fun p => decide (p.1 ≠ k)
def D.key : D → Option Key
  | .int i => some (.inl i)
  | .str x => some (.inr x)
  | _ => none
def D.keyL : List D → Option (List Key)
  | [] => some []
  | d :: ds => match d.key, D.keyL ds with
    | some k, some ks => some (k :: ks)
    | _, _ => none
def keyOk : DK → D → Prop
  | .k, d => d.key.isSome = true
  | .t, .tup ds => (D.keyL ds).isSome = true
  | .t, _ => False
theorem key_kD {d : D} {k : Key} (h : d.key = some k) : d = kD k := by
  cases d <;> first | (cases h; rfl) | cases h
theorem kD_key (k : Key) : (kD k).key = some k := by cases k <;> rfl
theorem kD_inj {a b : Key} (h : kD a = kD b) : a = b := by
  have q := congrArg D.key h
  rw [kD_key, kD_key] at q
  exact Option.some.inj q
theorem keyL_kD : ∀ {ds : List D} {ks : List Key}, D.keyL ds = some ks → ds = ks.map kD
  | [], ks, h => by cases h; rfl
  | d :: ds, ks, h => by
    unfold D.keyL at h
    cases e1 : d.key with
    | none => rw [e1] at h; cases h
    | some k =>
      cases e2 : D.keyL ds with
      | none => rw [e1, e2] at h; cases h
      | some ks' =>
        rw [e1, e2] at h
        cases h
        rw [List.map_cons, ← key_kD e1, ← keyL_kD e2]
theorem kDs_inj : ∀ {a b : List Key}, a.map kD = b.map kD → a = b
  | [], [], _ => rfl
  | [], _ :: _, h => nomatch h
  | _ :: _, [], h => nomatch h
  | a :: as, b :: bs, h => by
    rw [List.map_cons, List.map_cons] at h
    rw [kD_inj (List.cons.inj h).1, kDs_inj (List.cons.inj h).2]
theorem tupkD_inj {a b : List Key} (h : D.tup (a.map kD) = D.tup (b.map kD)) : a = b := kDs_inj (D.tup.inj h)
section
variable {K : PySem.W.Frag} {H : Hp} {G : DH}
theorem rp_key {k : Key} {v : V} (r : Rp K H v (kD k)) : v = kV k := by
  cases k with
  | inl i => cases r; rfl
  | inr x => cases r; rfl
theorem rp_keys : ∀ {ks : List Key} {vs : List V}, RpL K H vs (ks.map kD) → vs = ks.map kV
  | [], _, h => by cases h; rfl
  | k :: ks, _, h => by
    cases h with
    | cons h t => rw [List.map_cons, ← rp_key h, ← rp_keys t]
/-- the pairs below, by a key's picture f -/
abbrev Prs {κ : Type} (K : PySem.W.Frag) (H : Hp) (f : κ → D) (ks : List (κ × V)) (kvs : List (D × D)) : Prop := Paired (fun (p : κ × V) (q : D × D) => q.1 = f p.1 ∧ Rp K H p.2 q.2) ks kvs
variable {κ : Type} [DecidableEq κ] {f : κ → D}
theorem prs_val (hf : ∀ {a b}, f a = f b → a = b) {ks : List (κ × V)} {kvs : List (D × D)} (r : Prs K H f ks kvs) (k : κ) :
    match dval kvs (f k) with
    | some d => ∃ v, valV ks k = some v ∧ Rp K H v d
    | none => valV ks k = none := by
  induction r with
  | nil => exact rfl
  | cons h t ih =>
    rename_i p q _ _
    obtain ⟨e, rv⟩ := h
    by_cases c : p.1 = k
    · have c2 : q.1 = f k := by rw [e, c]
      have e1 : ∀ l, dval (q :: l) (f k) = some q.2 := fun l => by unfold dval; rw [List.find?_cons, decide_eq_true c2]; rfl
      rw [e1]
      exact ⟨p.2, valV_pos c, rv⟩
    · have c2 : ¬ q.1 = f k := fun z => c (hf (e.symm.trans z))
      have e1 : ∀ l, dval (q :: l) (f k) = dval l (f k) := fun l => by unfold dval; rw [List.find?_cons, decide_eq_false c2]
      rw [e1, valV_neg c]
      exact ih
theorem prs_len {ks : List (κ × V)} {kvs : List (D × D)} (r : Prs K H f ks kvs) : ks.length = kvs.length := Paired.length r
theorem prs_any (hf : ∀ {a b}, f a = f b → a = b) {ks : List (κ × V)} {kvs : List (D × D)} (r : Prs K H f ks kvs) (k : κ) : (ks.any fun p => decide (p.1 = k)) = kvs.any fun p => decide (p.1 = f k) := by
  induction r with
  | nil => rfl
  | cons h t ih =>
    rename_i p q _ _
    rw [List.any_cons, List.any_cons, ih]
    have e : decide (p.1 = k) = decide (q.1 = f k) := by
      by_cases c : p.1 = k
      · rw [decide_eq_true c, decide_eq_true (by rw [h.1, c])]
      · rw [decide_eq_false c, decide_eq_false (fun z => c (hf (h.1.symm.trans z)))]
    rw [e]
theorem prs_app {ks ls : List (κ × V)} {kvs lvs : List (D × D)} (r : Prs K H f ks kvs) (s : Prs K H f ls lvs) : Prs K H f (ks ++ ls) (kvs ++ lvs) := by
  induction r with
  | nil => exact s
  | cons h t ih => exact .cons h ih
theorem prs_map (hf : ∀ {a b}, f a = f b → a = b) (k : κ) {v : V} {d : D} (rv : Rp K H v d) {ks : List (κ × V)} {kvs : List (D × D)} (r : Prs K H f ks kvs) :
    Prs K H f (ks.map fun kv => if kv.1 = k then (kv.1, v) else kv) (kvs.map fun p => if p.1 = f k then (p.1, d) else p) := by
  induction r with
  | nil => exact .nil
  | cons h t ih =>
    rename_i p q _ _
    refine .cons ?_ ih
    dsimp only
    by_cases c : p.1 = k
    · have c2 : q.1 = f k := by rw [h.1, c]
      rw [if_pos c, if_pos c2]
      exact ⟨h.1, rv⟩
    · have c2 : ¬ q.1 = f k := fun z => c (hf (h.1.symm.trans z))
      rw [if_neg c, if_neg c2]
      exact h
theorem prs_put (hf : ∀ {a b}, f a = f b → a = b) {ks : List (κ × V)} {kvs : List (D × D)} (r : Prs K H f ks kvs) (k : κ) {v : V} {d : D} (rv : Rp K H v d) : Prs K H f (putK ks k v) (dput kvs (f k) d) := by
  unfold putK dput
  rw [← prs_any hf r k]
  split
  · exact prs_map hf k rv r
  · exact prs_app r (.cons ⟨rfl, rv⟩ .nil)
theorem prs_drop (hf : ∀ {a b}, f a = f b → a = b) {ks : List (κ × V)} {kvs : List (D × D)} (r : Prs K H f ks kvs) (k : κ) : Prs K H f (dropK ks k) (ddrop kvs (f k)) := by
  unfold dropK ddrop
  induction r with
  | nil => exact .nil
  | cons h t ih =>
    rename_i p q _ _
    by_cases c : p.1 = k
    · have c2 : q.1 = f k := by rw [h.1, c]
      rw [List.filter_cons_of_neg (by simp [c]), List.filter_cons_of_neg (by simp [c2])]
      exact ih
    · have c2 : ¬ q.1 = f k := fun z => c (hf (h.1.symm.trans z))
      rw [List.filter_cons_of_pos (by simp [c]), List.filter_cons_of_pos (by simp [c2])]
      exact .cons h ih
theorem prs_merge (hf : ∀ {a b}, f a = f b → a = b) {more : List (κ × V)} {mvs : List (D × D)} (m : Prs K H f more mvs) : ∀ {ks : List (κ × V)} {kvs : List (D × D)}, Prs K H f ks kvs →
    Prs K H f (more.foldl (fun acc kv => putK acc kv.1 kv.2) ks) (mvs.foldl (fun acc kv => dput acc kv.1 kv.2) kvs) := by
  induction m with
  | nil => exact fun r => r
  | cons h t ih =>
    intro ks kvs r
    rename_i p q _ _
    rw [List.foldl_cons, List.foldl_cons]
    have e := prs_put hf r p.1 h.2
    rw [← h.1] at e
    exact ih e
end
/-- a dict that may be read -/
def isDic (G : DH) (a : Addr) (t : DK) (kvs : List (D × D)) : Prop := G a = some (.dic t kvs) ∨ ∃ u, G a = some (.fdic u t kvs)
theorem dic_k {K : PySem.W.Frag} {H : Hp} {G : DH} (rh : RepH K H G) {a : Addr} {kvs : List (D × D)} (e : isDic G a .k kvs) : ∃ ks, Rd H a (.dK ks) ∧ Prs K H kD ks kvs := by
  rcases e with e | ⟨u, e⟩
  · obtain ⟨ks, hk, pr⟩ := rh a _ e
    exact ⟨ks, .inl hk, pr⟩
  · obtain ⟨o, ks, _, hk, pr⟩ := rh a _ e
    exact ⟨ks, .inr ⟨o, hk⟩, pr⟩
theorem dic_t {K : PySem.W.Frag} {H : Hp} {G : DH} (rh : RepH K H G) {a : Addr} {kvs : List (D × D)} (e : isDic G a .t kvs) : ∃ ks, Rd H a (.dT ks) ∧ Prs K H (fun ks : List Key => D.tup (ks.map kD)) ks kvs := by
  rcases e with e | ⟨u, e⟩
  · obtain ⟨ks, hk, pr⟩ := rh a _ e
    exact ⟨ks, .inl hk, pr⟩
  · obtain ⟨o, ks, _, hk, pr⟩ := rh a _ e
    exact ⟨ks, .inr ⟨o, hk⟩, pr⟩
/-- what the dict at a holds at k -/
theorem dget_of {K : PySem.W.Frag} {H : Hp} {G : DH} (rh : RepH K H G) {a : Addr} {t : DK} {kvs : List (D × D)} {k : D} {v : V} (e : isDic G a t kvs) (ok : keyOk t k) (r : Rp K H v k) :
    match dval kvs k with
    | some d => ∃ w, DGet H a v (some w) ∧ Rp K H w d
    | none => DGet H a v none := by
  cases t with
  | k =>
    obtain ⟨ks, hk, pr⟩ := dic_k rh e
    cases e1 : k.key with
    | none => exact absurd ok (by show ¬ (k.key.isSome = true); rw [e1]; exact Bool.false_ne_true)
    | some key =>
      have e2 := key_kD e1
      subst e2
      have e3 := rp_key r
      subst e3
      have z := prs_val kD_inj pr key
      cases e4 : dval kvs (kD key) with
      | none => rw [e4] at z; exact z ▸ .inl ⟨ks, key, hk, rfl, rfl⟩
      | some d =>
        rw [e4] at z
        obtain ⟨w, e5, rw'⟩ := z
        exact ⟨w, e5 ▸ .inl ⟨ks, key, hk, rfl, rfl⟩, rw'⟩
  | t =>
    obtain ⟨ks, hk, pr⟩ := dic_t rh e
    cases k with
    | tup ds =>
      cases e1 : D.keyL ds with
      | none => exact absurd ok (by show ¬ ((D.keyL ds).isSome = true); rw [e1]; exact Bool.false_ne_true)
      | some key =>
        have e2 := keyL_kD e1
        subst e2
        cases r with
        | tup hb l =>
          rename_i b xs
          have e3 := rp_keys l
          subst e3
          have z := prs_val (f := fun ks : List Key => D.tup (ks.map kD)) tupkD_inj pr key
          cases e4 : dval kvs (.tup (key.map kD)) with
          | none => rw [e4] at z; exact z ▸ .inr ⟨ks, key, b, hk, rfl, hb, rfl⟩
          | some d =>
            rw [e4] at z
            obtain ⟨w, e5, rw'⟩ := z
            exact ⟨w, e5 ▸ .inr ⟨ks, key, b, hk, rfl, hb, rfl⟩, rw'⟩
    | _ => exact ok.elim
theorem dput_of {K : PySem.W.Frag} {H : Hp} {G : DH} (rh : RepH K H G) {a : Addr} {t : DK} {kvs : List (D × D)} {k d : D} {v w : V} (e : G a = some (.dic t kvs)) (ok : keyOk t k) (r : Rp K H v k) (rw' : Rp K H w d) (hl : kvs.length < sizeLine) :
    ∃ o, DPut H a v w (upd H a o) ∧ RepO K (upd H a o) a (.dic t (dput kvs k d)) := by
  have q := rh a _ e
  cases t with
  | k =>
    obtain ⟨ks, hk, pr⟩ := q
    cases e1 : k.key with
    | none => exact absurd ok (by show ¬ (k.key.isSome = true); rw [e1]; exact Bool.false_ne_true)
    | some key =>
      have e2 := key_kD e1
      subst e2
      have e3 := rp_key r
      subst e3
      have f : Fm H G (upd H a (.dK (putK ks key w))) (put G a (.dic .k (dput kvs (kD key) d))) := fm_write _ e
      exact ⟨_, DPut.k hk (by rw [Paired.length pr]; exact hl), _, upd_same, paired_imp (fun _ _ h => ⟨h.1, h.2.fm rh f⟩) (prs_put kD_inj pr key rw')⟩
  | t =>
    obtain ⟨ks, hk, pr⟩ := q
    cases k with
    | tup ds =>
      cases e1 : D.keyL ds with
      | none => exact absurd ok (by show ¬ ((D.keyL ds).isSome = true); rw [e1]; exact Bool.false_ne_true)
      | some key =>
        have e2 := keyL_kD e1
        subst e2
        cases r with
        | tup hb l =>
          rename_i b xs
          have e3 := rp_keys l
          subst e3
          have f : Fm H G (upd H a (.dT (putK ks key w))) (put G a (.dic .t (dput kvs (.tup (key.map kD)) d))) := fm_write _ e
          exact ⟨_, DPut.t hk hb (by rw [Paired.length pr]; exact hl), _, upd_same, paired_imp (fun _ _ h => ⟨h.1, h.2.fm rh f⟩) (prs_put (f := fun ks : List Key => D.tup (ks.map kD)) tupkD_inj pr key rw')⟩
    | _ => exact ok.elim

/-! ### in, not in -/
def D.fl : D → Bool
  | .non => true
  | .int _ => true
  | .str _ => true
  | _ => false
def inOk (x : D) (ds : List D) : Prop := x.nb = true ∧ x.dep ≤ 60 ∧ D.nbL ds = true ∧ D.depL ds ≤ 60
def dInG (n : Bool) : DR2 := fun x y G Q => match y with
  | .str j => match x with
    | .str i => Q (.bl (n ^^ !(Builtin.Str.occurrences j i 0 j.length 1).isEmpty)) G
    | _ => False
  | .tup ds => x.fl = true ∧ ds.all D.fl = true ∧ Q (.bl (n ^^ decide (x ∈ ds))) G
  | .ctu ds => x.fl = true ∧ ds.all D.fl = true ∧ Q (.bl (n ^^ decide (x ∈ ds))) G
  | .ref a => (∃ ds, G a = some (.lst ds) ∧ inOk x ds ∧ Q (.bl (n ^^ decide (x ∈ ds))) G) ∨ (∃ t kvs, isDic G a t kvs ∧ keyOk t x ∧ Q (.bl (n ^^ (dval kvs x).isSome)) G)
  | _ => False
abbrev dIn : DR2 := dInG false
abbrev dNotIn : DR2 := dInG true
section
variable {K : PySem.W.Frag} {H : Hp} {G : DH}
theorem fl_flat {v : V} {d : D} (r : Rp K H v d) (h : d.fl = true) : flatV v = true := by
  cases r <;> first | rfl | cases h
theorem fl_flats : ∀ {vs : List V} {ds : List D}, RpL K H vs ds → ds.all D.fl = true → vs.all flatV = true
  | _, _, .nil, _ => rfl
  | _, _, .cons r l, h => by
    rw [List.all_cons, Bool.and_eq_true] at h ⊢
    exact ⟨fl_flat r h.1, fl_flats l h.2⟩
theorem fl_eqV {v w : V} {d e : D} (r : Rp K H v d) (s : Rp K H w e) (h : d.fl = true) (k : e.fl = true) : eqV v w = decide (d = e) := by
  cases r with
  | non => cases s <;> first | rfl | cases k
  | int i =>
    cases s with
    | int j =>
      show (i == j) = _
      by_cases c : i = j
      · subst c; simp
      · rw [decide_eq_false (fun q => c (D.int.inj q))]; exact beq_eq_false_iff_ne.mpr c
    | _ => first | rfl | cases k
  | str i =>
    cases s with
    | str j =>
      show (i == j) = _
      by_cases c : i = j
      · subst c; simp
      · rw [decide_eq_false (fun q => c (D.str.inj q))]; exact beq_eq_false_iff_ne.mpr c
    | _ => first | rfl | cases k
  | _ => cases h
theorem mem_or {d x : D} {ds : List D} : (decide (d = x) || decide (x ∈ ds)) = decide (x ∈ d :: ds) := by
  by_cases c1 : x = d
  · subst c1; simp
  · have c3 : ¬ d = x := fun z => c1 z.symm
    simp [c1, c3]
theorem fl_inV {v : V} {d : D} (r : Rp K H v d) (h : d.fl = true) : ∀ {vs : List V} {ds : List D}, RpL K H vs ds → ds.all D.fl = true → inV v vs = decide (d ∈ ds)
  | _, _, .nil, _ => by simp [inV]
  | _, _, .cons q l, k => by
    rw [List.all_cons, Bool.and_eq_true] at k
    unfold inV
    rw [List.any_cons, fl_eqV q r k.1 h]
    have := fl_inV r h l k.2
    unfold inV at this
    rw [this]; exact mem_or
theorem nb_mem (x : D) (hx : x.nb = true) : ∀ ds : List D, D.nbL ds = true → ((D.pyL ds).any fun z => PyData.eqv z x.py) = decide (x ∈ ds)
  | [], _ => by simp [D.pyL]
  | d :: ds, h => by
    have h' : (d.nb && D.nbL ds) = true := h
    rw [Bool.and_eq_true] at h'
    show ((d.py :: D.pyL ds).any fun z => PyData.eqv z x.py) = _
    rw [List.any_cons, eqv_nb d x h'.1 hx, nb_mem x hx ds h'.2]; exact mem_or
theorem dep_list (ds : List D) : PyData.depth (.list (D.pyL ds)) = D.depL ds + 1 := by rw [PyData.depth, depL_py]
theorem list_shaped {ds : List D} (h : D.nbL ds = true) (k : D.depL ds ≤ 60) : SeqAt.shaped (.list (D.pyL ds)) = true := by
  show (PyData.canLay0 (.list (D.pyL ds)) && decide (PyData.depth (.list (D.pyL ds)) ≤ 64)) = true
  rw [Bool.and_eq_true, dep_list]
  exact ⟨by rw [PyData.canLay0]; exact layL_nb h, decide_eq_true (by omega)⟩
theorem up_in {X : Cx} : Up2 X.K dIn (fun x y H Q => (∃ i j, x = .str i ∧ y = .str j ∧ Q (.bl (!(Builtin.Str.occurrences j i 0 j.length 1).isEmpty)) H) ∨ (rIn X.K false x y H Q ∨ (rInD X.K x y H Q ∨ ∃ a o, y = .ref a ∧ DGet H a x o ∧ Q (.bl o.isSome) H))) := by
  intro x y v w H G Q Qv h rx ry rh k
  cases ry with
  | str j =>
    cases rx with
    | str i =>
      have h' : Q (.bl (false ^^ !(Builtin.Str.occurrences j i 0 j.length 1).isEmpty)) G := h
      rw [xor_f] at h'
      exact .inl ⟨i, j, rfl, rfl, end_q k h' (.bl _) rh⟩
    | _ => exact False.elim h
  | tup s l =>
    obtain ⟨f1, f2, q⟩ := h
    rw [xor_f] at q
    refine .inr (.inl ⟨_, _, rfl, .inr (SqT.of s), fl_flat rx f1, fl_flats l f2, ?_⟩)
    rw [if_neg Bool.false_ne_true, fl_inV rx f1 l f2]
    exact end_q k q (.bl _) rh
  | ctu s l =>
    obtain ⟨f1, f2, q⟩ := h
    rw [xor_f] at q
    refine .inr (.inl ⟨_, _, rfl, .inr (.inr s), fl_flat rx f1, fl_flats l f2, ?_⟩)
    rw [if_neg Bool.false_ne_true, fl_inV rx f1 l f2]
    exact end_q k q (.bl _) rh
  | ref a =>
    rcases h with ⟨ds, e, ⟨o1, o2, o3, o4⟩, q⟩ | ⟨t, kvs, e, ok, q⟩
    · rw [xor_f] at q
      obtain ⟨xs, hx, l⟩ := rh a _ e
      refine .inr (.inr (.inl ⟨x.py, D.pyL ds, dp_of rh (dt_nb G o1) rx, .lst (SqL.of hx) (dpL_of rh (dtL_nb G o3) l), nb_shaped o1 (by omega), list_shaped o3 o4, ?_⟩))
      rw [nb_mem x o1 ds o3]
      exact end_q k q (.bl _) rh
    · rw [xor_f] at q
      have z := dget_of rh e ok rx
      refine .inr (.inr (.inr ?_))
      cases e4 : dval kvs x with
      | none =>
        rw [e4] at z q
        exact ⟨a, none, rfl, z, end_q k q (.bl _) rh⟩
      | some d =>
        rw [e4] at z q
        obtain ⟨w, g, _⟩ := z
        exact ⟨a, some w, rfl, g, end_q k q (.bl _) rh⟩
  | _ => exact False.elim h
theorem up_notIn {X : Cx} : Up2 X.K dNotIn (fun x y H Q => (∃ i j, x = .str i ∧ y = .str j ∧ Q (.bl (!(!(Builtin.Str.occurrences j i 0 j.length 1).isEmpty))) H) ∨ (rIn X.K true x y H Q ∨ (rNotInD X.K x y H Q ∨ ∃ a o, y = .ref a ∧ DGet H a x o ∧ Q (.bl (!o.isSome)) H))) := by
  intro x y v w H G Q Qv h rx ry rh k
  cases ry with
  | str j =>
    cases rx with
    | str i =>
      have h' : Q (.bl (true ^^ !(Builtin.Str.occurrences j i 0 j.length 1).isEmpty)) G := h
      rw [xor_t] at h'
      exact .inl ⟨i, j, rfl, rfl, end_q k h' (.bl _) rh⟩
    | _ => exact False.elim h
  | tup s l =>
    obtain ⟨f1, f2, q⟩ := h
    rw [xor_t] at q
    refine .inr (.inl ⟨_, _, rfl, .inr (SqT.of s), fl_flat rx f1, fl_flats l f2, ?_⟩)
    rw [if_pos rfl, fl_inV rx f1 l f2]
    exact end_q k q (.bl _) rh
  | ctu s l =>
    obtain ⟨f1, f2, q⟩ := h
    rw [xor_t] at q
    refine .inr (.inl ⟨_, _, rfl, .inr (.inr s), fl_flat rx f1, fl_flats l f2, ?_⟩)
    rw [if_pos rfl, fl_inV rx f1 l f2]
    exact end_q k q (.bl _) rh
  | ref a =>
    rcases h with ⟨ds, e, ⟨o1, o2, o3, o4⟩, q⟩ | ⟨t, kvs, e, ok, q⟩
    · rw [xor_t] at q
      obtain ⟨xs, hx, l⟩ := rh a _ e
      refine .inr (.inr (.inl ⟨x.py, D.pyL ds, dp_of rh (dt_nb G o1) rx, .lst (SqL.of hx) (dpL_of rh (dtL_nb G o3) l), nb_shaped o1 (by omega), list_shaped o3 o4, ?_⟩))
      rw [nb_mem x o1 ds o3]
      exact end_q k q (.bl _) rh
    · rw [xor_t] at q
      have z := dget_of rh e ok rx
      refine .inr (.inr (.inr ?_))
      cases e4 : dval kvs x with
      | none =>
        rw [e4] at z q
        exact ⟨a, none, rfl, z, end_q k q (.bl _) rh⟩
      | some d =>
        rw [e4] at z q
        obtain ⟨w, g, _⟩ := z
        exact ⟨a, some w, rfl, g, end_q k q (.bl _) rh⟩
  | _ => exact False.elim h
end
section
variable {X : Cx}
theorem op_inDic (hu : X.A.units + 1 < cLine) : OpR X (compareOp .In) (fun x y H Q => ∃ a o, y = .ref a ∧ DGet H a x o ∧ Q (.bl o.isSome) H) := by
  intro pins s σ H x y v u Q I rx ry h
  obtain ⟨a, o, rfl, g, q⟩ := h
  cases ry
  exact d_in hu I g rx fun s1 I1 => ⟨.bl o.isSome, H, I1, rfl, q⟩
theorem op_notInDic (hu : X.A.units + 1 < cLine) : OpR X (compareOp .NotIn) (fun x y H Q => ∃ a o, y = .ref a ∧ DGet H a x o ∧ Q (.bl (!o.isSome)) H) := by
  intro pins s σ H x y v u Q I rx ry h
  obtain ⟨a, o, rfl, g, q⟩ := h
  cases ry
  exact d_notIn hu I g rx fun s1 I1 => ⟨.bl (!o.isSome), H, I1, rfl, q⟩
/-- a comparison: the rule for values, by its operator -/
structure CmpOk (X : Cx) (op : CmpOp) (r : DR2) : Prop where
  ok : ∃ r', OpR X (compareOp op) r' ∧ Up2 X.K r r'
theorem c_eq (hr : X.A.units + 64 < cLine) : CmpOk X .Eq dEq := ⟨_, op_eq.or (op_eqD hr), up_eq⟩
theorem c_ne (hr : X.A.units + 64 < cLine) : CmpOk X .NotEq dNe := ⟨_, op_ne.or (op_neD hr), up_ne⟩
theorem c_lt : CmpOk X .Lt dLt := ⟨_, op_lt, up_ord⟩
theorem c_le : CmpOk X .LtE dLe := ⟨_, op_le, up_ord⟩
theorem c_gt : CmpOk X .Gt dGt := ⟨_, op_gt, up_ord⟩
theorem c_ge : CmpOk X .GtE dGe := ⟨_, op_ge, up_ord⟩
theorem c_is : CmpOk X .Is (dIsN false) := ⟨_, op_isN, up_is⟩
theorem c_isnot : CmpOk X .IsNot (dIsN true) := ⟨_, op_notN, up_isnot⟩
theorem c_in (hr : X.A.units + 65 < cLine) : CmpOk X .In dIn := ⟨_, op_in_str.or (op_in_seq.or ((op_inD hr).or (op_inDic (by omega)))), up_in⟩
theorem c_notIn (hr : X.A.units + 65 < cLine) : CmpOk X .NotIn dNotIn := ⟨_, op_notin_str.or (op_notIn_seq.or ((op_notInD hr).or (op_notInDic (by omega)))), up_notIn⟩
variable {pos : Pos} {a b c : Expr} {ta tb tc : DE} {r r' : DR2} {op op' : CmpOp}
theorem pd_cp (o : CmpOk X op r) (ha : PD X a ta) (hb : PD X b tb) (hm : behindInMarks op b = false) : PD X (.Compare a [op] [b] pos) (dBin r ta tb) := by
  obtain ⟨r', h1, h2⟩ := o.ok
  exact pd_cmp h1 h2 ha hb hm
theorem pdt_cp (o : CmpOk X op r) (ha : PD X a ta) (hb : PD X b tb) (hm : behindInMarks op b = false) : PDT X (.Compare a [op] [b] pos) (dTest (dBin r ta tb)) := by
  obtain ⟨r', h1, h2⟩ := o.ok
  exact imp_cmpT h1 h2 ha hb hm
end
end D3

set_option Elab.async false
set_option linter.all false
set_option maxRecDepth 100000
set_option maxHeartbeats 4000000
namespace D3
open PySem PySem.Spec PyProof.Rows L2

/-! ### lists of arguments, displays -/
section
variable {X : Cx} {pos : Pos}
theorem pda_nil : PDA X [] dNil := imp_pa pa_nil fun σ H Q h => by
  obtain ⟨δ, G, Q', rs, rh, h, k⟩ := h
  exact k _ _ ⟨[], G, h, Fm.refl _ _, .nil, rh⟩
theorem pda_cons {e : Expr} {es : List Expr} {t : DE} {ts : DA} (ha : PD X e t) (hr : PDA X es ts) (hs : starEach (e :: es) X.env = (false, eval e X.env) :: starEach es X.env := by rfl) : PDA X (e :: es) (dCons t ts) :=
  imp_pa (pa_cons ha hr hs) fun σ H Q h => by
    obtain ⟨δ, G, Q', rs, rh, h, k⟩ := h
    refine ⟨δ, G, _, rs, rh, h, fun v H1 ⟨x, G1, h1, f1, rx, rh1⟩ => ?_⟩
    refine ⟨δ, G1, _, rs.fm rh f1, rh1, h1, fun vs H2 ⟨ds, G2, h2, f2, rds, rh2⟩ => ?_⟩
    exact k _ _ ⟨_, G2, h2, f1.trans f2, .cons (rx.fm rh1 f2) rds, rh2⟩
def dTup (ts : DA) : DE := fun δ G Q => ts δ G fun ds G1 => match Nat.ble ds.length 1000 with
  | true => Q (.tup ds) G1
  | false => False
def dLst (ts : DA) : DE := fun δ G Q => ts δ G fun ds G1 => match Nat.ble ds.length 1000 with
  | true => ∀ p, G1 p = none → Q (.ref p) (put G1 p (.lst ds))
  | false => False
theorem line1000 {n : Nat} (h : Nat.ble n 1000 = true) : n ≤ sizeLine := Nat.le_trans (Nat.le_of_ble_eq_true h) (by rw [sizeLine_eq]; decide)
theorem pd_tup {es : List Expr} {x1} {ts : DA} (h : PDA X es ts) : PD X (.Tuple es x1 pos) (dTup ts) := imp_pe (pe_tup h) fun σ H Q h => by
  obtain ⟨δ, G, Q', rs, rh, h, k⟩ := h
  refine ⟨δ, G, _, rs, rh, h, fun vs H1 ⟨ds, G1, h1, f1, rds, rh1⟩ => ?_⟩
  dsimp only at h1
  cases e : Nat.ble ds.length 1000 with
  | false => rw [e] at h1; exact h1.elim
  | true =>
    rw [e] at h1
    exact ⟨by rw [rds.length]; exact line1000 e, fun p hp => end_tup (fun u H' q => k u H' (q.step f1)) hp rh1 rds h1⟩
theorem pd_lst {es : List Expr} {ts : DA} (h : PDA X es ts) : PD X (.List es pos) (dLst ts) := imp_pe (pe_lst h) fun σ H Q h => by
  obtain ⟨δ, G, Q', rs, rh, h, k⟩ := h
  refine ⟨δ, G, _, rs, rh, h, fun vs H1 ⟨ds, G1, h1, f1, rds, rh1⟩ => ?_⟩
  dsimp only at h1
  cases e : Nat.ble ds.length 1000 with
  | false => rw [e] at h1; exact h1.elim
  | true =>
    rw [e] at h1
    exact ⟨by rw [rds.length]; exact line1000 e, fun p hp => end_new (fun u H' q => k u H' (q.step f1)) hp rh1 (rep_lst hp rh1 rds) (h1 p)⟩
/-- { } -/
def dDic (t : DK) : DE := fun _ G Q => ∀ p, G p = none → Q (.ref p) (put G p (.dic t []))
theorem pd_dicK : PD X (.Dict [] [] pos) (dDic .k) := imp_pe pe_dnewK fun σ H Q h => by
  obtain ⟨δ, G, Q', rs, rh, h, k⟩ := h
  exact fun p hp => end_new (o' := .dic .k []) k hp rh ⟨[], upd_same, .nil⟩ (h p)
theorem pd_dicT : PD X (.Dict [] [] pos) (dDic .t) := imp_pe pe_dnewT fun σ H Q h => by
  obtain ⟨δ, G, Q', rs, rh, h, k⟩ := h
  exact fun p hp => end_new (o' := .dic .t []) k hp rh ⟨[], upd_same, .nil⟩ (h p)

/-! ### unary, boolean, chains -/
def dNeg (t : DE) : DE := fun δ G Q => t δ G fun x G1 => match x with
  | .int i => Q (.int (-i)) G1
  | _ => False
theorem pd_neg {a : Expr} {ta : DE} (ha : PD X a ta) : PD X (.UnaryOp .USub a pos) (dNeg ta) := imp_pe (pe_un un_neg ha) fun σ H Q h => by
  obtain ⟨δ, G, Q', rs, rh, h, k⟩ := h
  refine ⟨δ, G, _, rs, rh, h, fun v H1 ⟨x, G1, h1, f1, rx, rh1⟩ => ?_⟩
  cases rx with
  | int i => exact ⟨i, rfl, k _ _ ⟨_, G1, h1, f1, .int _, rh1⟩⟩
  | _ => exact h1.elim
def dAnd (ta tb : DE) : DE := fun δ G Q => ta δ G fun x G1 => match x with
  | .bl true => tb δ G1 Q
  | .bl false => Q (.bl false) G1
  | _ => False
def dOr (ta tb : DE) : DE := fun δ G Q => ta δ G fun x G1 => match x with
  | .bl true => Q (.bl true) G1
  | .bl false => tb δ G1 Q
  | _ => False
def dNot (ta : DE) : DE := fun δ G Q => ta δ G fun x G1 => match x with
  | .bl b => Q (.bl (!b)) G1
  | _ => False
section
variable {a b : Expr} {ta tb : DE} {rest : List Expr} {op : BoolOp}
theorem pd_one (h : PD X a ta) : PD X (.BoolOp op [a] pos) ta := pe_one h
theorem pd_and (ha : PD X a ta) (hb : PD X (.BoolOp .And (b :: rest) pos) tb) : PD X (.BoolOp .And (a :: b :: rest) pos) (dAnd ta tb) := imp_pe (pe_and ha hb) fun σ H Q h => by
  obtain ⟨δ, G, Q', rs, rh, h, k⟩ := h
  refine ⟨δ, G, _, rs, rh, h, fun v H1 ⟨x, G1, h1, f1, rx, rh1⟩ => ?_⟩
  cases rx with
  | bl c =>
    refine ⟨c, rfl, ?_⟩
    cases c with
    | true =>
      rw [if_pos rfl]
      exact ⟨δ, G1, Q', rs.fm rh f1, rh1, h1, fun u H' q => k u H' (q.step f1)⟩
    | false =>
      rw [if_neg Bool.false_ne_true]
      exact k _ _ ⟨_, G1, h1, f1, .bl _, rh1⟩
  | _ => exact h1.elim
theorem pd_or (ha : PD X a ta) (hb : PD X (.BoolOp .Or (b :: rest) pos) tb) : PD X (.BoolOp .Or (a :: b :: rest) pos) (dOr ta tb) := imp_pe (pe_or ha hb) fun σ H Q h => by
  obtain ⟨δ, G, Q', rs, rh, h, k⟩ := h
  refine ⟨δ, G, _, rs, rh, h, fun v H1 ⟨x, G1, h1, f1, rx, rh1⟩ => ?_⟩
  cases rx with
  | bl c =>
    refine ⟨c, rfl, ?_⟩
    cases c with
    | false =>
      rw [if_neg Bool.false_ne_true]
      exact ⟨δ, G1, Q', rs.fm rh f1, rh1, h1, fun u H' q => k u H' (q.step f1)⟩
    | true =>
      rw [if_pos rfl]
      exact k _ _ ⟨_, G1, h1, f1, .bl _, rh1⟩
  | _ => exact h1.elim
theorem pd_not (ha : PD X a ta) : PD X (.UnaryOp .Not a pos) (dNot ta) := imp_pe (pe_not ha) fun σ H Q h => by
  obtain ⟨δ, G, Q', rs, rh, h, k⟩ := h
  refine ⟨δ, G, _, rs, rh, h, fun v H1 ⟨x, G1, h1, f1, rx, rh1⟩ => ?_⟩
  cases rx with
  | bl c => exact ⟨c, rfl, k _ _ ⟨_, G1, h1, f1, .bl _, rh1⟩⟩
  | _ => exact h1.elim
/-! #### tests -/
theorem pdt_val {e : Expr} {t : DE} (h : PD X e t) (he : ∀ whole, isTrue e X.env whole = (do let v ← whole; standAt e.pos; holding [v] (truthy v)) := by intro _; rfl) : PDT X e (dTest t) :=
  imp_pt (pt_val h he) fun σ H Q h => up_test h
abbrev PDW (X : Cx) (e : Expr) (t : DT) : Prop := PW X e (upT X.K t)
theorem imp_pw {e : Expr} {t u : TT} (h : PW X e t) (i : ∀ σ H Q, u σ H Q → t σ H Q) : PW X e u := ⟨fun wh pins s σ H Q I q => h.run wh pins s σ H Q I (i _ _ _ q)⟩
def dAndT (ta tb : DT) : DT := fun δ G Q => ta δ G fun c G1 => match c with
  | true => tb δ G1 Q
  | false => Q false G1
def dOrT (ta tb : DT) : DT := fun δ G Q => ta δ G fun c G1 => match c with
  | true => Q true G1
  | false => tb δ G1 Q
def dNotT (ta : DT) : DT := fun δ G Q => ta δ G fun c G1 => Q (!c) G1
variable {qa qb : DT}
theorem pdw_and1 (ha : PDT X a qa) : PDW X (.BoolOp .And [a] pos) qa := pw_and1 ha
theorem pdw_or1 (ha : PDT X a qa) : PDW X (.BoolOp .Or [a] pos) qa := pw_or1 ha
theorem pdw_and (ha : PDT X a qa) (hb : PDW X (.BoolOp .And (b :: rest) pos) qb) : PDW X (.BoolOp .And (a :: b :: rest) pos) (dAndT qa qb) := imp_pw (pw_and ha hb) fun σ H Q h => by
  obtain ⟨δ, G, Q', rs, rh, h, k⟩ := h
  refine ⟨δ, G, _, rs, rh, h, fun c H1 ⟨G1, h1, f1, rh1⟩ => ?_⟩
  cases c with
  | true =>
    show if true = true then _ else _
    rw [if_pos rfl]
    exact ⟨δ, G1, Q', rs.fm rh f1, rh1, h1, fun u H' q => k u H' (q.step f1)⟩
  | false =>
    show if false = true then _ else _
    rw [if_neg Bool.false_ne_true]
    exact k _ _ ⟨G1, h1, f1, rh1⟩
theorem pdw_or (ha : PDT X a qa) (hb : PDW X (.BoolOp .Or (b :: rest) pos) qb) : PDW X (.BoolOp .Or (a :: b :: rest) pos) (dOrT qa qb) := imp_pw (pw_or ha hb) fun σ H Q h => by
  obtain ⟨δ, G, Q', rs, rh, h, k⟩ := h
  refine ⟨δ, G, _, rs, rh, h, fun c H1 ⟨G1, h1, f1, rh1⟩ => ?_⟩
  cases c with
  | true =>
    show if true = true then _ else _
    rw [if_pos rfl]
    exact k _ _ ⟨G1, h1, f1, rh1⟩
  | false =>
    show if false = true then _ else _
    rw [if_neg Bool.false_ne_true]
    exact ⟨δ, G1, Q', rs.fm rh f1, rh1, h1, fun u H' q => k u H' (q.step f1)⟩
theorem pdt_not (ha : PDT X a qa) : PDT X (.UnaryOp .Not a pos) (dNotT qa) := imp_pt (pt_not ha) fun σ H Q h => by
  obtain ⟨δ, G, Q', rs, rh, h, k⟩ := h
  exact ⟨δ, G, _, rs, rh, h, fun c H1 ⟨G1, h1, f1, rh1⟩ => k _ _ ⟨G1, h1, f1, rh1⟩⟩
def dIf (t : DT) (ta tb : DE) : DE := fun δ G Q => t δ G fun c G1 => match c with
  | true => ta δ G1 Q
  | false => tb δ G1 Q
theorem pd_ifExp {c : Expr} (hc : PDT X c qa) (ha : PD X a ta) (hb : PD X b tb) : PD X (.IfExp c a b pos) (dIf qa ta tb) := imp_pe (pe_ifExp hc ha hb) fun σ H Q h => by
  obtain ⟨δ, G, Q', rs, rh, h, k⟩ := h
  refine ⟨δ, G, _, rs, rh, h, fun c H1 ⟨G1, h1, f1, rh1⟩ => ?_⟩
  cases c with
  | true =>
    show if true = true then _ else _
    rw [if_pos rfl]
    exact ⟨δ, G1, Q', rs.fm rh f1, rh1, h1, fun u H' q => k u H' (q.step f1)⟩
  | false =>
    show if false = true then _ else _
    rw [if_neg Bool.false_ne_true]
    exact ⟨δ, G1, Q', rs.fm rh f1, rh1, h1, fun u H' q => k u H' (q.step f1)⟩
/-- a < b < c -/
def dChain (r r' : DR2) (ta tb tc : DE) : DE := fun δ G Q => ta δ G fun x G1 => tb δ G1 fun y G2 => r x y G2 fun z G3 => match z with
  | .bl true => tc δ G3 fun w G4 => r' y w G4 Q
  | .bl false => Q (.bl false) G3
  | _ => False
theorem up_chain {r r' : DR2} {s s' : R2} {tc : DE} (h1 : Up2 X.K r s) (h2 : Up2 X.K r' s') {σ : L2.St} {H : Hp} {Q : VK} (h : up X.K (dChain r r' ta tb tc) σ H Q) : tChain s s' (up X.K ta) (up X.K tb) (up X.K tc) σ H Q := by
  obtain ⟨δ, G, Q', rs, rh, h, k⟩ := h
  refine ⟨δ, G, _, rs, rh, h, fun v H1 ⟨x, G1, h', f1, rx, rh1⟩ => ?_⟩
  refine ⟨δ, G1, _, rs.fm rh f1, rh1, h', fun w H2 ⟨y, G2, h'', f2, ry, rh2⟩ => ?_⟩
  refine h1 h'' (rx.fm rh1 f2) ry rh2 fun u H3 ⟨z, G3, h3, f3, rz, rh3⟩ => ?_
  cases rz with
  | bl c =>
    refine ⟨c, rfl, ?_⟩
    cases c with
    | true =>
      rw [if_pos rfl]
      refine ⟨δ, G3, _, (((rs.fm rh f1).fm rh1 f2).fm rh2 f3), rh3, h3, fun w' H4 ⟨d, G4, h4, f4, rd, rh4⟩ => ?_⟩
      exact h2 h4 ((ry.fm rh2 f3).fm rh3 f4) rd rh4 fun u H' q => k u H' ((((q.step f4).step f3).step f2).step f1)
    | false =>
      rw [if_neg Bool.false_ne_true]
      exact k _ _ ⟨_, G3, h3, (f1.trans f2).trans f3, .bl _, rh3⟩
  | _ => exact h3.elim
end

/-! ### subscripts -/
def dIx : DR2 := fun x y G Q => match x, y with
  | .tup ds, .int i => match atI ds i with
    | some d => Q d G
    | none => False
  | .ctu ds, .int i => match atI ds i with
    | some d => Q d G
    | none => False
  | .lro ds, .int i => match atI ds i with
    | some d => Q d G
    | none => False
  | .str z, .int i => match atI z.cps.toList i with
    | some c => z.length ≤ sizeLine ∧ Q (.str ⟨#[c]⟩) G
    | none => False
  | .ref a, y => (∃ ds k d, y = .int k ∧ G a = some (.lst ds) ∧ atI ds k = some d ∧ Q d G) ∨ (∃ t kvs d, isDic G a t kvs ∧ keyOk t y ∧ dval kvs y = some d ∧ Q d G)
  | _, _ => False
theorem rp_at {K : PySem.W.Frag} {H : Hp} {xs : List V} {ds : List D} {i : Int} {d : D} (l : RpL K H xs ds) (e : atI ds i = some d) : ∃ v, atI xs i = some v ∧ Rp K H v d := by
  unfold atI at e ⊢
  rw [l.length]
  cases c : ixN ds.length i with
  | none => rw [c] at e; cases e
  | some j =>
    rw [c] at e
    obtain ⟨v, ev, r⟩ := l.get (i := j) (d := d) e
    exact ⟨v, ev, r⟩
theorem up_ix {K : PySem.W.Frag} : Up2 K dIx (fun x y H Q => rIx K x y H Q ∨ ∃ a v, x = .ref a ∧ DGet H a y (some v) ∧ Q v H) := by
  intro x y v w H G Q Qv h rx ry rh k
  cases rx with
  | tup s l =>
    cases ry with
    | int i =>
      rename_i ds
      have h' : (match atI ds i with | some d => Q d G | none => False) := h
      cases e : atI ds i with
      | none => rw [e] at h'; exact h'.elim
      | some d =>
        rw [e] at h'
        obtain ⟨v, ev, r⟩ := rp_at l e
        exact .inl (.inr (.inl ⟨_, _, i, v, rfl, rfl, SqT.of s, ev, end_q k h' r rh⟩))
    | _ => exact False.elim h
  | ctu s l =>
    cases ry with
    | int i =>
      rename_i ds
      have h' : (match atI ds i with | some d => Q d G | none => False) := h
      cases e : atI ds i with
      | none => rw [e] at h'; exact h'.elim
      | some d =>
        rw [e] at h'
        obtain ⟨v, ev, r⟩ := rp_at l e
        exact .inl (.inr (.inl ⟨_, _, i, v, rfl, rfl, .inr s, ev, end_q k h' r rh⟩))
    | _ => exact False.elim h
  | lro s l =>
    cases ry with
    | int i =>
      rename_i ds
      have h' : (match atI ds i with | some d => Q d G | none => False) := h
      cases e : atI ds i with
      | none => rw [e] at h'; exact h'.elim
      | some d =>
        rw [e] at h'
        obtain ⟨v, ev, r⟩ := rp_at l e
        exact .inl (.inl ⟨_, _, i, v, rfl, rfl, s.sq, ev, end_q k h' r rh⟩)
    | _ => exact False.elim h
  | str z =>
    cases ry with
    | int i =>
      have h' : (match atI z.cps.toList i with | some c => z.length ≤ sizeLine ∧ Q (.str ⟨#[c]⟩) G | none => False) := h
      cases e : atI z.cps.toList i with
      | none => rw [e] at h'; exact h'.elim
      | some d =>
        rw [e] at h'
        exact .inl (.inr (.inr ⟨z, i, d, rfl, rfl, h'.1, e, end_q k h'.2 (.str _) rh⟩))
    | _ => exact False.elim h
  | ref a =>
    have h' : (∃ ds k d, y = .int k ∧ G a = some (.lst ds) ∧ atI ds k = some d ∧ Q d G) ∨ (∃ t kvs d, isDic G a t kvs ∧ keyOk t y ∧ dval kvs y = some d ∧ Q d G) := h
    rcases h' with ⟨ds, i, d, rfl, e, ea, q⟩ | ⟨t, kvs, d, e, ok, ed, q⟩
    · cases ry
      obtain ⟨xs, hx, l⟩ := rh a _ e
      obtain ⟨v, ev, r⟩ := rp_at l ea
      exact .inl (.inl ⟨a, xs, i, v, rfl, rfl, SqL.of hx, ev, end_q k q r rh⟩)
    · have z := dget_of rh e ok ry
      rw [ed] at z
      obtain ⟨w, g, r⟩ := z
      exact .inr ⟨a, w, rfl, g, end_q k q r rh⟩
  | _ => exact False.elim h
theorem ix_dic (hu : X.A.units + 1 < cLine) : IxR X (fun x y H Q => ∃ a v, x = .ref a ∧ DGet H a y (some v) ∧ Q v H) := by
  intro value slice pins s σ H x y v u Q I rx ry h hs
  obtain ⟨a, z, rfl, g, q⟩ := h
  cases rx
  exact tail_any (dict_typeIs I g) PySem.F.slot_dict_getitem.lookup (d_getItem hu I g ry fun w' s1 I1 r1 => ⟨z, H, I1, r1, q⟩) hs
theorem pd_ix {a b : Expr} {ta tb : DE} (hu : X.A.units + 1 < cLine) (ha : PD X a ta) (hb : PD X b tb) (hs : PlainIx b) : PD X (.Subscript a b pos) (dBin dIx ta tb) :=
  imp_pe (pe_ix (ix_seq.or (ix_dic hu)) ha hb hs) fun _ _ _ h => up_bin up_ix h
/-! #### slices -/
abbrev DOp := DSt → DH → (Option Int → DH → Prop) → Prop
def upO (K : PySem.W.Frag) (t : DOp) : TO := fun σ H Q => ∃ δ G Q', RepS K H σ δ ∧ RepH K H G ∧ t δ G Q' ∧ ∀ o H', (∃ G', Q' o G' ∧ Fm H G H' G' ∧ RepH K H' G') → Q o H'
def dNoP : DOp := fun _ G Q => Q none G
def dPt (t : DE) : DOp := fun δ G Q => t δ G fun x G1 => match x with
  | .int i => Q (some i) G1
  | _ => False
abbrev PDO (X : Cx) (e : Option Expr) (t : DOp) : Prop := PO X e (upO X.K t)
theorem imp_po {e : Option Expr} {t u : TO} (h : PO X e t) (i : ∀ σ H Q, u σ H Q → t σ H Q) : PO X e u := ⟨fun pins s σ H Q I q => h.run pins s σ H Q I (i _ _ _ q)⟩
theorem pdo_none : PDO X none dNoP := imp_po po_none fun σ H Q h => by
  obtain ⟨δ, G, Q', rs, rh, h, k⟩ := h
  exact k _ _ ⟨G, h, Fm.refl _ _, rh⟩
theorem pdo_some {e : Expr} {t : DE} (h : PD X e t) : PDO X (some e) (dPt t) := imp_po (po_some h) fun σ H Q h => by
  obtain ⟨δ, G, Q', rs, rh, h, k⟩ := h
  refine ⟨δ, G, _, rs, rh, h, fun v H1 ⟨x, G1, h1, f1, rx, rh1⟩ => ?_⟩
  cases rx with
  | int i => exact ⟨i, rfl, k _ _ ⟨G1, h1, f1, rh1⟩⟩
  | _ => exact h1.elim
def cutD (ds : List D) (lo hi : Option Int) : List D := (ds.drop (HT.sIx ds.length 0 lo)).take (HT.sIx ds.length ds.length hi - HT.sIx ds.length 0 lo)
theorem rp_cut {K : PySem.W.Frag} {H : Hp} {xs : List V} {ds : List D} (l : RpL K H xs ds) (lo hi : Option Int) : RpL K H (cutV xs lo hi) (cutD ds lo hi) := by
  unfold cutV cutD
  rw [l.length]
  exact (l.drop _).take _
theorem cut_whole {ds : List D} {lo hi : Option Int} (h : HT.sIx ds.length 0 lo = 0 ∧ HT.sIx ds.length ds.length hi = ds.length) : cutD ds lo hi = ds := by
  unfold cutD
  rw [h.1, h.2]; simp
def dCut (x : D) (lo hi : Option Int) (G : DH) (Q : DQ) : Prop := match x with
  | .tup ds => Q (.tup (cutD ds lo hi)) G
  | .lro ds => ∀ p, G p = none → Q (.ref p) (put G p (.lst (cutD ds lo hi)))
  | .ref a => ∃ ds, G a = some (.lst ds) ∧ ∀ p, G p = none → Q (.ref p) (put G p (.lst (cutD ds lo hi)))
  | .str z => z.length ≤ sizeLine ∧ Q (.str (cutS z lo hi)) G
  | _ => False
def dSlice (te : DE) (tl th : DOp) : DE := fun δ G Q => te δ G fun x G1 => tl δ G1 fun lo G2 => th δ G2 fun hi G3 => dCut x lo hi G3 Q
theorem pd_slice {e : Expr} {lo hi : Option Expr} {te : DE} {tl th : DOp} {p2} (he : PD X e te) (hl : PDO X lo tl) (hu : PDO X hi th) : PD X (.Subscript e (.Slice lo hi none p2) pos) (dSlice te tl th) :=
  imp_pe (pe_slice (sl_list.or (sl_tupA.or sl_str)) he hl hu) fun σ H Q h => by
    obtain ⟨δ, G, Q', rs, rh, h, k⟩ := h
    refine ⟨δ, G, _, rs, rh, h, fun v H1 ⟨x, G1, h1, f1, rx, rh1⟩ => ?_⟩
    refine ⟨δ, G1, _, rs.fm rh f1, rh1, h1, fun o1 H2 ⟨G2, h2, f2, rh2⟩ => ?_⟩
    refine ⟨δ, G2, _, (rs.fm rh f1).fm rh1 f2, rh2, h2, fun o2 H3 ⟨G3, h3, f3, rh3⟩ => ?_⟩
    have k' : ∀ u H', upQ X.K H3 G3 Q' u H' → Q u H' := fun u H' q => k u H' (((q.step f3).step f2).step f1)
    have rx' := (rx.fm rh1 f2).fm rh2 f3
    cases rx' with
    | tup s l =>
      refine .inr (.inl ⟨_, _, rfl, SqT.of s, fun hw => ?_, fun _ p hp => end_tup k' hp rh3 (rp_cut l _ _) h3⟩)
      dsimp only [dCut] at h3
      rw [cut_whole (by rw [l.length] at hw; exact hw)] at h3
      exact end_q k' h3 (.tup s l) rh3
    | lro s l =>
      exact .inl ⟨_, _, rfl, s.sq, fun p hp => end_new k' hp rh3 (rep_lst hp rh3 (rp_cut l _ _)) (h3 p)⟩
    | ref a =>
      obtain ⟨ds, e, q⟩ := h3
      obtain ⟨xs, hx, l⟩ := rh3 a _ e
      exact .inl ⟨a, xs, rfl, SqL.of hx, fun p hp => end_new k' hp rh3 (rep_lst hp rh3 (rp_cut l _ _)) (q p)⟩
    | str z => exact .inr (.inr ⟨z, rfl, h3.1, end_q k' h3.2 (.str _) rh3⟩)
    | _ => exact h3.elim
end
end D3

set_option Elab.async false
set_option linter.all false
set_option maxRecDepth 100000
set_option maxHeartbeats 4000000
namespace D3
open PySem PySem.Spec PyProof.Rows L2

/-! ### blocks and small statements -/
section
variable {X : Cx} {st : Stmt} {rest : List Stmt} {t u : DS} {e : Expr} {te : DE} {pos : Pos}
def dNext : DS := fun D δ G => D.nx δ G
def dSeq (t u : DS) : DS := fun D δ G => t { D with nx := u D } δ G
theorem up_next {K : PySem.W.Frag} {D : Ends} {σ : L2.St} {H : Hp} (h : upS K dNext D σ H) : tNext D σ H := by
  obtain ⟨δ, G, D', rs, rh, h, k, _⟩ := h
  exact k _ _ ⟨δ, G, h, Fm.refl _ _, rs, rh⟩
theorem pdss_nil : PDSs X [] dNext := imp_pss pss_nil fun _ _ _ h => up_next h
theorem pdss_cons (h1 : PDS X st t) (h2 : PDSs X rest u) : PDSs X (st :: rest) (dSeq t u) := imp_pss (pss_cons h1 h2) fun D σ H h => by
  obtain ⟨δ, G, D', rs, rh, h, k1, k2, k3, k4⟩ := h
  refine ⟨δ, G, { D' with nx := u D' }, rs, rh, h, fun σ' H' ⟨δ', G', h', f, rs', rh'⟩ => ?_, k2, k3, k4⟩
  exact ⟨δ', G', D', rs', rh', h', fun a b q => k1 a b (q.step f), fun a b q => k2 a b (q.step f), fun a b q => k3 a b (q.step f), fun a b q => k4 a b (q.step f)⟩
theorem pdss_one (h1 : PDS X st t) : PDSs X [st] t := pss_one h1
theorem pds_pass : PDS X (.Pass pos) dNext := imp_ps ps_pass fun _ _ _ h => up_next h
theorem pds_doc {x j pos'} : PDS X (.Expr (.Constant (.str x) j pos) pos') dNext := imp_ps ps_doc fun _ _ _ h => up_next h
def dDrop (te : DE) : DS := fun D δ G => te δ G fun _ G1 => D.nx δ G1
theorem pds_expr (he : PD X e te) (hs : swapsWith e none pos.line X.env = pure false := by rfl) : PDS X (.Expr e pos) (dDrop te) := imp_ps (ps_expr he hs) fun D σ H h => by
  obtain ⟨δ, G, D', rs, rh, h, k, _⟩ := h
  exact ⟨δ, G, _, rs, rh, h, fun v H1 ⟨d, G1, h1, f, _, rh1⟩ => k _ _ ⟨δ, G1, h1, f, rs.fm rh f, rh1⟩⟩
def dRet (te : DE) : DS := fun D δ G => te δ G D.rt
theorem pds_ret (he : PD X e te) : PDS X (.Return (some e) pos) (dRet te) := imp_ps (ps_ret he) fun D σ H h => by
  obtain ⟨δ, G, D', rs, rh, h, _, k, _⟩ := h
  exact ⟨δ, G, _, rs, rh, h, k⟩
def dRetN : DS := fun D _ G => D.rt .non G
theorem pds_retN : PDS X (.Return none pos) dRetN := imp_ps ps_retN fun D σ H h => by
  obtain ⟨δ, G, D', rs, rh, h, _, k, _⟩ := h
  exact k _ _ ⟨.non, G, h, Fm.refl _ _, .non, rh⟩
def dBrk : DS := fun D δ G => D.bk δ G
def dCnt : DS := fun D δ G => D.ct δ G
theorem pds_brk : PDS X (.Break pos) dBrk := imp_ps ps_break fun D σ H h => by
  obtain ⟨δ, G, D', rs, rh, h, _, _, k, _⟩ := h
  exact k _ _ ⟨δ, G, h, Fm.refl _ _, rs, rh⟩
theorem pds_cnt : PDS X (.Continue pos) dCnt := imp_ps ps_continue fun D σ H h => by
  obtain ⟨δ, G, D', rs, rh, h, _, _, _, k⟩ := h
  exact k _ _ ⟨δ, G, h, Fm.refl _ _, rs, rh⟩
def dIfS (c : DT) (t u : DS) : DS := fun D δ G => c δ G fun b G1 => match b with
  | true => t D δ G1
  | false => u D δ G1
theorem pds_if {c : Expr} {a b : List Stmt} {tc : DT} (hc : PDT X c tc) (ha : PDSs X a t) (hb : PDSs X b u) : PDS X (.If c a b pos) (dIfS tc t u) := imp_ps (ps_if hc ha hb) fun D σ H h => by
  obtain ⟨δ, G, D', rs, rh, h, k1, k2, k3, k4⟩ := h
  refine ⟨δ, G, _, rs, rh, h, fun c H1 ⟨G1, h1, f, rh1⟩ => ?_⟩
  cases c with
  | true =>
    rw [if_pos rfl]
    exact ⟨δ, G1, D', rs.fm rh f, rh1, h1, fun a b q => k1 a b (q.step f), fun a b q => k2 a b (q.step f), fun a b q => k3 a b (q.step f), fun a b q => k4 a b (q.step f)⟩
  | false =>
    rw [if_neg Bool.false_ne_true]
    exact ⟨δ, G1, D', rs.fm rh f, rh1, h1, fun a b q => k1 a b (q.step f), fun a b q => k2 a b (q.step f), fun a b q => k3 a b (q.step f), fun a b q => k4 a b (q.step f)⟩
/-- what is never come to -/
def dNever : DS := fun _ _ _ => False
theorem pds_never : PDS X st dNever := imp_ps ps_never fun D σ H h => by
  obtain ⟨_, _, _, _, _, h, _⟩ := h
  exact h
theorem pdss_never {sts : List Stmt} : PDSs X sts dNever := imp_pss pss_never fun D σ H h => by
  obtain ⟨_, _, _, _, _, h, _⟩ := h
  exact h
end

/-! ### targets -/
abbrev DG := D → DSt → DH → (DSt → DH → Prop) → Prop
abbrev DGs := List D → DSt → DH → (DSt → DH → Prop) → Prop
def upG (K : PySem.W.Frag) (g : DG) : TG := fun v σ H Q => ∃ d δ G Q', Rp K H v d ∧ RepS K H σ δ ∧ RepH K H G ∧ g d δ G Q' ∧ ∀ σ' H', upN K H G Q' σ' H' → Q σ' H'
def upGs (K : PySem.W.Frag) (g : DGs) : TGs := fun vs σ H Q => ∃ ds δ G Q', RpL K H vs ds ∧ RepS K H σ δ ∧ RepH K H G ∧ g ds δ G Q' ∧ ∀ σ' H', upN K H G Q' σ' H' → Q σ' H'
abbrev PDG (X : Cx) (e : Expr) (g : DG) : Prop := PG X e (upG X.K g)
abbrev PDGs (X : Cx) (es : List Expr) (g : DGs) : Prop := PGs X es (upGs X.K g)
section
variable {X : Cx} {pos : Pos}
theorem imp_pg {e : Expr} {t u : TG} (h : PG X e t) (i : ∀ v σ H Q, u v σ H Q → t v σ H Q) : PG X e u := ⟨fun pins s σ H v w Q I r q => h.run pins s σ H v w Q I r (i _ _ _ _ q)⟩
theorem imp_pgs {e : List Expr} {t u : TGs} (h : PGs X e t) (i : ∀ v σ H Q, u v σ H Q → t v σ H Q) : PGs X e u := ⟨fun pins s σ H v w Q I r q => h.run pins s σ H v w Q I r (i _ _ _ _ q)⟩
def gN (i : Nat) : DG := fun d δ G Q => Q (setD δ i d) G
theorem pdg_name {i : Nat} {x : Str} (hN : X.N.Nodup) (hi : X.N[i]? = some x) (hx : Loc X.env.scope x) (hf : X.fn x = true ∨ X.env.scope.names.lookup x = some .local := by first | exact .inl rfl | exact .inr rfl | assumption) : PDG X (.Name x pos) (gN i) :=
  imp_pg (pg_name hN hi hx hf) fun v σ H Q h => by
    obtain ⟨d, δ, G, Q', r, rs, rh, h, k⟩ := h
    exact k _ _ ⟨_, G, h, Fm.refl _ _, rs.set i r, rh⟩
def gNil' : DGs := fun ds δ G Q => match ds with
  | [] => Q δ G
  | _ => False
def gCons' (g : DG) (gs : DGs) : DGs := fun ds δ G Q => match ds with
  | d :: ds => g d δ G fun δ' G' => gs ds δ' G' Q
  | [] => False
theorem pdgs_nil : PDGs X [] gNil' := imp_pgs pgs_nil fun v σ H Q h => by
  obtain ⟨d, δ, G, Q', r, rs, rh, h, k⟩ := h
  cases r with
  | nil => exact ⟨rfl, k _ _ ⟨δ, G, h, Fm.refl _ _, rs, rh⟩⟩
  | cons _ _ => exact h.elim
theorem pdgs_cons {e : Expr} {es : List Expr} {g : DG} {gs : DGs} (h1 : PDG X e g) (h2 : PDGs X es gs) (hs : (assignEach (e :: es) X.env).map (·.2) = assign e X.env :: (assignEach es X.env).map (·.2) := by rfl) : PDGs X (e :: es) (gCons' g gs) :=
  imp_pgs (pgs_cons h1 h2 hs) fun v σ H Q h => by
    obtain ⟨d, δ, G, Q', r, rs, rh, h, k⟩ := h
    cases r with
    | nil => exact h.elim
    | cons r1 r2 => exact ⟨_, _, rfl, _, δ, G, _, r1, rs, rh, h, fun σ' H' ⟨δ', G', h', f, rs', rh'⟩ => ⟨_, δ', G', Q', r2.fm rh f, rs', rh', h', fun a b q => k a b (q.step f)⟩⟩
/-- a, b = a tuple or a list of just so many -/
def gUnp (n : Nat) (gs : DGs) : DG := fun d δ G Q => match d with
  | .tup ds => ds.length = n ∧ gs ds δ G Q
  | .ref a => ∃ ds, G a = some (.lst ds) ∧ ds.length = n ∧ gs ds δ G Q
  | _ => False
theorem PG.or {e : Expr} {t u : TG} (h : PG X e t) (k : PG X e u) : PG X e (fun v σ H Q => t v σ H Q ∨ u v σ H Q) := ⟨fun pins s σ H v w Q I r q => q.elim (fun q => h.run pins s σ H v w Q I r q) fun q => k.run pins s σ H v w Q I r q⟩
theorem pdg_unp {es : List Expr} {k : Nat} {gs : DGs} {n : Nat} (hc : X.calm = true) (h : PDGs X es gs) (hn : (assignEach es X.env).length = n := by rfl) (hst : (assignEach es X.env).findIdx? (·.1) = none := by rfl) : PDG X (.Tuple es k pos) (gUnp n gs) :=
  imp_pg (PG.or (pg_tup hc h hn hst) (pg_unl hc h hn hst)) fun v σ H Q h => by
    obtain ⟨d, δ, G, Q', r, rs, rh, h, k⟩ := h
    cases r with
    | tup s l => exact .inl ⟨_, _, rfl, SqT.of s, by rw [l.length]; exact h.1, _, δ, G, Q', l, rs, rh, h.2, k⟩
    | ref a =>
      obtain ⟨ds, e, hl, q⟩ := h
      obtain ⟨xs, hx, l⟩ := rh a _ e
      exact .inr ⟨a, xs, rfl, SqL.of hx, by rw [l.length]; exact hl, _, δ, G, Q', l, rs, rh, q, k⟩
    | _ => exact h.elim
/-- o[i] = v -/
def dSet (x y d : D) (G : DH) (Q : DH → Prop) : Prop := match x with
  | .ref a => (∃ ds k j, y = .int k ∧ G a = some (.lst ds) ∧ ixN ds.length k = some j ∧ Q (put G a (.lst (ds.set j d)))) ∨ (∃ t kvs, G a = some (.dic t kvs) ∧ keyOk t y ∧ kvs.length < sizeLine ∧ Q (put G a (.dic t (dput kvs y d))))
  | _ => False
def gSt (to ti : DE) : DG := fun d δ G Q => to δ G fun x G1 => ti δ G1 fun y G2 => dSet x y d G2 fun G3 => Q δ G3
theorem set_any (hu : X.A.units + 1 < cLine) : PSet X (fun o i v H Q => rSetL o i v H Q ∨ ∃ a H', o = .ref a ∧ DPut H a i v H' ∧ Q H') := by
  intro pins s σ H o i v ov iv u Q I ro ri rv h
  rcases h with h | ⟨a, H', rfl, g, q⟩
  · exact set_list pins s σ H o i v ov iv u Q I ro ri rv h
  · cases ro
    exact d_setItem hu I g ri rv fun s1 I1 => ⟨H', I1, q⟩
theorem pdg_st {o i : Expr} {to ti : DE} (hu : X.A.units + 1 < cLine) (ho : PD X o to) (hi : PD X i ti)
    (ha : ∀ v, assign (.Subscript o i pos) X.env v = (do
      let ov ← holding [v] (eval o X.env)
      let iv ← holding [v, ov] (eval i X.env)
      standAt pos
      holding [v, ov, iv] (setItem ov iv v)
      release [v, ov, iv] []) := by intro _; rfl) : PDG X (.Subscript o i pos) (gSt to ti) :=
  imp_pg (pg_sub ho hi (set_any hu) ha) fun v σ H Q h => by
    obtain ⟨d, δ, G, Q', r, rs, rh, h, k⟩ := h
    refine ⟨δ, G, _, rs, rh, h, fun w H1 ⟨x, G1, h1, f1, rx, rh1⟩ => ?_⟩
    refine ⟨δ, G1, _, rs.fm rh f1, rh1, h1, fun w' H2 ⟨y, G2, h2, f2, ry, rh2⟩ => ?_⟩
    have rx' := rx.fm rh1 f2
    have rd := (r.fm rh f1).fm rh1 f2
    have rs2 := (rs.fm rh f1).fm rh1 f2
    have fin : ∀ {a : Addr} {o : HO} {o' q : DO}, G2 a = some q → RepO X.K (upd H2 a o) a o' → Q' δ (put G2 a o') → Q σ (upd H2 a o) := fun {a o o' q} e ro z => by
      have f : Fm H2 G2 (upd H2 a o) (put G2 a o') := fm_write o' e
      exact k _ _ ⟨δ, _, z, (f1.trans f2).trans f, rs2.fm rh2 f, rh2.write e ro⟩
    cases rx' with
    | ref a =>
      have h2' : (∃ ds k j, y = .int k ∧ G2 a = some (.lst ds) ∧ ixN ds.length k = some j ∧ Q' δ (put G2 a (.lst (ds.set j d)))) ∨ (∃ t kvs, G2 a = some (.dic t kvs) ∧ keyOk t y ∧ kvs.length < sizeLine ∧ Q' δ (put G2 a (.dic t (dput kvs y d)))) := h2
      rcases h2' with ⟨ds, i, j, rfl, e, ej, q⟩ | ⟨t, kvs, e, ok, hl, q⟩
      · cases ry
        obtain ⟨xs, hx, l⟩ := rh2 a _ e
        refine .inl ⟨a, xs, i, j, rfl, rfl, hx, by rw [l.length]; exact ej, fin e ?_ q⟩
        exact ⟨_, upd_same, (l.set rd j).fm rh2 (fm_write (.lst (ds.set j d)) e)⟩
      · obtain ⟨o, g, ro⟩ := dput_of rh2 e ok ry rd hl
        exact .inr ⟨a, _, rfl, g, fin e ro q⟩
    | _ => exact h2.elim
def dAsg (te : DE) (g : DG) : DS := fun D δ G => te δ G fun d G1 => g d δ G1 D.nx
theorem up_asg {K : PySem.W.Frag} {te : DE} {g : DG} {D : Ends} {σ : L2.St} {H : Hp} (h : upS K (dAsg te g) D σ H) : tAsg (up K te) (upG K g) D σ H := by
  obtain ⟨δ, G, D', rs, rh, h, k, _⟩ := h
  exact ⟨δ, G, _, rs, rh, h, fun v H1 ⟨d, G1, h1, f, r, rh1⟩ => ⟨d, δ, G1, _, r, rs.fm rh f, rh1, h1, fun a b q => k a b (q.step f)⟩⟩
theorem pds_asg {tg e : Expr} {te : DE} {g : DG} (he : PD X e te) (hg : PDG X tg g) (hs : swapsWithSole [tg] e pos.line X.env = pure false := by rfl) (hw : swappedStores [tg] e X.env = pure none := by rfl)
    (h1 : (assignEach [tg] X.env).map (·.2) = [assign tg X.env] := by rfl) : PDS X (.Assign [tg] e pos) (dAsg te g) := imp_ps (ps_asg he hg hs hw h1) fun _ _ _ h => up_asg h
theorem pds_set {i : Nat} {x : Str} {e : Expr} {te : DE} {pos' : Pos} (hN : X.N.Nodup) (hi : X.N[i]? = some x) (hx : Loc X.env.scope x) (he : PD X e te) (hs : swapsWith e (some (.Name x pos')) pos.line X.env = pure false := by rfl) (hf : X.fn x = true ∨ X.env.scope.names.lookup x = some .local := by first | exact .inl rfl | exact .inr rfl | assumption) :
    PDS X (.Assign [.Name x pos'] e pos) (dAsg te (gN i)) := imp_ps (ps_set hN hi hx he hs hf) fun D σ H h => by
  obtain ⟨δ, G, D', rs, rh, h, k, _⟩ := h
  exact ⟨δ, G, _, rs, rh, h, fun v H1 ⟨d, G1, h1, f, r, rh1⟩ => k _ _ ⟨_, G1, h1, f, (rs.fm rh f).set i r, rh1⟩⟩
end

/-! ### fields -/
section
variable {X : Cx} {pos : Pos}
def fput (fs : List (Str × D)) (f : Str) (d : D) : List (Str × D) := match fs with
  | [] => [(f, d)]
  | p :: r => if p.1 = f then (p.1, d) :: r else p :: fput r f d
abbrev Fds (K : PySem.W.Frag) (H : Hp) (vs : List (Str × V)) (fs : List (Str × D)) : Prop := Paired (fun (p : Str × V) (q : Str × D) => p.1 = q.1 ∧ Rp K H p.2 q.2) vs fs
theorem fds_look {K : PySem.W.Frag} {H : Hp} {vs : List (Str × V)} {fs : List (Str × D)} (r : Fds K H vs fs) {f : Str} {d : D} (e : fs.lookup f = some d) : ∃ v, vs.lookup f = some v ∧ Rp K H v d := by
  induction r with
  | nil => cases e
  | cons h t ih =>
    rename_i p q _ _
    obtain ⟨p1, p2⟩ := p
    obtain ⟨q1, q2⟩ := q
    obtain ⟨e1, r1⟩ := h
    dsimp only at e1 r1
    subst e1
    rw [List.lookup_cons] at e ⊢
    cases c : f == p1 with
    | true => rw [c] at e; dsimp only at e; cases e; exact ⟨_, rfl, r1⟩
    | false => rw [c] at e; exact ih e
theorem fds_none {K : PySem.W.Frag} {H : Hp} {vs : List (Str × V)} {fs : List (Str × D)} (r : Fds K H vs fs) {f : Str} (e : fs.lookup f = none) : vs.lookup f = none := by
  induction r with
  | nil => rfl
  | cons h t ih =>
    rename_i p q _ _
    obtain ⟨p1, p2⟩ := p
    obtain ⟨q1, q2⟩ := q
    obtain ⟨e1, r1⟩ := h
    dsimp only at e1 r1
    subst e1
    rw [List.lookup_cons] at e ⊢
    cases c : f == p1 with
    | true => rw [c] at e; cases e
    | false => rw [c] at e; exact ih e
theorem fds_put {K : PySem.W.Frag} {H : Hp} {vs : List (Str × V)} {fs : List (Str × D)} (r : Fds K H vs fs) {f : Str} {v : V} {d : D} (rd : Rp K H v d) : Fds K H (putF f v vs) (fput fs f d) := by
  induction r with
  | nil => exact .cons ⟨rfl, rd⟩ .nil
  | cons h t ih =>
    rename_i p q _ _
    obtain ⟨p1, p2⟩ := p
    obtain ⟨q1, q2⟩ := q
    obtain ⟨e1, r1⟩ := h
    dsimp only at e1 r1
    subst e1
    show Fds K H (if p1 = f then _ else _) (if p1 = f then _ else _)
    by_cases c : p1 = f
    · rw [if_pos c, if_pos c]
      exact .cons ⟨by first | rfl | exact c.symm, rd⟩ t
    · rw [if_neg c, if_neg c]
      exact .cons ⟨rfl, r1⟩ ih
def dFld (C : Addr) (ta : DE) (f : Str) : DE := fun δ G Q => ta δ G fun x G1 => match x with
  | .ref a => ∃ dx fs d, G1 a = some (.ins C dx fs) ∧ fs.lookup f = some d ∧ Q d G1
  | _ => False
theorem pd_fld {C : Addr} {e : Expr} {ta : DE} {f : Str} (c : Cls X.K C) (n : NoAttr X.K C f) (he : PD X e ta) (hb : attributeBase e f X.env (eval e X.env) = eval e X.env) : PD X (.Attribute e f pos) (dFld C ta f) :=
  imp_pe (pe_fld he hb) fun σ H Q h => by
    obtain ⟨δ, G, Q', rs, rh, h, k⟩ := h
    refine ⟨δ, G, _, rs, rh, h, fun v H1 ⟨x, G1, h1, f1, rx, rh1⟩ => ?_⟩
    cases rx with
    | ref a =>
      obtain ⟨dx, fs, d, e, l, q⟩ := h1
      obtain ⟨vs, hv, r⟩ := rh1 a _ e
      obtain ⟨v, lv, rv⟩ := fds_look r l
      exact ⟨a, C, dx, vs, v, rfl, hv, c, n, lv, k _ _ ⟨d, G1, q, f1, rv, rh1⟩⟩
    | _ => exact h1.elim
def dSFld (C : Addr) (ta tv : DE) (f : Str) : DS := fun D δ G => tv δ G fun d G1 => ta δ G1 fun x G2 => match x with
  | .ref a => ∃ dx fs, G2 a = some (.ins C dx fs) ∧ fs.length < 1000 ∧ D.nx δ (put G2 a (.ins C dx (fput fs f d)))
  | _ => False
theorem pds_fld {C : Addr} {o value : Expr} {ta tv : DE} {f : Str} {pos' : Pos} (c : Cls X.K C) (n : NoAttr X.K C f) (ha : PD X o ta) (hv : PD X value tv) (hs : swapsWith value (some (.Attribute o f pos')) pos.line X.env = pure false) : PDS X (.Assign [.Attribute o f pos'] value pos) (dSFld C ta tv f) :=
  imp_ps (ps_fld ha hv hs) fun D σ H h => by
    obtain ⟨δ, G, D', rs, rh, h, k, _⟩ := h
    refine ⟨δ, G, _, rs, rh, h, fun v H1 ⟨d, G1, h1, f1, rd, rh1⟩ => ?_⟩
    refine ⟨δ, G1, _, rs.fm rh f1, rh1, h1, fun w H2 ⟨x, G2, h2, f2, rx, rh2⟩ => ?_⟩
    cases rx with
    | ref a =>
      obtain ⟨dx, fs, e, hl, q⟩ := h2
      obtain ⟨vs, hv, r⟩ := rh2 a _ e
      have ff : ∀ o, Fm H2 G2 (upd H2 a o) (put G2 a (.ins C dx (fput fs f d))) := fun o => fm_write _ e
      refine ⟨a, C, dx, vs, rfl, hv, c, n, by rw [Paired.length r]; exact hl, k _ _ ⟨δ, _, q, (f1.trans f2).trans (ff _), ((rs.fm rh f1).fm rh1 f2).fm rh2 (ff _), rh2.write e ?_⟩⟩
      exact ⟨_, upd_same, paired_imp (fun _ _ h => ⟨h.1, h.2.fm rh2 (ff _)⟩) (fds_put r (rd.fm rh1 f2))⟩
    | _ => exact h2.elim
end
end D3

set_option Elab.async false
set_option linter.all false
set_option maxRecDepth 100000
set_option maxHeartbeats 4000000
namespace D3
open PySem PySem.Spec PyProof.Rows L2

/-! ### while -/
def lo (N : DSt → DH → Prop) : DSt → DH → Prop := fun δ G => ∃ G0, Le G0 G ∧ N δ G0
def dWhile (c : DT) (tb : DS) : DS := fun D δ G => ∃ P : Nat → DSt → DH → Prop, (∃ m, P m δ G) ∧ ∀ m δ G, P m δ G →
  c δ G fun b G1 => match b with
    | true => tb { D with nx := lo fun δ' G' => ∃ m', m' < m ∧ P m' δ' G', ct := lo fun δ' G' => ∃ m', m' < m ∧ P m' δ' G', bk := D.nx } δ G1
    | false => D.nx δ G1
section
variable {X : Cx} {pos : Pos}
theorem pds_while {c : Expr} {body : List Stmt} {tc : DT} {tb : DS} (hp : PassesOwn (model X.prog X.w) X.A X.env X.xe) (hc : PDT X c tc) (hb : PDSs X body tb) : PDS X (.While c body [] pos) (dWhile tc tb) :=
  imp_ps (ps_while hp hc hb) fun D σ H h => by
    obtain ⟨δ0, G0, D', rs0, rh0, ⟨P, ⟨m0, p0⟩, turn⟩, k1, k2, k3, k4⟩ := h
    refine ⟨fun m σ H' => ∃ δ G, P m δ G ∧ Fm H G0 H' G ∧ RepS X.K H' σ δ ∧ RepH X.K H' G, ⟨m0, δ0, G0, p0, Fm.refl _ _, rs0, rh0⟩, ?_⟩
    rintro m σ H1 ⟨δ, G, p, f, rs, rh⟩
    refine ⟨δ, G, _, rs, rh, turn m δ G p, fun b H2 ⟨G2, h2, f2, rh2⟩ => ?_⟩
    cases b with
    | true =>
      rw [if_pos rfl]
      refine ⟨fun σ' H' => ∃ m', m' < m ∧ ∃ δ' G', P m' δ' G' ∧ Fm H G0 H' G' ∧ RepS X.K H' σ' δ' ∧ RepH X.K H' G', fun σ' H' z => z, ?_⟩
      have back : ∀ σ' H', upN X.K H2 G2 (lo fun δ' G' => ∃ m', m' < m ∧ P m' δ' G') σ' H' → ∃ m', m' < m ∧ ∃ δ' G', P m' δ' G' ∧ Fm H G0 H' G' ∧ RepS X.K H' σ' δ' ∧ RepH X.K H' G' := fun σ' H' ⟨δ', G', ⟨Gs, hle, m', hm, p'⟩, f3, rs3, rh3⟩ =>
        ⟨m', hm, δ', Gs, p', (((f.trans f2).trans f3).le hle), rs3, rh3.le hle⟩
      exact ⟨δ, G2, _, rs.fm rh f2, rh2, h2, back, fun v H' q => k2 v H' ((q.step f2).step f), fun σ' H' q => k1 σ' H' ((q.step f2).step f), back⟩
    | false =>
      rw [if_neg Bool.false_ne_true]
      exact k1 _ _ ⟨δ, G2, h2, f.trans f2, rs.fm rh f2, rh2⟩
end

/-! ### what is walked -/
abbrev DI := DSt → DH → (List D → (DH → Prop) → DH → Prop) → Prop
/-- J walks the things xs from H, G on, as long as keep stands -/
def ItOk (K : PySem.W.Frag) (H : Hp) (G : DH) (J : It) (xs : List D) (keep : DH → Prop) : Prop :=
  ∀ (i : Nat) (H' : Hp) (G' : DH), Fm H G H' G' → RepH K H' G' → keep G' →
    (xs.length ≤ i → J.stop i H') ∧ ∀ d, xs[i]? = some d → J.go i H' ∧ ∀ x H2, J.yld i H' x H2 → Fm H' G' H2 G' ∧ RepH K H2 G' ∧ Rp K H2 x d
def upI (K : PySem.W.Frag) (t : DI) : TI := fun σ H R => ∃ δ G R', RepS K H σ δ ∧ RepH K H G ∧ t δ G R' ∧ ∀ J H', (∃ xs keep G', R' xs keep G' ∧ Fm H G H' G' ∧ RepH K H' G' ∧ ItOk K H' G' J xs keep) → R J H'
abbrev PDI (X : Cx) (tg e : Expr) (t : DI) : Prop := PI X tg e (upI X.K t)
section
variable {X : Cx} {pos : Pos} {tg : Expr}
theorem imp_pi {e : Expr} {t u : TI} (h : PI X tg e t) (i : ∀ σ H R, u σ H R → t σ H R) : PI X tg e u := ⟨fun pins s σ H R I q => h.run pins s σ H R I (i _ _ _ q)⟩
variable {pins : List (Addr × Obj)} {σ : L2.St} {H : Hp} {s : Shared} {R : It → Hp → Prop} {E : Value → Shared → Prop}
theorem it_list {a : Addr} {xs : List V} (I : Inv X pins σ H s) (hq : SqL X.K H a xs) (q : R (Itl X.K a) H) : wpAny (model X.prog X.w) X.A (pyIter (.ref a)) (PIE X pins σ tg R) E s := by
  obtain ⟨vs, rv, pl, _⟩ := I.list hq
  exact wpAny_pyIter_list pl.isList (pi_one (tk := s.toks) I _ (turn_list a _) ⟨_, Heap.get?_push_size _ rfl, rfl, rfl⟩ q)
theorem it_tup {a : Addr} {xs : List V} (I : Inv X pins σ H s) (hq : SqT X.K H a xs) (q : R (Itt X.K a) H) : wpAny (model X.prog X.w) X.A (pyIter (.ref a)) (PIE X pins σ tg R) E s := by
  obtain ⟨vs, rv, pl, _⟩ := I.tuple hq
  exact wpAny_pyIter_tuple (show s.heap.IsTuple a vs.toArray from pl) (pi_one (tk := s.toks) I _ (turn_tuple a _) ⟨_, Heap.get?_push_size _ rfl, rfl, rfl⟩ q)
theorem it_str {x : Str} {t : Tok} (I : Inv X pins σ H s) (q : R (Its x) H) : wpAny (model X.prog X.w) X.A (pyIter (.str x t)) (PIE X pins σ tg R) E s := by
  cases c : x.cps.all (· < 128)
  · exact wpAny_pyIter_wide c (pi_one (tk := s.toks) I _ (turn_str _ x t "str_iterator" (.inr rfl)) ⟨_, Heap.get?_push_size _ rfl, rfl, rfl⟩ q)
  · exact wpAny_pyIter_ascii c (pi_one (tk := s.toks) I _ (turn_str _ x t "str_ascii_iterator" (.inl rfl)) ⟨_, Heap.get?_push_size _ rfl, rfl, rfl⟩ q)
theorem it_dK {d : Addr} {o : Obj} {ks : List (Key × V)} (I : Inv X pins σ H s) (hd : H d = some (.frz o (.dK ks))) (q : R (Itk d o ks) H) : wpAny (model X.prog X.w) X.A (pyIter (.ref d)) (PIE X pins σ tg R) E s := by
  obtain ⟨hs, hg, hx, es, ep, vs, hdt, hsz, _, _⟩ := I.frzK hd
  refine iter_keys hs hg hx hdt (pi_one (tk := s.toks) I _ (turn_keys _ hdt) ⟨_, Heap.get?_push_size _ rfl, rfl, ?_⟩ q)
  rw [hsz]; rfl
theorem it_dT {d : Addr} {o : Obj} {ks : List (List Key × V)} (I : Inv X pins σ H s) (hd : H d = some (.frz o (.dT ks))) (q : R (Itkt d o ks) H) : wpAny (model X.prog X.w) X.A (pyIter (.ref d)) (PIE X pins σ tg R) E s := by
  obtain ⟨hs, hg, hx, es, ep, hdt, hsz, _⟩ := I.frzT hd
  refine iter_keys hs hg hx hdt (pi_one (tk := s.toks) I _ (turn_keysT _ hdt) ⟨_, Heap.get?_push_size _ rfl, rfl, ?_⟩ q)
  rw [hsz]; rfl
end
section
variable {K : PySem.W.Frag} {H : Hp} {G : DH}
theorem ok_list {a : Addr} {ds : List D} : ItOk K H G (Itl K a) ds (fun G => G a = some (.lst ds)) := fun i H' G' f rh e => by
  obtain ⟨xs, hx, l⟩ := rh a _ e
  refine ⟨fun hl => ⟨xs, SqL.of hx, by rw [l.length]; exact hl⟩, fun d ed => ?_⟩
  obtain ⟨v, ev, r⟩ := l.get ed
  refine ⟨⟨xs, v, SqL.of hx, ev⟩, fun x H2 ⟨e1, e2⟩ => ?_⟩
  subst e1
  have := e2 xs (SqL.of hx)
  rw [ev] at this
  cases this
  exact ⟨Fm.refl _ _, rh, r⟩
theorem ok_lro {a : Addr} {xs : List V} {ds : List D} (rh0 : RepH K H G) (s : SqF K H a xs) (l0 : RpL K H xs ds) : ItOk K H G (Itl K a) ds (fun _ => True) := fun i H' G' f rh _ => by
  have s' := sqF_fm rh0 f s
  have l := l0.fm rh0 f
  refine ⟨fun hl => ⟨xs, s'.sq, by rw [l.length]; exact hl⟩, fun d ed => ?_⟩
  obtain ⟨v, ev, r⟩ := l.get ed
  refine ⟨⟨xs, v, s'.sq, ev⟩, fun x H2 ⟨e1, e2⟩ => ?_⟩
  subst e1
  have := e2 xs s'.sq
  rw [ev] at this
  cases this
  exact ⟨Fm.refl _ _, rh, r⟩
theorem ok_tup {a : Addr} {xs : List V} {ds : List D} (rh0 : RepH K H G) (s : ∀ {H' : Hp} {G' : DH}, Fm H G H' G' → SqT K H' a xs) (l0 : RpL K H xs ds) : ItOk K H G (Itt K a) ds (fun _ => True) := fun i H' G' f rh _ => by
  have s' := s f
  have l := l0.fm rh0 f
  refine ⟨fun hl => ⟨xs, s', by rw [l.length]; exact hl⟩, fun d ed => ?_⟩
  obtain ⟨v, ev, r⟩ := l.get ed
  refine ⟨⟨xs, v, s', ev⟩, fun x H2 ⟨e1, e2⟩ => ?_⟩
  subst e1
  have := e2 xs s'
  rw [ev] at this
  cases this
  exact ⟨Fm.refl _ _, rh, r⟩
theorem ok_str {x : Str} : ItOk K H G (Its x) (x.cps.toList.map fun c => .str ⟨#[c]⟩) (fun _ => True) := fun i H' G' f rh _ => by
  refine ⟨fun hl => by
    rw [List.length_map, Array.length_toList] at hl
    exact hl, fun d ed => ?_⟩
  rw [List.getElem?_map, Array.getElem?_toList] at ed
  obtain ⟨c, hc, e⟩ := Option.map_eq_some_iff.mp ed
  refine ⟨(Array.getElem?_eq_some_iff.mp hc).1, fun y H2 ⟨e1, c', hc', e2⟩ => ?_⟩
  subst e1; subst e2; subst e
  rw [hc] at hc'
  cases hc'
  exact ⟨Fm.refl _ _, rh, .str _⟩
theorem ok_rng {lo : Int} {n : Nat} : ItOk K H G (Itr lo n) ((List.range n).map fun i : Nat => .int (lo + (i : Int))) (fun _ => True) := fun i H' G' f rh _ => by
  refine ⟨fun hl => by
    rw [List.length_map, List.length_range] at hl
    exact hl, fun d ed => ?_⟩
  rw [List.getElem?_map] at ed
  obtain ⟨c, hc, e⟩ := Option.map_eq_some_iff.mp ed
  have hi : i < n := by
    have := (List.getElem?_eq_some_iff.mp hc).1
    rw [List.length_range] at this; exact this
  rw [List.getElem?_range hi] at hc
  cases hc
  refine ⟨hi, fun y H2 ⟨e1, e2⟩ => ?_⟩
  subst e1; subst e2; subst e
  exact ⟨Fm.refl _ _, rh, .int _⟩
theorem prs_at {κ : Type} {f : κ → D} {ks : List (κ × V)} {kvs : List (D × D)} (r : Prs K H f ks kvs) {i : Nat} {d : D} (e : (kvs.map (·.1))[i]? = some d) : ∃ k v, ks[i]? = some (k, v) ∧ d = f k := by
  induction r generalizing i with
  | nil => simp at e
  | cons h t ih =>
    rename_i p q _ _
    cases i with
    | zero => simp at e; exact ⟨p.1, p.2, rfl, by rw [← e]; exact h.1⟩
    | succ i => simp at e; exact ih (by simpa using e)
theorem ok_dK {a : Addr} {o : Obj} {ks : List (Key × V)} {kvs : List (D × D)} (hl : ks.length = kvs.length) : ItOk K H G (Itk a o ks) (kvs.map (·.1)) (fun G => G a = some (.fdic (.frz o (.dK ks)) .k kvs)) := fun i H' G' f rh e => by
  obtain ⟨o', ks', hu, hx, pr⟩ := rh a _ e
  cases hu
  refine ⟨fun h => ⟨hx, by rw [List.length_map] at h; omega⟩, fun d ed => ?_⟩
  obtain ⟨k, v, e1, e2⟩ := prs_at pr ed
  refine ⟨⟨hx, (List.getElem?_eq_some_iff.mp e1).1⟩, fun y H2 ⟨e3, k', v', e4, e5⟩ => ?_⟩
  subst e3; subst e5; subst e2
  rw [e1] at e4
  cases e4
  refine ⟨Fm.refl _ _, rh, ?_⟩
  cases k with
  | inl i => exact .int i
  | inr x => exact .str x
theorem rp_kDs : ∀ ks : List Key, RpL K H (ks.map kV) (ks.map kD)
  | [] => .nil
  | .inl i :: ks => .cons (.int i) (rp_kDs ks)
  | .inr i :: ks => .cons (.str i) (rp_kDs ks)
theorem ok_dT {a : Addr} {o : Obj} {ks : List (List Key × V)} {kvs : List (D × D)} (hl : ks.length = kvs.length) : ItOk K H G (Itkt a o ks) (kvs.map (·.1)) (fun G => G a = some (.fdic (.frz o (.dT ks)) .t kvs)) := fun i H' G' f rh e => by
  obtain ⟨o', ks', hu, hx, pr⟩ := rh a _ e
  cases hu
  refine ⟨fun h => ⟨hx, by rw [List.length_map] at h; omega⟩, fun d ed => ?_⟩
  obtain ⟨k, v, e1, e2⟩ := prs_at (f := fun ks : List Key => D.tup (ks.map kD)) pr ed
  refine ⟨⟨hx, (List.getElem?_eq_some_iff.mp e1).1⟩, fun y H2 ⟨e3, k', v', q, e4, e5, e6⟩ => ?_⟩
  subst e3; subst e5; subst e2
  rw [e1] at e4
  cases e4
  exact ⟨Fm.refl _ _, rh, .tup e6 (rp_kDs _)⟩
end
section
variable {X : Cx} {pos : Pos} {tg : Expr}
/-- the things of a list, a tuple, a text, a locked dict -/
def itD (x : D) (G : DH) (R : List D → (DH → Prop) → DH → Prop) : Prop := match x with
  | .tup ds => R ds (fun _ => True) G
  | .ctu ds => R ds (fun _ => True) G
  | .lro ds => R ds (fun _ => True) G
  | .str z => R (z.cps.toList.map fun c => .str ⟨#[c]⟩) (fun _ => True) G
  | .ref a => (∃ ds, G a = some (.lst ds) ∧ R ds (fun G => G a = some (.lst ds)) G) ∨ (∃ u t kvs, G a = some (.fdic u t kvs) ∧ R (kvs.map (·.1)) (fun G => G a = some (.fdic u t kvs)) G)
  | _ => False
def dIt (te : DE) : DI := fun δ G R => te δ G fun x G1 => itD x G1 R
theorem pdi_it {e : Expr} {te : DE} (he : PD X e te) : PDI X tg e (dIt te) := by
  refine ⟨fun pins s σ H R I h => ?_⟩
  obtain ⟨δ, G, R', rs, rh, h, k⟩ := h
  refine thn (he.run pins s σ H (upQ X.K H G fun x G1 => itD x G1 R') I ⟨δ, G, _, rs, rh, h, fun _ _ q => q⟩) fun v s1 ⟨x, H1, I1, r1, d, G1, q, f, rd, rh1⟩ => ?_
  cases rd with
  | tup s l => cases r1; exact it_tup I1 (SqT.of s) (k _ _ ⟨_, _, G1, q, f, rh1, ok_tup rh1 (fun ff => SqT.of (tup_fm rh1 ff s)) l⟩)
  | ctu s l => cases r1; exact it_tup I1 (.inr s) (k _ _ ⟨_, _, G1, q, f, rh1, ok_tup rh1 (fun ff => .inr s) l⟩)
  | lro s l => cases r1; exact it_list I1 s.sq (k _ _ ⟨_, _, G1, q, f, rh1, ok_lro rh1 s l⟩)
  | str z => obtain ⟨t, rfl⟩ := r1; exact it_str I1 (k _ _ ⟨_, _, G1, q, f, rh1, ok_str⟩)
  | ref a =>
    cases r1
    have q' : (∃ ds, G1 a = some (.lst ds) ∧ R' ds (fun G => G a = some (.lst ds)) G1) ∨ (∃ u t kvs, G1 a = some (.fdic u t kvs) ∧ R' (kvs.map (·.1)) (fun G => G a = some (.fdic u t kvs)) G1) := q
    rcases q' with ⟨ds, e, q⟩ | ⟨u, t, kvs, e, q⟩
    · obtain ⟨xs, hx, l⟩ := rh1 a _ e
      exact it_list I1 (SqL.of hx) (k _ _ ⟨_, _, G1, q, f, rh1, ok_list⟩)
    · cases t with
      | k =>
        obtain ⟨o, ks, rfl, hx, pr⟩ := rh1 a _ e
        exact it_dK I1 hx (k _ _ ⟨_, _, G1, q, f, rh1, ok_dK (Paired.length pr)⟩)
      | t =>
        obtain ⟨o, ks, rfl, hx, pr⟩ := rh1 a _ e
        exact it_dT I1 hx (k _ _ ⟨_, _, G1, q, f, rh1, ok_dT (Paired.length pr)⟩)
  | _ => exact q.elim
/-- range(n), range(a, b), range(a, b, -1) -/
def dRng1 (ts : DA) : DI := fun δ G R => ts δ G fun ds G1 => match ds with
  | [.int n] => (-(2 ^ 62) ≤ n ∧ n < 2 ^ 62) ∧ R ((List.range n.toNat).map fun i : Nat => .int (0 + (i : Int))) (fun _ => True) G1
  | _ => False
def dRng2 (ts : DA) : DI := fun δ G R => ts δ G fun ds G1 => match ds with
  | [.int m, .int n] => (-(2 ^ 62) ≤ m ∧ m < 2 ^ 62 ∧ -(2 ^ 62) ≤ n ∧ n < 2 ^ 62) ∧ R ((List.range (n - m).toNat).map fun i : Nat => .int (m + (i : Int))) (fun _ => True) G1
  | _ => False
theorem pdi_range1 {a : Expr} {ta : DA} {p pos : Pos} (hg : Gl X "range") (hm : X.mg "range" = none) (ha : PDA X [a] ta) (hs : starEach [a] X.env = [(false, eval a X.env)] := by rfl) : PDI X tg (.Call (.Name "range" p) [a] [] pos) (dRng1 ta) :=
  imp_pi (pi_range1 hg hm ha hs) fun σ H R h => by
    obtain ⟨δ, G, R', rs, rh, h, k⟩ := h
    refine ⟨δ, G, _, rs, rh, h, fun vs H1 ⟨ds, G1, h1, f1, rds, rh1⟩ => ?_⟩
    dsimp only at h1
    split at h1
    · cases rds with
      | cons r t =>
        cases r
        cases t
        exact ⟨_, rfl, h1.1.1, h1.1.2, k _ _ ⟨_, _, G1, h1.2, f1, rh1, ok_rng⟩⟩
    · exact h1.elim
theorem pdi_range2 {a b : Expr} {ta : DA} {p pos : Pos} (hg : Gl X "range") (hm : X.mg "range" = none) (ha : PDA X [a, b] ta) (hs : starEach [a, b] X.env = [(false, eval a X.env), (false, eval b X.env)] := by rfl) (hs2 : starEach [b] X.env = [(false, eval b X.env)] := by rfl) :
    PDI X tg (.Call (.Name "range" p) [a, b] [] pos) (dRng2 ta) :=
  imp_pi (pi_range2 hg hm ha hs hs2) fun σ H R h => by
    obtain ⟨δ, G, R', rs, rh, h, k⟩ := h
    refine ⟨δ, G, _, rs, rh, h, fun vs H1 ⟨ds, G1, h1, f1, rds, rh1⟩ => ?_⟩
    dsimp only at h1
    split at h1
    · cases rds with
      | cons r t =>
        cases r
        cases t with
        | cons r t =>
          cases r
          cases t
          exact ⟨_, _, rfl, h1.1, k _ _ ⟨_, _, G1, h1.2, f1, rh1, ok_rng⟩⟩
    · exact h1.elim
end

/-! ### for -/
def dFor (ti : DI) (g : DG) (tb : DS) : DS := fun D δ G => ti δ G fun xs keep G1 => ∃ P : Nat → DSt → DH → Prop, P 0 δ G1 ∧ (∀ i δ G, P i δ G → keep G) ∧
  (∀ i d δ G, xs[i]? = some d → P i δ G → g d δ G fun δ2 G2 => tb { D with nx := lo (P (i + 1)), ct := lo (P (i + 1)), bk := D.nx } δ2 G2) ∧ (∀ δ G, P xs.length δ G → D.nx δ G)
section
variable {X : Cx} {pos : Pos} {tg : Expr}
theorem pds_for {iter : Expr} {body : List Stmt} {ti : DI} {g : DG} {tb : DS} (hp : PassesOwn (model X.prog X.w) X.A X.env X.xe) (hc : X.calm = true) (hi : PDI X tg iter ti) (hg : PDG X tg g) (hb : PDSs X body tb)
    (hs : ∀ x, foldedSetIterable iter X.env x = pure x := by intro _; rfl) : PDS X (.For tg iter body [] pos) (dFor ti g tb) :=
  imp_ps (ps_for hp hc hi hg hb hs) fun D σ H h => by
    obtain ⟨δ0, G0, D', rs0, rh0, h, k1, k2, k3, k4⟩ := h
    refine ⟨δ0, G0, _, rs0, rh0, h, fun J H1 ⟨xs, keep, G1, ⟨P, p0, pk, turn, done⟩, f1, rh1, ok⟩ => ?_⟩
    refine ⟨fun i m σ H' => m = xs.length - i ∧ i ≤ xs.length ∧ ∃ δ G, P i δ G ∧ Fm H1 G1 H' G ∧ RepS X.K H' σ δ ∧ RepH X.K H' G, ⟨xs.length, by simp, Nat.zero_le _, δ0, G1, p0, Fm.refl _ _, rs0.fm rh0 f1, rh1⟩, ?_⟩
    rintro i m σ H2 ⟨rfl, hi, δ, G, p, f, rs, rh⟩
    obtain ⟨o1, o2⟩ := ok i H2 G f rh (pk _ _ _ p)
    by_cases hlt : i < xs.length
    · obtain ⟨go, yl⟩ := o2 xs[i] (List.getElem?_eq_getElem hlt)
      have back : ∀ {H3 : Hp} {G3 : DH}, Fm H1 G1 H3 G3 → ∀ σ' H', upN X.K H3 G3 (lo (P (i + 1))) σ' H' → ∃ δ' G', P (i + 1) δ' G' ∧ Fm H1 G1 H' G' ∧ RepS X.K H' σ' δ' ∧ RepH X.K H' G' := fun {H3 G3} f3 σ' H' ⟨δ', G', ⟨Gs, hle, p'⟩, f4, rs4, rh4⟩ =>
        ⟨δ', Gs, p', (f3.trans f4).le hle, rs4, rh4.le hle⟩
      refine .inr ⟨go, fun σ' H' => ∃ δ' G', P (i + 1) δ' G' ∧ Fm H1 G1 H' G' ∧ RepS X.K H' σ' δ' ∧ RepH X.K H' G', fun σ' H' ⟨δ', G', z⟩ => ⟨xs.length - (i + 1), by omega, rfl, hlt, δ', G', z⟩, fun x H3 y => ?_⟩
      obtain ⟨f2, rh3, rx⟩ := yl x H3 y
      refine ⟨_, δ, G, _, rx, rs.fm rh f2, rh3, turn i _ δ G (List.getElem?_eq_getElem hlt) p, fun σ4 H4 ⟨δ4, G4, h4, f4, rs4, rh4⟩ => ?_⟩
      have ff : Fm H1 G1 H4 G4 := (f.trans f2).trans f4
      exact ⟨δ4, G4, _, rs4, rh4, h4, back ff, fun v H' q => k2 v H' ((q.step ff).step f1), fun σ' H' q => k1 σ' H' ((q.step ff).step f1), back ff⟩
    · have e : i = xs.length := by omega
      subst e
      exact .inl ⟨o1 (Nat.le_refl _), k1 _ _ ⟨δ, G, done δ G p, f1.trans f, rs, rh⟩⟩
/-- the dict at a is locked while a statement runs -/
def dLock (t : DS) : DS := fun D δ G => ∃ a k kvs, G a = some (.dic k kvs) ∧ ∀ u, t ⟨fun δ' G' => G' a = some (.fdic u k kvs) ∧ D.nx δ' (put G' a (.dic k kvs)), fun d G' => G' a = some (.fdic u k kvs) ∧ D.rt d (put G' a (.dic k kvs)),
  fun δ' G' => G' a = some (.fdic u k kvs) ∧ D.bk δ' (put G' a (.dic k kvs)), fun δ' G' => G' a = some (.fdic u k kvs) ∧ D.ct δ' (put G' a (.dic k kvs))⟩ δ (put G a (.fdic u k kvs))
def dLockE (t : DE) : DE := fun δ G Q => ∃ a k kvs, G a = some (.dic k kvs) ∧ ∀ u, t δ (put G a (.fdic u k kvs)) fun d G' => G' a = some (.fdic u k kvs) ∧ Q d (put G' a (.dic k kvs))
/-- the dict below: what stands there, locked and not -/
theorem lock_at {K : PySem.W.Frag} {H : Hp} {G : DH} (rh : RepH K H G) {a : Addr} {k : DK} {kvs : List (D × D)} (e : G a = some (.dic k kvs)) :
    ∃ u, H a = some u ∧ Mut (some u) ∧ ∀ od, RepH K (upd H a (.frz od u)) (put G a (.fdic (.frz od u) k kvs)) ∧ Fm H G (upd H a (.frz od u)) (put G a (.fdic (.frz od u) k kvs)) ∧
      ∀ {H' : Hp} {G' : DH}, RepH K H' G' → G' a = some (.fdic (.frz od u) k kvs) → H' a = some (.frz od u) ∧ RepH K (upd H' a u) (put G' a (.dic k kvs)) ∧ Fm H' G' (upd H' a u) (put G' a (.dic k kvs)) := by
  cases k with
  | k =>
    obtain ⟨ks, hx, pr⟩ := rh a _ e
    refine ⟨_, hx, trivial, fun od => ?_⟩
    have f : Fm H G (upd H a (.frz od (.dK ks))) (put G a (.fdic (.frz od (.dK ks)) .k kvs)) := fm_write _ e
    refine ⟨rh.write e ⟨od, ks, rfl, upd_same, paired_imp (fun _ _ h => ⟨h.1, h.2.fm rh f⟩) pr⟩, f, fun {H' G'} rh' e' => ?_⟩
    obtain ⟨o', ks', hu, hx', pr'⟩ := rh' a _ e'
    cases hu
    have f' : Fm H' G' (upd H' a (.dK ks)) (put G' a (.dic .k kvs)) := fm_write _ e'
    exact ⟨hx', rh'.write e' ⟨ks, upd_same, paired_imp (fun _ _ h => ⟨h.1, h.2.fm rh' f'⟩) pr'⟩, f'⟩
  | t =>
    obtain ⟨ks, hx, pr⟩ := rh a _ e
    refine ⟨_, hx, trivial, fun od => ?_⟩
    have f : Fm H G (upd H a (.frz od (.dT ks))) (put G a (.fdic (.frz od (.dT ks)) .t kvs)) := fm_write _ e
    refine ⟨rh.write e ⟨od, ks, rfl, upd_same, paired_imp (fun _ _ h => ⟨h.1, h.2.fm rh f⟩) pr⟩, f, fun {H' G'} rh' e' => ?_⟩
    obtain ⟨o', ks', hu, hx', pr'⟩ := rh' a _ e'
    cases hu
    have f' : Fm H' G' (upd H' a (.dT ks)) (put G' a (.dic .t kvs)) := fm_write _ e'
    exact ⟨hx', rh'.write e' ⟨ks, upd_same, paired_imp (fun _ _ h => ⟨h.1, h.2.fm rh' f'⟩) pr'⟩, f'⟩
theorem pds_lock {st : Stmt} {t : DS} (h : PDS X st t) : PDS X st (dLock t) := imp_ps (ps_lock h) fun D σ H h => by
  obtain ⟨δ, G, D', rs, rh, ⟨a, k, kvs, e, h⟩, k1, k2, k3, k4⟩ := h
  obtain ⟨u, hu, mu, w⟩ := lock_at rh e
  refine ⟨a, u, hu, mu, fun od => ?_⟩
  obtain ⟨rh1, f1, un⟩ := w od
  refine ⟨δ, _, _, rs.fm rh f1, rh1, h (.frz od u), fun σ' H' ⟨δ', G', ⟨e', q⟩, f, rs', rh'⟩ => ?_, fun v H' ⟨d, G', ⟨e', q⟩, f, r', rh'⟩ => ?_, fun σ' H' ⟨δ', G', ⟨e', q⟩, f, rs', rh'⟩ => ?_, fun σ' H' ⟨δ', G', ⟨e', q⟩, f, rs', rh'⟩ => ?_⟩
  all_goals
    obtain ⟨x1, x2, x3⟩ := un rh' e'
    refine ⟨x1, ?_⟩
  · exact k1 _ _ ⟨δ', _, q, (f1.trans f).trans x3, rs'.fm rh' x3, x2⟩
  · exact k2 _ _ ⟨d, _, q, (f1.trans f).trans x3, r'.fm rh' x3, x2⟩
  · exact k3 _ _ ⟨δ', _, q, (f1.trans f).trans x3, rs'.fm rh' x3, x2⟩
  · exact k4 _ _ ⟨δ', _, q, (f1.trans f).trans x3, rs'.fm rh' x3, x2⟩
theorem pd_lock {e : Expr} {t : DE} (h : PD X e t) : PD X e (dLockE t) := imp_pe (pe_lock h) fun σ H Q h => by
  obtain ⟨δ, G, Q', rs, rh, ⟨a, k, kvs, e, h⟩, kk⟩ := h
  obtain ⟨u, hu, mu, w⟩ := lock_at rh e
  refine ⟨a, u, hu, mu, fun od => ?_⟩
  obtain ⟨rh1, f1, un⟩ := w od
  refine ⟨δ, _, _, rs.fm rh f1, rh1, h (.frz od u), fun v H' ⟨d, G', ⟨e', q⟩, f, r', rh'⟩ => ?_⟩
  obtain ⟨x1, x2, x3⟩ := un rh' e'
  exact ⟨x1, kk _ _ ⟨d, _, q, (f1.trans f).trans x3, r'.fm rh' x3, x2⟩⟩
end
end D3

set_option Elab.async false
set_option linter.all false
set_option maxRecDepth 100000
set_option maxHeartbeats 4000000
namespace D3
open PySem PySem.Spec PyProof.Rows L2

/-! #### what stands at p is replaced: all else stays -/
section
variable {K : PySem.W.Frag} {H : Hp} {p : Addr} {o o' : HO}
mutual
theorem rp_upd (hp : H p = some o) (n1 : ∀ xs, o ≠ .tup xs) (n2 : ∀ ob u, o ≠ .frz ob u) : ∀ {v : V} {d : D}, Rp K H v d → Rp K (upd H p o') v d
  | _, _, .non => .non
  | _, _, .bl b => .bl b
  | _, _, .int i => .int i
  | _, _, .str x => .str x
  | _, _, .ty n => .ty n
  | _, _, .ref a => .ref a
  | _, _, .tup h l => .tup (by rw [upd_ne (fun z => by rw [z, hp] at h; exact n1 _ (Option.some.inj h))]; exact h) (rpL_upd hp n1 n2 l)
  | _, _, .ctu h l => .ctu h (rpL_upd hp n1 n2 l)
  | _, _, .lro h l => .lro (h.elim (fun ⟨ob, h⟩ => .inl ⟨ob, by rw [upd_ne (fun z => by rw [z, hp] at h; exact n2 _ _ (Option.some.inj h))]; exact h⟩) .inr) (rpL_upd hp n1 n2 l)
theorem rpL_upd (hp : H p = some o) (n1 : ∀ xs, o ≠ .tup xs) (n2 : ∀ ob u, o ≠ .frz ob u) : ∀ {vs : List V} {ds : List D}, RpL K H vs ds → RpL K (upd H p o') vs ds
  | _, _, .nil => .nil
  | _, _, .cons h l => .cons (rp_upd hp n1 n2 h) (rpL_upd hp n1 n2 l)
end
theorem repO_upd (hp : H p = some o) (n1 : ∀ xs, o ≠ .tup xs) (n2 : ∀ ob u, o ≠ .frz ob u) {a : Addr} (ne : a ≠ p) {u : DO} (h : RepO K H a u) : RepO K (upd H p o') a u := by
  cases u with
  | lst ds =>
    obtain ⟨xs, hx, q⟩ := h
    exact ⟨xs, by rw [upd_ne ne]; exact hx, rpL_upd hp n1 n2 q⟩
  | dic t kvs =>
    cases t with
    | k =>
      obtain ⟨xs, hx, q⟩ := h
      exact ⟨xs, by rw [upd_ne ne]; exact hx, paired_imp (fun _ _ h => ⟨h.1, rp_upd hp n1 n2 h.2⟩) q⟩
    | t =>
      obtain ⟨xs, hx, q⟩ := h
      exact ⟨xs, by rw [upd_ne ne]; exact hx, paired_imp (fun _ _ h => ⟨h.1, rp_upd hp n1 n2 h.2⟩) q⟩
  | fdic w t kvs =>
    cases t with
    | k =>
      obtain ⟨o1, xs, hu, hx, q⟩ := h
      exact ⟨o1, xs, hu, by rw [upd_ne ne]; exact hx, paired_imp (fun _ _ h => ⟨h.1, rp_upd hp n1 n2 h.2⟩) q⟩
    | t =>
      obtain ⟨o1, xs, hu, hx, q⟩ := h
      exact ⟨o1, xs, hu, by rw [upd_ne ne]; exact hx, paired_imp (fun _ _ h => ⟨h.1, rp_upd hp n1 n2 h.2⟩) q⟩
  | ins C dx fs =>
    obtain ⟨xs, hx, q⟩ := h
    exact ⟨xs, by rw [upd_ne ne]; exact hx, paired_imp (fun _ _ h => ⟨h.1, rp_upd hp n1 n2 h.2⟩) q⟩
end
/-! ### list comprehensions -/
def clrD : DSt → Nat → DSt
  | [], _ => []
  | _ :: xs, 0 => none :: xs
  | x :: xs, n + 1 => x :: clrD xs n
def wipeD (δ : DSt) : List Nat → DSt
  | [] => δ
  | v :: vs => clrD (wipeD δ vs) v
theorem clr_len (δ : DSt) (i : Nat) : (clrD δ i).length = δ.length := by
  induction δ generalizing i with
  | nil => rfl
  | cons x xs ih =>
    cases i with
    | zero => rfl
    | succ i => show (clrD xs i).length + 1 = xs.length + 1; rw [ih]
theorem look_clr (δ : DSt) (i j : Nat) (e : D) (h : lookD (clrD δ i) j = some e) : j ≠ i ∧ lookD δ j = some e := by
  induction δ generalizing i j with
  | nil => cases h
  | cons x xs ih =>
    cases i with
    | zero =>
      cases j with
      | zero => cases h
      | succ j => exact ⟨Nat.succ_ne_zero j, h⟩
    | succ i =>
      cases j with
      | zero => exact ⟨(Nat.succ_ne_zero i).symm, h⟩
      | succ j =>
        obtain ⟨a, b⟩ := ih i j h
        exact ⟨fun z => a (Nat.succ.inj z), b⟩
theorem wipe_at (σ : L2.St) (j : Nat) : ∀ vs : List Nat, (L2.wipe σ vs)[j]? = if j ∈ vs then (σ[j]?).map (fun _ => none) else σ[j]?
  | [] => by simp [L2.wipe]
  | v :: vs => by
    unfold L2.wipe
    by_cases c : v = j
    · subst c
      rw [if_pos List.mem_cons_self]
      by_cases hl : v < (L2.wipe σ vs).length
      · rw [List.getElem?_set_self hl]
        rw [wipe_length] at hl
        rw [List.getElem?_eq_getElem hl]; rfl
      · rw [List.getElem?_eq_none (by simpa using hl)]
        rw [wipe_length] at hl
        rw [List.getElem?_eq_none (by omega)]; rfl
    · rw [List.getElem?_set_ne c, wipe_at σ j vs]
      have : (j ∈ v :: vs) ↔ j ∈ vs := by
        rw [List.mem_cons]
        exact ⟨fun z => z.resolve_left fun e => c e.symm, .inr⟩
      by_cases d : j ∈ vs
      · rw [if_pos d, if_pos (this.mpr d)]
      · rw [if_neg d, if_neg (fun z => d (this.mp z))]
theorem wipe_set {σ : L2.St} {vs : List Nat} {i : Nat} {x : Option V} (h : i ∈ vs) : L2.wipe (σ.set i x) vs = L2.wipe σ vs := by
  refine List.ext_getElem? fun j => ?_
  rw [wipe_at, wipe_at]
  by_cases d : j ∈ vs
  · rw [if_pos d, if_pos d]
    by_cases c : i = j
    · subst c
      by_cases hl : i < σ.length
      · rw [List.getElem?_set_self hl, List.getElem?_eq_getElem hl]; rfl
      · rw [List.getElem?_eq_none (by simpa using hl), List.getElem?_eq_none (by omega)]
    · rw [List.getElem?_set_ne c]
  · rw [if_neg d, if_neg d, List.getElem?_set_ne (fun e => d (by rw [← e]; exact h))]
theorem wipe_wipe {σ : L2.St} {vs : List Nat} : L2.wipe (L2.wipe σ vs) vs = L2.wipe σ vs := by
  refine List.ext_getElem? fun j => ?_
  rw [wipe_at, wipe_at]
  by_cases d : j ∈ vs
  · rw [if_pos d, if_pos d]
    cases σ[j]? <;> rfl
  · rw [if_neg d]
section
variable {K : PySem.W.Frag} {H : Hp} {G : DH}
theorem RepS.wipe {σ : L2.St} {δ : DSt} (s : RepS K H σ δ) : ∀ vs : List Nat, RepS K H (L2.wipe σ vs) (wipeD δ vs)
  | [] => s
  | v :: vs => by
    have ih := RepS.wipe s vs
    refine ⟨by unfold L2.wipe wipeD; rw [List.length_set, clr_len]; exact ih.1, fun i d e => ?_⟩
    obtain ⟨n, e'⟩ := look_clr _ _ _ _ e
    obtain ⟨w, e2, r⟩ := ih.2 i d e'
    exact ⟨w, by unfold L2.wipe; rw [List.getElem?_set_ne (Ne.symm n)]; exact e2, r⟩
/-- the target of a comprehension: names alone -/
inductive CG where
  | one (i : Nat) | many (is : List Nat)
def setsD (δ : DSt) : List Nat → List D → Option DSt
  | [], [] => some δ
  | i :: is, d :: ds => setsD (setD δ i d) is ds
  | _, _ => none
def CG.go (g : CG) (d : D) (δ : DSt) : Option DSt := match g with
  | .one i => some (setD δ i d)
  | .many is => match d with
    | .tup ds => setsD δ is ds
    | _ => none
def CG.slots : CG → List Nat
  | .one i => [i]
  | .many is => is
/-- .. below -/
def setsG : List Nat → TGs
  | [] => gNil
  | i :: is => gCons (gName i) (setsG is)
def CG.low (K : PySem.W.Frag) : CG → TG
  | .one i => gName i
  | .many is => gTup K is.length (setsG is)
theorem sets_low {vs : List Nat} {is : List Nat} : ∀ {xs : List V} {ds : List D} {σ : L2.St} {δ δ' : DSt} {Q : L2.St → Hp → Prop}, RpL K H xs ds → RepS K H σ δ → setsD δ is ds = some δ' → (∀ i ∈ is, i ∈ vs) →
    (∀ σ', RepS K H σ' δ' → L2.wipe σ' vs = L2.wipe σ vs → Q σ' H) → setsG is xs σ H Q := by
  induction is with
  | nil =>
    intro xs ds σ δ δ' Q l rs e hv k
    cases l with
    | nil =>
      have e' : some δ = some δ' := e
      cases e'
      exact ⟨rfl, k σ rs rfl⟩
    | cons _ _ => cases e
  | cons i is ih =>
    intro xs ds σ δ δ' Q l rs e hv k
    cases l with
    | nil => cases e
    | cons r l =>
      refine ⟨_, _, rfl, ih l (rs.set i r) e (fun j hj => hv j (List.mem_cons_of_mem _ hj)) fun σ' rs' w => k σ' rs' ?_⟩
      rw [w, wipe_set (hv i List.mem_cons_self)]
theorem cg_low {g : CG} {vs : List Nat} (hv : ∀ i ∈ g.slots, i ∈ vs) {v : V} {d : D} {σ : L2.St} {δ δ' : DSt} {Q : L2.St → Hp → Prop} (r : Rp K H v d) (rs : RepS K H σ δ) (e : g.go d δ = some δ') (k : ∀ σ', RepS K H σ' δ' → L2.wipe σ' vs = L2.wipe σ vs → Q σ' H) : g.low K v σ H Q := by
  cases g with
  | one i =>
    have e' : some (setD δ i d) = some δ' := e
    cases e'
    exact k _ (rs.set i r) (wipe_set (hv i List.mem_cons_self))
  | many is =>
    cases r with
    | tup s l =>
      refine ⟨_, _, rfl, SqT.of s, ?_, sets_low l rs e hv k⟩
      have hl : ∀ (is : List Nat) (ds : List D) (δ : DSt), setsD δ is ds = some δ' → ds.length = is.length := by
        intro is
        induction is with
        | nil => intro ds δ e; cases ds with
          | nil => rfl
          | cons _ _ => cases e
        | cons i is ih => intro ds δ e; cases ds with
          | nil => cases e
          | cons d ds => rw [List.length_cons, List.length_cons, ih ds _ e]
      rw [l.length]; exact hl _ _ _ e
    | _ => cases e
end
def dLc (ti : DI) (g : CG) (tt : DT) (te : DE) (vs : List Nat) : DE := fun δ G Q => ti δ G fun xs keep G1 => ∃ P : Nat → List D → DH → Prop, P 0 [] G1 ∧ (∀ i acc G, P i acc G → keep G ∧ (i < xs.length → acc.length < sizeLine)) ∧
  (∀ i d acc G, xs[i]? = some d → P i acc G → ∃ δ2, g.go d (wipeD δ vs) = some δ2 ∧ tt δ2 G fun b G3 => match b with
    | true => te δ2 G3 fun y G4 => ∃ G0, Le G0 G4 ∧ P (i + 1) (acc ++ [y]) G0
    | false => ∃ G0, Le G0 G3 ∧ P (i + 1) acc G0) ∧ (∀ acc G, P xs.length acc G → ∀ p, G p = none → Q (.ref p) (put G p (.lst acc)))
def dYes : DT := fun _ G Q => Q true G
section
variable {X : Cx} {pos : Pos}
abbrev PDTs (X : Cx) (ifs : List Expr) (t : DT) : Prop := PTs X ifs (upT X.K t)
theorem pdts_nil : PDTs X [] dYes := ⟨fun pins s σ H Q I h => pts_nil.run pins s σ H Q I (by
  obtain ⟨δ, G, Q', rs, rh, h, k⟩ := h
  exact k _ _ ⟨G, h, Fm.refl _ _, rh⟩)⟩
theorem pdts_one {c : Expr} {t : DT} (h : PDT X c t) : PDTs X [c] t := pts_one h
theorem up_lc {K : PySem.W.Frag} {ti : DI} {g : CG} {tt : DT} {te : DE} {vs : List Nat} (hv : ∀ i ∈ g.slots, i ∈ vs) {σ : L2.St} {H : Hp} {Q : VK} (h : up K (dLc ti g tt te vs) σ H Q) : tLc (upI K ti) (g.low K) (upT K tt) (up K te) vs σ H Q := by
  obtain ⟨δ0, G0, Q', rs0, rh0, h, k⟩ := h
  refine ⟨δ0, G0, _, rs0, rh0, h, fun J H1 ⟨xs, keep, G1, ⟨P, p0, pk, turn, done⟩, f1, rh1, ok⟩ => fun p hp => ?_⟩
  have fl0 : Fm H1 G1 (upd H1 p (.lst [])) G1 := fm_new' hp
  refine ⟨fun i m H' => m = xs.length - i ∧ i ≤ xs.length ∧ ∃ as acc G, H' p = some (.lst as) ∧ G p = none ∧ RpL K H' as acc ∧ P i acc G ∧ Fm H1 G1 H' G ∧ RepH K H' G, ⟨xs.length, by simp, Nat.zero_le _, [], [], G1, upd_same, rh1.free hp, .nil, p0, fl0, rh1.new' hp⟩, ?_⟩
  rintro i m H2 ⟨rfl, hi, as, acc, G, hp2, gp, la, pp, f, rh⟩
  obtain ⟨kp, hz⟩ := pk _ _ _ pp
  obtain ⟨o1, o2⟩ := ok i H2 G f rh kp
  by_cases hlt : i < xs.length
  · obtain ⟨go, yl⟩ := o2 xs[i] (List.getElem?_eq_getElem hlt)
    refine .inr ⟨go, fun H' => ∃ as acc G, H' p = some (.lst as) ∧ G p = none ∧ RpL K H' as acc ∧ P (i + 1) acc G ∧ Fm H1 G1 H' G ∧ RepH K H' G, fun H' z => ⟨xs.length - (i + 1), by omega, rfl, hlt, z⟩, fun x H3 y => ?_⟩
    obtain ⟨f2, rh3, rx⟩ := yl x H3 y
    obtain ⟨δ2, eg, ht⟩ := turn i _ acc G (List.getElem?_eq_getElem hlt) pp
    have rsw : RepS K H3 (L2.wipe σ vs) (wipeD δ0 vs) := ((((rs0.fm rh0 f1).fm rh1 f).fm rh f2)).wipe vs
    refine cg_low hv rx rsw eg fun σ2 rs2 hw => ⟨by rw [hw, wipe_wipe], ?_⟩
    refine ⟨δ2, G, _, rs2, rh3, ht, fun b H4 ⟨G4, h4, f4, rh4⟩ => ?_⟩
    obtain ⟨hp3, _⟩ := f2 p _ hp2 gp
    obtain ⟨hp4, gp4⟩ := f4 p _ hp3 gp
    have la4 := (la.fm rh f2).fm rh3 f4
    have ff : Fm H1 G1 H4 G4 := (f.trans f2).trans f4
    cases b with
    | false =>
      rw [if_neg Bool.false_ne_true]
      obtain ⟨Gs, hle, p'⟩ := h4
      exact ⟨as, acc, Gs, hp4, hle.free gp4, la4, p', ff.le hle, rh4.le hle⟩
    | true =>
      rw [if_pos rfl]
      refine ⟨δ2, G4, _, rs2.fm rh3 f4, rh4, h4, fun y H5 ⟨d, G5, ⟨Gs, hle, p'⟩, f5, rd, rh5⟩ => ?_⟩
      obtain ⟨hp5, gp5⟩ := f5 p _ hp4 gp4
      have la5 := la4.fm rh4 f5
      refine ⟨as, hp5, by rw [la.length]; exact hz hlt, as ++ [y], acc ++ [d], Gs, upd_same, hle.free gp5, ?_, p', ?_, ?_⟩
      · exact rpL_upd hp5 (fun _ z => nomatch z) (fun _ _ z => nomatch z) (la5.append (.cons rd .nil))
      · intro b u hb nb
        obtain ⟨x1, x2⟩ := (ff.trans f5) b u hb nb
        have ne : b ≠ p := fun z => by rw [z, hp] at hb; cases hb
        exact ⟨by rw [upd_ne ne]; exact x1, hle.free x2⟩
      · intro a u e
        have ne : a ≠ p := fun z => by rw [z, hle.free gp5] at e; cases e
        exact repO_upd hp5 (fun _ z => nomatch z) (fun _ _ z => nomatch z) ne (rh5.le hle a u e)
  · have e : i = xs.length := by omega
    subst e
    refine .inl ⟨o1 (Nat.le_refl _), k _ _ ⟨.ref p, put G p (.lst acc), done acc G pp p gp, fun b u hb nb => ?_, .ref p, fun a u e => ?_⟩⟩
    · obtain ⟨x1, x2⟩ := f1 b u hb nb
      obtain ⟨y1, y2⟩ := f b u x1 x2
      have ne : b ≠ p := fun z => by rw [z, hp] at x1; cases x1
      exact ⟨y1, by rw [put_ne ne]; exact y2⟩
    · by_cases c : a = p
      · subst c
        rw [put_same] at e
        cases e
        exact ⟨as, hp2, la⟩
      · rw [put_ne c] at e
        exact rh a u e
end
section
variable {X : Cx} {pos : Pos}
theorem pd_lc {elt tg iter : Expr} {ifs : List Expr} {scope : Scope} {own : List (Str × Nat)} {ti : DI} {g : CG} {tt : DT} {te : DE} (hc : X.calm = true) (hN : X.N.Nodup) (hi : PDI X tg iter ti) (ok : BlkOk X.N X.env.scope scope own) (hv : ∀ i ∈ g.slots, i ∈ own.map (·.2))
    (hg : ∀ (s : Shared) (H : Hp) (C : Addr) (cl : List (Str × Addr)) (fp : List Addr), PG (X.blk s H scope (compEnvC scope cl C X.env) fp) tg (g.low X.K))
    (ht : ∀ (s : Shared) (H : Hp) (C : Addr) (cl : List (Str × Addr)) (fp : List Addr), PDTs (X.blk s H scope (compEnvC scope cl C X.env) fp) ifs tt)
    (he : ∀ (s : Shared) (H : Hp) (C : Addr) (cl : List (Str × Addr)) (fp : List Addr), PD (X.blk s H scope (compEnvC scope cl C X.env) fp) elt te)
    (hs : ∀ x, foldedSetIterable iter X.env x = pure x := by intro _; rfl) : PD X (.ListComp elt [⟨tg, iter, ifs, 0⟩] scope pos) (dLc ti g tt te (own.map (·.2))) :=
  imp_pe (pe_lc hc hN hi ok hg ht he hs) fun _ _ _ h => up_lc hv h
theorem pds_setLc {i : Nat} {y : Str} {py spos : Pos} {elt tg iter : Expr} {ifs : List Expr} {scope : Scope} {own : List (Str × Nat)} {ti : DI} {g : CG} {tt : DT} {te : DE} (hc : X.calm = true) (hN : X.N.Nodup) (hy : X.N[i]? = some y) (hyl : X.env.scope.names.lookup y = some .local)
    (hsw : swapsWith (.ListComp elt [⟨tg, iter, ifs, 0⟩] scope pos) (some (.Name y py)) spos.line X.env = pure true)
    (hi : PDI X tg iter ti) (ok : BlkOk X.N X.env.scope scope own) (hv : ∀ i ∈ g.slots, i ∈ own.map (·.2))
    (hg : ∀ (s : Shared) (H : Hp) (C : Addr) (cl : List (Str × Addr)) (fp : List Addr), PG (X.blk s H scope (compEnvC scope cl C X.env) fp) tg (g.low X.K))
    (ht : ∀ (s : Shared) (H : Hp) (C : Addr) (cl : List (Str × Addr)) (fp : List Addr), PDTs (X.blk s H scope (compEnvC scope cl C X.env) fp) ifs tt)
    (he : ∀ (s : Shared) (H : Hp) (C : Addr) (cl : List (Str × Addr)) (fp : List Addr), PD (X.blk s H scope (compEnvC scope cl C X.env) fp) elt te)
    (hs : ∀ x, foldedSetIterable iter X.env x = pure x := by intro _; rfl) : PDS X (.Assign [.Name y py] (.ListComp elt [⟨tg, iter, ifs, 0⟩] scope pos) spos) (dAsg (dLc ti g tt te (own.map (·.2))) (gN i)) :=
  imp_ps (ps_setLc hc hN hy hyl hsw hi ok hg ht he hs) fun D σ H h => by
    obtain ⟨δ, G, D', rs, rh, h, k, _⟩ := h
    refine up_lc hv ⟨δ, G, _, rs, rh, h, fun v H1 ⟨d, G1, h1, f, r, rh1⟩ => k _ _ ⟨_, G1, h1, f, (rs.fm rh f).set i r, rh1⟩⟩
end

/-! ### calls of defs -/
def dCall (sp : DSp) (ts : DA) : DE := fun δ G Q => ts δ G fun ds G1 => sp ds G1 Q
def dMeth (C : Addr) (m : Str) (sp : DSp) (ta : DE) (ts : DA) : DE := fun δ G Q => ta δ G fun x G1 => match x with
  | .ref a => ∃ dx fs, G1 a = some (.ins C dx fs) ∧ fs.lookup m = none ∧ ts δ G1 fun ds G2 => sp (.ref a :: ds) G2 Q
  | _ => False
def dMake (C : Addr) (sp : DSp) (ts : DA) : DE := fun δ G Q => ts δ G fun ds G1 => ∀ x dx, G1 x = none → sp (.ref x :: ds) (put G1 x (.ins C dx [])) fun d G2 => d = .non ∧ Q (.ref x) G2
section
variable {X : Cx} {k : Nat} {f C : Addr} {fd : FuncData} {ps : List Str} {sp : DSp} {x m : Str} {p pos apos : Pos} {e o : Expr} {es : List Expr} {ta : DE} {ts : DA} {E : XK} {CX : CXT}
theorem sp_q {K : PySem.W.Frag} {vs : List V} {ds : List D} {H : Hp} {G : DH} {Q : VK} {Q' : DQ} (r : RpL K H vs ds) (rh : RepH K H G) (h : sp ds G Q') (k : ∀ v H', upQ K H G Q' v H' → Q v H') : upSp K sp (vs ++ []) H Q E := by
  rw [List.append_nil]
  exact ⟨ds, G, Q', r, rh, h, k⟩
theorem pd_call (F : FnOk X.prog X.w X.K X.mg X.base CX k f fd ps (upSp X.K sp)) (hr : Room k X.A) (hg : Gl X x) (hm : X.mg x = some (.ref f)) (hk : PySem.W.keepIn X.K (.ref f) = true) (hb : Binds X.K fd ps []) (hx : Passes CX X E)
    (ha : PDA X (e :: es) ts) (hdb : (x == ("__debug__" : Str)) = false := by decide) (he : starEach (e :: es) X.env = (false, eval e X.env) :: starEach es X.env := by rfl) (hpl : (backTo pos (starEach es X.env)).any (·.1) = false := by rfl) :
    PD X (.Call (.Name x p) (e :: es) [] pos) (dCall sp ts) := imp_pe (pe_call F hr hg hm hk hb .nil hx ha hdb he hpl) fun σ H Q h => by
  obtain ⟨δ, G, Q', rs, rh, h, kk⟩ := h
  exact ⟨δ, G, _, rs, rh, h, fun vs H1 ⟨ds, G1, h1, f1, rds, rh1⟩ => sp_q rds rh1 h1 fun v H' q => kk v H' (q.step f1)⟩
theorem pd_call0 (F : FnOk X.prog X.w X.K X.mg X.base CX k f fd ps (upSp X.K sp)) (hr : Room k X.A) (hg : Gl X x) (hm : X.mg x = some (.ref f)) (hk : PySem.W.keepIn X.K (.ref f) = true) (hb : Binds X.K fd ps []) (hx : Passes CX X E)
    (hdb : (x == ("__debug__" : Str)) = false := by decide) : PD X (.Call (.Name x p) [] [] pos) (dCall sp dNil) := imp_pe (pe_call0 F hr hg hm hk hb .nil hx hdb) fun σ H Q h => by
  obtain ⟨δ, G, Q', rs, rh, h, kk⟩ := h
  exact sp_q (E := E) .nil rh h kk
theorem pd_meth {pl : Sem Bool} (he : PD X o ta) (c : Cls X.K C) (hm : Meth X.K C m f) (F : FnOk X.prog X.w X.K X.mg X.base CX k f fd ps (upSp X.K sp)) (hr : Room k X.A) (hb : Binds X.K fd ps []) (hx : Passes CX X E) (ha : PDA X (e :: es) ts)
    (hst : starEach (e :: es) X.env = (false, eval e X.env) :: starEach es X.env := by rfl) (hpl : (backTo pos (starEach es X.env)).any (·.1) = false := by rfl)
    (ht : eval (.Call (.Attribute o m apos) (e :: es) [] pos) X.env = (do
      let ov ← eval o X.env
      standAt apos.atName
      let (f, first) ← holding [ov] (getMethod ov m pl)
      callWith pos f first (backTo pos (starEach (e :: es) X.env)) (backToKw pos (keywordEach [] X.env))) := by rfl) :
    PD X (.Call (.Attribute o m apos) (e :: es) [] pos) (dMeth C m sp ta ts) := imp_pe (pe_meth he c hm F hr hb .nil hx ha hst hpl ht) fun σ H Q h => by
  obtain ⟨δ, G, Q', rs, rh, h, kk⟩ := h
  refine ⟨δ, G, _, rs, rh, h, fun v H1 ⟨x, G1, h1, f1, rx, rh1⟩ => ?_⟩
  cases rx with
  | ref a =>
    obtain ⟨dx, fs, e1, l, h2⟩ := h1
    obtain ⟨vs, hv, r⟩ := rh1 a _ e1
    refine ⟨a, dx, vs, rfl, hv, fds_none r l, δ, G1, _, rs.fm rh f1, rh1, h2, fun ws H2 ⟨ds, G2, h3, f2, rds, rh2⟩ => ?_⟩
    exact sp_q (vs := .ref a :: ws) (.cons (.ref a) rds) rh2 h3 fun v H' q => kk v H' ((q.step f2).step f1)
  | _ => exact h1.elim
theorem pd_meth0 {pl : Sem Bool} (he : PD X o ta) (c : Cls X.K C) (hm : Meth X.K C m f) (F : FnOk X.prog X.w X.K X.mg X.base CX k f fd ps (upSp X.K sp)) (hr : Room k X.A) (hb : Binds X.K fd ps []) (hx : Passes CX X E)
    (ht : eval (.Call (.Attribute o m apos) [] [] pos) X.env = (do
      let ov ← eval o X.env
      standAt apos.atName
      let (f, first) ← holding [ov] (getMethod ov m pl)
      callWith pos f first (backTo pos (starEach [] X.env)) (backToKw pos (keywordEach [] X.env))) := by rfl) :
    PD X (.Call (.Attribute o m apos) [] [] pos) (dMeth C m sp ta dNil) := imp_pe (pe_meth0 he c hm F hr hb .nil hx ht) fun σ H Q h => by
  obtain ⟨δ, G, Q', rs, rh, h, kk⟩ := h
  refine ⟨δ, G, _, rs, rh, h, fun v H1 ⟨x, G1, h1, f1, rx, rh1⟩ => ?_⟩
  cases rx with
  | ref a =>
    obtain ⟨dx, fs, e1, l, h2⟩ := h1
    obtain ⟨vs, hv, r⟩ := rh1 a _ e1
    exact ⟨a, dx, vs, rfl, hv, fds_none r l, sp_q (E := E) (vs := [.ref a]) (.cons (.ref a) .nil) rh1 h2 fun v H' q => kk v H' (q.step f1)⟩
  | _ => exact h1.elim
theorem up_make {K : PySem.W.Frag} {σ : L2.St} {H : Hp} {Q : VK} (h : up K (dMake C sp ts) σ H Q) : tMake C (upSp K sp) [] E (upAs K ts) σ H Q := by
  obtain ⟨δ, G, Q', rs, rh, h, kk⟩ := h
  refine ⟨δ, G, _, rs, rh, h, fun vs H1 ⟨ds, G1, h1, f1, rds, rh1⟩ x dx nx ndx ne => ?_⟩
  have fa : Fm H1 G1 (upd H1 dx (.own x)) G1 := fm_new' ndx
  have ra : RepH K (upd H1 dx (.own x)) G1 := rh1.new' ndx
  have nx' : upd H1 dx (.own x) x = none := by rw [upd_ne (Ne.symm ne)]; exact nx
  have fb : Fm (upd H1 dx (.own x)) G1 (upd (upd H1 dx (.own x)) x (.ins C dx [])) (put G1 x (.ins C dx [])) := fm_new nx' _
  refine sp_q (vs := .ref x :: vs) (.cons (.ref x) ((rds.fm rh1 fa).fm ra fb)) (ra.new (o' := .ins C dx []) nx' ⟨[], upd_same, .nil⟩) (h1 x dx (rh1.free nx)) fun v H2 ⟨d, G2, ⟨hd, q⟩, f2, rd, rh2⟩ => ?_
  subst hd
  cases rd
  exact ⟨rfl, kk _ _ ⟨_, G2, q, ((f1.trans fa).trans fb).trans f2, .ref x, rh2⟩⟩
theorem pd_make (M : Mk X.K C f) (F : FnOk X.prog X.w X.K X.mg X.base CX k f fd ps (upSp X.K sp)) (hr : Room (k + 1) X.A) (hg : Gl X x) (hm : X.mg x = some (.ref C)) (hb : Binds X.K fd ps []) (hx : Passes CX X E)
    (ha : PDA X (e :: es) ts) (hdb : (x == ("__debug__" : Str)) = false := by decide) (he : starEach (e :: es) X.env = (false, eval e X.env) :: starEach es X.env := by rfl) (hpl : (backTo pos (starEach es X.env)).any (·.1) = false := by rfl) :
    PD X (.Call (.Name x p) (e :: es) [] pos) (dMake C sp ts) := imp_pe (pe_make M F hr hg hm hb .nil hx ha hdb he hpl) fun _ _ _ h => up_make h
theorem pd_make0 (M : Mk X.K C f) (F : FnOk X.prog X.w X.K X.mg X.base CX k f fd ps (upSp X.K sp)) (hr : Room (k + 1) X.A) (hg : Gl X x) (hm : X.mg x = some (.ref C)) (hb : Binds X.K fd ps []) (hx : Passes CX X E)
    (hdb : (x == ("__debug__" : Str)) = false := by decide) : PD X (.Call (.Name x p) [] [] pos) (dMake C sp dNil) := imp_pe (pe_make0 M F hr hg hm hb .nil hx hdb) fun σ H Q h => by
  have q := up_make (E := E) h
  obtain ⟨δ, G, Q', rs, rh, h, kk⟩ := q
  exact kk _ _ ⟨_, G, h, Fm.refl _ _, .nil, rh⟩
end

/-! ### a def's promise by its body -/
def dstart (N : List Str) (ds : List D) : DSt := ds.map some ++ List.replicate (N.length - ds.length) none
theorem look_app {a b : DSt} {i : Nat} {d : D} (h : lookD (a ++ b) i = some d) : (i < a.length ∧ lookD a i = some d) ∨ (a.length ≤ i ∧ lookD b (i - a.length) = some d) := by
  induction a generalizing i with
  | nil => exact .inr ⟨Nat.zero_le _, h⟩
  | cons x xs ih =>
    cases i with
    | zero => exact .inl ⟨Nat.succ_pos _, h⟩
    | succ i =>
      rcases ih (i := i) h with ⟨a, b⟩ | ⟨a, b⟩
      · exact .inl ⟨Nat.succ_lt_succ a, b⟩
      · refine .inr ⟨Nat.succ_le_succ a, ?_⟩
        rw [List.length_cons, Nat.add_sub_add_right]; exact b
theorem look_rep {n i : Nat} {d : D} : ¬ lookD (List.replicate n none) i = some d := by
  induction n generalizing i with
  | zero => exact fun h => nomatch h
  | succ n ih =>
    cases i with
    | zero => exact fun h => nomatch (show none = some d from h)
    | succ i => exact fun h => ih (i := i) h
theorem look_some {ds : List D} {i : Nat} {d : D} (h : lookD (ds.map some) i = some d) : ds[i]? = some d := by
  induction ds generalizing i with
  | nil => cases h
  | cons x xs ih =>
    cases i with
    | zero => exact h
    | succ i => exact ih (i := i) h
theorem RepS.start {K : PySem.W.Frag} {H : Hp} {N : List Str} {vs : List V} {ds : List D} (r : RpL K H vs ds) : RepS K H (L2.start N vs) (dstart N ds) := by
  unfold L2.start dstart
  refine ⟨by simp [r.length], fun i d h => ?_⟩
  rcases look_app h with ⟨a, b⟩ | ⟨a, b⟩
  · obtain ⟨v, e, rv⟩ := r.get (look_some b)
    have hl : i < (vs.map some).length := by
      rw [List.length_map] at a ⊢
      rw [r.length]; exact a
    exact ⟨v, by rw [List.getElem?_append_left hl, List.getElem?_map, e]; rfl, rv⟩
  · exact absurd b look_rep
/-- what is wanted behind a body -/
def dEnd (Q : DQ) : DEnds where
  nx := fun _ G' => ∃ G0, Le G0 G' ∧ Q .non G0
  rt := fun d G' => ∃ G0, Le G0 G' ∧ Q d G0
section
variable {P : Program} {w : World} {K : PySem.W.Frag} {mg : Str → Option Value} {base : Heap} {x qual : Str} {params : Arguments} {body : List Stmt} {scope : Scope} {f : Addr} {fd : FuncData}
theorem le_q {H : Hp} {G : DH} {Q : DQ} {v : V} {H' : Hp} (h : upQ K H G (fun d G' => ∃ G0, Le G0 G' ∧ Q d G0) v H') : upQ K H G Q v H' :=
  let ⟨d, G', ⟨G0, l, q⟩, f, r, rh⟩ := h
  ⟨d, G0, q, f.le l, r, rh.le l⟩
/-- THE RULE: a def keeps the promise sp if its body, as data, does -/
theorem fn_ok {N ps : List Str} {k : Nat} {sp : DSp} {b : DS} (F : FunD K x qual params body scope [] [] f fd) (S : FnScope N ps scope) (len : ∀ ds G Q, sp ds G Q → ds.length = ps.length)
    (der : ∀ (cdv : Value) (A : Around) (outer : List Env) (s : Shared) (H : Hp) (E : XK), Room k (A.deeper (envOfC qual scope s.heap.objs.size f cdv)) → PDSs (cxOf CX0 P w K mg base N qual scope f cdv A outer s H E).nox body b)
    (pure : ∀ ds G Q, sp ds G Q → b (dEnd Q) (dstart N ds) G) : FnOk P w K mg base CX0 (k + 1) f fd ps (upSp K sp) := by
  refine F.ok S (fun vs H Q E ⟨ds, G, Q', r, rh, h, _⟩ => by rw [r.length]; exact len ds G Q' h) fun cdv A outer s H vs Q E hr ⟨ds, G, Q', r, rh, h, kk⟩ => ?_
  refine ⟨_, (der cdv A outer s H E hr).nox, dstart N ds, G, dEnd Q', RepS.start r, rh, pure ds G Q' h, fun σ' H' ⟨δ', G', ⟨G0, l, q⟩, f, rs, rh'⟩ => ?_, fun v H' q => kk v H' (le_q q), fun _ _ ⟨_, _, z, _⟩ => z.elim, fun _ _ ⟨_, _, z, _⟩ => z.elim⟩
  exact kk _ _ ⟨.non, G0, q, f.le l, .non, rh'.le l⟩
end
end D3

set_option Elab.async false
set_option linter.all false
set_option maxRecDepth 100000
set_option maxHeartbeats 4000000
namespace D3
open PySem PySem.Spec PyProof.Rows L2

/-! ### calls of what is built in -/
abbrev DRC := List D → DH → DQ → Prop
def dCB (r : DRC) (ts : DA) : DE := fun δ G Q => ts δ G fun ds G1 => r ds G1 Q
def UpC (K : PySem.W.Frag) (r : DRC) (r' : List V → Hp → VK → Prop) : Prop := ∀ {ds : List D} {vs : List V} {H : Hp} {G : DH} {Q : DQ} {Qv : VK}, r ds G Q → RpL K H vs ds → RepH K H G → (∀ u H', upQ K H G Q u H' → Qv u H') → r' vs H Qv
section
variable {X : Cx} {x : Str} {p pos : Pos} {e : Expr} {es : List Expr} {ts : DA} {id T : String} {r : DRC} {r' : List V → Hp → VK → Prop}
theorem up_cb {K : PySem.W.Frag} (hr : UpC K r r') {σ : L2.St} {H : Hp} {Q : VK} (h : up K (dCB r ts) σ H Q) : tCB r' (upAs K ts) σ H Q := by
  obtain ⟨δ, G, Q', rs, rh, h, k⟩ := h
  exact ⟨δ, G, _, rs, rh, h, fun vs H1 ⟨ds, G1, h1, f1, rds, rh1⟩ => hr h1 rds rh1 fun u H' q => k u H' (q.step f1)⟩
structure CallOk (X : Cx) (f : Value) (r : DRC) : Prop where
  ok : ∃ r', CallR X f r' ∧ UpC X.K r r'
theorem pd_callB (hc : CallOk X (.builtin id) r) (hg : Gl X x) (hm : X.mg x = none) (hv : bootBuiltins x = some (.builtin id)) (ha : PDA X (e :: es) ts) (hn : x ≠ "__name__" := by decide) (hdb : (x == ("__debug__" : Str)) = false := by decide)
    (he : starEach (e :: es) X.env = (false, eval e X.env) :: starEach es X.env := by rfl) (hpl : (backTo pos (starEach es X.env)).any (·.1) = false := by rfl) : PD X (.Call (.Name x p) (e :: es) [] pos) (dCB r ts) := by
  obtain ⟨r', h1, h2⟩ := hc.ok
  exact imp_pe (pe_callB h1 hg hm hv ha hn hdb he hpl) fun _ _ _ h => up_cb h2 h
theorem pd_callTy (hc : CallOk X (.type T) r) (hg : Gl X x) (hm : X.mg x = none) (hv : bootBuiltins x = some (.type T)) (ha : PDA X (e :: es) ts) (hn : x ≠ "__name__" := by decide) (hdb : (x == ("__debug__" : Str)) = false := by decide)
    (he : starEach (e :: es) X.env = (false, eval e X.env) :: starEach es X.env := by rfl) (hpl : (backTo pos (starEach es X.env)).any (·.1) = false := by rfl) : PD X (.Call (.Name x p) (e :: es) [] pos) (dCB r ts) := by
  obtain ⟨r', h1, h2⟩ := hc.ok
  exact imp_pe (pe_callTy h1 hg hm hv ha hn hdb he hpl) fun _ _ _ h => up_cb h2 h
end
section
variable {K : PySem.W.Frag} {H : Hp} {G : DH}
theorem rpl1 {vs : List V} {d : D} (r : RpL K H vs [d]) : ∃ v, vs = [v] ∧ Rp K H v d := by
  cases r with
  | cons h t => cases t; exact ⟨_, rfl, h⟩
theorem rpl2 {vs : List V} {d e : D} (r : RpL K H vs [d, e]) : ∃ v w, vs = [v, w] ∧ Rp K H v d ∧ Rp K H w e := by
  cases r with
  | cons h t =>
    obtain ⟨w, rfl, q⟩ := rpl1 t
    exact ⟨_, w, rfl, h, q⟩
theorem rpl3 {vs : List V} {d e f : D} (r : RpL K H vs [d, e, f]) : ∃ v w u, vs = [v, w, u] ∧ Rp K H v d ∧ Rp K H w e ∧ Rp K H u f := by
  cases r with
  | cons h t =>
    obtain ⟨w, u, rfl, q, q'⟩ := rpl2 t
    exact ⟨_, w, u, rfl, h, q, q'⟩
end
section
variable {X : Cx}
/-- len -/
def dLen : DRC := fun ds G Q => match ds with
  | [.tup xs] => Q (.int xs.length) G
  | [.ctu xs] => Q (.int xs.length) G
  | [.lro xs] => Q (.int xs.length) G
  | [.str z] => z.length ≤ sizeLine ∧ Q (.int z.length) G
  | [.ref a] => (∃ xs, G a = some (.lst xs) ∧ Q (.int xs.length) G) ∨ (∃ kvs, G a = some (.dic .k kvs) ∧ Q (.int kvs.length) G)
  | _ => False
theorem call_lenOk : CallOk X (.builtin "len") dLen := by
  refine ⟨_, call_len_seq.or (call_len_str.or call_lenD), fun {ds vs H G Q Qv} h r rh k => ?_⟩
  unfold dLen at h
  split at h
  · obtain ⟨v, rfl, q⟩ := rpl1 r
    cases q with
    | tup s l => exact .inl ⟨_, _, rfl, .inr (SqT.of s), by rw [l.length]; exact end_q k h (.int _) rh⟩
  · obtain ⟨v, rfl, q⟩ := rpl1 r
    cases q with
    | ctu s l => exact .inl ⟨_, _, rfl, .inr (.inr s), by rw [l.length]; exact end_q k h (.int _) rh⟩
  · obtain ⟨v, rfl, q⟩ := rpl1 r
    cases q with
    | lro s l => exact .inl ⟨_, _, rfl, .inl s.sq, by rw [l.length]; exact end_q k h (.int _) rh⟩
  · obtain ⟨v, rfl, q⟩ := rpl1 r
    cases q with
    | str => exact .inr (.inl ⟨_, rfl, h.1, end_q k h.2 (.int _) rh⟩)
  · obtain ⟨v, rfl, q⟩ := rpl1 r
    cases q with
    | ref a =>
      rcases h with ⟨xs, e, q⟩ | ⟨kvs, e, q⟩
      · obtain ⟨ys, hy, l⟩ := rh _ _ e
        exact .inl ⟨_, ys, rfl, .inl (SqL.of hy), by rw [l.length]; exact end_q k q (.int _) rh⟩
      · obtain ⟨ks, hk, pr⟩ := rh _ _ e
        exact .inr (.inr ⟨_, ks, rfl, hk, by rw [Paired.length pr]; exact end_q k q (.int _) rh⟩)
  · exact h.elim
/-- tuple(list), tuple(tuple) -/
def dTupOf : DRC := fun ds G Q => match ds with
  | [.tup xs] => Q (.tup xs) G
  | [.ref a] => ∃ xs, G a = some (.lst xs) ∧ Q (.tup xs) G
  | _ => False
theorem call_tupOk : CallOk X (.type "tuple") dTupOf := by
  refine ⟨_, call_tuple_of, fun {ds vs H G Q Qv} h r rh k => ?_⟩
  unfold dTupOf at h
  split at h
  · obtain ⟨v, rfl, q⟩ := rpl1 r
    cases q with
    | tup s l => exact ⟨_, _, rfl, .inr ⟨SqT.of s, end_q k h (.tup s l) rh⟩⟩
  · obtain ⟨v, rfl, q⟩ := rpl1 r
    cases q with
    | ref a =>
      obtain ⟨xs, e, q⟩ := h
      obtain ⟨ys, hy, l⟩ := rh _ _ e
      exact ⟨_, ys, rfl, .inl ⟨SqL.of hy, fun p hp => end_tup k hp rh l q⟩⟩
  · exact h.elim
/-- list(list), list(tuple), list(dict) -/
def dLstOf : DRC := fun ds G Q => match ds with
  | [.tup xs] => ∀ p, G p = none → Q (.ref p) (put G p (.lst xs))
  | [.ref a] => (∃ xs, G a = some (.lst xs) ∧ ∀ p, G p = none → Q (.ref p) (put G p (.lst xs))) ∨ (∃ t kvs, isDic G a t kvs ∧ ∀ p, G p = none → Q (.ref p) (put G p (.lst (kvs.map (·.1)))))
  | _ => False
theorem prs_keys {K : PySem.W.Frag} {H : Hp} {ks : List (Key × V)} {kvs : List (D × D)} (r : Prs K H kD ks kvs) : RpL K H (ks.map fun kv => kV kv.1) (kvs.map (·.1)) := by
  induction r with
  | nil => exact .nil
  | cons h t ih =>
    rename_i p q _ _
    rw [List.map_cons, List.map_cons, h.1]
    refine .cons ?_ ih
    cases p.1 with
    | inl i => exact .int i
    | inr x => exact .str x
theorem call_lstOk (hc : X.calm = true) : CallOk X (.type "list") dLstOf := by
  refine ⟨_, call_list_of.or ((call_listD hc).or (call_list_dT hc)), fun {ds vs H G Q Qv} h r rh k => ?_⟩
  unfold dLstOf at h
  split at h
  · obtain ⟨v, rfl, q⟩ := rpl1 r
    cases q with
    | tup s l => exact .inl ⟨_, _, rfl, .inr (SqT.of s), fun p hp => end_new k hp rh (rep_lst hp rh l) (h p)⟩
  · obtain ⟨v, rfl, q⟩ := rpl1 r
    cases q with
    | ref a =>
      rcases h with ⟨xs, e, q⟩ | ⟨t, kvs, e, q⟩
      · obtain ⟨ys, hy, l⟩ := rh _ _ e
        exact .inl ⟨_, ys, rfl, .inl (SqL.of hy), fun p hp => end_new k hp rh (rep_lst hp rh l) (q p)⟩
      · cases t with
        | k =>
          obtain ⟨ks, hk, pr⟩ := dic_k rh e
          exact .inr (.inl ⟨_, ks, rfl, hk, fun p hp => end_new k hp rh (rep_lst hp rh (prs_keys pr)) (q p)⟩)
        | t =>
          obtain ⟨ks, hk, pr⟩ := dic_t rh e
          refine .inr (.inr ⟨_, ks, rfl, hk, fun p bs hp hb => end_new k hp rh (rep_lst hp rh ?_) (q p)⟩)
          have go : ∀ {ks : List (List Key × V)} {bs : List Addr} {kvs : List (D × D)}, IsKeys H ks bs → Prs X.K H (fun ks : List Key => D.tup (ks.map kD)) ks kvs → RpL X.K H (bs.map V.ref) (kvs.map (·.1)) := by
            intro ks bs kvs hb pr
            induction pr generalizing bs with
            | nil => cases hb; exact .nil
            | cons h t ih =>
              rename_i p q _ _
              cases hb with
              | cons b t' =>
                rw [List.map_cons, List.map_cons, h.1]
                exact .cons (.tup b (rp_kDs _)) (ih t')
          exact go hb pr
  · exact h.elim
/-- abs, int, str of a number -/
def dAbs : DRC := fun ds G Q => match ds with
  | [.int i] => Q (.int (if i < 0 then -i else i)) G
  | _ => False
theorem call_absOk : CallOk X (.builtin "abs") dAbs := by
  refine ⟨_, call_abs, fun {ds vs H G Q Qv} h r rh k => ?_⟩
  unfold dAbs at h
  split at h
  · obtain ⟨v, rfl, q⟩ := rpl1 r
    cases q
    exact ⟨_, rfl, end_q k h (.int _) rh⟩
  · exact h.elim
def dInt1 : DRC := fun ds G Q => match ds with
  | [.int i] => Q (.int i) G
  | [.bl b] => Q (.int (if b then 1 else 0)) G
  | _ => False
theorem call_intOk : CallOk X (.type "int") dInt1 := by
  refine ⟨_, call_int1, fun {ds vs H G Q Qv} h r rh k => ?_⟩
  unfold dInt1 at h
  split at h
  · obtain ⟨v, rfl, q⟩ := rpl1 r
    cases q
    exact .inl ⟨_, rfl, end_q k h (.int _) rh⟩
  · obtain ⟨v, rfl, q⟩ := rpl1 r
    cases q
    exact .inr ⟨_, rfl, end_q k h (.int _) rh⟩
  · exact h.elim
def dStr1 : DRC := fun ds G Q => match ds with
  | [.int i] => i.natAbs.log2 < 1920 ∧ Q (.str (toString i)) G
  | _ => False
theorem call_strOk : CallOk X (.type "str") dStr1 := by
  refine ⟨_, call_str_int, fun {ds vs H G Q Qv} h r rh k => ?_⟩
  unfold dStr1 at h
  split at h
  · obtain ⟨v, rfl, q⟩ := rpl1 r
    cases q
    exact ⟨_, rfl, h.1, end_q k h.2 (.str _) rh⟩
  · exact h.elim
/-- sum of a list of numbers -/
def D.ints : List D → Option (List Int)
  | [] => some []
  | .int i :: ds => (D.ints ds).map (i :: ·)
  | _ => none
theorem ints_of {K : PySem.W.Frag} {H : Hp} : ∀ {ds : List D} {ns : List Int} {vs : List V}, D.ints ds = some ns → RpL K H vs ds → vs = ns.map V.int
  | [], ns, _, h, r => by cases h; cases r; rfl
  | d :: ds, ns, _, h, r => by
    cases r with
    | cons r t =>
      cases r with
      | int i =>
        have h' : (D.ints ds).map (i :: ·) = some ns := h
        obtain ⟨ms, e, e2⟩ := Option.map_eq_some_iff.mp h'
        subst e2
        rw [List.map_cons, ints_of e t]
      | _ => cases h
def dSum : DRC := fun ds G Q => match ds with
  | [.ref a] => ∃ xs ns, G a = some (.lst xs) ∧ D.ints xs = some ns ∧ Q (.int ns.sum) G
  | [.tup xs] => ∃ ns, D.ints xs = some ns ∧ Q (.int ns.sum) G
  | _ => False
theorem call_sumT (hc : X.calm = true) : CallR X (.builtin "sum") (fun vs H Q => ∃ (a : Addr) (ns : List Int), vs = [V.ref a] ∧ SqT X.K H a (ns.map V.int) ∧ Q (.int ns.sum) H) := by
  intro pins s σ H vs us Q I r h
  obtain ⟨a, ns, rfl, hs, q⟩ := h
  obtain ⟨its, rv, tup, _⟩ := I.tuple hs
  rw [Vals.ref1 r]
  have hi := rv.ints
  obtain ⟨xs, hx⟩ := hi.allInts.items
  have hn : numsOf its.toArray.toList = ns := hi.numsOf
  rw [hx] at tup hn
  rw [nums_intItems] at hn
  refine PySem.W.ktm_sumG (I.ok.hd hc) tup fun h' tk t' hk => ?_
  rw [preSum_eq, List.take_of_length_le (by simp), hn]
  exact ⟨.int _, H, I.kept hk, ⟨_, rfl⟩, q⟩
theorem call_sumOk (hc : X.calm = true) : CallOk X (.builtin "sum") dSum := by
  refine ⟨_, (cr_sum hc).or (call_sumT hc), fun {ds vs H G Q Qv} h r rh k => ?_⟩
  unfold dSum at h
  split at h
  · obtain ⟨v, rfl, q⟩ := rpl1 r
    cases q with
    | ref a =>
      obtain ⟨xs, ns, e, hi, q⟩ := h
      obtain ⟨ys, hy, l⟩ := rh _ _ e
      have e2 := ints_of hi l
      subst e2
      exact .inl ⟨_, ns, rfl, SqL.of hy, end_q k q (.int _) rh⟩
  · obtain ⟨v, rfl, q⟩ := rpl1 r
    cases q with
    | tup s l =>
      obtain ⟨ns, hi, q⟩ := h
      have e2 := ints_of hi l
      subst e2
      exact .inr ⟨_, ns, rfl, SqT.of s, end_q k q (.int _) rh⟩
  · exact h.elim
/-- isinstance(x, T), T one of bool, int, str, tuple, list, dict -/
def tyD (d : D) (G : DH) (t : String) : Prop := match d with
  | .non => t = "NoneType"
  | .bl _ => t = "bool"
  | .int _ => t = "int"
  | .str _ => t = "str"
  | .tup _ => t = "tuple"
  | .ref a => (t = "list" ∧ ∃ ds, G a = some (.lst ds)) ∨ (t = "dict" ∧ ∃ k kvs, G a = some (.dic k kvs))
  | _ => False
theorem tyX_of {K : PySem.W.Frag} {H : Hp} {G : DH} (rh : RepH K H G) {v : V} {d : D} {t : String} (r : Rp K H v d) (h : tyD d G t) : TyX K H v (.type t) := by
  cases r with
  | non => cases (show t = _ from h); exact .base .non
  | bl b => cases (show t = _ from h); exact .base (.bl b)
  | int i => cases (show t = _ from h); exact .base (.int i)
  | str x => cases (show t = _ from h); exact .base (.str x)
  | tup s l => cases (show t = _ from h); exact .base (.tup s)
  | ref a =>
    rcases h with ⟨rfl, ds, e⟩ | ⟨rfl, k, kvs, e⟩
    · obtain ⟨xs, hx, _⟩ := rh _ _ e
      exact .base (.lst hx)
    · cases k with
      | k =>
        obtain ⟨xs, hx, _⟩ := rh _ _ e
        exact .base (.dK hx)
      | t =>
        obtain ⟨xs, hx, _⟩ := rh _ _ e
        exact .base (.dT hx)
  | _ => exact h.elim
def dIsi : DRC := fun ds G Q => match ds with
  | [x, .ty u] => ∃ t b, tyD x G t ∧ kitB t u = some b ∧ Q (.bl b) G
  | _ => False
theorem call_isiOk : CallOk X (.builtin "isinstance") dIsi := by
  refine ⟨_, call_isi, fun {ds vs H G Q Qv} h r rh k => ?_⟩
  unfold dIsi at h
  split at h
  · obtain ⟨v, w, rfl, q, q'⟩ := rpl2 r
    cases q'
    obtain ⟨t, b, ht, hb, z⟩ := h
    exact ⟨_, _, _, _, b, rfl, .ty _, tyX_of rh q ht, kit_ty hb, end_q k z (.bl _) rh⟩
  · exact h.elim
/-- dict(pairs), dict(dict) -/
def prsOf : List D → Option (List (D × D))
  | [] => some []
  | .tup [k, v] :: ds => match k.key, prsOf ds with
    | some _, some r => some ((k, v) :: r)
    | _, _ => none
  | _ => none
def dDicOf : DRC := fun ds G Q => match ds with
  | [.ref a] => (∃ xs kvs, G a = some (.lst xs) ∧ prsOf xs = some kvs ∧ ∀ p, G p = none → Q (.ref p) (put G p (.dic .k (kvs.foldl (fun acc kv => dput acc kv.1 kv.2) [])))) ∨ (∃ kvs, isDic G a .k kvs ∧ ∀ p, G p = none → Q (.ref p) (put G p (.dic .k kvs)))
  | _ => False
theorem prs_of {K : PySem.W.Frag} {H : Hp} : ∀ {ds : List D} {kvs : List (D × D)} {vs : List V}, prsOf ds = some kvs → RpL K H vs ds →
    ∃ (as : List Addr) (ks : List (Key × V)), vs = as.map V.ref ∧ Paired (fun p kv => SqT K H p [kV kv.1, kv.2]) as ks ∧ Prs K H kD ks kvs
  | [], kvs, _, h, r => by cases h; cases r; exact ⟨[], [], rfl, .nil, .nil⟩
  | d :: ds, kvs, _, h, r => by
    unfold prsOf at h
    split at h
    · rename_i e; cases e
    · rename_i k v ds' e
      cases e
      split at h
      · rename_i key rr e1 e2
        cases h
        cases r with
        | cons r t =>
          obtain ⟨as, ks, e3, p1, p2⟩ := prs_of e2 t
          cases r with
          | tup s l =>
            obtain ⟨x, y, rfl, r1, r2⟩ := rpl2 l
            have e4 := key_kD e1
            subst e4
            have e5 := rp_key r1
            subst e5
            exact ⟨_ :: as, (key, y) :: ks, by rw [List.map_cons, e3], .cons (SqT.of s) p1, .cons ⟨rfl, r2⟩ p2⟩
      · cases h
    · cases h
theorem call_dicOk (hc : X.calm = true) : CallOk X (.type "dict") dDicOf := by
  refine ⟨_, (call_dictP hc).or call_dictD, fun {ds vs H G Q Qv} h r rh k => ?_⟩
  unfold dDicOf at h
  split at h
  · obtain ⟨v, rfl, q⟩ := rpl1 r
    cases q with
    | ref a =>
      rcases h with ⟨xs, kvs, e, hp, q⟩ | ⟨kvs, e, q⟩
      · obtain ⟨ys, hy, l⟩ := rh _ _ e
        obtain ⟨as, ks, rfl, p1, p2⟩ := prs_of hp l
        refine .inl ⟨_, as, ks, rfl, SqL.of hy, p1, fun p hp => end_new k hp rh ?_ (q p)⟩
        refine ⟨_, upd_same, ?_⟩
        have f : Fm H G (upd H p (.dK (mergeK [] ks))) G := fm_new' hp
        exact paired_imp (fun _ _ h => ⟨h.1, h.2.fm rh f⟩) (prs_merge (f := kD) kD_inj p2 .nil)
      · obtain ⟨ks, hk, pr⟩ := dic_k rh e
        refine .inr ⟨_, ks, rfl, hk, fun p hp => end_new k hp rh ?_ (q p)⟩
        have f : Fm H G (upd H p (.dK ks)) G := fm_new' hp
        exact ⟨_, upd_same, paired_imp (fun _ _ h => ⟨h.1, h.2.fm rh f⟩) pr⟩
  · exact h.elim
end

/-! ### methods of what is built in -/
abbrev DRM := D → List D → DH → DQ → Prop
def tyM (T : String) (x : D) (G : DH) : Prop := match x with
  | .str _ => T = "str"
  | .ref a => (T = "list" ∧ ∃ ds, G a = some (.lst ds)) ∨ (T = "dict" ∧ ∃ t kvs, G a = some (.dic t kvs))
  | _ => False
def dMt (T : String) (r : DRM) (to : DE) (ts : DA) : DE := fun δ G Q => to δ G fun x G1 => tyM T x G1 ∧ ts δ G1 fun ds G2 => r x ds G2 Q
def UpM (K : PySem.W.Frag) (r : DRM) (r' : V → List V → Hp → VK → Prop) : Prop := ∀ {x : D} {ds : List D} {v : V} {vs : List V} {H : Hp} {G : DH} {Q : DQ} {Qv : VK}, r x ds G Q → Rp K H v x → RpL K H vs ds → RepH K H G → (∀ u H', upQ K H G Q u H' → Qv u H') → r' v vs H Qv
structure MtOk (X : Cx) (id : String) (r : DRM) : Prop where
  ok : ∃ r', MtR X id r' ∧ UpM X.K r r'
section
variable {X : Cx} {o e : Expr} {es : List Expr} {to : DE} {ts : DA} {name : Str} {apos cpos : Pos} {T id : String} {r : DRM}
theorem tyV_of {K : PySem.W.Frag} {H : Hp} {G : DH} (rh : RepH K H G) {v : V} {d : D} {t : String} (r : Rp K H v d) (h : tyM t d G) : tyV K t v H := by
  cases r with
  | str x => exact h
  | ref a =>
    rcases h with ⟨rfl, ds, e⟩ | ⟨rfl, k, kvs, e⟩
    · obtain ⟨xs, hx, _⟩ := rh _ _ e
      exact .inl ⟨rfl, xs, SqL.of hx⟩
    · cases k with
      | k =>
        obtain ⟨xs, hx, _⟩ := rh _ _ e
        exact .inr (.inr (.inl ⟨rfl, .inl ⟨xs, hx⟩⟩))
      | t =>
        obtain ⟨xs, hx, _⟩ := rh _ _ e
        exact .inr (.inr (.inl ⟨rfl, .inr ⟨xs, hx⟩⟩))
  | _ => exact h.elim
theorem pd_bm (pa : PlainAttrs T) (slot : Slot T name id) (hty : typeOf (.builtin id) = pure (.type "method_descriptor")) (hm : MtOk X id r) (ho : PD X o to) (ha : PDA X (e :: es) ts)
    (hbase : attributeBase o name X.env (eval o X.env) = eval o X.env := by rfl)
    (hfew : ((backTo cpos (starEach (e :: es) X.env)).all (fun x => !x.1) && (backToKw cpos (keywordEach [] X.env)).all (fun x => x.1.isSome)
      && decide ((e :: es).length + ([] : List Keyword).length + (if ([] : List Keyword).isEmpty then 0 else 1) < 30)) = true := by rfl)
    (hline : (apos.endLine == cpos.line) = true := by rfl) (hs : starEach (e :: es) X.env = (false, eval e X.env) :: starEach es X.env := by rfl) (hplain : (backTo cpos (starEach es X.env)).any (·.1) = false := by rfl) :
    PD X (.Call (.Attribute o name apos) (e :: es) [] cpos) (dMt T r to ts) := by
  obtain ⟨r', h1, h2⟩ := hm.ok
  refine imp_pe (pe_bm pa slot hty h1 ho ha hbase hfew hline hs hplain) fun σ H Q h => ?_
  obtain ⟨δ, G, Q', rs, rh, h, k⟩ := h
  refine ⟨δ, G, _, rs, rh, h, fun v H1 ⟨x, G1, ⟨ty, h3⟩, f1, rx, rh1⟩ => ⟨tyV_of rh1 rx ty, δ, G1, _, rs.fm rh f1, rh1, h3, fun vs H2 ⟨ds, G2, h4, f2, rds, rh2⟩ => ?_⟩⟩
  exact h2 h4 (rx.fm rh1 f2) rds rh2 fun u H' q => k u H' ((q.step f2).step f1)
theorem pd_bm0 (pa : PlainAttrs T) (slot : Slot T name id) (hty : typeOf (.builtin id) = pure (.type "method_descriptor")) (hm : MtOk X id r) (ho : PD X o to)
    (hbase : attributeBase o name X.env (eval o X.env) = eval o X.env := by rfl) (hline : (apos.endLine == cpos.line) = true := by rfl) : PD X (.Call (.Attribute o name apos) [] [] cpos) (dMt T r to dNil) := by
  obtain ⟨r', h1, h2⟩ := hm.ok
  refine imp_pe (pe_bm0 pa slot hty h1 ho hbase hline) fun σ H Q h => ?_
  obtain ⟨δ, G, Q', rs, rh, h, k⟩ := h
  exact ⟨δ, G, _, rs, rh, h, fun v H1 ⟨x, G1, ⟨ty, h3⟩, f1, rx, rh1⟩ => ⟨tyV_of rh1 rx ty, h2 h3 rx .nil rh1 fun u H' q => k u H' (q.step f1)⟩⟩
end
section
variable {X : Cx}
theorem end_wr {K : PySem.W.Frag} {H : Hp} {G : DH} {Q : DQ} {Qv : VK} {a : Addr} {o : HO} {o' q : DO} {v : V} {d : D} (k : ∀ u H', upQ K H G Q u H' → Qv u H') (e : G a = some q) (rh : RepH K H G) (ro : RepO K (upd H a o) a o') (z : Q d (put G a o')) (r : Rp K H v d) : Qv v (upd H a o) := by
  have f : Fm H G (upd H a o) (put G a o') := fm_write o' e
  exact k _ _ ⟨d, _, z, f, r.fm rh f, rh.write e ro⟩
theorem wr_lst {K : PySem.W.Frag} {H : Hp} {G : DH} {a : Addr} {q : DO} {xs : List V} {ds : List D} (e : G a = some q) (rh : RepH K H G) (r : RpL K H xs ds) : RepO K (upd H a (.lst xs)) a (.lst ds) := ⟨xs, upd_same, r.fm rh (fm_write (.lst ds) e)⟩
def dAppend : DRM := fun x ds G Q => match x, ds with
  | .ref a, [d] => ∃ xs, G a = some (.lst xs) ∧ xs.length < sizeLine ∧ Q .non (put G a (.lst (xs ++ [d])))
  | _, _ => False
theorem m_append : MtOk X "list.append" dAppend := by
  refine ⟨_, mt_append, fun {x ds v vs H G Q Qv} h rx r rh k => ?_⟩
  unfold dAppend at h
  split at h
  · obtain ⟨w, rfl, q⟩ := rpl1 r
    cases rx
    obtain ⟨xs, e, hl, z⟩ := h
    obtain ⟨ys, hy, l⟩ := rh _ _ e
    exact ⟨_, ys, w, rfl, rfl, hy, by rw [l.length]; exact hl, end_wr k e rh (wr_lst e rh (l.append (.cons q .nil))) z .non⟩
  · exact h.elim
def dExtend : DRM := fun x ds G Q => match x, ds with
  | .ref a, [.ref b] => ∃ xs ys, G a = some (.lst xs) ∧ G b = some (.lst ys) ∧ xs.length + ys.length ≤ sizeLine ∧ Q .non (put G a (.lst (xs ++ ys)))
  | _, _ => False
theorem m_extend : MtOk X "list.extend" dExtend := by
  refine ⟨_, mt_extend, fun {x ds v vs H G Q Qv} h rx r rh k => ?_⟩
  unfold dExtend at h
  split at h
  · obtain ⟨w, rfl, q⟩ := rpl1 r
    cases rx
    cases q
    obtain ⟨xs, ys, e, e2, hl, z⟩ := h
    obtain ⟨us, hu, l⟩ := rh _ _ e
    obtain ⟨ws, hw, l2⟩ := rh _ _ e2
    exact ⟨_, _, us, ws, rfl, rfl, hu, hw, len_eq l l2 hl, end_wr k e rh (wr_lst e rh (l.append l2)) z .non⟩
  · exact h.elim
/-- pop(), pop(i) -/
def dPop : DRM := fun x ds G Q => match x, ds with
  | .ref a, [] => ∃ xs d, G a = some (.lst xs) ∧ xs[xs.length - 1]? = some d ∧ Q d (put G a (.lst xs.dropLast))
  | .ref a, [.int i] => ∃ xs d j, G a = some (.lst xs) ∧ (-(2 ^ 63) ≤ i ∧ i < 2 ^ 63) ∧ seqIndex? i xs.length = some j ∧ xs[j]? = some d ∧ Q d (put G a (.lst (xs.eraseIdx j)))
  | _, _ => False
theorem m_pop : MtOk X "list.pop" dPop := by
  refine ⟨_, MtR.or mt_pop mt_popAt, fun {x ds v vs H G Q Qv} h rx r rh k => ?_⟩
  unfold dPop at h
  split at h
  · cases r
    cases rx
    obtain ⟨xs, d, e, hl, z⟩ := h
    obtain ⟨ys, hy, l⟩ := rh _ _ e
    obtain ⟨w, ew, q⟩ := l.get hl
    exact .inl ⟨_, ys, w, rfl, rfl, hy, by rw [l.length]; exact ew, end_wr k e rh (wr_lst e rh l.dropLast) z q⟩
  · obtain ⟨w, rfl, q⟩ := rpl1 r
    cases rx
    cases q
    obtain ⟨xs, d, j, e, hb, hj, hl, z⟩ := h
    obtain ⟨ys, hy, l⟩ := rh _ _ e
    obtain ⟨w, ew, q⟩ := l.get hl
    exact .inr ⟨_, ys, _, j, w, rfl, rfl, hy, hb.1, hb.2, by rw [l.length]; exact hj, ew, end_wr k e rh (wr_lst e rh (l.eraseIdx j)) z q⟩
  · exact h.elim
/-- d.get(k), d.get(k, x) -/
def dGet : DRM := fun x ds G Q => match x, ds with
  | .ref a, [k] => ∃ t kvs, isDic G a t kvs ∧ keyOk t k ∧ Q ((dval kvs k).getD .non) G
  | .ref a, [k, z] => ∃ t kvs, isDic G a t kvs ∧ keyOk t k ∧ Q ((dval kvs k).getD z) G
  | _, _ => False
theorem mt_get (hu : X.A.units + 1 < cLine) : MtR X "dict.get" (fun x vs H Q => (∃ a y o, x = .ref a ∧ vs = [y] ∧ DGet H a y o ∧ Q (o.getD .non) H) ∨ ∃ a y z o, x = .ref a ∧ vs = [y, z] ∧ DGet H a y o ∧ Q (o.getD z) H) := by
  intro pins s σ H x xs v us Q I rx rxs h
  rcases h with ⟨a, y, o, rfl, rfl, g, q⟩ | ⟨a, y, z, o, rfl, rfl, g, q⟩
  · cases rx
    obtain ⟨u1, rfl, r1⟩ := Vals.one rxs
    exact d_get1 hu I g r1 fun w' s1 I1 r2 => ⟨_, H, I1, r2, q⟩
  · cases rx
    obtain ⟨u1, u2, rfl, r1, r2⟩ := Vals.two rxs
    exact d_get2 hu I g r1 r2 fun w' s1 I1 r3 => ⟨_, H, I1, r3, q⟩
theorem m_get (hu : X.A.units + 1 < cLine) : MtOk X "dict.get" dGet := by
  refine ⟨_, mt_get hu, fun {x ds v vs H G Q Qv} h rx r rh k => ?_⟩
  unfold dGet at h
  split at h
  · obtain ⟨w, rfl, q⟩ := rpl1 r
    cases rx
    obtain ⟨t, kvs, e, ok, z⟩ := h
    have g := dget_of rh e ok q
    rename_i key
    cases c : dval kvs key with
    | none => rw [c] at g z; exact .inl ⟨_, w, none, rfl, rfl, g, end_q k z .non rh⟩
    | some d => rw [c] at g z; obtain ⟨u, g, ru⟩ := g; exact .inl ⟨_, w, some u, rfl, rfl, g, end_q k z ru rh⟩
  · obtain ⟨w, w2, rfl, q, q2⟩ := rpl2 r
    cases rx
    obtain ⟨t, kvs, e, ok, z⟩ := h
    have g := dget_of rh e ok q
    rename_i key dd
    cases c : dval kvs key with
    | none => rw [c] at g z; exact .inr ⟨_, w, w2, none, rfl, rfl, g, end_q k z q2 rh⟩
    | some d => rw [c] at g z; obtain ⟨u, g, ru⟩ := g; exact .inr ⟨_, w, w2, some u, rfl, rfl, g, end_q k z ru rh⟩
  · exact h.elim
end
end D3

set_option Elab.async false
set_option linter.all false
set_option maxRecDepth 100000
set_option maxHeartbeats 4000000
namespace D3
open PySem PySem.Spec PyProof.Rows L2

/-! ### a display of pairs -/
def dPairs : List (DE × DE) → DSt → DH → (List (D × D) → DH → Prop) → Prop
  | [], _, G, Q => Q [] G
  | (tk, tv) :: r, δ, G, Q => tk δ G fun k G1 => tv δ G1 fun v G2 => dPairs r δ G2 fun ps G3 => Q ((k, v) :: ps) G3
def dmerge (kvs : List (D × D)) : List (D × D) := kvs.foldl (fun acc kv => dput acc kv.1 kv.2) []
def dDisp (prs : List (DE × DE)) : DE := fun δ G Q => dPairs prs δ G fun ps G1 => (ps.all (fun p => p.1.key.isSome) = true ∧ ps.length ≤ 15) ∧ ∀ p, G1 p = none → Q (.ref p) (put G1 p (.dic .k (dmerge ps)))
abbrev RpPs (K : PySem.W.Frag) (H : Hp) : List (V × V) → List (D × D) → Prop := Paired fun p q => Rp K H p.1 q.1 ∧ Rp K H p.2 q.2
section
variable {K : PySem.W.Frag}
theorem up_pairs : ∀ {prs : List (DE × DE)} {δ : DSt} {G : DH} {σ : L2.St} {H : Hp} {Q' : List (D × D) → DH → Prop} {Q : List (V × V) → Hp → Prop}, RepS K H σ δ → RepH K H G → dPairs prs δ G Q' →
    (∀ ps H' qs G', Q' qs G' → Fm H G H' G' → RpPs K H' ps qs → RepH K H' G' → Q ps H') → tPairs (prs.map fun p => (up K p.1, up K p.2)) σ H Q
  | [], δ, G, σ, H, Q', Q, rs, rh, h, k => k [] H [] G h (Fm.refl _ _) .nil rh
  | (tk, tv) :: r, δ, G, σ, H, Q', Q, rs, rh, h, k => by
    refine ⟨δ, G, _, rs, rh, h, fun v H1 ⟨x, G1, h1, f1, rx, rh1⟩ => ?_⟩
    refine ⟨δ, G1, _, rs.fm rh f1, rh1, h1, fun w H2 ⟨y, G2, h2, f2, ry, rh2⟩ => ?_⟩
    refine up_pairs (prs := r) ((rs.fm rh f1).fm rh1 f2) rh2 h2 fun ps H3 qs G3 q f3 rp rh3 => ?_
    exact k _ H3 _ G3 q ((f1.trans f2).trans f3) (.cons ⟨(rx.fm rh1 f2).fm rh2 f3, ry.fm rh2 f3⟩ rp) rh3
theorem pairs_key {H : Hp} {ps : List (V × V)} {qs : List (D × D)} (r : RpPs K H ps qs) (h : qs.all (fun p => p.1.key.isSome) = true) : ∃ ks : List (Key × V), ps = ks.map (fun kv => (kV kv.1, kv.2)) ∧ Prs K H kD ks qs := by
  induction r with
  | nil => exact ⟨[], rfl, .nil⟩
  | cons hr t ih =>
    rename_i p q _ _
    rw [List.all_cons, Bool.and_eq_true] at h
    obtain ⟨ks, e, pr⟩ := ih h.2
    cases e1 : q.1.key with
    | none => rw [e1] at h; exact absurd h.1 Bool.false_ne_true
    | some key =>
      have e2 := key_kD e1
      have e3 : p.1 = kV key := rp_key (e2 ▸ hr.1)
      refine ⟨(key, p.2) :: ks, ?_, .cons ⟨e2, hr.2⟩ pr⟩
      rw [List.map_cons, ← e, ← e3]
end
section
variable {X : Cx} {pos : Pos}
theorem pd_disp {keys : List (Option Expr)} {values : List Expr} {prs : List (DE × DE)} (h : PPs X pos keys values (prs.map fun p => (up X.K p.1, up X.K p.2))) (hall : keys.all (·.isSome) = true) (hl : keys.length = values.length) (h0 : keys ≠ [])
    (h15 : keys.length ≤ 15) : PD X (.Dict keys values pos) (dDisp prs) := imp_pe (pe_disp h hall hl h0 h15) fun σ H Q h => by
  obtain ⟨δ, G, Q', rs, rh, h, k⟩ := h
  intro p hp
  have f0 : Fm H G (upd H p (.dK [])) G := fm_new' hp
  refine up_pairs (rs.fm rh f0) (rh.new' hp) h fun ps H2 qs G2 ⟨⟨q1, q2⟩, q3⟩ f2 rp rh2 => ?_
  obtain ⟨hp2, gp⟩ := f2 p _ upd_same (rh.free hp)
  obtain ⟨ks, e, pr⟩ := pairs_key rp q1
  refine ⟨hp2, ks, e, by rw [Paired.length pr]; exact q2, ?_⟩
  have fx : Fm H G (upd H2 p (.dK (mergeK [] ks))) (put G2 p (.dic .k (dmerge qs))) := by
    intro b u hb nb
    have ne : b ≠ p := fun z => by rw [z, hp] at hb; cases hb
    obtain ⟨x1, x2⟩ := (f0.trans f2) b u hb nb
    exact ⟨by rw [upd_ne ne]; exact x1, by rw [put_ne ne]; exact x2⟩
  refine k _ _ ⟨.ref p, _, q3 p gp, fx, .ref p, fun a u e => ?_⟩
  by_cases c : a = p
  · subst c
    rw [put_same] at e
    cases e
    refine ⟨_, upd_same, ?_⟩
    exact paired_imp (fun _ _ h => ⟨h.1, rp_upd hp2 (fun _ z => nomatch z) (fun _ _ z => nomatch z) h.2⟩) (prs_merge (f := kD) kD_inj pr .nil)
  · rw [put_ne c] at e
    exact repO_upd hp2 (fun _ z => nomatch z) (fun _ _ z => nomatch z) c (rh2 a u e)
end

/-! ### a def that may be called -/
structure Cal (P : Program) (w : World) (K : PySem.W.Frag) (mg : Str → Option Value) (base : Heap) (x : Str) (ps : List Str) (k : Nat) (sp : DSp) : Prop where
  ex : ∃ f fd, FnOk P w K mg base CX0 k f fd ps (upSp K sp) ∧ mg x = some (.ref f) ∧ PySem.W.keepIn K (.ref f) = true ∧ Binds K fd ps []
structure CalM (P : Program) (w : World) (K : PySem.W.Frag) (mg : Str → Option Value) (base : Heap) (C : Addr) (m : Str) (ps : List Str) (k : Nat) (sp : DSp) : Prop where
  cl : Cls K C
  ex : ∃ f fd, FnOk P w K mg base CX0 k f fd ps (upSp K sp) ∧ Meth K C m f ∧ Binds K fd ps []
structure CalI (P : Program) (w : World) (K : PySem.W.Frag) (mg : Str → Option Value) (base : Heap) (x : Str) (C : Addr) (ps : List Str) (k : Nat) (sp : DSp) : Prop where
  ex : ∃ f fd, FnOk P w K mg base CX0 k f fd ps (upSp K sp) ∧ mg x = some (.ref C) ∧ Mk K C f ∧ Binds K fd ps []
section
variable {X : Cx} {j k : Nat} {C : Addr} {ps : List Str} {sp : DSp} {x m : Str} {p pos apos : Pos} {e o : Expr} {es : List Expr} {ta : DE} {ts : DA}
theorem pd_cal (c : Cal X.prog X.w X.K X.mg X.base x ps j sp) (hr : Room j X.A) (hg : Gl X x) (ha : PDA X (e :: es) ts) (hdb : (x == ("__debug__" : Str)) = false := by decide) (he : starEach (e :: es) X.env = (false, eval e X.env) :: starEach es X.env := by rfl) (hpl : (backTo pos (starEach es X.env)).any (·.1) = false := by rfl) :
    PD X (.Call (.Name x p) (e :: es) [] pos) (dCall sp ts) := by
  obtain ⟨f, fd, F, hm, hk, hb⟩ := c.ex
  exact pd_call F hr hg hm hk hb pass0 ha hdb he hpl
theorem pd_calM {pl : Sem Bool} (he : PD X o ta) (c : CalM X.prog X.w X.K X.mg X.base C m ps j sp) (hr : Room j X.A) (ha : PDA X (e :: es) ts) (hst : starEach (e :: es) X.env = (false, eval e X.env) :: starEach es X.env := by rfl) (hpl : (backTo pos (starEach es X.env)).any (·.1) = false := by rfl)
    (ht : eval (.Call (.Attribute o m apos) (e :: es) [] pos) X.env = (do
      let ov ← eval o X.env
      standAt apos.atName
      let (f, first) ← holding [ov] (getMethod ov m pl)
      callWith pos f first (backTo pos (starEach (e :: es) X.env)) (backToKw pos (keywordEach [] X.env))) := by rfl) : PD X (.Call (.Attribute o m apos) (e :: es) [] pos) (dMeth C m sp ta ts) := by
  obtain ⟨f, fd, F, hm, hb⟩ := c.ex
  exact pd_meth he c.cl hm F hr hb pass0 ha hst hpl ht
theorem pd_calM0 {pl : Sem Bool} (he : PD X o ta) (c : CalM X.prog X.w X.K X.mg X.base C m ps j sp) (hr : Room j X.A)
    (ht : eval (.Call (.Attribute o m apos) [] [] pos) X.env = (do
      let ov ← eval o X.env
      standAt apos.atName
      let (f, first) ← holding [ov] (getMethod ov m pl)
      callWith pos f first (backTo pos (starEach [] X.env)) (backToKw pos (keywordEach [] X.env))) := by rfl) : PD X (.Call (.Attribute o m apos) [] [] pos) (dMeth C m sp ta dNil) := by
  obtain ⟨f, fd, F, hm, hb⟩ := c.ex
  exact pd_meth0 he c.cl hm F hr hb pass0 ht
theorem pd_calI (c : CalI X.prog X.w X.K X.mg X.base x C ps j sp) (hr : Room (j + 1) X.A) (hg : Gl X x) (ha : PDA X (e :: es) ts) (hdb : (x == ("__debug__" : Str)) = false := by decide) (he : starEach (e :: es) X.env = (false, eval e X.env) :: starEach es X.env := by rfl) (hpl : (backTo pos (starEach es X.env)).any (·.1) = false := by rfl) :
    PD X (.Call (.Name x p) (e :: es) [] pos) (dMake C sp ts) := by
  obtain ⟨f, fd, F, hm, M, hb⟩ := c.ex
  exact pd_make M F hr hg hm hb pass0 ha hdb he hpl
theorem room64 {A : Around} (hr : Room k A) : A.units + 64 < cLine := by have := hr.un; omega
theorem room65 {A : Around} (hr : Room k A) : A.units + 65 < cLine := by have := hr.un; omega
theorem room1 {A : Around} (hr : Room k A) : A.units + 1 < cLine := by have := hr.un; omega
end

section
variable {X : Cx} {pos : Pos} {a b c : Expr} {ta tb tc : DE} {r r' : DR2} {op op' : CmpOp}
theorem pd_ch (o : CmpOk X op r) (o' : CmpOk X op' r') (ha : PD X a ta) (hb : PD X b tb) (hc : PD X c tc) (hm : lastMarks [op, op'] [b, c] = false := by with_unfolding_all rfl) : PD X (.Compare a [op, op'] [b, c] pos) (dChain r r' ta tb tc) := by
  obtain ⟨s, h1, h2⟩ := o.ok
  obtain ⟨s', h1', h2'⟩ := o'.ok
  exact imp_pe (pe_chain h1 h1' ha hb hc hm) fun _ _ _ h => up_chain h2 h2' h
theorem pdt_ch (o : CmpOk X op r) (o' : CmpOk X op' r') (ha : PD X a ta) (hb : PD X b tb) (hc : PD X c tc) (hm : lastMarks [op, op'] [b, c] = false := by with_unfolding_all rfl) : PDT X (.Compare a [op, op'] [b, c] pos) (dTest (dChain r r' ta tb tc)) := by
  obtain ⟨s, h1, h2⟩ := o.ok
  obtain ⟨s', h1', h2'⟩ := o'.ok
  refine imp_pt (pt_chain h1 h1' ha hb hc hm) fun σ H Q h => ?_
  obtain ⟨δ, G, Q', rs, rh, h, k⟩ := up_test h
  exact up_chain h2 h2' ⟨δ, G, Q', rs, rh, h, k⟩
/-! #### the module's constants -/
theorem pd_gstr {x z : Str} (h : ∃ t, X.mg x = some (.str z t)) (hg : Gl X x) (hd : (x == ("__debug__" : Str)) = false := by decide) : PD X (.Name x pos) (dC (.str z)) := by
  obtain ⟨t, h⟩ := h
  exact pd_glob (v := .str z) hg h ⟨t, rfl⟩ (fun _ => .str z) hd
theorem pd_gint {x : Str} {i : Int} (h : ∃ t, X.mg x = some (.int i t)) (hg : Gl X x) (hd : (x == ("__debug__" : Str)) = false := by decide) : PD X (.Name x pos) (dC (.int i)) := by
  obtain ⟨t, h⟩ := h
  exact pd_glob (v := .int i) hg h ⟨t, rfl⟩ (fun _ => .int i) hd
theorem pd_gtup {x : Str} {zs : List Str} (h : ∃ a, X.mg x = some (.ref a) ∧ CoT X.K a (zs.map V.str)) (hg : Gl X x) (hd : (x == ("__debug__" : Str)) = false := by decide) : PD X (.Name x pos) (dC (.ctu (zs.map D.str))) := by
  obtain ⟨a, h, c⟩ := h
  have go : ∀ (H : Hp) (zs : List Str), RpL X.K H (zs.map V.str) (zs.map D.str) := fun H zs => by
    induction zs with
    | nil => exact .nil
    | cons z zs ih => exact .cons (.str z) ih
  exact pd_glob (v := .ref a) hg h rfl (fun H => .ctu c (go H zs)) hd
theorem pd_gty {x : Str} {T : String} (hm : X.mg x = none) (hg : Gl X x) (hv : bootBuiltins x = some (.type T)) (hn : x ≠ "__name__" := by decide) (hd : (x == ("__debug__" : Str)) = false := by decide) : PD X (.Name x pos) (dC (.ty T)) :=
  pd_bltn (v := .ty T) hg hm hv rfl (fun _ => .ty T) hn hd
end
theorem bt_len : bootBuiltins "len" = some (.builtin "len") := by decide +kernel
theorem bt_abs : bootBuiltins "abs" = some (.builtin "abs") := by decide +kernel
theorem bt_sum : bootBuiltins "sum" = some (.builtin "sum") := by decide +kernel
theorem bt_sorted : bootBuiltins "sorted" = some (.builtin "sorted") := by decide +kernel
theorem bt_isinstance : bootBuiltins "isinstance" = some (.builtin "isinstance") := by decide +kernel
theorem bt_min : bootBuiltins "min" = some (.builtin "min") := by decide +kernel
theorem bt_max : bootBuiltins "max" = some (.builtin "max") := by decide +kernel
theorem bt_all : bootBuiltins "all" = some (.builtin "all") := by decide +kernel
theorem bt_any : bootBuiltins "any" = some (.builtin "any") := by decide +kernel
theorem bt_repr : bootBuiltins "repr" = some (.builtin "repr") := by decide +kernel
theorem bt_tuple : bootBuiltins "tuple" = some (.type "tuple") := by decide +kernel
theorem bt_list : bootBuiltins "list" = some (.type "list") := by decide +kernel
theorem bt_dict : bootBuiltins "dict" = some (.type "dict") := by decide +kernel
theorem bt_set : bootBuiltins "set" = some (.type "set") := by decide +kernel
theorem bt_int : bootBuiltins "int" = some (.type "int") := by decide +kernel
theorem bt_bool : bootBuiltins "bool" = some (.type "bool") := by decide +kernel
theorem bt_str : bootBuiltins "str" = some (.type "str") := by decide +kernel
/-- the derivation of a def's body, whatever runs around -/
abbrev Der (P : Program) (w : World) (K : PySem.W.Frag) (mg : Str → Option Value) (base : Heap) (N : List Str) (qual : Str) (st : Stmt) (k : Nat) (b : DS) : Prop :=
  ∀ (f : Addr) (cdv : Value) (A : Around) (outer : List Env) (s : Shared) (H : Hp) (E : XK), Room k (A.deeper (envOfC qual (defScope st) s.heap.objs.size f cdv)) →
    PDSs (cxOf CX0 P w K mg base N qual (defScope st) f cdv A outer s H E).nox (defBody st) b
section
variable {P : Program} {w : World} {K : PySem.W.Frag} {mg : Str → Option Value} {base : Heap} {x qual : Str} {st : Stmt} {f C : Addr} {fd : FuncData} {N ps : List Str} {k : Nat} {sp : DSp} {b : DS}
abbrev FnP (K : PySem.W.Frag) (x qual : Str) (st : Stmt) (f : Addr) (fd : FuncData) : Prop := FunD K x qual (defArgs st) (defBody st) (defScope st) [] [] f fd
theorem okD (F : FnP K x qual st f fd) (S : FnScope N ps (defScope st)) (len : ∀ ds G Q, sp ds G Q → ds.length = ps.length) (der : Der P w K mg base N qual st k b) (pure : ∀ ds G Q, sp ds G Q → b (dEnd Q) (dstart N ds) G) : FnOk P w K mg base CX0 (k + 1) f fd ps (upSp K sp) :=
  fn_ok F S len (fun cdv A outer s H E hr => der f cdv A outer s H E hr) pure
theorem cal_of (F : FnP K x qual st f fd) (hm : mg x = some (.ref f)) (S : FnScope N ps (defScope st)) (len : ∀ ds G Q, sp ds G Q → ds.length = ps.length) (der : Der P w K mg base N qual st k b) (pure : ∀ ds G Q, sp ds G Q → b (dEnd Q) (dstart N ds) G)
    (hb : Binds K fd ps []) : Cal P w K mg base x ps (k + 1) sp := ⟨f, fd, okD F S len der pure, hm, F.kp, hb⟩
end
end D3

set_option Elab.async false
set_option linter.all false
set_option maxRecDepth 100000
set_option maxHeartbeats 4000000
namespace D3
open PySem PySem.Spec PyProof.Rows L2

/-! ### readings, answered -/
theorem at_in {α : Type} {xs : List α} {i : Int} (h0 : 0 ≤ i) (h1 : i < xs.length) : ∃ v, xs[i.toNat]? = some v ∧ atI xs i = some v := by
  have hl : i.toNat < xs.length := by omega
  obtain ⟨j, e⟩ : ∃ j : Nat, i = (j : Int) := ⟨i.toNat, by omega⟩
  subst e
  rw [Int.toNat_natCast] at hl ⊢
  exact ⟨xs[j], List.getElem?_eq_getElem hl, atI_nat (List.getElem?_eq_getElem hl)⟩
theorem at_nat {α : Type} {xs : List α} {j : Nat} {v : α} (h : xs[j]? = some v) : atI xs (j : Int) = some v := atI_nat h
section
variable {G : DH} {Q : DQ}
theorem ixs {z : Str} {i : Int} (h0 : 0 ≤ i) (h1 : i < z.length) (hz : z.length ≤ sizeLine) (k : ∀ c, z.cps[i.toNat]? = some c → Q (.str ⟨#[c]⟩) G) : dIx (.str z) (.int i) G Q := by
  have hl : (i : Int) < z.cps.toList.length := by rw [Array.length_toList]; exact h1
  obtain ⟨c, hc, e⟩ := at_in h0 hl
  show (match atI z.cps.toList i with | some c => z.length ≤ sizeLine ∧ Q (.str ⟨#[c]⟩) G | none => False)
  rw [e]
  exact ⟨hz, k c (by rw [← Array.getElem?_toList]; exact hc)⟩
theorem ixl {a : Addr} {ds : List D} {i : Int} (e : G a = some (.lst ds)) (h0 : 0 ≤ i) (h1 : i < ds.length) (k : ∀ d, ds[i.toNat]? = some d → Q d G) : dIx (.ref a) (.int i) G Q := by
  obtain ⟨d, hd, e'⟩ := at_in h0 h1
  exact .inl ⟨ds, i, d, rfl, e, e', k d hd⟩
theorem ixt {ds : List D} {i : Int} (h0 : 0 ≤ i) (h1 : i < ds.length) (k : ∀ d, ds[i.toNat]? = some d → Q d G) : dIx (.tup ds) (.int i) G Q := by
  obtain ⟨d, hd, e'⟩ := at_in h0 h1
  show (match atI ds i with | some d => Q d G | none => False)
  rw [e']
  exact k d hd
theorem range_at {n i : Nat} {lo : Int} {d : D} (h : ((List.range n).map fun i : Nat => D.int (lo + (i : Int)))[i]? = some d) : i < n ∧ d = .int (lo + i) := by
  rw [List.getElem?_map] at h
  obtain ⟨j, hj, e⟩ := Option.map_eq_some_iff.mp h
  have hi : i < n := by
    have := (List.getElem?_eq_some_iff.mp hj).1
    rw [List.length_range] at this; exact this
  rw [List.getElem?_range hi] at hj
  cases hj
  exact ⟨hi, e.symm⟩
theorem range_len {n : Nat} {lo : Int} : ((List.range n).map fun i : Nat => D.int (lo + (i : Int))).length = n := by rw [List.length_map, List.length_range]
/-- a loop over a range -/
theorem for_rng {ts : DA} {g : DG} {tb : DS} {D : DEnds} {δ : DSt} {n : Int} (P : Nat → DSt → DH → Prop) (ht : ∀ R : List D3.D → DH → Prop, R [.int n] G → ts δ G R) (hb : -(2 ^ 62) ≤ n ∧ n < 2 ^ 62) (p0 : P 0 δ G)
    (turn : ∀ i δ G, i < n.toNat → P i δ G → g (.int (i : Int)) δ G fun δ2 G2 => tb { D with nx := lo (P (i + 1)), ct := lo (P (i + 1)), bk := D.nx } δ2 G2) (done : ∀ δ G, P n.toNat δ G → D.nx δ G) : dFor (dRng1 ts) g tb D δ G := by
  refine ht _ ⟨hb, P, p0, fun _ _ _ _ => trivial, fun i d δ G hi p => ?_, fun δ G p => done δ G (by rw [range_len] at p; exact p)⟩
  obtain ⟨h1, rfl⟩ := range_at hi
  rw [Int.zero_add]
  exact turn i δ G h1 p
end
theorem line_le {n : Nat} (h : n ≤ 16777216) : n ≤ sizeLine := by rw [sizeLine_eq]; exact h
theorem line_lt {n : Nat} (h : n < 16777216) : n < sizeLine := by rw [sizeLine_eq]; exact h
theorem str_app_len (a b : Str) : (a ++ b).length = a.length + b.length := by
  show (a.cps ++ b.cps).size = _
  rw [Array.size_append]; rfl
theorem str_app_cps (a b : Str) : (a ++ b).cps = a.cps ++ b.cps := rfl
end D3

set_option Elab.async false
set_option linter.all false
set_option maxRecDepth 100000
set_option maxHeartbeats 4000000
namespace D3
open PySem PySem.Spec PyProof.Rows L2

/-! ### what a datum shows -/
mutual
inductive Sh (G : DH) : D → PyData → Prop
  | non : Sh G .non .none
  | bl (b : Bool) : Sh G (.bl b) (.bool b)
  | int (i : Int) : Sh G (.int i) (.int i)
  | str (x : Str) : Sh G (.str x) (.str x)
  | tup {ds : List D} {ps : List PyData} : ShL G ds ps → Sh G (.tup ds) (.tuple ps)
  | lst {a : Addr} {ds : List D} {ps : List PyData} : G a = some (.lst ds) → ShL G ds ps → Sh G (.ref a) (.list ps)
  | dic {a : Addr} {kvs : List (D × D)} {qs : List (PyData × PyData)} : G a = some (.dic .k kvs) → ShL G (kvs.map (·.1)) (qs.map (·.1)) → ShL G (kvs.map (·.2)) (qs.map (·.2)) → Sh G (.ref a) (.dict qs)
inductive ShL (G : DH) : List D → List PyData → Prop
  | nil : ShL G [] []
  | cons {d : D} {ds : List D} {p : PyData} {ps : List PyData} : Sh G d p → ShL G ds ps → ShL G (d :: ds) (p :: ps)
end
section
variable {P : Program} {w : World} {K : PySem.W.Frag} {H : Hp} {h : Heap} {G : DH}
theorem kd_keys : ∀ {ks : List (Key × V)} {vs : List (Key × Value)} {es : List DictEntry} {kvs : List (D × D)}, KV ks vs → Pairs (mixKind P w) es vs → Prs K H kD ks kvs →
    ∃ xs : List V, Vals xs (es.map (·.key)) ∧ RpL K H xs (kvs.map (·.1))
  | _, _, _, _, .nil, .nil, .nil => ⟨[], .nil, .nil⟩
  | p :: _, _ :: _, e :: _, r :: _, .cons a t, .cons b _ t', .cons c t'' => by
    obtain ⟨xs, q1, q2⟩ := kd_keys t t' t''
    have b2 : keyIs p.1 e.key = true := by rw [a.1]; exact b
    rcases keyIs_shape b2 with ⟨i, u, e1, e2⟩ | ⟨x, u, e1, e2⟩
    · refine ⟨.int i :: xs, .cons ?_ q1, .cons ?_ q2⟩
      · exact ⟨u, e2⟩
      · show Rp K H _ r.1
        rw [c.1, e1]; exact .int i
    · refine ⟨.str x :: xs, .cons ?_ q1, .cons ?_ q2⟩
      · exact ⟨u, e2⟩
      · show Rp K H _ r.1
        rw [c.1, e1]; exact .str x
theorem kd_vals : ∀ {ks : List (Key × V)} {vs : List (Key × Value)} {es : List DictEntry} {kvs : List (D × D)}, KV ks vs → Pairs (mixKind P w) es vs → Prs K H kD ks kvs →
    ∃ xs : List V, Vals xs (es.map (·.val)) ∧ RpL K H xs (kvs.map (·.2))
  | _, _, _, _, .nil, .nil, .nil => ⟨[], .nil, .nil⟩
  | p :: _, _ :: _, e :: _, _ :: _, .cons a t, .cons _ b t', .cons c t'' => by
    obtain ⟨xs, q1, q2⟩ := kd_vals t t' t''
    refine ⟨p.2 :: xs, .cons ?_ q1, .cons c.2 q2⟩
    show RelV p.2 e.val
    rw [b]; exact a.2
mutual
theorem sh_reads (rh : RepH K H G) (ok : HOk P w H h) : ∀ {d : D} {p : PyData} {v : V} {u : Value}, Sh G d p → Rp K H v d → RelV v u → ∃ as : List Addr, Reads h u p as ∧ ∀ b ∈ as, H b ≠ none
  | _, _, _, _, .non, .non, e => by
    have e : _ = Value.none := e
    subst e
    exact ⟨[], .none, fun _ z => nomatch z⟩
  | _, _, _, _, .bl b, .bl _, e => by
    have e : _ = Value.bool b := e
    subst e
    exact ⟨[], .bool b, fun _ z => nomatch z⟩
  | _, _, _, _, .int i, .int _, e => by
    obtain ⟨t, rfl⟩ := e
    exact ⟨[], .int i t, fun _ z => nomatch z⟩
  | _, _, _, _, .str x, .str _, e => by
    obtain ⟨t, rfl⟩ := e
    exact ⟨[], .str x t, fun _ z => nomatch z⟩
  | _, _, _, _, .tup l, .tup (a := a) g r, e => by
    have e : _ = Value.ref a := e
    subst e
    obtain ⟨_, its, rv, o, e1, e2, n, e3⟩ := ok a _ g
    obtain ⟨as, q1, q2⟩ := shL_reads rh ok l r rv
    exact ⟨as, .tuple e1 e2 e3 (by simpa using q1), q2⟩
  | _, _, _, _, .lst (a := a) g l, .ref _, e => by
    have e : _ = Value.ref a := e
    subst e
    obtain ⟨xs, hx, r⟩ := rh a _ g
    obtain ⟨_, its, n, rv, e1⟩ := ok a _ hx
    obtain ⟨as, q1, q2⟩ := shL_reads rh ok l r rv
    refine ⟨a :: as, .list e1 rfl rfl (by simpa using q1), fun b hb => ?_⟩
    rcases List.mem_cons.mp hb with z | z
    · subst z; rw [hx]; exact fun z => nomatch z
    · exact q2 b z
  | _, _, _, _, .dic (a := a) g l1 l2, .ref _, e => by
    have e : _ = Value.ref a := e
    subst e
    obtain ⟨ks, hk, pr⟩ := rh a _ g
    obtain ⟨_, _, vs, kv, o, es, ep, e1, e2, e3, _, ps, _⟩ := ok a _ hk
    obtain ⟨xs, v1, r1⟩ := kd_keys kv ps pr
    obtain ⟨ys, v2, r2⟩ := kd_vals kv ps pr
    obtain ⟨as, q1, q2⟩ := shL_reads rh ok l1 r1 v1
    obtain ⟨bs, q3, q4⟩ := shL_reads rh ok l2 r2 v2
    refine ⟨a :: as ++ bs, .dict e1 e2.1 e3 q1 q3, fun b hb => ?_⟩
    rcases List.mem_append.mp hb with z | z
    · rcases List.mem_cons.mp z with z | z
      · subst z; rw [hk]; exact fun z => nomatch z
      · exact q2 b z
    · exact q4 b z
theorem shL_reads (rh : RepH K H G) (ok : HOk P w H h) : ∀ {ds : List D} {ps : List PyData} {vs : List V} {us : List Value}, ShL G ds ps → RpL K H vs ds → Vals vs us → ∃ as : List Addr, ReadsAll h us ps as ∧ ∀ b ∈ as, H b ≠ none
  | _, _, _, _, .nil, .nil, .nil => ⟨[], .nil, fun _ z => nomatch z⟩
  | _, _, _, _, .cons a t, .cons b t', .cons c t'' => by
    obtain ⟨as, q1, q2⟩ := sh_reads rh ok a b c
    obtain ⟨bs, q3, q4⟩ := shL_reads rh ok t t' t''
    exact ⟨as ++ bs, .cons q1 q3, fun b hb => (List.mem_append.mp hb).elim (q2 b) (q4 b)⟩
end
end
/-- repr(e) of a tuple, a list, a dict -/
def dRepr : DRC := fun ds G Q => ∃ (d : D) (p : PyData), ds = [d] ∧ ((∃ a, d = .ref a) ∨ ∃ xs, d = .tup xs) ∧ Sh G d p ∧ p.showable = true ∧ p.depth ≤ 60 ∧ p.shown.length ≤ sizeLine ∧ Q (.str p.shown) G
section
variable {X : Cx}
theorem call_reprOk (hg : X.A.guards = some []) (hu : X.A.units + 64 < cLine) (hm : ∃ o, X.base.get? sysModules = some o) : CallOk X (.builtin "repr") dRepr := by
  refine ⟨fun xs H Q => ∃ (G : DH) (v : V) (d : D) (p : PyData), xs = [v] ∧ RepH X.K H G ∧ Rp X.K H v d ∧ ((∃ a, d = .ref a) ∨ ∃ xs, d = .tup xs) ∧ Sh G d p ∧ p.showable = true ∧ p.depth ≤ 60 ∧ p.shown.length ≤ sizeLine ∧ Q (.str p.shown) H, ?_, fun {ds vs H G Q Qv} h r rh k => ?_⟩
  · intro pins s σ H xs us Q I r h
    obtain ⟨G, v, d, p, rfl, rh, rp, hd, sh, h1, h2, h3, q⟩ := h
    obtain ⟨u, rfl, ru⟩ := vals1 r
    obtain ⟨as, rd, na⟩ := sh_reads rh I.hok sh rp ru
    have hr : ∃ a, u = .ref a := by
      rcases hd with ⟨a, e⟩ | ⟨xs, e⟩
      · subst e; cases rp; exact ⟨a, ru⟩
      · subst e; cases rp; exact ⟨_, ru⟩
    obtain ⟨a, rfl⟩ := hr
    obtain ⟨o, ho⟩ := hm
    refine repr_of_reads' (h₀ := s.heap) rd h1 (fun _ z => na _ z (I.bs _ _ ho).2) hg (by omega) (fun _ _ e => e) (fun h' t tk hk => ⟨.str p.shown, H, I.kept hk, ⟨t, rfl⟩, q⟩) h3
  · obtain ⟨d, p, rfl, hd, sh, h1, h2, h3, q⟩ := h
    obtain ⟨v, rfl, rp⟩ := rpl1 r
    exact ⟨G, v, d, p, rfl, rh, rp, hd, sh, h1, h2, h3, end_q k q (.str _) rh⟩
end

/-! ### defs that want that no repr runs around them -/
structure FnG (P : Program) (w : World) (K : PySem.W.Frag) (mg : Str → Option Value) (base : Heap) (k : Nat) (f : Addr) (fd : FuncData) (ps : List Str) (sp : Sp) : Prop where
  len : ∀ vs H Q E, sp vs H Q E → vs.length = ps.length
  go : ∀ {A : Around} {outer : List Env} {s : Shared} {H : Hp} {args : Args} {us : List Value} {vs : List V} {Q : VK} {E : XK}, A.guards = some [] → Room k A → Env0 P w K mg base A outer s H → BindsTo s fd args (ps.zip us) → Vals vs us → sp vs H Q E →
    codeAny (model P w) A (.call (.ref f) args) (CR CX0 outer P w H s Q E) s
theorem FnG.mono {P : Program} {w : World} {K : PySem.W.Frag} {mg : Str → Option Value} {base : Heap} {j k : Nat} {f : Addr} {fd : FuncData} {ps : List Str} {sp : Sp} (F : FnG P w K mg base j f fd ps sp) (h : j ≤ k) : FnG P w K mg base k f fd ps sp :=
  ⟨F.len, fun g r => F.go g (r.mono h)⟩
section
variable {P : Program} {w : World} {K : PySem.W.Frag} {mg : Str → Option Value} {base : Heap} {x qual : Str} {params : Arguments} {body : List Stmt} {scope : Scope} {f : Addr} {fd : FuncData}
theorem fn_okG {N ps : List Str} {k : Nat} {sp : DSp} {b : DS} (F : FunD K x qual params body scope [] [] f fd) (S : FnScope N ps scope) (len : ∀ ds G Q, sp ds G Q → ds.length = ps.length)
    (der : ∀ (cdv : Value) (A : Around) (outer : List Env) (s : Shared) (H : Hp) (E : XK), A.guards = some [] → Room k (A.deeper (envOfC qual scope s.heap.objs.size f cdv)) → PDSs (cxOf CX0 P w K mg base N qual scope f cdv A outer s H E).nox body b)
    (pure : ∀ ds G Q, sp ds G Q → b (dEnd Q) (dstart N ds) G) : FnG P w K mg base (k + 1) f fd ps (upSp K sp) := by
  have len' : ∀ vs H Q E, upSp K sp vs H Q E → vs.length = ps.length := fun vs H Q E ⟨ds, G, Q', r, rh, h, _⟩ => by rw [r.length]; exact len ds G Q' h
  obtain ⟨oc, od, dV, kV, doc, pm, an, cdv, ct, osl, rfl, lk, hcd, _, _⟩ := F.ex
  refine ⟨len', ?_⟩
  intro A outer s H args us vs Q E hg hr e0 hb r hsp
  have ins : K.In s.heap := e0.mod.kin.keeps fun b o e => (e0.bs b o e).1
  have lim : s.heap.NoLimit := e0.mod.nolimit.keeps fun b o e => (e0.bs b o e).1
  refine codeAny_call_function hr.depth (ins _ _ lk) rfl S.co S.gen rfl (PySem.W.codeRec_of ins hcd) (hb _ _ _ _ ?_)
  refine wpAny_newFunctionEnv_cells S.kind (fun ⟨n, v⟩ hy => ?_) fun env he s1 x => ?_
  · exact (S.par n (List.of_mem_zip hy).1).elim .inl fun q => .inr ⟨q, PySem.W.cellsFrom_some _ _ _ (.inl q)⟩
  · subst he
    refine ⟨lim.keeps x.toInCall.keep, codeAny_func ?_⟩
    have hlen := len' _ _ _ _ hsp
    obtain ⟨ds, G, Q', rp, rh, h, kk⟩ := hsp
    have body := (der cdv A outer s H E hg (hr.deeper _)).nox.run [] s1 (L2.start N vs) H
      { nx := fun _ H' => Q .non H', rt := Q } (inv_start S hr.hd e0 hlen r x)
      ⟨dstart N ds, G, dEnd Q', RepS.start rp, rh, pure ds G Q' h, fun σ' H' ⟨δ', G', ⟨G0, l, q⟩, fm, _, rh'⟩ => kk _ _ ⟨.non, G0, q, fm.le l, .non, rh'.le l⟩, fun v H' q => kk v H' (le_q q), fun _ _ ⟨_, _, z, _⟩ => z.elim, fun _ _ ⟨_, _, z, _⟩ => z.elim⟩
    refine wpAny_mono body (fun fl s' hs => ?_) fun _ _ hs => hs
    cases fl with
    | ret u =>
      obtain ⟨v, σ', H', J, rv, q⟩ := hs
      exact ⟨v, H', J.os, J.bare, J.base, J.hok, rv, q⟩
    | next =>
      obtain ⟨σ', H', J, q⟩ := hs
      exact ⟨V.non, H', J.os, J.bare, J.base, J.hok, rfl, q⟩
    | brk => exact (hs.elim fun _ z => z.elim fun _ z => z.2).elim
    | cont => exact (hs.elim fun _ z => z.elim fun _ z => z.2).elim
end
structure CalG (P : Program) (w : World) (K : PySem.W.Frag) (mg : Str → Option Value) (base : Heap) (x : Str) (ps : List Str) (k : Nat) (sp : DSp) : Prop where
  ex : ∃ f fd, FnG P w K mg base k f fd ps (upSp K sp) ∧ mg x = some (.ref f) ∧ PySem.W.keepIn K (.ref f) = true ∧ Binds K fd ps []
section
variable {X : Cx} {j k : Nat} {ps : List Str} {sp : DSp} {x : Str} {p pos : Pos} {e : Expr} {es : List Expr} {ts : DA}
theorem pd_calG (c : CalG X.prog X.w X.K X.mg X.base x ps j sp) (hgd : X.A.guards = some []) (hr : Room j X.A) (hg : Gl X x) (ha : PDA X (e :: es) ts) (hdb : (x == ("__debug__" : Str)) = false := by decide) (he : starEach (e :: es) X.env = (false, eval e X.env) :: starEach es X.env := by rfl) (hpl : (backTo pos (starEach es X.env)).any (·.1) = false := by rfl) :
    PD X (.Call (.Name x p) (e :: es) [] pos) (dCall sp ts) := by
  obtain ⟨f, fd, F, hm, hk, hb⟩ := c.ex
  refine ⟨fun pins s σ H Q I h => ?_⟩
  obtain ⟨δ, G, Q', rs, rh, h, kk⟩ := h
  refine wpAny_Call_Name_kw (ld_glob I hg hm ?_ hdb)
  refine PySem.W.callWith_K (h₀ := X.base) I.ok.mod.kin hk (thn (ha.run pos pins s σ H _ I ⟨δ, G, _, rs, rh, h, fun vs H1 q => q⟩) fun us s1 ⟨vs, H1, I1, r, ds, G1, h1, f1, rds, rh1⟩ => ⟨I1.kIn, ?_⟩) he hpl
  have h2 : upSp X.K sp vs H1 Q fun _ _ _ => False := ⟨ds, G1, _, rds, rh1, h1, fun v H' q => kk v H' (q.step f1)⟩
  have hl : us.length = ps.length := by rw [← r.length]; exact F.len _ _ _ _ h2
  have b := hb s1 us I1.kIn (by rw [List.append_nil]; exact hl)
  rw [List.append_nil] at b
  refine wpAny_call (codeAny_mono (F.go hgd hr I1.env0 b r h2) fun r s' hq => ?_)
  cases r with
  | error e => exact pass0 pins σ H1 s1 e s' I1 hq
  | ok fl => cases fl with
    | ret u => exact I1.after hq
    | next => exact hq.elim
    | brk => exact hq.elim
    | cont => exact hq.elim
end
abbrev DerG (P : Program) (w : World) (K : PySem.W.Frag) (mg : Str → Option Value) (base : Heap) (N : List Str) (qual : Str) (st : Stmt) (k : Nat) (b : DS) : Prop :=
  ∀ (f : Addr) (cdv : Value) (A : Around) (outer : List Env) (s : Shared) (H : Hp) (E : XK), A.guards = some [] → Room k (A.deeper (envOfC qual (defScope st) s.heap.objs.size f cdv)) →
    PDSs (cxOf CX0 P w K mg base N qual (defScope st) f cdv A outer s H E).nox (defBody st) b
section
variable {P : Program} {w : World} {K : PySem.W.Frag} {mg : Str → Option Value} {base : Heap} {x qual : Str} {st : Stmt} {f C : Addr} {fd : FuncData} {N ps : List Str} {k : Nat} {sp : DSp} {b : DS}
theorem okG (F : FnP K x qual st f fd) (S : FnScope N ps (defScope st)) (len : ∀ ds G Q, sp ds G Q → ds.length = ps.length) (der : DerG P w K mg base N qual st k b) (pure : ∀ ds G Q, sp ds G Q → b (dEnd Q) (dstart N ds) G) : FnG P w K mg base (k + 1) f fd ps (upSp K sp) :=
  fn_okG F S len (fun cdv A outer s H E hg hr => der f cdv A outer s H E hg hr) pure
theorem calG_of (F : FnP K x qual st f fd) (hm : mg x = some (.ref f)) (S : FnScope N ps (defScope st)) (len : ∀ ds G Q, sp ds G Q → ds.length = ps.length) (der : DerG P w K mg base N qual st k b) (pure : ∀ ds G Q, sp ds G Q → b (dEnd Q) (dstart N ds) G)
    (hb : Binds K fd ps []) : CalG P w K mg base x ps (k + 1) sp := ⟨f, fd, okG F S len der pure, hm, F.kp, hb⟩
end
end D3

set_option Elab.async false
set_option linter.all false
set_option maxRecDepth 100000
set_option maxHeartbeats 4000000
namespace D3
open PySem PySem.Spec PyProof.Rows L2
/-- a law whose def wants that no repr runs around it -/
theorem law_goG {P : Program} {w : World} {K : PySem.W.Frag} {mg mb : Str → Option Value} {k : Nat} {fa a : Addr} {fd : FuncData} {x : Str} {sp : Sp} {s₁ : Shared} {vs : List Value} {ns : List Int}
    (KX : K.In s₁.heap) (g0 : s₁.heap.Ns mainGlobals mg) (g1 : s₁.heap.Ns builtinsNs mb) (g2 : ∀ x : Str, x ≠ "__name__" → mb x = bootBuiltins x) (g3 : s₁.heap.NoLimit) (g4 : ∃ mm, s₁.heap.Ns sysModules mm) (hg : s₁.gens = #[])
    (ha : s₁.heap.get? a = some { cls := .type "list", data := .seq vs.toArray }) (hi : IntsAre vs ns) (hl : ns.length ≤ sizeLine) (hr : Room k callerA)
    (F : ∀ base : Heap, K.In base → base.Ns mainGlobals mg → (∃ o, base.get? sysModules = some o) → FnG P w K mg base k fa fd [x] sp) (hbind : ∀ (s : Shared) (u : Value), BindsTo s fd ⟨[u], []⟩ [(x, u)])
    (hsp : ∀ H : Hp, Only H → SqL K H a (ns.map V.int) → sp [.ref a] H (fun v _ => v = .bl true) fun _ _ _ => False) :
    codeAny (model P w) callerA (.call (.ref fa) ⟨[.ref a], []⟩) (fun r s' => r = .ok (.ret (.bool true)) ∧ OldK s₁.heap s'.heap ∧ s'.os = s₁.os ∧ AllBare s'.gens) s₁ := by
  classical
  let ob : Obj := { cls := .type "list", data := .seq vs.toArray }
  have rv : Vals (ns.map V.int) vs := vals_ints hi
  have rl : (ns.map V.int).length ≤ sizeLine := by rw [List.length_map]; exact hl
  let H : Hp := fun b => if b = a ∧ K.lookup a = none then some (.frz ob (.lst (ns.map V.int))) else none
  have hE : ∀ {b : Addr} {u : HO}, H b = some u → b = a ∧ K.lookup a = none ∧ u = .frz ob (.lst (ns.map V.int)) := fun {b u} e => by
    by_cases c : b = a ∧ K.lookup a = none
    · have e' := (if_pos c : H b = _).symm.trans e
      exact ⟨c.1, c.2, (Option.some.inj e').symm⟩
    · have e' := (if_neg c : H b = _).symm.trans e
      cases e'
  have hN : ∀ {b : Addr}, (b = a → K.lookup a = none → False) → H b = none := fun {b} n => by
    cases q : H b with
    | none => rfl
    | some u => exact (n (hE q).1 (hE q).2.1).elim
  have inB : ∀ {b : Addr} {o : Obj}, s₁.heap.get? b = some o → (b = a → K.lookup a = none → False) → (hidT s₁.heap H).get? b = some o := fun e n => hidT_get e (hN n)
  have inK : K.In (hidT s₁.heap H) := fun b o e => inB (KX b o e) fun q n => by rw [q, n] at e; cases e
  have inN : ∀ {b : Addr} {m : Str → Option Value}, s₁.heap.Ns b m → (hidT s₁.heap H).Ns b m := fun {b m} ⟨o, es, ep, e, d, r⟩ => ⟨o, es, ep, inB e (fun q _ => by
    rw [q, ha] at e
    cases e
    have d' : Data.seq vs.toArray _ = Data.dict es ep := d
    cases d'), d, r⟩
  have hM : Mod K mg (hidT s₁.heap H) := ⟨inK, inN g0, ⟨mb, inN g1, g2⟩, let ⟨mc, p, q⟩ := g3; ⟨mc, inN p, q⟩⟩
  have hOk : HOk P w H s₁.heap := fun b u e => by
    obtain ⟨e1, _, e3⟩ := hE e
    rw [e1, e3]
    exact ⟨ha, rl, vs, _, rv, ha⟩
  have hOnly : Only H := fun b => by
    cases q : H b with
    | none => exact .inl rfl
    | some u => exact .inr ⟨ob, _, by rw [(hE q).2.2]⟩
  have hSq : SqL K H a (ns.map V.int) := by
    cases q : K.lookup a with
    | none => exact .inl (.inr ⟨ob, if_pos ⟨rfl, q⟩⟩)
    | some o =>
      have e := KX a o q
      rw [ha] at e
      cases e
      exact .inr ⟨ob, vs.toArray, _, q, rfl, rfl, rfl, by rw [List.size_toArray, hi.length]; exact hl, by simpa using rv⟩
  have e0 : Env0 P w K mg (hidT s₁.heap H) callerA [] s₁ H := ⟨rfl, hM, fun _ _ e => of_hidT e, Nat.le_of_eq (hidT_size _ _), trivial, fun b hb => absurd hb (by intro z; cases z), hOk, .of_eq hg⟩
  have hmod : ∃ o, (hidT s₁.heap H).get? sysModules = some o := let ⟨mm, q⟩ := g4; let ⟨o, _, _, e, _⟩ := inN q; ⟨o, e⟩
  refine codeAny_mono ((F _ inK (inN g0) hmod).go (outer := []) (us := [.ref a]) (vs := [.ref a]) rfl hr e0 (hbind s₁ (.ref a)) (.cons rfl .nil) (hsp H hOnly hSq)) fun r s' q => ?_
  cases r with
  | error e => exact (q : False).elim
  | ok fl => cases fl with
    | next => exact q.elim
    | brk => exact q.elim
    | cont => exact q.elim
    | ret u =>
      obtain ⟨v, H', os, bare, un, ok', rel, rfl⟩ := q
      have eu : u = Value.bool true := rel
      refine ⟨by rw [eu], OldK.of_keep fun b o e => ?_, os, bare⟩
      cases q : H b with
      | none => exact un.keep b o e q (by intro z; cases z) (by intro z; cases z)
      | some u =>
        rw [(hE q).2.2] at q
        have k1 := (hOk b _ q).1
        have k2 := (ok' b _ (un.frzs b ob _ q)).1
        rw [e] at k1
        rw [k2, ← k1]
theorem walk_goG {l : PySem.W.OpenLaw} {n k : Nat} {q : Program} {loose : List Str} {XP : (Str → Option Value) → Heap → Prop} {YP : World → Heap → Prop} {d : DefRec} {x : Str}
    (hn : l.most = some n) (hn2 : n ≤ sizeLine) (hdf : d.params.defaults = []) (hr : Room k callerA) (hq : importsNone q = true)
    (F : ∀ (w : World) (mg : Str → Option Value) (fa : Addr) (h : Heap), YP w h → h.Ns mainGlobals mg → mg d.name = some (.ref fa) →
      ∃ (K : PySem.W.Frag) (fd : FuncData) (sp : Sp), K.In h ∧ (∀ (s : Shared) (u : Value), BindsTo s fd ⟨[u], []⟩ [(x, u)]) ∧
        (∀ (H : Hp) (a : Addr) (ns : List Int), ns.length ≤ n → Only H → SqL K H a (ns.map V.int) → sp [.ref a] H (fun v _ => v = .bl true) fun _ _ _ => False) ∧
        ∀ base : Heap, K.In base → base.Ns mainGlobals mg → (∃ o, base.get? sysModules = some o) → FnG l.prog w K mg base k fa fd [x] sp) :
    PySem.W.WalkO q loose XP YP l.row.toRowW d [] (fun f vs => PySem.call f vs) := Att.attach_call hn hdf fun w s₀ s₁ mg mb fa o pm cd doc a vs ns G Y ho hd hcd hmg hobj hints hlen hg => by
  obtain ⟨K, fd, sp, KX, hb, hsp, hF⟩ := F w mg fa _ Y G.T.g hmg
  exact law_goG KX G.T.g G.T.b G.T.builtins G.T.nolimit (let ⟨mm, q, _⟩ := (G.T.seer hq).mods; ⟨mm, q⟩) hg hobj hints (Nat.le_trans hlen hn2) hr hF hb fun H hO hS => hsp H a ns hlen hO hS
/-- the script is a list that is read alone -/
theorem law_in {K : PySem.W.Frag} {sp : DSp} (h : ∀ (xs : List Int) (Q : DQ), xs.length ≤ 63 → (∀ G, Q (.bl true) G) → sp [.lro (xs.map .int)] (fun _ => none) Q) {H : Hp} {a : Addr} {ns : List Int} (hl : ns.length ≤ 63) (hO : Only H) (hS : SqL K H a (ns.map V.int)) :
    upSp K sp [.ref a] H (fun v _ => v = .bl true) fun _ _ _ => False := by
  have rr : ∀ l : List Int, RpL K H (l.map V.int) (l.map D.int) := fun l => by
    induction l with
    | nil => exact .nil
    | cons i l ih => exact .cons (.int i) ih
  have sf : SqF K H a (ns.map V.int) := by
    rcases hS with (z | z) | z
    · rcases hO a with q | ⟨o, xs, q⟩
      · rw [q] at z; cases z
      · rw [q] at z; cases z
    · exact .inl z
    · exact .inr z
  refine ⟨[.lro (ns.map .int)], fun _ => none, fun d _ => d = .bl true, .cons (.lro sf (rr ns)) .nil, (fun _ _ z => by cases z), h ns _ hl (fun _ => rfl), ?_⟩
  rintro v H' ⟨d, G', rfl, _, r, _⟩
  cases r
  rfl
end D3

set_option Elab.async false
set_option linter.all false
set_option maxRecDepth 100000
set_option maxHeartbeats 4000000
namespace D3
open PySem PySem.Spec PyProof.Rows L2

/-! ### tests that leave the heap as it is -/
def TTst (t : DT) (δ : DSt) (G : DH) (b : Bool) : Prop := ∀ Q : Bool → DH → Prop, Q b G → t δ G Q
section
variable {t u : DT} {te tf : DE} {δ : DSt} {G : DH} {b c : Bool} {tb ub : DS} {D : DEnds}
theorem ifS (h : TTst t δ G b) (k1 : b = true → tb D δ G) (k2 : b = false → ub D δ G) : dIfS t tb ub D δ G := h _ (by
  cases b with
  | true => exact k1 rfl
  | false => exact k2 rfl)
theorem tt_and (h : TTst t δ G b) (k : b = true → TTst u δ G c) : TTst (dAndT t u) δ G (b && c) := fun Q q => h _ (by
  cases b with
  | true => exact k rfl Q q
  | false => exact q)
theorem tt_or (h : TTst t δ G b) (k : b = false → TTst u δ G c) : TTst (dOrT t u) δ G (b || c) := fun Q q => h _ (by
  cases b with
  | true => exact q
  | false => exact k rfl Q q)
theorem tt_not (h : TTst t δ G b) : TTst (dNotT t) δ G (!b) := fun Q q => h _ q
/-- a value without an effect -/
def EEv (t : DE) (δ : DSt) (G : DH) (d : D3.D) : Prop := ∀ Q : DQ, Q d G → t δ G Q
theorem ev_v {i : Nat} {d : D3.D} (h : lookD δ i = some d) : EEv (dV i) δ G d := fun Q q => by
  show (match lookD δ i with | some d => Q d G | none => False)
  rw [h]; exact q
theorem ev_c {d : D3.D} : EEv (dC d) δ G d := fun Q q => q
theorem ev_bin {r : DR2} {x y z : D3.D} (h : EEv te δ G x) (k : EEv tf δ G y) (e : ∀ Q : DQ, Q z G → r x y G Q) : EEv (dBin r te tf) δ G z := fun Q q => h _ (k _ (e Q q))
theorem tt_bl (h : EEv te δ G (.bl b)) : TTst (dTest te) δ G b := fun Q q => h _ q
theorem tt_bin {r : DR2} {x y : D3.D} (h : EEv te δ G x) (k : EEv tf δ G y) (e : ∀ Q : DQ, Q (.bl b) G → r x y G Q) : TTst (dTest (dBin r te tf)) δ G b := tt_bl (ev_bin h k e)
end
theorem r_eqS {x y : Str} {G : DH} : ∀ Q : DQ, Q (.bl (decide (x = y))) G → dEq (.str x) (.str y) G Q := fun Q q => by
  show Q (.bl (false ^^ decide (x = y))) G
  rw [xor_f]; exact q
theorem r_eqI {x y : Int} {G : DH} : ∀ Q : DQ, Q (.bl (decide (x = y))) G → dEq (.int x) (.int y) G Q := fun Q q => by
  show Q (.bl (false ^^ decide (x = y))) G
  rw [xor_f]; exact q
theorem r_neB {x y : Bool} {G : DH} : ∀ Q : DQ, Q (.bl (!decide (x = y))) G → dNe (.bl x) (.bl y) G Q := fun Q q => by
  show Q (.bl (true ^^ decide (x = y))) G
  rw [xor_t]; exact q
theorem r_neS {x y : Str} {G : DH} : ∀ Q : DQ, Q (.bl (!decide (x = y))) G → dNe (.str x) (.str y) G Q := fun Q q => by
  show Q (.bl (true ^^ decide (x = y))) G
  rw [xor_t]; exact q
/-- == of plain data -/
theorem r_eqD {n : Bool} {x y : D} {G : DH} (hx : x.nb = true) (hy : y.nb = true) (dx : x.dep ≤ 60) (dy : y.dep ≤ 60) : ∀ Q : DQ, Q (.bl (n ^^ decide (x = y))) G → dEqG n x y G Q := fun Q q => by
  have gen : (∃ p q', Dt G x p ∧ Dt G y q' ∧ SeqAt.shaped p = true ∧ SeqAt.shaped q' = true ∧ Q (.bl (n ^^ PyData.eqv p q')) G) :=
    ⟨x.py, y.py, dt_nb G hx, dt_nb G hy, nb_shaped hx (by omega), nb_shaped hy (by omega), by rw [eqv_nb x y hx hy]; exact q⟩
  have si : ∀ i j : Int, Q (.bl (n ^^ decide (D.int i = D.int j))) G → Q (.bl (n ^^ decide (i = j))) G := fun i j z => by
    have e : decide (D.int i = D.int j) = decide (i = j) := by
      by_cases h : i = j
      · rw [decide_eq_true h, decide_eq_true (congrArg D.int h)]
      · rw [decide_eq_false h, decide_eq_false (fun z => h (D.int.inj z))]
    rw [e] at z; exact z
  have ss : ∀ i j : Str, Q (.bl (n ^^ decide (D.str i = D.str j))) G → Q (.bl (n ^^ decide (i = j))) G := fun i j z => by
    have e : decide (D.str i = D.str j) = decide (i = j) := by
      by_cases h : i = j
      · rw [decide_eq_true h, decide_eq_true (congrArg D.str h)]
      · rw [decide_eq_false h, decide_eq_false (fun z => h (D.str.inj z))]
    rw [e] at z; exact z
  cases x with
  | int i =>
    cases y with
    | int j => exact si i j q
    | _ => exact gen
  | str i =>
    cases y with
    | str j => exact ss i j q
    | _ => exact gen
  | bl _ => cases hx
  | _ => exact gen
theorem dt_lst {G : DH} {a : Addr} {ds : List D} (e : G a = some (.lst ds)) (h : D.nbL ds = true) : Dt G (.ref a) (.list (D.pyL ds)) := .lst e (dtL_nb G h)
theorem shaped_lst {ds : List D} (h : D.nbL ds = true) (k : D.depL ds ≤ 60) : SeqAt.shaped (.list (D.pyL ds)) = true := by
  show (PyData.canLayAll0 (D.pyL ds) && decide ((PyData.list (D.pyL ds)).depth ≤ 64)) = true
  rw [Bool.and_eq_true, PyData.depth, depL_py]
  exact ⟨layL_nb h, decide_eq_true (by omega)⟩
/-- == of two lists of plain data -/
theorem r_eqL {n : Bool} {a b : Addr} {G : DH} {xs ys : List D} (ea : G a = some (.lst xs)) (eb : G b = some (.lst ys)) (hx : D.nbL xs = true) (hy : D.nbL ys = true) (dx : D.depL xs ≤ 60) (dy : D.depL ys ≤ 60) :
    ∀ Q : DQ, Q (.bl (n ^^ decide (xs = ys))) G → dEqG n (.ref a) (.ref b) G Q := fun Q q =>
  ⟨_, _, dt_lst ea hx, dt_lst eb hy, shaped_lst hx dx, shaped_lst hy dy, by
    have e : PyData.eqv (.list (D.pyL xs)) (.list (D.pyL ys)) = decide (xs = ys) := by
      rw [PyData.eqv, eqvL_nb xs ys hx hy]
    rw [e]; exact q⟩
theorem nbL_of {ds : List D} (h : ∀ d ∈ ds, d.nb = true) : D.nbL ds = true := by
  induction ds with
  | nil => rfl
  | cons d ds ih =>
    show (d.nb && D.nbL ds) = true
    rw [h d (List.mem_cons_self ..), ih fun e he => h e (List.mem_cons_of_mem _ he)]; rfl
theorem depL_of {ds : List D} {n : Nat} (h : ∀ d ∈ ds, d.dep ≤ n) : D.depL ds ≤ n := by
  induction ds with
  | nil => exact Nat.zero_le _
  | cons d ds ih =>
    show max d.dep (D.depL ds) ≤ n
    have h1 := h d (List.mem_cons_self ..)
    have h2 := ih fun e he => h e (List.mem_cons_of_mem _ he)
    omega
theorem nb_strs {l : List Str} (h : ∀ x ∈ l, PyData.strOk x = true) : D.nbL (l.map .str) = true := nbL_of fun d hd => by
  obtain ⟨x, hx, rfl⟩ := List.mem_map.mp hd
  exact h x hx
theorem dep_strs {l : List Str} : D.depL (l.map .str) ≤ 0 := depL_of fun d hd => by
  obtain ⟨x, hx, rfl⟩ := List.mem_map.mp hd
  exact Nat.le_refl _
theorem str_mem {l : List Str} {x : Str} : D.str x ∈ l.map D.str ↔ x ∈ l :=
  ⟨fun h => let ⟨y, hy, e⟩ := List.mem_map.mp h; D.str.inj e ▸ hy, fun h => List.mem_map_of_mem h⟩
/-! ### lists without a thing twice -/
theorem nodup_le {α : Type} [DecidableEq α] : ∀ {l u : List α}, l.Nodup → (∀ x ∈ l, x ∈ u) → l.length ≤ u.length
  | [], u, _, _ => Nat.zero_le _
  | x :: l, u, h, s => by
    rw [List.nodup_cons] at h
    have hx := s x (List.mem_cons_self ..)
    have ih := nodup_le (l := l) (u := u.erase x) h.2 fun y hy => by
      have : y ≠ x := fun e => h.1 (e ▸ hy)
      exact (List.mem_erase_of_ne this).mpr (s y (List.mem_cons_of_mem _ hy))
    rw [List.length_erase_of_mem hx] at ih
    have := List.length_pos_of_mem hx
    rw [List.length_cons]; omega
/-- a dict of marks -/
def marks (l : List Str) : List (D × D) := l.map fun x => (.str x, .bl true)
theorem marks_val {l : List Str} {x : Str} : (dval (marks l) (.str x)).isSome = decide (x ∈ l) := by
  induction l with
  | nil => rfl
  | cons y l ih =>
    unfold dval marks at *
    rw [List.map_cons, List.find?_cons]
    by_cases e : y = x
    · subst e; simp
    · have e1 : decide ((D.str y, D.bl true).1 = D.str x) = false := decide_eq_false fun z => e (D.str.inj z)
      rw [e1]
      have e2 : decide (x ∈ y :: l) = decide (x ∈ l) := by
        by_cases m : x ∈ l
        · rw [decide_eq_true m, decide_eq_true (List.mem_cons_of_mem _ m)]
        · rw [decide_eq_false m, decide_eq_false]
          intro z
          rcases List.mem_cons.mp z with z | z
          · exact e z.symm
          · exact m z
      rw [e2]; exact ih
theorem marks_put {l : List Str} {x : Str} (h : x ∉ l) : dput (marks l) (.str x) (.bl true) = marks (l ++ [x]) := by
  unfold dput
  have : (marks l).any (fun p => decide (p.1 = D.str x)) = false := by
    rw [List.any_eq_false]
    intro p hp
    obtain ⟨y, hy, rfl⟩ := List.mem_map.mp hp
    intro z
    exact h (D.str.inj (of_decide_eq_true z) ▸ hy)
  rw [this]
  unfold marks
  rw [if_neg Bool.false_ne_true, List.map_append]; rfl
end D3

set_option Elab.async false
set_option linter.all false
set_option maxRecDepth 100000
set_option maxHeartbeats 4000000
namespace D3
open PySem PySem.Spec PyProof.Rows L2
/-! ### what is shown fits -/
theorem short_str {x : Str} (h : PyData.strOk x = true) : PyData.leavesShort 13 (.str x) = true := by
  show x.cps.toList.all (fun c => decide (c < 16 ^ 8)) = true
  rw [List.all_eq_true]
  intro c hc
  have h' : x.cps.all (fun c => decide (c < 0x110000)) = true := h
  rw [Array.all_eq_true_iff_forall_mem] at h'
  have := of_decide_eq_true (h' c (Array.mem_def.mpr hc))
  exact decide_eq_true (by omega)
theorem wt_str {x : Str} : PyData.weight (.str x) = x.length := rfl
structure Fine (d : PyData) (dp wt : Nat) : Prop where
  sh : d.showable = true
  lv : d.leavesShort 13 = true
  dp : d.depth ≤ dp
  wt : d.weight ≤ wt
theorem fine_all {α : Type} {f : α → PyData} {dp wt : Nat} : ∀ {l : List α}, (∀ x ∈ l, Fine (f x) dp wt) → PyData.showableAll (l.map f) = true ∧ PyData.leavesShortAll 13 (l.map f) = true ∧ PyData.depthAll (l.map f) ≤ dp ∧ PyData.weightAll (l.map f) ≤ (wt + 1) * l.length
  | [], _ => ⟨rfl, rfl, Nat.zero_le _, Nat.zero_le _⟩
  | x :: l, h => by
    have h1 := h x (List.mem_cons_self ..)
    obtain ⟨a, b, c, d⟩ := fine_all (l := l) fun y hy => h y (List.mem_cons_of_mem _ hy)
    refine ⟨?_, ?_, ?_, ?_⟩
    · show (PyData.showable (f x) && PyData.showableAll (l.map f)) = true
      rw [h1.sh, a]; rfl
    · show (PyData.leavesShort 13 (f x) && PyData.leavesShortAll 13 (l.map f)) = true
      rw [h1.lv, b]; rfl
    · show max (f x).depth (PyData.depthAll (l.map f)) ≤ dp
      have := h1.dp; omega
    · show (f x).weight + 1 + PyData.weightAll (l.map f) ≤ (wt + 1) * (l.length + 1)
      have := h1.wt
      rw [Nat.mul_add, Nat.mul_one]; omega
theorem fine_kv {α : Type} {f g : α → PyData} {dp wt : Nat} : ∀ {l : List α}, (∀ x ∈ l, Fine (f x) dp wt ∧ Fine (g x) dp wt) → PyData.showableKv (l.map fun x => (f x, g x)) = true ∧ PyData.leavesShortKv 13 (l.map fun x => (f x, g x)) = true ∧ PyData.depthKv (l.map fun x => (f x, g x)) ≤ dp ∧ PyData.weightKv (l.map fun x => (f x, g x)) ≤ (2 * wt + 2) * l.length
  | [], _ => ⟨rfl, rfl, Nat.zero_le _, Nat.zero_le _⟩
  | x :: l, h => by
    obtain ⟨h1, h2⟩ := h x (List.mem_cons_self ..)
    obtain ⟨a, b, c, d⟩ := fine_kv (l := l) fun y hy => h y (List.mem_cons_of_mem _ hy)
    refine ⟨?_, ?_, ?_, ?_⟩
    · show (PyData.showable (f x) && PyData.showable (g x) && PyData.showableKv _) = true
      rw [h1.sh, h2.sh, a]; rfl
    · show (PyData.leavesShort 13 (f x) && PyData.leavesShort 13 (g x) && PyData.leavesShortKv 13 _) = true
      rw [h1.lv, h2.lv, b]; rfl
    · show max (max (f x).depth (g x).depth) (PyData.depthKv _) ≤ dp
      have := h1.dp; have := h2.dp; omega
    · show (f x).weight + (g x).weight + 2 + PyData.weightKv _ ≤ (2 * wt + 2) * (l.length + 1)
      have := h1.wt; have := h2.wt
      rw [Nat.mul_add, Nat.mul_one]; omega
theorem fine_str {x : Str} {n : Nat} (h : PyData.strOk x = true) (l : x.length ≤ n) : Fine (.str x) 0 n := ⟨rfl, short_str h, Nat.le_refl _, l⟩
theorem Fine.mono {d : PyData} {a b c e : Nat} (f : Fine d a b) (h : a ≤ c) (k : b ≤ e) : Fine d c e := ⟨f.sh, f.lv, Nat.le_trans f.dp h, Nat.le_trans f.wt k⟩
theorem fine_list {α : Type} {f : α → PyData} {dp wt n : Nat} {l : List α} (h : ∀ x ∈ l, Fine (f x) dp wt) (hn : l.length ≤ n) : Fine (.list (l.map f)) (dp + 1) ((wt + 1) * n) :=
  let ⟨a, b, c, d⟩ := fine_all h
  ⟨a, b, Nat.succ_le_succ c, Nat.le_trans d (Nat.mul_le_mul_left _ hn)⟩
theorem fine_tup {ds : List PyData} {dp wt n : Nat} (h : ∀ x ∈ ds, Fine x dp wt) (hn : ds.length ≤ n) : Fine (.tuple ds) (dp + 1) ((wt + 1) * n) := by
  obtain ⟨a, b, c, d⟩ := fine_all (f := fun x : PyData => x) h
  rw [List.map_id'] at a b c d
  exact ⟨a, b, Nat.succ_le_succ c, Nat.le_trans d (Nat.mul_le_mul_left _ hn)⟩
theorem fine_dict {α : Type} {f g : α → PyData} {dp wt n : Nat} {l : List α} (h : ∀ x ∈ l, Fine (f x) dp wt ∧ Fine (g x) dp wt) (hn : l.length ≤ n) : Fine (.dict (l.map fun x => (f x, g x))) (dp + 1) ((2 * wt + 2) * n) :=
  let ⟨a, b, c, d⟩ := fine_kv h
  ⟨a, b, Nat.succ_le_succ c, Nat.le_trans d (Nat.mul_le_mul_left _ hn)⟩
theorem Fine.fits {d : PyData} {dp wt : Nat} (f : Fine d dp wt) (h : wt ≤ 2 ^ 20) : d.shown.length ≤ sizeLine := PyData.shown_fits (by decide) (by decide) f.lv (Nat.le_trans f.wt h)
theorem fine_int {i : Int} (h : i.natAbs ≤ 1000000) : Fine (.int i) 0 64 := by
  have lg : i.natAbs ≠ 0 → i.natAbs.log2 < 63 := fun z => (Nat.log2_lt z).mpr (by omega)
  have lg0 : i.natAbs = 0 → i.natAbs.log2 < 63 := fun z => by rw [z]; decide
  have lg2 : i.natAbs.log2 < 63 := if z : i.natAbs = 0 then lg0 z else lg z
  refine ⟨?_, ?_, Nat.le_refl _, ?_⟩
  · show decide (i.natAbs.log2 < 1920) = true
    exact decide_eq_true (by omega)
  · show decide ((PyData.shown (.int i)).length ≤ 13) = true
    exact decide_eq_true (PyData.shown_int_le (by omega))
  · show (if i == 0 then 0 else i.natAbs.log2 + 1) ≤ 64
    split <;> omega
theorem cut_to {ds : List D} {i : Int} (h : 0 ≤ i) : D3.cutD ds none (some i) = ds.take i.toNat := by
  obtain ⟨k, rfl⟩ : ∃ k : Nat, i = (k : Int) := ⟨i.toNat, by omega⟩
  unfold D3.cutD
  rw [HT.sIx_nat, Int.toNat_natCast]
  show (ds.drop 0).take (min k ds.length - 0) = _
  rw [List.drop_zero, Nat.sub_zero]
  rcases Nat.le_total k ds.length with h | h
  · rw [Nat.min_eq_left h]
  · rw [Nat.min_eq_right h, List.take_of_length_le (Nat.le_refl _), List.take_of_length_le h]
end D3

set_option Elab.async false
set_option linter.all false
set_option maxRecDepth 100000
set_option maxHeartbeats 4000000
namespace C
open PySem PySem.Spec PyProof.Rows L2 D3
abbrev n_law_left : List Str := ["_law_cell", "_law_left_here", "_law_number", "_law_turn"]
def b_law_left : DS := (dSeq (dAsg (dCB dAbs (dCons (dV 0) dNil)) (gN 1))
    (dSeq (dIfS (dTest (dBin dLt (dV 1) (dBin dPow (dC (.int 10)) (dC (.int 18))))) (dSeq (dAsg (dV 0) (gN 2))
    (dFor (dRng1 (dCons (dC (.int 40)) dNil)) (gN 3) (dSeq (dAsg (dBin dMod (dBin dMul (dBin dAdd (dBin dMod (dV 2) (dC (.int 2147483629))) (dC (.int 48611))) (dC (.int 48271))) (dC (.int 2147483629))) (gN 2))
    (dSeq (dAsg (dBin dAdd (dBin dMod (dBin dMul (dV 2) (dC (.int 39373))) (dC (.int 2147483647))) (dV 3)) (gN 2))
    (dAsg (dBin dAdd (dBin dMul (dV 1) (dC (.int 2147483629))) (dV 2)) (gN 1)))))) dNext)
    (dRet (dLst (dCons (dV 1) dNil)))))
abbrev n_law_digit : List Str := ["_law_left_here", "_law_many", "_law_found"]
def b_law_digit : DS := (dSeq (dAsg (dBin dMod (dBin dIx (dV 0) (dC (.int 0))) (dV 1)) (gN 2))
    (dSeq (dAsg (dBin dFdiv (dBin dIx (dV 0) (dC (.int 0))) (dV 1)) (gSt (dV 0) (dC (.int 0))))
    (dRet (dV 2))))
abbrev n_law_names : List Str := ["_law_left_here", "_law_many", "_law_letters", "_law_start", "_law_found", "_law_k", "_law_word", "_law_j"]
def b_law_names (s_law_digit : DSp) : DS := (dSeq (dAsg (dC (.str "abcdefghijklmnopqrstuvwxyz")) (gN 2))
    (dSeq (dAsg (dCall s_law_digit (dCons (dV 0) (dCons (dC (.int 26)) dNil))) (gN 3))
    (dSeq (dAsg (dLst dNil) (gN 4))
    (dSeq (dFor (dRng1 (dCons (dV 1) dNil)) (gN 5) (dSeq (dAsg (dBin dIx (dV 2) (dBin dMod (dBin dAdd (dV 3) (dBin dMul (dC (.int 5)) (dV 5))) (dC (.int 26)))) (gN 6))
    (dSeq (dFor (dRng1 (dCons (dCall s_law_digit (dCons (dV 0) (dCons (dC (.int 6)) dNil))) dNil)) (gN 7) (dAsg (dBin dAdd (dV 6) (dBin dIx (dC (.str "aeiouxyz")) (dCall s_law_digit (dCons (dV 0) (dCons (dC (.int 8)) dNil))))) (gN 6)))
    (dDrop (dMt "list" dAppend (dV 4) (dCons (dV 6) dNil))))))
    (dRet (dV 4))))))
/-! ### the law's numbers and names -/
def sp_law_digit : DSp := fun ds G Q => match ds with
  | [.ref a, .int m] => ∃ n, G a = some (.lst [.int n]) ∧ (0 < m ∧ m < 1073741824) ∧ Q (.int (n % m)) (put G a (.lst [.int (n / m)]))
  | _ => False
theorem p_law_digit : ∀ ds G Q, sp_law_digit ds G Q → b_law_digit (dEnd Q) (dstart n_law_digit ds) G := by
  intro ds G Q h
  unfold sp_law_digit at h
  split at h
  · obtain ⟨n, e, hm, q⟩ := h
    refine .inl ⟨_, 0, .int n, rfl, e, rfl, hm.1, ?_⟩
    refine .inl ⟨_, 0, .int n, rfl, e, rfl, hm, ?_⟩
    refine .inl ⟨_, 0, 0, rfl, e, rfl, ?_⟩
    exact ⟨_, Le.refl _, q⟩
  · exact h.elim
def sp_law_left : DSp := fun ds G Q => match ds with
  | [.int c] => ∀ p n, G p = none → Q (.ref p) (put G p (.lst [.int n]))
  | _ => False
theorem p_law_left : ∀ ds G Q, sp_law_left ds G Q → b_law_left (dEnd Q) (dstart n_law_left ds) G := by
  intro ds G Q h
  unfold sp_law_left at h
  split at h
  · rename_i c
    have ret : ∀ x y t, dRet (dLst (dCons (dV 1) dNil)) (dEnd Q) [some (D.int c), some (D.int x), y, t] G := fun x y t p hp => ⟨_, Le.refl _, h p x hp⟩
    refine ⟨⟨by decide, by decide, by decide⟩, ?_⟩
    show (match decide _ with | true => _ | false => _)
    split
    · refine ⟨⟨by decide, by decide⟩, fun i δ G1 => G1 = G ∧ ∃ x y t, δ = [some (D.int c), some (D.int x), some (D.int y), t], ⟨rfl, _, _, _, rfl⟩, fun _ _ _ _ => trivial, ?_, ?_⟩
      · rintro i d δ G1 hi ⟨rfl, x, y, t, rfl⟩
        obtain ⟨k, rfl⟩ : ∃ k, d = .int k := by
          rw [List.getElem?_map] at hi
          obtain ⟨j, _, e⟩ := Option.map_eq_some_iff.mp hi
          exact ⟨_, e.symm⟩
        refine ⟨by decide, .inr ⟨by decide, by decide⟩, by decide, ?_⟩
        refine ⟨.inr ⟨by decide, by decide⟩, by decide, ?_⟩
        refine ⟨.inr ⟨by decide, by decide⟩, ?_⟩
        exact ⟨_, Le.refl _, rfl, _, _, _, rfl⟩
      · rintro δ G1 ⟨rfl, x, y, t, rfl⟩
        exact ret x (some (.int y)) t
    · exact ret _ none none
  · exact h.elim
/-! #### names -/
def tailOk (c : Nat) : Prop := c = 97 ∨ c = 101 ∨ c = 105 ∨ c = 111 ∨ c = 117 ∨ c = 120 ∨ c = 121 ∨ c = 122
/-- a drawn name: its first letter is c -/
structure Nm (c : Nat) (w : Str) : Prop where
  first : ∃ t : List Nat, w.cps.toList = c :: t ∧ t.length ≤ 5 ∧ ∀ x ∈ t, tailOk x
  abc : 97 ≤ c ∧ c ≤ 122
theorem Nm.len {c : Nat} {w : Str} (h : Nm c w) : 1 ≤ w.length ∧ w.length ≤ 6 := by
  obtain ⟨t, e, l, _⟩ := h.first
  have : w.cps.toList.length = w.length := Array.length_toList
  rw [e, List.length_cons] at this
  omega
theorem letters_cps : ("abcdefghijklmnopqrstuvwxyz" : Str).cps.toList = (List.range 26).map (· + 97) := by decide +kernel
theorem vowels_cps : ("aeiouxyz" : Str).cps.toList = [97, 101, 105, 111, 117, 120, 121, 122] := by decide +kernel
theorem at_letters {i : Nat} {c : Nat} (h : ("abcdefghijklmnopqrstuvwxyz" : Str).cps[i]? = some c) : c = i + 97 ∧ i < 26 := by
  rw [← Array.getElem?_toList, letters_cps, List.getElem?_map] at h
  obtain ⟨j, hj, e⟩ := Option.map_eq_some_iff.mp h
  have hi : i < 26 := by
    have := (List.getElem?_eq_some_iff.mp hj).1
    rw [List.length_range] at this; exact this
  rw [List.getElem?_range hi] at hj
  cases hj
  exact ⟨e.symm, hi⟩
theorem at_vowels {i : Nat} {c : Nat} (h : ("aeiouxyz" : Str).cps[i]? = some c) : tailOk c := by
  rw [← Array.getElem?_toList, vowels_cps] at h
  have := List.mem_of_getElem? h
  simpa [tailOk] using this
/-- the first letter of the k-th name -/
def fst (st : Int) (k : Nat) : Nat := ((st + 5 * (k : Int)) % 26).toNat + 97
theorem fst_inj {st : Int} {i j : Nat} (hi : i < 26) (hj : j < 26) (h : fst st i = fst st j) : i = j := by
  unfold fst at h; omega
def Names (st : Int) (ws : List Str) : Prop := ∀ i w, ws[i]? = some w → Nm (fst st i) w
theorem Nm.inj {c d : Nat} {w : Str} (h : Nm c w) (k : Nm d w) : c = d := by
  obtain ⟨t, e, _⟩ := h.first
  obtain ⟨t', e', _⟩ := k.first
  rw [e] at e'
  exact (List.cons.inj e').1
def sp_law_names : DSp := fun ds G Q => match ds with
  | [.ref a, .int m] => ∃ n, G a = some (.lst [.int n]) ∧ (0 ≤ m ∧ m ≤ 26) ∧ ∀ p n' st ws, G p = none → (ws.length : Int) = m → Names st ws → Q (.ref p) (put (put G a (.lst [.int n'])) p (.lst (ws.map .str)))
  | _ => False
theorem p_law_names : ∀ ds G Q, sp_law_names ds G Q → b_law_names sp_law_digit (dEnd Q) (dstart n_law_names ds) G := by
  intro ds G Q h
  unfold sp_law_names at h
  split at h
  · rename_i a m
    obtain ⟨n, e, hm, q⟩ := h
    refine ⟨n, e, ⟨by decide, by decide⟩, ?_⟩
    intro p hp
    have np : p ≠ a := fun z => by rw [z, put_same] at hp; cases hp
    have gp : G p = none := by rw [put_ne np] at hp; exact hp
    refine ⟨⟨by omega, by omega⟩, fun i δ G' => ∃ n' ws t1 w1 t2, δ = [some (.ref a), some (.int m), some (.str "abcdefghijklmnopqrstuvwxyz"), some (.int (n % 26)), some (.ref p), t1, w1, t2] ∧ G' = put (put G a (.lst [.int n'])) p (.lst (ws.map .str)) ∧ ws.length = i ∧ Names (n % 26) ws,
      ⟨_, [], none, none, none, rfl, rfl, rfl, fun i w h => by simp at h⟩, fun _ _ _ _ => trivial, ?_, ?_⟩
    · rintro i d δ G' hi ⟨n', ws, t1, w1, t2, rfl, rfl, hl, hw⟩
      obtain ⟨hi, rfl⟩ := range_at hi
      rw [Int.zero_add]
      refine ⟨.inl ⟨by decide, by decide⟩, by decide, ?_⟩
      refine ixs (Int.emod_nonneg _ (by decide)) (Int.emod_lt_of_pos _ (by decide)) (line_le (by decide)) fun c hc => ?_
      have hc' := at_letters hc
      have ea : ∀ {o : DO}, put (put G a (.lst [.int n'])) p o a = some (.lst [.int n']) := by intro o; rw [put_ne (Ne.symm np), put_same]
      refine ⟨n', ea, ⟨by decide, by decide⟩, ?_⟩
      have cm : ∀ {o o' : DO} {u : DO}, put (put (put G a o) p o') a u = put (put G a u) p o' := by intro o o' u; rw [put_comm np, put_put]
      rw [cm]
      refine ⟨⟨by omega, by omega⟩, fun j δ G'' => ∃ n'' w t2, δ = [some (.ref a), some (.int m), some (.str "abcdefghijklmnopqrstuvwxyz"), some (.int (n % 26)), some (.ref p), some (.int i), some (.str w), t2] ∧ G'' = put (put G a (.lst [.int n''])) p (.lst (ws.map .str)) ∧ Nm (fst (n % 26) i) w ∧ w.length = j + 1,
        ⟨_, ⟨#[c]⟩, t2, rfl, rfl, ⟨⟨[], by show [c] = [fst (n % 26) i]; rw [hc'.1]; rfl, by decide, fun x hx => by cases hx⟩, by unfold fst; omega⟩, rfl⟩, fun _ _ _ _ => trivial, ?_, ?_⟩
      · rintro j d δ G'' hj ⟨n'', w, t2, rfl, rfl, hn, hj2⟩
        obtain ⟨hj1, rfl⟩ := range_at hj
        refine ⟨n'', ?_, ⟨by decide, by decide⟩, ?_⟩
        · rw [put_ne (Ne.symm np), put_same]
        refine ixs (Int.emod_nonneg _ (by decide)) (Int.emod_lt_of_pos _ (by decide)) (line_le (by decide)) fun x hx => ?_
        have hx' := at_vowels hx
        have hlen := hn.len
        refine ⟨line_le (by show w.length + 1 ≤ _; omega), ?_⟩
        rw [cm]
        refine ⟨_, Le.refl _, _, _, _, rfl, rfl, ⟨?_, hn.abc⟩, by rw [str_app_len, hj2]; rfl⟩
        obtain ⟨t, et, hl5, ht⟩ := hn.first
        refine ⟨t ++ [x], by rw [str_app_cps, Array.toList_append, et]; rfl, ?_, fun y hy => ?_⟩
        · have : w.cps.toList.length = w.length := Array.length_toList
          rw [et, List.length_cons, hj2] at this
          rw [List.length_append, List.length_singleton]
          omega
        · rcases List.mem_append.mp hy with hy | hy
          · exact ht y hy
          · rw [List.mem_singleton] at hy; rw [hy]; exact hx'
      · rintro δ G'' ⟨n'', w, t2, rfl, rfl, hn, hj2⟩
        refine ⟨.inl ⟨rfl, _, put_same⟩, _, put_same, line_lt (by rw [List.length_map]; omega), ?_⟩
        rw [put_put]
        refine ⟨_, Le.refl _, n'', ws ++ [w], _, _, _, rfl, by rw [List.map_append]; rfl, by rw [List.length_append, hl]; rfl, fun k v hk => ?_⟩
        rcases Nat.lt_or_ge k ws.length with hk' | hk'
        · rw [List.getElem?_append_left hk'] at hk
          exact hw k v hk
        · rw [List.getElem?_append_right hk'] at hk
          have : k - ws.length = 0 := by
            have := (List.getElem?_eq_some_iff.mp hk).1
            rw [List.length_singleton] at this; omega
          rw [this] at hk
          cases hk
          have : k = i := by omega
          rw [this]; exact hn
    · rintro δ G' ⟨n', ws, t1, w1, t2, rfl, rfl, hl, hw⟩
      rw [range_len] at hl
      exact ⟨_, Le.refl _, q p n' _ ws gp (by omega) hw⟩
  · exact h.elim
end C

set_option Elab.async false
set_option linter.all false
set_option maxRecDepth 100000
set_option maxHeartbeats 4000000
namespace K59
open PySem PySem.Spec PyProof.Rows L2 D3
abbrev n_changed : List Str := ["values", "counter", "more"]
def b_changed : DS := (dRet (dBin dAdd (dBin dAdd (dSlice (dV 0) dNoP (dPt (dV 1))) (dTup (dCons (dBin dAdd (dBin dIx (dV 0) (dV 1)) (dV 2)) dNil))) (dSlice (dV 0) (dPt (dBin dAdd (dV 1) (dC (.int 1)))) dNoP)))
abbrev n_next_state : List Str := ["machine", "state", "at", "values", "order"]
def b_next_state (s_changed : DSp) : DS := (dSeq (dAsg (dV 1) (gUnp 2 (gCons' (gN 2) (gCons' (gN 3) gNil'))))
    (dSeq (dAsg (dBin dIx (dV 0) (dV 2)) (gN 4))
    (dSeq (dIfS (dTest (dBin dEq (dBin dIx (dV 4) (dC (.int 0))) (dC (.str "stop")))) (dRet (dC .non)) dNext)
    (dSeq (dIfS (dTest (dBin dEq (dBin dIx (dV 4) (dC (.int 0))) (dC (.str "up")))) (dRet (dTup (dCons (dBin dIx (dV 4) (dC (.int 2))) (dCons (dCall s_changed (dCons (dV 3) (dCons (dBin dIx (dV 4) (dC (.int 1))) (dCons (dC (.int 1)) dNil)))) dNil)))) dNext)
    (dSeq (dIfS (dTest (dBin dEq (dBin dIx (dV 3) (dBin dIx (dV 4) (dC (.int 1)))) (dC (.int 0)))) (dRet (dTup (dCons (dBin dIx (dV 4) (dC (.int 3))) (dCons (dV 3) dNil)))) dNext)
    (dRet (dTup (dCons (dBin dIx (dV 4) (dC (.int 2))) (dCons (dCall s_changed (dCons (dV 3) (dCons (dBin dIx (dV 4) (dC (.int 1))) (dCons (dNeg (dC (.int 1))) dNil)))) dNil)))))))))
abbrev n_law_left : List Str := ["_law_cell", "_law_left_here", "_law_number", "_law_turn"]
def b_law_left : DS := (dSeq (dAsg (dCB dAbs (dCons (dV 0) dNil)) (gN 1))
    (dSeq (dIfS (dTest (dBin dLt (dV 1) (dBin dPow (dC (.int 10)) (dC (.int 18))))) (dSeq (dAsg (dV 0) (gN 2))
    (dFor (dRng1 (dCons (dC (.int 40)) dNil)) (gN 3) (dSeq (dAsg (dBin dMod (dBin dMul (dBin dAdd (dBin dMod (dV 2) (dC (.int 2147483629))) (dC (.int 48611))) (dC (.int 48271))) (dC (.int 2147483629))) (gN 2))
    (dSeq (dAsg (dBin dAdd (dBin dMod (dBin dMul (dV 2) (dC (.int 39373))) (dC (.int 2147483647))) (dV 3)) (gN 2))
    (dAsg (dBin dAdd (dBin dMul (dV 1) (dC (.int 2147483629))) (dV 2)) (gN 1)))))) dNext)
    (dRet (dLst (dCons (dV 1) dNil)))))
abbrev n_law_digit : List Str := ["_law_left_here", "_law_many", "_law_found"]
def b_law_digit : DS := (dSeq (dAsg (dBin dMod (dBin dIx (dV 0) (dC (.int 0))) (dV 1)) (gN 2))
    (dSeq (dAsg (dBin dFdiv (dBin dIx (dV 0) (dC (.int 0))) (dV 1)) (gSt (dV 0) (dC (.int 0))))
    (dRet (dV 2))))
abbrev n_law_names : List Str := ["_law_left_here", "_law_many", "_law_letters", "_law_start", "_law_found", "_law_k", "_law_word", "_law_j"]
def b_law_names (s_law_digit : DSp) : DS := (dSeq (dAsg (dC (.str "abcdefghijklmnopqrstuvwxyz")) (gN 2))
    (dSeq (dAsg (dCall s_law_digit (dCons (dV 0) (dCons (dC (.int 26)) dNil))) (gN 3))
    (dSeq (dAsg (dLst dNil) (gN 4))
    (dSeq (dFor (dRng1 (dCons (dV 1) dNil)) (gN 5) (dSeq (dAsg (dBin dIx (dV 2) (dBin dMod (dBin dAdd (dV 3) (dBin dMul (dC (.int 5)) (dV 5))) (dC (.int 26)))) (gN 6))
    (dSeq (dFor (dRng1 (dCons (dCall s_law_digit (dCons (dV 0) (dCons (dC (.int 6)) dNil))) dNil)) (gN 7) (dAsg (dBin dAdd (dV 6) (dBin dIx (dC (.str "aeiouxyz")) (dCall s_law_digit (dCons (dV 0) (dCons (dC (.int 8)) dNil))))) (gN 6)))
    (dDrop (dMt "list" dAppend (dV 4) (dCons (dV 6) dNil))))))
    (dRet (dV 4))))))
abbrev n_law_machine : List Str := ["_law_left_here", "_law_many", "_law_orders", "_law_k", "_law_way", "_law_go", "_law_other", "_law_counter"]
def b_law_machine (s_law_digit : DSp) : DS := (dSeq (dAsg (dBin dAdd (dC (.int 1)) (dCall s_law_digit (dCons (dV 0) (dCons (dC (.int 6)) dNil)))) (gN 1))
    (dSeq (dAsg (dLst dNil) (gN 2))
    (dSeq (dFor (dRng1 (dCons (dV 1) dNil)) (gN 3) (dSeq (dAsg (dCall s_law_digit (dCons (dV 0) (dCons (dC (.int 5)) dNil))) (gN 4))
    (dSeq (dAsg (dCall s_law_digit (dCons (dV 0) (dCons (dV 1) dNil))) (gN 5))
    (dSeq (dAsg (dCall s_law_digit (dCons (dV 0) (dCons (dV 1) dNil))) (gN 6))
    (dSeq (dAsg (dCall s_law_digit (dCons (dV 0) (dCons (dC (.int 3)) dNil))) (gN 7))
    (dIfS (dTest (dBin dEq (dV 4) (dC (.int 0)))) (dDrop (dMt "list" dAppend (dV 2) (dCons (dTup (dCons (dC (.str "stop")) dNil)) dNil))) (dIfS (dTest (dBin dLt (dV 4) (dC (.int 3)))) (dDrop (dMt "list" dAppend (dV 2) (dCons (dTup (dCons (dC (.str "up")) (dCons (dV 7) (dCons (dV 5) dNil)))) dNil))) (dDrop (dMt "list" dAppend (dV 2) (dCons (dTup (dCons (dC (.str "down")) (dCons (dV 7) (dCons (dV 5) (dCons (dV 6) dNil))))) dNil))))))))))
    (dRet (dCB dTupOf (dCons (dV 2) dNil))))))
abbrev n_law_state : List Str := ["_law_left_here", "_law_machine_here", "_law_most", "_law_values", "_law_k", "_law_turn"]
def b_law_state (s_law_digit : DSp) : DS := (dSeq (dAsg (dLst dNil) (gN 3))
    (dSeq (dFor (dRng1 (dCons (dC (.int 3)) dNil)) (gN 4) (dSeq (dDrop (dMt "list" dAppend (dV 3) (dCons (dCall s_law_digit (dCons (dV 0) (dCons (dBin dAdd (dV 2) (dC (.int 1))) dNil))) dNil)))
    (dAsg (dBin dSub (dV 2) (dBin dIx (dV 3) (dV 4))) (gN 2))))
    (dSeq (dAsg (dCall s_law_digit (dCons (dV 0) (dCons (dC (.int 3)) dNil))) (gN 5))
    (dRet (dTup (dCons (dCall s_law_digit (dCons (dV 0) (dCons (dCB dLen (dCons (dV 1) dNil)) dNil))) (dCons (dCB dTupOf (dCons (dBin dAdd (dSlice (dV 3) (dPt (dV 5)) dNoP) (dSlice (dV 3) dNoP (dPt (dV 5)))) dNil)) dNil)))))))
abbrev n_law_next : List Str := ["_law_machine_here", "_law_state_here", "_law_at", "_law_values", "_law_order", "_law_some"]
def b_law_next : DS := (dSeq (dAsg (dV 1) (gUnp 2 (gCons' (gN 2) (gCons' (gN 3) gNil'))))
    (dSeq (dAsg (dBin dIx (dV 0) (dV 2)) (gN 4))
    (dSeq (dAsg (dCB dLstOf (dCons (dV 3) dNil)) (gN 5))
    (dSeq (dIfS (dTest (dBin dEq (dBin dIx (dV 4) (dC (.int 0))) (dC (.str "stop")))) (dRet (dC .non)) dNext)
    (dSeq (dIfS (dTest (dBin dEq (dBin dIx (dV 4) (dC (.int 0))) (dC (.str "up")))) (dSeq (dAsg (dBin dAdd (dBin dIx (dV 5) (dBin dIx (dV 4) (dC (.int 1)))) (dC (.int 1))) (gSt (dV 5) (dBin dIx (dV 4) (dC (.int 1)))))
    (dRet (dTup (dCons (dBin dIx (dV 4) (dC (.int 2))) (dCons (dCB dTupOf (dCons (dV 5) dNil)) dNil))))) dNext)
    (dSeq (dIfS (dTest (dBin dEq (dBin dIx (dV 5) (dBin dIx (dV 4) (dC (.int 1)))) (dC (.int 0)))) (dRet (dTup (dCons (dBin dIx (dV 4) (dC (.int 3))) (dCons (dV 3) dNil)))) dNext)
    (dSeq (dAsg (dBin dSub (dBin dIx (dV 5) (dBin dIx (dV 4) (dC (.int 1)))) (dC (.int 1))) (gSt (dV 5) (dBin dIx (dV 4) (dC (.int 1)))))
    (dRet (dTup (dCons (dBin dIx (dV 4) (dC (.int 2))) (dCons (dCB dTupOf (dCons (dV 5) dNil)) dNil)))))))))))
abbrev n_law_right : List Str := ["_law_machine_here", "_law_state_here", "_law_kept", "_law_due", "_law_turn", "_law_found"]
def b_law_right (s_law_next s_next_state : DSp) : DS := (dSeq (dAsg (dCB dRepr (dCons (dTup (dCons (dV 0) (dCons (dV 1) dNil))) dNil)) (gN 2))
    (dSeq (dAsg (dCall s_law_next (dCons (dV 0) (dCons (dV 1) dNil))) (gN 3))
    (dSeq (dFor (dRng1 (dCons (dC (.int 2)) dNil)) (gN 4) (dSeq (dAsg (dCall s_next_state (dCons (dV 0) (dCons (dV 1) dNil))) (gN 5))
    (dSeq (dIfS (dOrT (dTest (dBin dNe (dV 5) (dV 3))) (dTest (dBin dNe (dCB dRepr (dCons (dTup (dCons (dV 0) (dCons (dV 1) dNil))) dNil)) (dV 2)))) (dRet (dC (.bl false))) dNext)
    (dIfS (dAndT (dTest (dBin (dIsN true) (dV 5) (dC .non))) (dOrT (dNotT (dTest (dCB dIsi (dCons (dV 5) (dCons (dC (.ty "tuple")) dNil))))) (dNotT (dTest (dCB dIsi (dCons (dBin dIx (dV 5) (dC (.int 1))) (dCons (dC (.ty "tuple")) dNil))))))) (dRet (dC (.bl false))) dNext))))
    (dRet (dC (.bl true))))))
abbrev n_law : List Str := ["_law_script", "_law_cell", "_law_left_here", "_law_machine_here", "_law_turn", "_law_state_here", "_law_step"]
def b_law (s_law_left s_law_machine s_law_state s_law_right s_law_next : DSp) : DS := (dSeq (dFor (dIt (dBin dAdd (dSlice (dV 0) dNoP (dPt (dC (.int 20)))) (dLst (dCons (dC (.int 5)) dNil)))) (gN 1) (dSeq (dAsg (dCall s_law_left (dCons (dV 1) dNil)) (gN 2))
    (dSeq (dAsg (dCall s_law_machine (dCons (dV 2) dNil)) (gN 3))
    (dFor (dRng1 (dCons (dC (.int 6)) dNil)) (gN 4) (dSeq (dAsg (dCall s_law_state (dCons (dV 2) (dCons (dV 3) (dCons (dC (.int 6)) dNil)))) (gN 5))
    (dFor (dRng1 (dCons (dC (.int 5)) dNil)) (gN 6) (dIfS (dAndT (dTest (dBin (dIsN true) (dV 5) (dC .non))) (dTest (dBin dLt (dCB dSum (dCons (dBin dIx (dV 5) (dC (.int 1))) dNil)) (dC (.int 7))))) (dSeq (dIfS (dNotT (dTest (dCall s_law_right (dCons (dV 3) (dCons (dV 5) dNil))))) (dRet (dC (.bl false))) dNext)
    (dAsg (dCall s_law_next (dCons (dV 3) (dCons (dV 5) dNil))) (gN 5))) dNext)))))))
    (dRet (dC (.bl true))))
end K59

set_option Elab.async false
set_option linter.all false
set_option maxRecDepth 100000
set_option maxHeartbeats 4000000
namespace K59
open PySem PySem.Spec PyProof.Rows L2 D3
/-! ### machines -/
structure T3 where
  a : Int
  b : Int
  c : Int
inductive Ord where
  | stop | up (c g : Nat) | down (c g o : Nat)
def T3.get (t : T3) : Nat → Int
  | 0 => t.a
  | 1 => t.b
  | _ => t.c
def T3.add (t : T3) (m : Int) : Nat → T3
  | 0 => ⟨t.a + m, t.b, t.c⟩
  | 1 => ⟨t.a, t.b + m, t.c⟩
  | _ => ⟨t.a, t.b, t.c + m⟩
def tD (t : T3) : D := .tup [.int t.a, .int t.b, .int t.c]
def ordD : Ord → D
  | .stop => .tup [.str "stop"]
  | .up c g => .tup [.str "up", .int c, .int g]
  | .down c g o => .tup [.str "down", .int c, .int g, .int o]
def stD (s : Nat × T3) : D := .tup [.int s.1, tD s.2]
def resD : Option (Nat × T3) → D
  | none => .non
  | some s => stD s
def nx : Ord → T3 → Option (Nat × T3)
  | .stop, _ => none
  | .up c g, t => some (g, t.add 1 c)
  | .down c g o, t => if t.get c = 0 then some (o, t) else some (g, t.add (-1) c)
/-- an order of a machine of n orders -/
def OrdOk (n : Nat) : Ord → Prop
  | .stop => True
  | .up c g => c < 3 ∧ g < n
  | .down c g o => c < 3 ∧ g < n ∧ o < n
structure Mach (M : List Ord) : Prop where
  pos : 1 ≤ M.length
  few : M.length ≤ 6
  ok : ∀ o ∈ M, OrdOk M.length o
theorem upS : decide (("up" : Str) = "stop") = false := by decide +kernel
theorem dnS : decide (("down" : Str) = "stop") = false := by decide +kernel
theorem stS : decide (("stop" : Str) = "stop") = true := by decide +kernel
theorem upU : decide (("up" : Str) = "up") = true := by decide +kernel
theorem dnU : decide (("down" : Str) = "up") = false := by decide +kernel
def sp_changed : DSp := fun ds G Q => match ds with
  | [x, .int c, .int m] => ∃ (t : T3) (k : Nat), x = tD t ∧ c = k ∧ k < 3 ∧ Q (tD (t.add m k)) G
  | _ => False
theorem p_changed : ∀ ds G Q, sp_changed ds G Q → b_changed (dEnd Q) (dstart n_changed ds) G := by
  intro ds G Q h
  unfold sp_changed at h
  split at h
  · obtain ⟨t, k, rfl, rfl, hk, q⟩ := h
    match k, hk with
    | 0, _ => exact ⟨line_le (show (1 : Nat) ≤ 16777216 by decide), line_le (show (3 : Nat) ≤ 16777216 by decide), _, Le.refl _, q⟩
    | 1, _ => exact ⟨line_le (show (2 : Nat) ≤ 16777216 by decide), line_le (show (3 : Nat) ≤ 16777216 by decide), _, Le.refl _, q⟩
    | 2, _ => exact ⟨line_le (show (3 : Nat) ≤ 16777216 by decide), line_le (show (3 : Nat) ≤ 16777216 by decide), _, Le.refl _, q⟩
  · exact h.elim
theorem at_ord {M : List Ord} {i : Nat} {o : Ord} (h : M[i]? = some o) {G : DH} {Q : DQ} (q : Q (ordD o) G) : dIx (.tup (M.map ordD)) (.int i) G Q := by
  have hi := (List.getElem?_eq_some_iff.mp h).1
  refine ixt (Int.natCast_nonneg i) (by rw [List.length_map]; omega) fun d hd => ?_
  rw [Int.toNat_natCast, List.getElem?_map, h] at hd
  cases hd
  exact q
theorem at_t {t : T3} {k : Nat} (h : k < 3) {G : DH} {Q : DQ} (q : Q (.int (t.get k)) G) : dIx (tD t) (.int k) G Q := by
  match k, h with
  | 0, _ => exact q
  | 1, _ => exact q
  | 2, _ => exact q
def sp_next_state : DSp := fun ds G Q => match ds with
  | [.tup ms, x] => ∃ (M : List Ord) (s : Nat × T3) (o : Ord), ms = M.map ordD ∧ x = stD s ∧ M[s.1]? = some o ∧ OrdOk M.length o ∧ Q (resD (nx o s.2)) G
  | _ => False
theorem p_next_state : ∀ ds G Q, sp_next_state ds G Q → b_next_state sp_changed (dEnd Q) (dstart n_next_state ds) G := by
  intro ds G Q h
  unfold sp_next_state at h
  split at h
  · obtain ⟨M, ⟨i, t⟩, o, rfl, rfl, hM, hO, q⟩ := h
    refine ⟨rfl, ?_⟩
    refine at_ord hM ?_
    dsimp only [gN, setD, dSeq]
    have i0 : ∀ {w : Str} {l : List D} {G : DH} (Q : DQ), Q (.str w) G → dIx (.tup (.str w :: l)) (.int 0) G Q := fun Q q => ixt (Int.le_refl 0) (by rw [List.length_cons]; omega) fun d hd => by cases hd; exact q
    cases o with
    | stop =>
      refine ifS (tt_bin (ev_bin (ev_v rfl) ev_c i0) ev_c r_eqS) (fun _ => ?_) (fun z => ?_)
      · exact ⟨_, Le.refl _, q⟩
      · rw [stS] at z; cases z
    | up c g =>
      refine ifS (tt_bin (ev_bin (ev_v rfl) ev_c i0) ev_c r_eqS) (fun z => ?_) (fun _ => ?_)
      · rw [upS] at z; cases z
      dsimp only [dNext]
      refine ifS (tt_bin (ev_bin (ev_v rfl) ev_c i0) ev_c r_eqS) (fun _ => ?_) (fun z => ?_)
      · exact ⟨t, c, rfl, rfl, hO.1, _, Le.refl _, q⟩
      · rw [upU] at z; cases z
    | down c g o =>
      refine ifS (tt_bin (ev_bin (ev_v rfl) ev_c i0) ev_c r_eqS) (fun z => ?_) (fun _ => ?_)
      · rw [dnS] at z; cases z
      dsimp only [dNext]
      refine ifS (tt_bin (ev_bin (ev_v rfl) ev_c i0) ev_c r_eqS) (fun z => ?_) (fun _ => ?_)
      · rw [dnU] at z; cases z
      dsimp only [dNext]
      have e : nx (.down c g o) t = if t.get c = 0 then some (o, t) else some (g, t.add (-1) c) := rfl
      refine ifS (b := decide (t.get c = 0)) (tt_bin (x := .int (t.get c)) (ev_bin (x := tD t) (y := .int c) (ev_v rfl) (ev_bin (ev_v rfl) ev_c fun Q q => q) fun Q q => at_t hO.1 q) ev_c r_eqI) (fun z => ?_) (fun z => ?_)
      · rw [e, if_pos (of_decide_eq_true z)] at q
        exact ⟨_, Le.refl _, q⟩
      · rw [e, if_neg (of_decide_eq_false z)] at q
        exact ⟨t, c, rfl, rfl, hO.1, _, Le.refl _, q⟩
  · exact h.elim
def t3l (t : T3) : List D := [.int t.a, .int t.b, .int t.c]
theorem set_t {t : T3} {k : Nat} (h : k < 3) {m : Int} : (t3l t).set k (.int (t.get k + m)) = t3l (t.add m k) := by
  match k, h with
  | 0, _ => rfl
  | 1, _ => rfl
  | 2, _ => rfl
theorem at_l {t : T3} {k : Nat} (h : k < 3) {G : DH} {p : Addr} (g : G p = some (.lst (t3l t))) {Q : DQ} (q : Q (.int (t.get k)) G) : dIx (.ref p) (.int k) G Q := by
  match k, h with
  | 0, _ => exact .inl ⟨_, _, _, rfl, g, rfl, q⟩
  | 1, _ => exact .inl ⟨_, _, _, rfl, g, rfl, q⟩
  | 2, _ => exact .inl ⟨_, _, _, rfl, g, rfl, q⟩
theorem ix3 {k : Nat} (h : k < 3) : ixN 3 (k : Int) = some k := by
  match k, h with
  | 0, _ => rfl
  | 1, _ => rfl
  | 2, _ => rfl
def sp_law_next : DSp := fun ds G Q => match ds with
  | [.tup ms, x] => ∃ (M : List Ord) (s : Nat × T3) (o : Ord), ms = M.map ordD ∧ x = stD s ∧ M[s.1]? = some o ∧ OrdOk M.length o ∧ Q (resD (nx o s.2)) G
  | _ => False
theorem p_law_next : ∀ ds G Q, sp_law_next ds G Q → b_law_next (dEnd Q) (dstart n_law_next ds) G := by
  intro ds G Q h
  unfold sp_law_next at h
  split at h
  · obtain ⟨M, ⟨i, t⟩, o, rfl, rfl, hM, hO, q⟩ := h
    refine ⟨rfl, ?_⟩
    refine at_ord hM ?_
    intro p hp
    have gp : put G p (.lst (t3l t)) p = some (.lst (t3l t)) := put_same
    have le : Le G (put G p (.lst (t3l t))) := (Le.refl G).put hp
    dsimp only [gN, setD, dSeq]
    have i0 : ∀ {w : Str} {l : List D} {G : DH} (Q : DQ), Q (.str w) G → dIx (.tup (.str w :: l)) (.int 0) G Q := fun Q q => ixt (Int.le_refl 0) (by rw [List.length_cons]; omega) fun d hd => by cases hd; exact q
    cases o with
    | stop =>
      refine ifS (tt_bin (ev_bin (ev_v rfl) ev_c i0) ev_c r_eqS) (fun _ => ?_) (fun z => ?_)
      · exact ⟨_, le, q⟩
      · rw [stS] at z; cases z
    | up c g =>
      refine ifS (tt_bin (ev_bin (ev_v rfl) ev_c i0) ev_c r_eqS) (fun z => ?_) (fun _ => ?_)
      · rw [upS] at z; cases z
      dsimp only [dNext]
      refine ifS (tt_bin (ev_bin (ev_v rfl) ev_c i0) ev_c r_eqS) (fun _ => ?_) (fun z => ?_)
      · dsimp only [dSeq, dAsg, gSt]
        refine (ev_bin (x := .int (t.get c)) (y := .int 1) (z := .int (t.get c + 1)) (ev_bin (x := .ref p) (y := .int c) (ev_v rfl) (ev_bin (ev_v rfl) ev_c fun Q q => q) fun Q q => at_l hO.1 gp q) ev_c fun Q q => q) _ ?_
        refine .inl ⟨t3l t, (c : Int), c, rfl, gp, ix3 hO.1, ?_⟩
        have e : put (put G p (.lst (t3l t))) p (.lst ((t3l t).set c (.int (t.get c + 1)))) p = some (.lst (t3l (t.add 1 c))) := by rw [put_same, set_t hO.1]
        exact ⟨_, e, _, le.put hp, q⟩
      · rw [upU] at z; cases z
    | down c g o =>
      refine ifS (tt_bin (ev_bin (ev_v rfl) ev_c i0) ev_c r_eqS) (fun z => ?_) (fun _ => ?_)
      · rw [dnS] at z; cases z
      dsimp only [dNext]
      refine ifS (tt_bin (ev_bin (ev_v rfl) ev_c i0) ev_c r_eqS) (fun z => ?_) (fun _ => ?_)
      · rw [dnU] at z; cases z
      dsimp only [dNext]
      have e : nx (.down c g o) t = if t.get c = 0 then some (o, t) else some (g, t.add (-1) c) := rfl
      refine ifS (b := decide (t.get c = 0)) (tt_bin (x := .int (t.get c)) (ev_bin (x := .ref p) (y := .int c) (ev_v rfl) (ev_bin (ev_v rfl) ev_c fun Q q => q) fun Q q => at_l hO.1 gp q) ev_c r_eqI) (fun z => ?_) (fun z => ?_)
      · rw [e, if_pos (of_decide_eq_true z)] at q
        exact ⟨_, le, q⟩
      · rw [e, if_neg (of_decide_eq_false z)] at q
        dsimp only [dNext, dSeq, dAsg, gSt]
        refine (ev_bin (x := .int (t.get c)) (y := .int 1) (z := .int (t.get c - 1)) (ev_bin (x := .ref p) (y := .int c) (ev_v rfl) (ev_bin (ev_v rfl) ev_c fun Q q => q) fun Q q => at_l hO.1 gp q) ev_c fun Q q => q) _ ?_
        refine .inl ⟨t3l t, (c : Int), c, rfl, gp, ix3 hO.1, ?_⟩
        have e : put (put G p (.lst (t3l t))) p (.lst ((t3l t).set c (.int (t.get c - 1)))) p = some (.lst (t3l (t.add (-1) c))) := by rw [put_same, Int.sub_eq_add_neg, set_t hO.1]
        exact ⟨_, e, _, le.put hp, q⟩
  · exact h.elim
/-! ### drawing -/
theorem dig_at {n m : Int} (h : 0 < m) : ∃ k : Nat, n % m = k ∧ (k : Int) < m := ⟨(n % m).toNat, (Int.toNat_of_nonneg (Int.emod_nonneg _ (Int.ne_of_gt h))).symm, by rw [Int.toNat_of_nonneg (Int.emod_nonneg _ (Int.ne_of_gt h))]; exact Int.emod_lt_of_pos _ h⟩
def sp_law_machine : DSp := fun ds G Q => match ds with
  | [.ref l] => ∃ n, G l = some (.lst [.int n]) ∧ ∀ n' M, Mach M → Q (.tup (M.map ordD)) (put G l (.lst [.int n']))
  | _ => False
theorem p_law_machine : ∀ ds G Q, sp_law_machine ds G Q → b_law_machine C.sp_law_digit (dEnd Q) (dstart n_law_machine ds) G := by
  intro ds G Q h
  unfold sp_law_machine at h
  split at h
  · rename_i l
    obtain ⟨n, gl, q⟩ := h
    refine ⟨n, gl, ⟨by decide, by decide⟩, ?_⟩
    obtain ⟨k, ek, hk⟩ := dig_at (n := n) (m := 6) (by decide)
    rw [ek]
    intro p hp
    have lp : l ≠ p := fun z => by rw [← z, put_same] at hp; cases hp
    have gp0 : G p = none := by rw [put_ne (Ne.symm lp)] at hp; exact hp
    refine ⟨⟨by omega, by omega⟩, fun i δ G' => ∃ (n' : Int) (M : List Ord) (t3 t4 t5 t6 t7 : Option D), δ = [some (.ref l), some (.int (1 + (k : Int))), some (.ref p), t3, t4, t5, t6, t7] ∧ Le (put G l (.lst [.int n'])) G' ∧ G' p = some (.lst (M.map ordD)) ∧ M.length = i ∧ ∀ o ∈ M, OrdOk (k + 1) o,
      ⟨_, [], none, none, none, none, none, rfl, (Le.refl _).put hp, put_same, rfl, fun _ z => (nomatch z)⟩, fun _ _ _ _ => trivial, ?_, ?_⟩
    · rintro i d δ G' hi ⟨n', M, t3, t4, t5, t6, t7, rfl, le, gp, hM, oM⟩
      obtain ⟨hi1, rfl⟩ := range_at hi
      have hi6 : i < 6 := by omega
      have m1 : (0 : Int) < 1 + (k : Int) ∧ 1 + (k : Int) < 1073741824 := by omega
      -- a digit drawn
      have dig : ∀ {G' : DH} {n' : Int} (m : Int), Le (put G l (.lst [.int n'])) G' → Le (put G l (.lst [.int (n' / m)])) (put G' l (.lst [.int (n' / m)])) := fun {G' n'} m le x o e => by
        by_cases z : x = l
        · rw [z, put_same] at e ⊢; exact e
        · rw [put_ne z] at e ⊢; exact le x o (by rw [put_ne z]; exact e)
      have gl' : ∀ {G' : DH} {n' : Int}, Le (put G l (.lst [.int n'])) G' → G' l = some (.lst [.int n']) := fun le => le _ _ put_same
      refine ⟨n', gl' le, ⟨by decide, by decide⟩, ?_⟩
      have le1 := dig 5 le
      refine ⟨n' / 5, gl' le1, m1, ?_⟩
      have le2 := dig (1 + (k : Int)) le1
      refine ⟨_, gl' le2, m1, ?_⟩
      have le3 := dig (1 + (k : Int)) le2
      refine ⟨_, gl' le3, ⟨by decide, by decide⟩, ?_⟩
      have le4 := dig 3 le3
      have gp4 : put (put (put (put G' l (.lst [.int (n' / 5)])) l (.lst [.int (n' / 5 / (1 + (k : Int)))])) l (.lst [.int (n' / 5 / (1 + (k : Int)) / (1 + (k : Int)))])) l (.lst [.int (n' / 5 / (1 + (k : Int)) / (1 + (k : Int)) / 3)]) p = some (.lst (M.map ordD)) := by
        rw [put_ne (Ne.symm lp), put_ne (Ne.symm lp), put_ne (Ne.symm lp), put_ne (Ne.symm lp)]; exact gp
      obtain ⟨g, eg, hg⟩ := dig_at (n := n' / 5) (m := 1 + (k : Int)) m1.1
      obtain ⟨o, eo, ho⟩ := dig_at (n := n' / 5 / (1 + (k : Int))) (m := 1 + (k : Int)) m1.1
      obtain ⟨c, ec, hc⟩ := dig_at (n := n' / 5 / (1 + (k : Int)) / (1 + (k : Int))) (m := 3) (by decide)
      rw [eg, eo, ec]
      generalize n' % 5 = w
      generalize put (put (put (put G' l (.lst [.int (n' / 5)])) l (.lst [.int (n' / 5 / (1 + (k : Int)))])) l (.lst [.int (n' / 5 / (1 + (k : Int)) / (1 + (k : Int)))])) l (.lst [.int (n' / 5 / (1 + (k : Int)) / (1 + (k : Int)) / 3)]) = G4 at le4 gp4
      have fin : ∀ (x : Ord) {t3 t4 t5 t6 t7 : Option D}, OrdOk (k + 1) x → D3.lo (fun δ G' => ∃ (n' : Int) (M : List Ord) (t3 t4 t5 t6 t7 : Option D), δ = [some (.ref l), some (.int (1 + (k : Int))), some (.ref p), t3, t4, t5, t6, t7] ∧ Le (put G l (.lst [.int n'])) G' ∧ G' p = some (.lst (M.map ordD)) ∧ M.length = i + 1 ∧ ∀ o ∈ M, OrdOk (k + 1) o)
          [some (.ref l), some (.int (1 + (k : Int))), some (.ref p), t3, t4, t5, t6, t7] (put G4 p (.lst (M.map ordD ++ [ordD x]))) := fun x {t3 t4 t5 t6 t7} hx => by
        refine ⟨_, Le.refl _, _, M ++ [x], _, _, _, _, _, rfl, le4.put (by rw [put_ne (Ne.symm lp)]; exact gp0), by rw [put_same, List.map_append]; rfl, by rw [List.length_append, hM]; rfl, fun y hy => ?_⟩
        rcases List.mem_append.mp hy with hy | hy
        · exact oM y hy
        · rw [List.mem_singleton.mp hy]; exact hx
      dsimp only [gN, setD, dSeq]
      refine ifS (tt_bin (ev_v rfl) ev_c r_eqI) (fun _ => ?_) (fun _ => ?_)
      · exact ⟨.inl ⟨rfl, _, gp4⟩, _, gp4, line_lt (by rw [List.length_map]; omega), fin .stop trivial⟩
      · refine ifS (tt_bin (ev_v rfl) ev_c fun Q q => q) (fun _ => ?_) (fun _ => ?_)
        · exact ⟨.inl ⟨rfl, _, gp4⟩, _, gp4, line_lt (by rw [List.length_map]; omega), fin (.up c g) ⟨by omega, by omega⟩⟩
        · exact ⟨.inl ⟨rfl, _, gp4⟩, _, gp4, line_lt (by rw [List.length_map]; omega), fin (.down c g o) ⟨by omega, by omega, by omega⟩⟩
    · rintro δ G' ⟨n', M, t3, t4, t5, t6, t7, rfl, le, gp, hM, oM⟩
      rw [range_len] at hM
      have hM' : M.length = k + 1 := by omega
      exact ⟨_, gp, _, le, q n' M ⟨by omega, by omega, fun o ho => hM' ▸ oM o ho⟩⟩
  · exact h.elim
structure TOk (t : T3) : Prop where
  a : 0 ≤ t.a
  b : 0 ≤ t.b
  c : 0 ≤ t.c
theorem dig_le {G G' : DH} {l : Addr} {n' : Int} (n2 : Int) (le : Le (put G l (.lst [.int n'])) G') : Le (put G l (.lst [.int n2])) (put G' l (.lst [.int n2])) := fun x o e => by
  by_cases z : x = l
  · rw [z, put_same] at e ⊢; exact e
  · rw [put_ne z] at e ⊢; exact le x o (by rw [put_ne z]; exact e)
def sp_law_state : DSp := fun ds G Q => match ds with
  | [.ref l, .tup ms, .int 6] => ∃ n, G l = some (.lst [.int n]) ∧ (0 < ms.length ∧ ms.length ≤ 1000) ∧ ∀ (n' : Int) (i : Nat) (t : T3), i < ms.length → TOk t → t.a + t.b + t.c ≤ 6 → Q (stD (i, t)) (put G l (.lst [.int n']))
  | _ => False
theorem turned (a b c : Int) (ha : 0 ≤ a) (hb : 0 ≤ b) (hc : 0 ≤ c) (hs : a + b + c ≤ 6) (k : Nat) (hk : k < 3) : ∃ t : T3, TOk t ∧ t.a + t.b + t.c ≤ 6 ∧ D3.cutD [.int a, .int b, .int c] (some (k : Int)) none ++ D3.cutD [.int a, .int b, .int c] none (some (k : Int)) = t3l t := by
  match k, hk with
  | 0, _ => exact ⟨⟨a, b, c⟩, ⟨ha, hb, hc⟩, hs, rfl⟩
  | 1, _ => exact ⟨⟨b, c, a⟩, ⟨hb, hc, ha⟩, by show b + c + a ≤ 6; omega, rfl⟩
  | 2, _ => exact ⟨⟨c, a, b⟩, ⟨hc, ha, hb⟩, by show c + a + b ≤ 6; omega, rfl⟩
theorem p_law_state : ∀ ds G Q, sp_law_state ds G Q → b_law_state C.sp_law_digit (dEnd Q) (dstart n_law_state ds) G := by
  intro ds G Q h
  unfold sp_law_state at h
  split at h
  · rename_i l ms
    obtain ⟨n, gl, hm, q⟩ := h
    intro p gp
    have lp : l ≠ p := ne_none gl gp
    refine ⟨⟨by decide, by decide⟩, fun i δ G' => ∃ (n' : Int) (vs : List Int) (mo : Int) (t4 t5 : Option D), δ = [some (.ref l), some (.tup ms), some (.int mo), some (.ref p), t4, t5] ∧ Le (put G l (.lst [.int n'])) G' ∧ G' p = some (.lst (vs.map .int)) ∧ vs.length = i ∧ (∀ v ∈ vs, 0 ≤ v) ∧ 0 ≤ mo ∧ vs.sum + mo = 6,
      ⟨n, [], 6, none, none, rfl, fun x o e => ?_, put_same, rfl, fun _ z => (nomatch z), by decide, rfl⟩, fun _ _ _ _ => trivial, ?_, ?_⟩
    · by_cases z : x = l
      · rw [z, put_same] at e
        rw [z, put_ne lp, gl, ← e]
      · rw [put_ne z] at e
        rw [put_ne (ne_none e gp)]; exact e
    · rintro i d δ G' hi ⟨n', vs, mo, t4, t5, rfl, le, gp', hl, hv, hmo, hs⟩
      obtain ⟨hi1, rfl⟩ := range_at hi
      have hi3 : i < 3 := hi1
      have sum0 : ∀ l : List Int, (∀ v ∈ l, 0 ≤ v) → 0 ≤ l.sum := fun l => by
        induction l with
        | nil => exact fun _ => Int.le_refl 0
        | cons v l ih =>
          intro h
          rw [List.sum_cons]
          have := h v (List.mem_cons_self ..)
          have := ih fun w hw => h w (List.mem_cons_of_mem _ hw)
          omega
      have s0 := sum0 vs hv
      obtain ⟨k, ek, hk⟩ := dig_at (n := n') (m := mo + 1) (by omega)
      refine ⟨.inl ⟨rfl, _, gp'⟩, n', le _ _ put_same, ⟨by omega, by omega⟩, ?_⟩
      rw [ek]
      have le1 := dig_le (n' / (mo + 1)) le
      have gp1 : put G' l (.lst [.int (n' / (mo + 1))]) p = some (.lst (vs.map .int)) := by rw [put_ne (Ne.symm lp)]; exact gp'
      generalize put G' l (.lst [.int (n' / (mo + 1))]) = G1 at le1 gp1
      refine ⟨_, gp1, line_lt (by rw [List.length_map]; omega), ?_⟩
      have e1 : vs.map D.int ++ [.int (k : Int)] = (vs ++ [(k : Int)]).map .int := by rw [List.map_append]; rfl
      rw [e1]
      have gp2 : put G1 p (.lst ((vs ++ [(k : Int)]).map .int)) p = some (.lst ((vs ++ [(k : Int)]).map .int)) := put_same
      have le2 : Le (put G l (.lst [.int (n' / (mo + 1))])) (put G1 p (.lst ((vs ++ [(k : Int)]).map .int))) := le1.put (by rw [put_ne (Ne.symm lp)]; exact gp)
      dsimp only [dNext, dSeq, dAsg, gN, setD]
      refine (ev_bin (x := .int mo) (y := .int k) (z := .int (mo - k)) (ev_v rfl) (ev_bin (x := .ref p) (y := .int (0 + (i : Int))) (ev_v rfl) (ev_v rfl) fun Q q => ?_) fun Q q => q) _ ?_
      · refine ixl gp2 (by omega) (by rw [List.length_map, List.length_append, hl]; show 0 + (i : Int) < ((i + 1 : Nat) : Int); omega) fun d hd => ?_
        have e2 : (0 + (i : Int)).toNat = i := by omega
        rw [e2, List.getElem?_map, List.getElem?_append_right (by omega), hl, Nat.sub_self] at hd
        cases hd
        exact q
      refine ⟨_, Le.refl _, _, vs ++ [(k : Int)], mo - k, _, _, rfl, le2, gp2, by rw [List.length_append, hl]; rfl, fun v hv' => ?_, by omega, ?_⟩
      · rcases List.mem_append.mp hv' with z | z
        · exact hv v z
        · rw [List.mem_singleton.mp z]; exact Int.natCast_nonneg k
      · rw [List.sum_append]
        show vs.sum + ((k : Int) + 0) + (mo - k) = 6
        omega
    · rintro δ G' ⟨n', vs, mo, t4, t5, rfl, le, gp', hl, hv, hmo, hs⟩
      have hl3 : vs.length = 3 := hl
      obtain ⟨a, b, c, rfl⟩ : ∃ a b c, vs = [a, b, c] := by
        match vs, hl3 with
        | [a, b, c], _ => exact ⟨a, b, c, rfl⟩
      have ha := hv a (by simp)
      have hb := hv b (by simp)
      have hc := hv c (by simp)
      have hs' : a + (b + (c + 0)) + mo = 6 := hs
      refine ⟨n', le _ _ put_same, ⟨by decide, by decide⟩, ?_⟩
      obtain ⟨k, ek, hk⟩ := dig_at (n := n') (m := 3) (by decide)
      rw [ek]
      have le1 := dig_le (n' / 3) le
      have gp1 : put G' l (.lst [.int (n' / 3)]) p = some (.lst [.int a, .int b, .int c]) := by rw [put_ne (Ne.symm lp)]; exact gp'
      generalize put G' l (.lst [.int (n' / 3)]) = G1 at le1 gp1
      have m1 : (0 : Int) < (ms.length : Int) ∧ (ms.length : Int) < 1073741824 := by omega
      refine ⟨_, le1 _ _ put_same, m1, ?_⟩
      obtain ⟨j, ej, hj⟩ := dig_at (n := n' / 3) (m := (ms.length : Int)) m1.1
      rw [ej]
      have le2 := dig_le (n' / 3 / (ms.length : Int)) le1
      have gp2 : put G1 l (.lst [.int (n' / 3 / (ms.length : Int))]) p = some (.lst [.int a, .int b, .int c]) := by rw [put_ne (Ne.symm lp)]; exact gp1
      generalize put G1 l (.lst [.int (n' / 3 / (ms.length : Int))]) = G2 at le2 gp2
      refine ⟨_, gp2, fun p1 h1 => ?_⟩
      have gp3 : put G2 p1 (.lst (D3.cutD [.int a, .int b, .int c] (some (k : Int)) none)) p = some (.lst [.int a, .int b, .int c]) := by rw [put_ne (ne_none gp2 h1)]; exact gp2
      refine ⟨_, gp3, fun p2 h2 => ?_⟩
      obtain ⟨t, tok, ts, te⟩ := turned a b c ha hb hc (by omega) k (by omega)
      have ll : (D3.cutD [.int a, .int b, .int c] (some (k : Int)) none).length + (D3.cutD [.int a, .int b, .int c] none (some (k : Int))).length = 3 := by
        have := congrArg List.length te
        rw [List.length_append] at this
        exact this
      refine ⟨_, _, by rw [put_ne (ne_none put_same h2), put_same], put_same, line_le (by rw [ll]; decide), fun p3 h3 => ?_⟩
      rw [te]
      refine ⟨_, put_same, ?_⟩
      have free1 : put G l (.lst [.int (n' / 3 / (ms.length : Int))]) p1 = none := le2.free h1
      have le3 : Le (put G l (.lst [.int (n' / 3 / (ms.length : Int))])) (put G2 p1 (.lst (D3.cutD [.int a, .int b, .int c] (some (k : Int)) none))) := le2.put (le2.free h1)
      have le4 := le3.put (o := .lst (D3.cutD [.int a, .int b, .int c] none (some (k : Int)))) (le3.free h2)
      have le5 := le4.put (o := .lst (t3l t)) (le4.free h3)
      exact ⟨_, le5, q _ j t (by omega) tok ts⟩
  · exact h.elim
/-! ### what is told -/
def pyO : Ord → PyData
  | .stop => .tuple [.str "stop"]
  | .up c g => .tuple [.str "up", .int c, .int g]
  | .down c g o => .tuple [.str "down", .int c, .int g, .int o]
def pyS (s : Nat × T3) : PyData := .tuple [.int s.1, .tuple [.int s.2.a, .int s.2.b, .int s.2.c]]
def pyMS (M : List Ord) (s : Nat × T3) : PyData := .tuple [.tuple (M.map pyO), pyS s]
theorem sh_m {G : DH} : ∀ {M : List Ord}, ShL G (M.map ordD) (M.map pyO)
  | [] => .nil
  | .stop :: _ => .cons (.tup (.cons (.str _) .nil)) sh_m
  | .up _ _ :: _ => .cons (.tup (.cons (.str _) (.cons (.int _) (.cons (.int _) .nil)))) sh_m
  | .down _ _ _ :: _ => .cons (.tup (.cons (.str _) (.cons (.int _) (.cons (.int _) (.cons (.int _) .nil))))) sh_m
theorem sh_ms {G : DH} {M : List Ord} {s : Nat × T3} : Sh G (.tup [.tup (M.map ordD), stD s]) (pyMS M s) :=
  .tup (.cons (.tup sh_m) (.cons (.tup (.cons (.int _) (.cons (.tup (.cons (.int _) (.cons (.int _) (.cons (.int _) .nil)))) .nil))) .nil))
structure SmallT (t : T3) : Prop where
  a : t.a.natAbs ≤ 100
  b : t.b.natAbs ≤ 100
  c : t.c.natAbs ≤ 100
theorem fine_ms {M : List Ord} {s : Nat × T3} (m : Mach M) (h : s.1 < M.length) (t : SmallT s.2) : Fine (pyMS M s) 4 100000 := by
  have few := m.few
  have iOk : ∀ {i : Nat}, i ≤ 100 → Fine (.int (i : Int)) 0 64 := fun h => fine_int (by omega)
  have sOk : ∀ {x : Str}, PyData.strOk x = true → x.length ≤ 64 → Fine (.str x) 0 64 := fun h k => fine_str h k
  have oOk : ∀ o ∈ M, Fine (pyO o) 1 260 := fun o ho => by
    have := m.ok o ho
    cases o with
    | stop =>
      refine fine_tup (n := 4) (wt := 64) (fun y hy => ?_) (by decide)
      rw [List.mem_singleton.mp hy]; exact sOk (by decide +kernel) (of_decide_eq_true (by decide +kernel))
    | up c g =>
      have h1 := this.1
      have h2 := this.2
      refine fine_tup (n := 4) (wt := 64) (fun y hy => ?_) (show (3 : Nat) ≤ 4 by decide)
      simp only [List.mem_cons, List.not_mem_nil, or_false] at hy
      rcases hy with rfl | rfl | rfl
      · exact sOk (by decide +kernel) (of_decide_eq_true (by decide +kernel))
      · exact iOk (by omega)
      · exact iOk (by omega)
    | down c g o =>
      have h1 := this.1
      have h2 := this.2
      refine fine_tup (n := 4) (wt := 64) (fun y hy => ?_) (show (4 : Nat) ≤ 4 by decide)
      simp only [List.mem_cons, List.not_mem_nil, or_false] at hy
      rcases hy with rfl | rfl | rfl | rfl
      · exact sOk (by decide +kernel) (of_decide_eq_true (by decide +kernel))
      · exact iOk (by omega)
      · exact iOk (by omega)
      · exact iOk (by omega)
  have mOk : Fine (.tuple (M.map pyO)) 2 1566 := fine_tup (dp := 1) (wt := 260) (n := 6) (fun y hy => by
    obtain ⟨o, ho, rfl⟩ := List.mem_map.mp hy
    exact oOk o ho) (by rw [List.length_map]; exact few)
  have tOk : Fine (.tuple [.int s.2.a, .int s.2.b, .int s.2.c]) 1 195 := fine_tup (n := 3) (wt := 64) (fun y hy => by
    simp only [List.mem_cons, List.not_mem_nil, or_false] at hy
    rcases hy with rfl | rfl | rfl
    · exact fine_int (by have := t.a; omega)
    · exact fine_int (by have := t.b; omega)
    · exact fine_int (by have := t.c; omega)) (show (3 : Nat) ≤ 3 by decide)
  have stOk : Fine (pyS s) 2 392 := fine_tup (n := 2) (wt := 195) (fun y hy => by
    simp only [List.mem_cons, List.not_mem_nil, or_false] at hy
    rcases hy with rfl | rfl
    · exact (iOk (by omega)).mono (by decide) (by decide)
    · exact tOk) (show (2 : Nat) ≤ 2 by decide)
  refine (fine_tup (ds := [.tuple (M.map pyO), pyS s]) (n := 2) (wt := 1566) (dp := 2) (fun y hy => ?_) (show (2 : Nat) ≤ 2 by decide)).mono (by decide) (by decide)
  simp only [List.mem_cons, List.not_mem_nil, or_false] at hy
  rcases hy with rfl | rfl
  · exact mOk
  · exact stOk.mono (by decide) (by decide)
theorem nb_res (r : Option (Nat × T3)) : (resD r).nb = true := by
  cases r <;> rfl
theorem dep_res (r : Option (Nat × T3)) : (resD r).dep ≤ 60 := by
  cases r
  · exact Nat.zero_le _
  · exact (show (2 : Nat) ≤ 60 by decide)
end K59

set_option Elab.async false
set_option linter.all false
set_option maxRecDepth 100000
set_option maxHeartbeats 4000000
namespace K59
open PySem PySem.Spec PyProof.Rows L2 D3
def sp_law_right : DSp := fun ds G Q => match ds with
  | [.tup ms, x] => ∃ (M : List Ord) (s : Nat × T3) (o : Ord), ms = M.map ordD ∧ x = stD s ∧ M[s.1]? = some o ∧ Mach M ∧ SmallT s.2 ∧ Q (.bl true) G
  | _ => False
theorem p_law_right : ∀ ds G Q, sp_law_right ds G Q → b_law_right sp_law_next sp_next_state (dEnd Q) (dstart n_law_right ds) G := by
  intro ds G Q h
  unfold sp_law_right at h
  split at h
  · obtain ⟨M, s, o, rfl, rfl, hM, mach, sm, q⟩ := h
    have hs : s.1 < M.length := (List.getElem?_eq_some_iff.mp hM).1
    have hO := mach.ok o (List.mem_of_getElem? hM)
    have fi := fine_ms mach hs sm
    have rep : ∀ {G : DH} {Q : DQ}, Q (.str (pyMS M s).shown) G → dRepr [.tup [.tup (M.map ordD), stD s]] G Q := fun q => ⟨_, _, rfl, .inr ⟨_, rfl⟩, sh_ms, fi.sh, Nat.le_trans fi.dp (by decide), fi.fits (by decide), q⟩
    refine ⟨_, _, rfl, .inr ⟨_, rfl⟩, sh_ms, fi.sh, Nat.le_trans fi.dp (by decide), fi.fits (by decide), ?_⟩
    refine ⟨M, s, o, rfl, rfl, hM, hO, ?_⟩
    refine ⟨⟨by decide, by decide⟩, fun i δ G' => ∃ t4 t5, δ = [some (.tup (M.map ordD)), some (stD s), some (.str (pyMS M s).shown), some (resD (nx o s.2)), t4, t5] ∧ G' = G, ⟨_, _, rfl, rfl⟩, fun _ _ _ _ => trivial, ?_, ?_⟩
    · rintro i d δ G' hi ⟨t4, t5, rfl, rfl⟩
      refine ⟨M, s, o, rfl, rfl, hM, hO, ?_⟩
      dsimp only [dNext, dSeq, dAsg, gN, setD]
      refine ifS (b := false || false) (tt_or (tt_bin (b := false) (ev_v rfl) (ev_v rfl) fun Q q => r_eqD (nb_res _) (nb_res _) (dep_res _) (dep_res _) Q (by rw [decide_eq_true rfl]; exact q)) fun _ => tt_bin (b := false) (x := .str (pyMS M s).shown) (y := .str (pyMS M s).shown) (fun Q q => rep q) (ev_v rfl) fun Q q => r_neS Q (by rw [decide_eq_true rfl]; exact q)) (fun z => (nomatch z)) (fun _ => ?_)
      dsimp only [dNext]
      refine ifS (b := false) ?_ (fun z => (nomatch z)) (fun _ => ?_)
      · intro Q q
        cases nx o s.2 with
        | none => exact q
        | some r => exact ⟨"tuple", true, rfl, rfl, "tuple", true, rfl, rfl, q⟩
      · exact ⟨_, Le.refl _, _, _, rfl, rfl⟩
    · rintro δ G' ⟨t4, t5, rfl, rfl⟩
      exact ⟨_, Le.refl _, q⟩
  · exact h.elim
theorem nx_ok {M : List Ord} {o : Ord} {t : T3} (h : OrdOk M.length o) (k : TOk t) : ∀ s, nx o t = some s → s.1 < M.length ∧ TOk s.2 := by
  intro s e
  cases o with
  | stop => cases e
  | up c g =>
    cases e
    refine ⟨h.2, ?_⟩
    match c, h.1 with
    | 0, _ => exact ⟨by show 0 ≤ t.a + 1; have := k.a; omega, k.b, k.c⟩
    | 1, _ => exact ⟨k.a, by show 0 ≤ t.b + 1; have := k.b; omega, k.c⟩
    | 2, _ => exact ⟨k.a, k.b, by show 0 ≤ t.c + 1; have := k.c; omega⟩
  | down c g o =>
    have e' : (if t.get c = 0 then some (o, t) else some (g, t.add (-1) c)) = some s := e
    by_cases z : t.get c = 0
    · rw [if_pos z] at e'
      cases e'
      exact ⟨h.2.2, k⟩
    · rw [if_neg z] at e'
      cases e'
      refine ⟨h.2.1, ?_⟩
      match c, h.1 with
      | 0, _ => exact ⟨by show 0 ≤ t.a + -1; have := k.a; have z : ¬ t.a = 0 := z; omega, k.b, k.c⟩
      | 1, _ => exact ⟨k.a, by show 0 ≤ t.b + -1; have := k.b; have z : ¬ t.b = 0 := z; omega, k.c⟩
      | 2, _ => exact ⟨k.a, k.b, by show 0 ≤ t.c + -1; have := k.c; have z : ¬ t.c = 0 := z; omega⟩
def sp_law : DSp := fun ds G Q => match ds with
  | [.lro ns] => ns.length ≤ 63 ∧ (∀ d ∈ ns, ∃ i, d = .int i) ∧ ∀ G', Q (.bl true) G'
  | _ => False
theorem law_len (xs : List Int) (Q : DQ) (h : xs.length ≤ 63) (k : ∀ G, Q (.bl true) G) : sp_law [.lro (xs.map .int)] (fun _ => none) Q :=
  ⟨by rw [List.length_map]; exact h, fun d hd => let ⟨i, _, e⟩ := List.mem_map.mp hd; ⟨i, e.symm⟩, k⟩
theorem p_law : ∀ ds G Q, sp_law ds G Q → b_law C.sp_law_left sp_law_machine sp_law_state sp_law_right sp_law_next (dEnd Q) (dstart n_law ds) G := by
  intro ds G Q h
  unfold sp_law at h
  split at h
  · rename_i ns
    obtain ⟨hl, hint, q⟩ := h
    intro p1 hp1
    intro p2 hp2
    have l1 : (D3.cutD ns none (some 20)).length ≤ 63 := by rw [cut_to (by decide), List.length_take]; omega
    refine ⟨_, _, by rw [put_ne (ne_none put_same hp2), put_same], put_same, line_le (by show _ + 1 ≤ _; omega), fun a0 ha0 => ?_⟩
    refine .inl ⟨_, put_same, fun i δ G' => ∃ t1 t2 t3 t4 t5 t6, δ = [some (.lro ns), t1, t2, t3, t4, t5, t6] ∧ G' a0 = some (.lst (D3.cutD ns none (some 20) ++ [.int 5])),
      ⟨_, _, _, _, _, _, rfl, put_same⟩, fun i δ G' ⟨_, _, _, _, _, _, _, h⟩ => h, ?_, fun δ G' _ => ⟨G', Le.refl _, q G'⟩⟩
    rintro i d δ G' hi ⟨t1, t2, t3, t4, t5, t6, rfl, ga0⟩
    obtain ⟨cell, rfl⟩ : ∃ c, d = .int c := by
      rcases List.mem_append.mp (List.mem_of_getElem? hi) with m | m
      · rw [cut_to (by decide)] at m; exact hint d (List.mem_of_mem_take m)
      · exact ⟨5, List.mem_singleton.mp m⟩
    intro l n0 hl0
    have al : a0 ≠ l := ne_none ga0 hl0
    refine ⟨n0, put_same, fun n1 M mach => ?_⟩
    refine ⟨⟨by decide, by decide⟩, fun j δ G'' => ∃ t4 t5 t6, δ = [some (.lro ns), some (.int cell), some (.ref l), some (.tup (M.map ordD)), t4, t5, t6] ∧ G'' a0 = some (.lst (D3.cutD ns none (some 20) ++ [.int 5])) ∧ ∃ n, G'' l = some (.lst [.int n]),
      ⟨_, _, _, rfl, by rw [put_ne al, put_ne al]; exact ga0, _, put_same⟩, fun _ _ _ _ => trivial, ?_, ?_⟩
    · rintro j d δ G'' hj ⟨t4, t5, t6, rfl, ga, n, gl⟩
      have few := mach.few
      have pos := mach.pos
      refine ⟨n, gl, by rw [List.length_map]; omega, fun n' i t hi tok hs => ?_⟩
      rw [List.length_map] at hi
      refine ⟨⟨by decide, by decide⟩, fun k δ G3 => ∃ (t4 t6 : Option D) (r : Option (Nat × T3)), δ = [some (.lro ns), some (.int cell), some (.ref l), some (.tup (M.map ordD)), t4, some (resD r), t6] ∧ G3 a0 = some (.lst (D3.cutD ns none (some 20) ++ [.int 5])) ∧ (∃ n, G3 l = some (.lst [.int n])) ∧ ∀ s, r = some s → s.1 < M.length ∧ TOk s.2,
        ⟨_, _, some (i, t), rfl, by rw [put_ne al]; exact ga, ⟨_, put_same⟩, fun s e => by cases e; exact ⟨hi, tok⟩⟩, fun _ _ _ _ => trivial, ?_, ?_⟩
      · rintro k d δ G3 hk ⟨t4, t6, r, rfl, ga, gl, hr⟩
        dsimp only [dNext, dSeq, dAsg, gN, setD]
        cases r with
        | none =>
          refine ifS (b := false) (fun Q q => q) (fun z => (nomatch z)) (fun _ => ?_)
          exact ⟨_, Le.refl _, _, _, none, rfl, ga, gl, fun _ z => (nomatch z)⟩
        | some s =>
          obtain ⟨h1, h2⟩ := hr s rfl
          refine ifS (b := true && decide (s.2.a + (s.2.b + (s.2.c + 0)) < 7)) (tt_and (fun Q q => q) fun _ => tt_bin (x := .int (s.2.a + (s.2.b + (s.2.c + 0)))) (fun Q q => ⟨[s.2.a, s.2.b, s.2.c], rfl, q⟩) ev_c fun Q q => q) (fun z => ?_) (fun z => ?_)
          · have z' := of_decide_eq_true z
            have ha := h2.a; have hb := h2.b; have hc := h2.c
            obtain ⟨o, ho⟩ : ∃ o, M[s.1]? = some o := ⟨_, List.getElem?_eq_getElem h1⟩
            have hO := mach.ok o (List.mem_of_getElem? ho)
            refine ⟨M, s, o, rfl, rfl, ho, mach, ⟨by omega, by omega, by omega⟩, ?_⟩
            refine ⟨M, s, o, rfl, rfl, ho, hO, ?_⟩
            exact ⟨_, Le.refl _, _, _, nx o s.2, rfl, ga, gl, nx_ok hO h2⟩
          · exact ⟨_, Le.refl _, _, _, some s, rfl, ga, gl, hr⟩
      · rintro δ G3 ⟨t4, t6, r, rfl, ga, gl, hr⟩
        exact ⟨_, Le.refl _, _, _, _, rfl, ga, gl⟩
    · rintro δ G'' ⟨t4, t5, t6, rfl, ga, gl⟩
      exact ⟨_, Le.refl _, _, _, _, _, _, _, rfl, ga⟩
  · exact h.elim
end K59

set_option Elab.async false
set_option linter.all false
set_option maxRecDepth 100000
set_option maxHeartbeats 4000000
namespace K59
open PySem PySem.Spec PyProof.Rows L2 D3
def top (i : Nat) : Stmt := PySem.Challenge.pw_walkrooms_k59_machines_gone_on.main.body.getD i (.Pass ⟨0, 0, 0, 0⟩)
abbrev st_changed : Stmt := top 1
abbrev st_next_state : Stmt := top 2
abbrev st_law_left : Stmt := top 4
abbrev st_law_digit : Stmt := top 5
abbrev st_law_names : Stmt := top 6
abbrev st_law_machine : Stmt := top 7
abbrev st_law_state : Stmt := top 8
abbrev st_law_next : Stmt := top 9
abbrev st_law_right : Stmt := top 10
abbrev st_law : Stmt := top 11
theorem sc_changed : FnScope n_changed ["values", "counter", "more"] (defScope st_changed) := ⟨rfl, rfl, rfl, by decide +kernel, rfl, by decide +kernel, by decide +kernel⟩
theorem sc_next_state : FnScope n_next_state ["machine", "state"] (defScope st_next_state) := ⟨rfl, rfl, rfl, by decide +kernel, rfl, by decide +kernel, by decide +kernel⟩
theorem sc_law_left : FnScope n_law_left ["_law_cell"] (defScope st_law_left) := ⟨rfl, rfl, rfl, by decide +kernel, rfl, by decide +kernel, by decide +kernel⟩
theorem sc_law_digit : FnScope n_law_digit ["_law_left_here", "_law_many"] (defScope st_law_digit) := ⟨rfl, rfl, rfl, by decide +kernel, rfl, by decide +kernel, by decide +kernel⟩
theorem sc_law_names : FnScope n_law_names ["_law_left_here", "_law_many"] (defScope st_law_names) := ⟨rfl, rfl, rfl, by decide +kernel, rfl, by decide +kernel, by decide +kernel⟩
theorem sc_law_machine : FnScope n_law_machine ["_law_left_here"] (defScope st_law_machine) := ⟨rfl, rfl, rfl, by decide +kernel, rfl, by decide +kernel, by decide +kernel⟩
theorem sc_law_state : FnScope n_law_state ["_law_left_here", "_law_machine_here", "_law_most"] (defScope st_law_state) := ⟨rfl, rfl, rfl, by decide +kernel, rfl, by decide +kernel, by decide +kernel⟩
theorem sc_law_next : FnScope n_law_next ["_law_machine_here", "_law_state_here"] (defScope st_law_next) := ⟨rfl, rfl, rfl, by decide +kernel, rfl, by decide +kernel, by decide +kernel⟩
theorem sc_law_right : FnScope n_law_right ["_law_machine_here", "_law_state_here"] (defScope st_law_right) := ⟨rfl, rfl, rfl, by decide +kernel, rfl, by decide +kernel, by decide +kernel⟩
theorem sc_law : FnScope n_law ["_law_script"] (defScope st_law) := ⟨rfl, rfl, rfl, by decide +kernel, rfl, by decide +kernel, by decide +kernel⟩
section
variable {P : Program} {w : World} {K : PySem.W.Frag} {mg : Str → Option Value} {base : Heap}
theorem d_changed  {k : Nat} : Der P w K mg base n_changed "changed" st_changed k (b_changed) := by
  intro f cdv A outer s H E hr
  have nd := (sc_changed).nd
  exact (pdss_one (pds_ret (pd_add (pd_add (pd_slice (pdv 0) pdo_none (pdo_some (pdv 1))) (pd_tup (pda_cons (pd_add (pd_ix (room1 hr) (pdv 0) (pdv 1) (fun _ _ => rfl)) (pdv 2)) pda_nil))) (pd_slice (pdv 0) (pdo_some (pd_add (pdv 1) pd_int)) pdo_none))))
theorem d_next_state {s_changed : DSp} {j_changed : Nat} (c_changed : Cal P w K mg base "changed" ["values", "counter", "more"] j_changed s_changed) {k : Nat} (k_0 : j_changed ≤ k) : Der P w K mg base n_next_state "next_state" st_next_state k (b_next_state s_changed) := by
  intro f cdv A outer s H E hr
  have nd := (sc_next_state).nd
  exact (pdss_cons (pds_asg (pdv 1) (pdg_unp (n := 2) rfl (pdgs_cons (pdg_name (i := 2) nd rfl (by first | exact Or.inl rfl | exact Or.inr rfl)) (pdgs_cons (pdg_name (i := 3) nd rfl (by first | exact Or.inl rfl | exact Or.inr rfl)) pdgs_nil))))
    (pdss_cons (pds_set (i := 4) nd rfl (by first | exact Or.inl rfl | exact Or.inr rfl) (pd_ix (room1 hr) (pdv 0) (pdv 2) (fun _ _ => rfl)))
    (pdss_cons (pds_if (pdt_cp (c_eq (room64 hr)) (pd_ix (room1 hr) (pdv 4) pd_int (fun _ _ => rfl)) pd_str (nomark _)) (pdss_one (pds_ret pd_non)) pdss_nil)
    (pdss_cons (pds_if (pdt_cp (c_eq (room64 hr)) (pd_ix (room1 hr) (pdv 4) pd_int (fun _ _ => rfl)) pd_str (nomark _)) (pdss_one (pds_ret (pd_tup (pda_cons (pd_ix (room1 hr) (pdv 4) pd_int (fun _ _ => rfl)) (pda_cons (pd_cal c_changed (hr.mono (by omega)) rfl (pda_cons (pdv 3) (pda_cons (pd_ix (room1 hr) (pdv 4) pd_int (fun _ _ => rfl)) (pda_cons pd_int pda_nil)))) pda_nil))))) pdss_nil)
    (pdss_cons (pds_if (pdt_cp (c_eq (room64 hr)) (pd_ix (room1 hr) (pdv 3) (pd_ix (room1 hr) (pdv 4) pd_int (fun _ _ => rfl)) (fun _ _ => rfl)) pd_int (nomark _)) (pdss_one (pds_ret (pd_tup (pda_cons (pd_ix (room1 hr) (pdv 4) pd_int (fun _ _ => rfl)) (pda_cons (pdv 3) pda_nil))))) pdss_nil)
    (pdss_one (pds_ret (pd_tup (pda_cons (pd_ix (room1 hr) (pdv 4) pd_int (fun _ _ => rfl)) (pda_cons (pd_cal c_changed (hr.mono (by omega)) rfl (pda_cons (pdv 3) (pda_cons (pd_ix (room1 hr) (pdv 4) pd_int (fun _ _ => rfl)) (pda_cons (pd_neg pd_int) pda_nil)))) pda_nil))))))))))
theorem d_law_left (g_abs : mg "abs" = none) (g_range : mg "range" = none) {k : Nat} : Der P w K mg base n_law_left "_law_left" st_law_left k (b_law_left) := by
  intro f cdv A outer s H E hr
  have nd := (sc_law_left).nd
  exact (pdss_cons (pds_set (i := 1) nd rfl (by first | exact Or.inl rfl | exact Or.inr rfl) (pd_callB call_absOk rfl g_abs bt_abs (pda_cons (pdv 0) pda_nil)))
    (pdss_cons (pds_if (pdt_cp c_lt (pdv 1) (pd_pow pd_int pd_int) (nomark _)) (pdss_cons (pds_set (i := 2) nd rfl (by first | exact Or.inl rfl | exact Or.inr rfl) (pdv 0))
    (pdss_one (pds_for PassesOwn.never rfl (pdi_range1 rfl g_range (pda_cons pd_int pda_nil)) (pdg_name (i := 3) nd rfl (by first | exact Or.inl rfl | exact Or.inr rfl)) (pdss_cons (pds_set (i := 2) nd rfl (by first | exact Or.inl rfl | exact Or.inr rfl) (pd_mod (pd_mul (pd_add (pd_mod (pdv 2) pd_int) pd_int) pd_int) pd_int))
    (pdss_cons (pds_set (i := 2) nd rfl (by first | exact Or.inl rfl | exact Or.inr rfl) (pd_add (pd_mod (pd_mul (pdv 2) pd_int) pd_int) (pdv 3)))
    (pdss_one (pds_set (i := 1) nd rfl (by first | exact Or.inl rfl | exact Or.inr rfl) (pd_add (pd_mul (pdv 1) pd_int) (pdv 2))))))))) pdss_nil)
    (pdss_one (pds_ret (pd_lst (pda_cons (pdv 1) pda_nil))))))
theorem d_law_digit  {k : Nat} : Der P w K mg base n_law_digit "_law_digit" st_law_digit k (b_law_digit) := by
  intro f cdv A outer s H E hr
  have nd := (sc_law_digit).nd
  exact (pdss_cons (pds_set (i := 2) nd rfl (by first | exact Or.inl rfl | exact Or.inr rfl) (pd_mod (pd_ix (room1 hr) (pdv 0) pd_int (fun _ _ => rfl)) (pdv 1)))
    (pdss_cons (pds_asg (pd_fdiv (pd_ix (room1 hr) (pdv 0) pd_int (fun _ _ => rfl)) (pdv 1)) (pdg_st (room1 hr) (pdv 0) pd_int))
    (pdss_one (pds_ret (pdv 2)))))
theorem d_law_names {s_law_digit : DSp} {j_law_digit : Nat} (g_range : mg "range" = none) (c_law_digit : Cal P w K mg base "_law_digit" ["_law_left_here", "_law_many"] j_law_digit s_law_digit) {k : Nat} (k_0 : j_law_digit ≤ k) : Der P w K mg base n_law_names "_law_names" st_law_names k (b_law_names s_law_digit) := by
  intro f cdv A outer s H E hr
  have nd := (sc_law_names).nd
  exact (pdss_cons (pds_set (i := 2) nd rfl (by first | exact Or.inl rfl | exact Or.inr rfl) pd_str)
    (pdss_cons (pds_set (i := 3) nd rfl (by first | exact Or.inl rfl | exact Or.inr rfl) (pd_cal c_law_digit (hr.mono (by omega)) rfl (pda_cons (pdv 0) (pda_cons pd_int pda_nil))))
    (pdss_cons (pds_set (i := 4) nd rfl (by first | exact Or.inl rfl | exact Or.inr rfl) (pd_lst pda_nil))
    (pdss_cons (pds_for PassesOwn.never rfl (pdi_range1 rfl g_range (pda_cons (pdv 1) pda_nil)) (pdg_name (i := 5) nd rfl (by first | exact Or.inl rfl | exact Or.inr rfl)) (pdss_cons (pds_set (i := 6) nd rfl (by first | exact Or.inl rfl | exact Or.inr rfl) (pd_ix (room1 hr) (pdv 2) (pd_mod (pd_add (pdv 3) (pd_mul pd_int (pdv 5))) pd_int) (fun _ _ => rfl)))
    (pdss_cons (pds_for PassesOwn.never rfl (pdi_range1 rfl g_range (pda_cons (pd_cal c_law_digit (hr.mono (by omega)) rfl (pda_cons (pdv 0) (pda_cons pd_int pda_nil))) pda_nil)) (pdg_name (i := 7) nd rfl (by first | exact Or.inl rfl | exact Or.inr rfl)) (pdss_one (pds_set (i := 6) nd rfl (by first | exact Or.inl rfl | exact Or.inr rfl) (pd_add (pdv 6) (pd_ix (room1 hr) pd_str (pd_cal c_law_digit (hr.mono (by omega)) rfl (pda_cons (pdv 0) (pda_cons pd_int pda_nil))) (fun _ _ => rfl))))))
    (pdss_one (pds_expr (pd_bm PySem.F.plainAttrs_list PySem.F.slot_list_append PySem.F.type_list_append m_append (pdv 4) (pda_cons (pdv 6) pda_nil)))))))
    (pdss_one (pds_ret (pdv 4)))))))
theorem d_law_machine {s_law_digit : DSp} {j_law_digit : Nat} (g_range : mg "range" = none) (g_tuple : mg "tuple" = none) (c_law_digit : Cal P w K mg base "_law_digit" ["_law_left_here", "_law_many"] j_law_digit s_law_digit) {k : Nat} (k_0 : j_law_digit ≤ k) : Der P w K mg base n_law_machine "_law_machine" st_law_machine k (b_law_machine s_law_digit) := by
  intro f cdv A outer s H E hr
  have nd := (sc_law_machine).nd
  exact (pdss_cons (pds_set (i := 1) nd rfl (by first | exact Or.inl rfl | exact Or.inr rfl) (pd_add pd_int (pd_cal c_law_digit (hr.mono (by omega)) rfl (pda_cons (pdv 0) (pda_cons pd_int pda_nil)))))
    (pdss_cons (pds_set (i := 2) nd rfl (by first | exact Or.inl rfl | exact Or.inr rfl) (pd_lst pda_nil))
    (pdss_cons (pds_for PassesOwn.never rfl (pdi_range1 rfl g_range (pda_cons (pdv 1) pda_nil)) (pdg_name (i := 3) nd rfl (by first | exact Or.inl rfl | exact Or.inr rfl)) (pdss_cons (pds_set (i := 4) nd rfl (by first | exact Or.inl rfl | exact Or.inr rfl) (pd_cal c_law_digit (hr.mono (by omega)) rfl (pda_cons (pdv 0) (pda_cons pd_int pda_nil))))
    (pdss_cons (pds_set (i := 5) nd rfl (by first | exact Or.inl rfl | exact Or.inr rfl) (pd_cal c_law_digit (hr.mono (by omega)) rfl (pda_cons (pdv 0) (pda_cons (pdv 1) pda_nil))))
    (pdss_cons (pds_set (i := 6) nd rfl (by first | exact Or.inl rfl | exact Or.inr rfl) (pd_cal c_law_digit (hr.mono (by omega)) rfl (pda_cons (pdv 0) (pda_cons (pdv 1) pda_nil))))
    (pdss_cons (pds_set (i := 7) nd rfl (by first | exact Or.inl rfl | exact Or.inr rfl) (pd_cal c_law_digit (hr.mono (by omega)) rfl (pda_cons (pdv 0) (pda_cons pd_int pda_nil))))
    (pdss_one (pds_if (pdt_cp (c_eq (room64 hr)) (pdv 4) pd_int (nomark _)) (pdss_one (pds_expr (pd_bm PySem.F.plainAttrs_list PySem.F.slot_list_append PySem.F.type_list_append m_append (pdv 2) (pda_cons (pd_tup (pda_cons pd_str pda_nil)) pda_nil)))) (pdss_one (pds_if (pdt_cp c_lt (pdv 4) pd_int (nomark _)) (pdss_one (pds_expr (pd_bm PySem.F.plainAttrs_list PySem.F.slot_list_append PySem.F.type_list_append m_append (pdv 2) (pda_cons (pd_tup (pda_cons pd_str (pda_cons (pdv 7) (pda_cons (pdv 5) pda_nil)))) pda_nil)))) (pdss_one (pds_expr (pd_bm PySem.F.plainAttrs_list PySem.F.slot_list_append PySem.F.type_list_append m_append (pdv 2) (pda_cons (pd_tup (pda_cons pd_str (pda_cons (pdv 7) (pda_cons (pdv 5) (pda_cons (pdv 6) pda_nil))))) pda_nil)))))))))))))
    (pdss_one (pds_ret (pd_callTy call_tupOk rfl g_tuple bt_tuple (pda_cons (pdv 2) pda_nil)))))))
theorem d_law_state {s_law_digit : DSp} {j_law_digit : Nat} (g_range : mg "range" = none) (g_len : mg "len" = none) (g_tuple : mg "tuple" = none) (c_law_digit : Cal P w K mg base "_law_digit" ["_law_left_here", "_law_many"] j_law_digit s_law_digit) {k : Nat} (k_0 : j_law_digit ≤ k) : Der P w K mg base n_law_state "_law_state" st_law_state k (b_law_state s_law_digit) := by
  intro f cdv A outer s H E hr
  have nd := (sc_law_state).nd
  exact (pdss_cons (pds_set (i := 3) nd rfl (by first | exact Or.inl rfl | exact Or.inr rfl) (pd_lst pda_nil))
    (pdss_cons (pds_for PassesOwn.never rfl (pdi_range1 rfl g_range (pda_cons pd_int pda_nil)) (pdg_name (i := 4) nd rfl (by first | exact Or.inl rfl | exact Or.inr rfl)) (pdss_cons (pds_expr (pd_bm PySem.F.plainAttrs_list PySem.F.slot_list_append PySem.F.type_list_append m_append (pdv 3) (pda_cons (pd_cal c_law_digit (hr.mono (by omega)) rfl (pda_cons (pdv 0) (pda_cons (pd_add (pdv 2) pd_int) pda_nil))) pda_nil)))
    (pdss_one (pds_set (i := 2) nd rfl (by first | exact Or.inl rfl | exact Or.inr rfl) (pd_sub (pdv 2) (pd_ix (room1 hr) (pdv 3) (pdv 4) (fun _ _ => rfl)))))))
    (pdss_cons (pds_set (i := 5) nd rfl (by first | exact Or.inl rfl | exact Or.inr rfl) (pd_cal c_law_digit (hr.mono (by omega)) rfl (pda_cons (pdv 0) (pda_cons pd_int pda_nil))))
    (pdss_one (pds_ret (pd_tup (pda_cons (pd_cal c_law_digit (hr.mono (by omega)) rfl (pda_cons (pdv 0) (pda_cons (pd_callB call_lenOk rfl g_len bt_len (pda_cons (pdv 1) pda_nil)) pda_nil))) (pda_cons (pd_callTy call_tupOk rfl g_tuple bt_tuple (pda_cons (pd_add (pd_slice (pdv 3) (pdo_some (pdv 5)) pdo_none) (pd_slice (pdv 3) pdo_none (pdo_some (pdv 5)))) pda_nil)) pda_nil))))))))
theorem d_law_next (g_list : mg "list" = none) (g_tuple : mg "tuple" = none) {k : Nat} : Der P w K mg base n_law_next "_law_next" st_law_next k (b_law_next) := by
  intro f cdv A outer s H E hr
  have nd := (sc_law_next).nd
  exact (pdss_cons (pds_asg (pdv 1) (pdg_unp (n := 2) rfl (pdgs_cons (pdg_name (i := 2) nd rfl (by first | exact Or.inl rfl | exact Or.inr rfl)) (pdgs_cons (pdg_name (i := 3) nd rfl (by first | exact Or.inl rfl | exact Or.inr rfl)) pdgs_nil))))
    (pdss_cons (pds_set (i := 4) nd rfl (by first | exact Or.inl rfl | exact Or.inr rfl) (pd_ix (room1 hr) (pdv 0) (pdv 2) (fun _ _ => rfl)))
    (pdss_cons (pds_set (i := 5) nd rfl (by first | exact Or.inl rfl | exact Or.inr rfl) (pd_callTy (call_lstOk rfl) rfl g_list bt_list (pda_cons (pdv 3) pda_nil)))
    (pdss_cons (pds_if (pdt_cp (c_eq (room64 hr)) (pd_ix (room1 hr) (pdv 4) pd_int (fun _ _ => rfl)) pd_str (nomark _)) (pdss_one (pds_ret pd_non)) pdss_nil)
    (pdss_cons (pds_if (pdt_cp (c_eq (room64 hr)) (pd_ix (room1 hr) (pdv 4) pd_int (fun _ _ => rfl)) pd_str (nomark _)) (pdss_cons (pds_asg (pd_add (pd_ix (room1 hr) (pdv 5) (pd_ix (room1 hr) (pdv 4) pd_int (fun _ _ => rfl)) (fun _ _ => rfl)) pd_int) (pdg_st (room1 hr) (pdv 5) (pd_ix (room1 hr) (pdv 4) pd_int (fun _ _ => rfl))))
    (pdss_one (pds_ret (pd_tup (pda_cons (pd_ix (room1 hr) (pdv 4) pd_int (fun _ _ => rfl)) (pda_cons (pd_callTy call_tupOk rfl g_tuple bt_tuple (pda_cons (pdv 5) pda_nil)) pda_nil)))))) pdss_nil)
    (pdss_cons (pds_if (pdt_cp (c_eq (room64 hr)) (pd_ix (room1 hr) (pdv 5) (pd_ix (room1 hr) (pdv 4) pd_int (fun _ _ => rfl)) (fun _ _ => rfl)) pd_int (nomark _)) (pdss_one (pds_ret (pd_tup (pda_cons (pd_ix (room1 hr) (pdv 4) pd_int (fun _ _ => rfl)) (pda_cons (pdv 3) pda_nil))))) pdss_nil)
    (pdss_cons (pds_asg (pd_sub (pd_ix (room1 hr) (pdv 5) (pd_ix (room1 hr) (pdv 4) pd_int (fun _ _ => rfl)) (fun _ _ => rfl)) pd_int) (pdg_st (room1 hr) (pdv 5) (pd_ix (room1 hr) (pdv 4) pd_int (fun _ _ => rfl))))
    (pdss_one (pds_ret (pd_tup (pda_cons (pd_ix (room1 hr) (pdv 4) pd_int (fun _ _ => rfl)) (pda_cons (pd_callTy call_tupOk rfl g_tuple bt_tuple (pda_cons (pdv 5) pda_nil)) pda_nil))))))))))))
theorem d_law_right {s_law_next : DSp} {s_next_state : DSp} {j_law_next : Nat} {j_next_state : Nat} (g_repr : mg "repr" = none) (g_range : mg "range" = none) (g_tuple : mg "tuple" = none) (g_isinstance : mg "isinstance" = none) (c_law_next : Cal P w K mg base "_law_next" ["_law_machine_here", "_law_state_here"] j_law_next s_law_next) (c_next_state : Cal P w K mg base "next_state" ["machine", "state"] j_next_state s_next_state) (hmod : ∃ o, base.get? sysModules = some o) {k : Nat} (k_0 : j_law_next ≤ k) (k_1 : j_next_state ≤ k) : DerG P w K mg base n_law_right "_law_right" st_law_right k (b_law_right s_law_next s_next_state) := by
  intro f cdv A outer s H E hgd hr
  have nd := (sc_law_right).nd
  exact (pdss_cons (pds_set (i := 2) nd rfl (by first | exact Or.inl rfl | exact Or.inr rfl) (pd_callB (call_reprOk hgd (room64 hr) hmod) rfl g_repr bt_repr (pda_cons (pd_tup (pda_cons (pdv 0) (pda_cons (pdv 1) pda_nil))) pda_nil)))
    (pdss_cons (pds_set (i := 3) nd rfl (by first | exact Or.inl rfl | exact Or.inr rfl) (pd_cal c_law_next (hr.mono (by omega)) rfl (pda_cons (pdv 0) (pda_cons (pdv 1) pda_nil))))
    (pdss_cons (pds_for PassesOwn.never rfl (pdi_range1 rfl g_range (pda_cons pd_int pda_nil)) (pdg_name (i := 4) nd rfl (by first | exact Or.inl rfl | exact Or.inr rfl)) (pdss_cons (pds_set (i := 5) nd rfl (by first | exact Or.inl rfl | exact Or.inr rfl) (pd_cal c_next_state (hr.mono (by omega)) rfl (pda_cons (pdv 0) (pda_cons (pdv 1) pda_nil))))
    (pdss_cons (pds_if (PW.pt (pdw_or (pdt_cp (c_ne (room64 hr)) (pdv 5) (pdv 3) (nomark _)) (pdw_or1 (pdt_cp (c_ne (room64 hr)) (pd_callB (call_reprOk hgd (room64 hr) hmod) rfl g_repr bt_repr (pda_cons (pd_tup (pda_cons (pdv 0) (pda_cons (pdv 1) pda_nil))) pda_nil)) (pdv 2) (nomark _))))) (pdss_one (pds_ret pd_bl)) pdss_nil)
    (pdss_one (pds_if (PW.pt (pdw_and (pdt_cp c_isnot (pdv 5) pd_non (nomark _)) (pdw_and1 (PW.pt (pdw_or (pdt_not (pdt_val (pd_callB call_isiOk rfl g_isinstance bt_isinstance (pda_cons (pdv 5) (pda_cons (pd_gty g_tuple rfl bt_tuple) pda_nil))))) (pdw_or1 (pdt_not (pdt_val (pd_callB call_isiOk rfl g_isinstance bt_isinstance (pda_cons (pd_ix (room1 hr) (pdv 5) pd_int (fun _ _ => rfl)) (pda_cons (pd_gty g_tuple rfl bt_tuple) pda_nil))))))))))) (pdss_one (pds_ret pd_bl)) pdss_nil)))))
    (pdss_one (pds_ret pd_bl)))))
theorem d_law {s_law_left : DSp} {s_law_machine : DSp} {s_law_state : DSp} {s_law_right : DSp} {s_law_next : DSp} {j_law_left : Nat} {j_law_machine : Nat} {j_law_state : Nat} {j_law_right : Nat} {j_law_next : Nat} (g_range : mg "range" = none) (g_sum : mg "sum" = none) (c_law_left : Cal P w K mg base "_law_left" ["_law_cell"] j_law_left s_law_left) (c_law_machine : Cal P w K mg base "_law_machine" ["_law_left_here"] j_law_machine s_law_machine) (c_law_state : Cal P w K mg base "_law_state" ["_law_left_here", "_law_machine_here", "_law_most"] j_law_state s_law_state) (c_law_right : CalG P w K mg base "_law_right" ["_law_machine_here", "_law_state_here"] j_law_right s_law_right) (c_law_next : Cal P w K mg base "_law_next" ["_law_machine_here", "_law_state_here"] j_law_next s_law_next) (hmod : ∃ o, base.get? sysModules = some o) {k : Nat} (k_0 : j_law_left ≤ k) (k_1 : j_law_machine ≤ k) (k_2 : j_law_state ≤ k) (k_3 : j_law_right ≤ k) (k_4 : j_law_next ≤ k) : DerG P w K mg base n_law "law" st_law k (b_law s_law_left s_law_machine s_law_state s_law_right s_law_next) := by
  intro f cdv A outer s H E hgd hr
  have nd := (sc_law).nd
  exact (pdss_cons (pds_for PassesOwn.never rfl (pdi_it (pd_add (pd_slice (pdv 0) pdo_none (pdo_some pd_int)) (pd_lst (pda_cons pd_int pda_nil)))) (pdg_name (i := 1) nd rfl (by first | exact Or.inl rfl | exact Or.inr rfl)) (pdss_cons (pds_set (i := 2) nd rfl (by first | exact Or.inl rfl | exact Or.inr rfl) (pd_cal c_law_left (hr.mono (by omega)) rfl (pda_cons (pdv 1) pda_nil)))
    (pdss_cons (pds_set (i := 3) nd rfl (by first | exact Or.inl rfl | exact Or.inr rfl) (pd_cal c_law_machine (hr.mono (by omega)) rfl (pda_cons (pdv 2) pda_nil)))
    (pdss_one (pds_for PassesOwn.never rfl (pdi_range1 rfl g_range (pda_cons pd_int pda_nil)) (pdg_name (i := 4) nd rfl (by first | exact Or.inl rfl | exact Or.inr rfl)) (pdss_cons (pds_set (i := 5) nd rfl (by first | exact Or.inl rfl | exact Or.inr rfl) (pd_cal c_law_state (hr.mono (by omega)) rfl (pda_cons (pdv 2) (pda_cons (pdv 3) (pda_cons pd_int pda_nil)))))
    (pdss_one (pds_for PassesOwn.never rfl (pdi_range1 rfl g_range (pda_cons pd_int pda_nil)) (pdg_name (i := 6) nd rfl (by first | exact Or.inl rfl | exact Or.inr rfl)) (pdss_one (pds_if (PW.pt (pdw_and (pdt_cp c_isnot (pdv 5) pd_non (nomark _)) (pdw_and1 (pdt_cp c_lt (pd_callB (call_sumOk rfl) rfl g_sum bt_sum (pda_cons (pd_ix (room1 hr) (pdv 5) pd_int (fun _ _ => rfl)) pda_nil)) pd_int (nomark _))))) (pdss_cons (pds_if (pdt_not (pdt_val (pd_calG c_law_right hgd (hr.mono (by omega)) rfl (pda_cons (pdv 3) (pda_cons (pdv 5) pda_nil))))) (pdss_one (pds_ret pd_bl)) pdss_nil)
    (pdss_one (pds_set (i := 5) nd rfl (by first | exact Or.inl rfl | exact Or.inr rfl) (pd_cal c_law_next (hr.mono (by omega)) rfl (pda_cons (pdv 3) (pda_cons (pdv 5) pda_nil)))))) pdss_nil))))))))))
    (pdss_one (pds_ret pd_bl)))
end
end K59

set_option Elab.async false
set_option linter.all false
set_option maxRecDepth 100000
set_option maxHeartbeats 0
namespace K59
open PySem PySem.Spec PyProof.Rows L2 D3

def dd_law_left : He.DefD := ⟨("_law_left", none), "_law_left", "_law_left", defArgs st_law_left, defBody st_law_left, defScope st_law_left, [], []⟩
def dd_law_digit : He.DefD := ⟨("_law_digit", none), "_law_digit", "_law_digit", defArgs st_law_digit, defBody st_law_digit, defScope st_law_digit, [], []⟩
def dd_law_machine : He.DefD := ⟨("_law_machine", none), "_law_machine", "_law_machine", defArgs st_law_machine, defBody st_law_machine, defScope st_law_machine, [], []⟩
def dd_law_state : He.DefD := ⟨("_law_state", none), "_law_state", "_law_state", defArgs st_law_state, defBody st_law_state, defScope st_law_state, [], []⟩
def dd_law_next : He.DefD := ⟨("_law_next", none), "_law_next", "_law_next", defArgs st_law_next, defBody st_law_next, defScope st_law_next, [], []⟩
def dd_changed : He.DefD := ⟨("changed", none), "changed", "changed", defArgs st_changed, defBody st_changed, defScope st_changed, [], []⟩
def dd_next_state : He.DefD := ⟨("next_state", none), "next_state", "next_state", defArgs st_next_state, defBody st_next_state, defScope st_next_state, [], []⟩
def dd_law_right : He.DefD := ⟨("_law_right", none), "_law_right", "_law_right", defArgs st_law_right, defBody st_law_right, defScope st_law_right, [], []⟩
def dd_law : He.DefD := ⟨("law", none), "law", "law", defArgs st_law, defBody st_law, defScope st_law, [], []⟩
def fn : List He.DefD := [dd_law_left, dd_law_digit, dd_law_machine, dd_law_state, dd_law_next, dd_changed, dd_next_state, dd_law_right, dd_law]
def fa : List He.Fa := [.glo "_law_left", .glo "_law_digit", .glo "_law_machine", .glo "_law_state", .glo "_law_next", .glo "changed", .glo "next_state", .glo "_law_right", .glo "law", .free "abs", .free "range", .free "tuple", .free "len", .free "list", .free "repr", .free "isinstance", .free "sum"]
abbrev R : PySem.W.OpenRow := PySem.W.OpenLaw.row PySem.Challenge.rw_walkrooms_k59_machines_gone_on
abbrev hk : PySem.W.Hook := He.hookD 4 fa fn
def ob (s : PySem.W.SharedT) : He.AlD := He.obsDG 4 fa fn (HandSHeadRun.getT s)
theorem ob_eq (s : PySem.W.SharedT) : ob s = hk.obs s.abs := He.obsDG_eq (HandSHeadRun.getT_eq s)
def others : List Str := ["changed", "next_state", "_law_left", "_law_digit", "_law_names", "_law_machine", "_law_state", "_law_next", "_law_right"]
theorem run (w : World) : HandSHeadRun.RunEq R (PySem.W.view R.prog [11]) hk ob 400 others w := by
  intro os
  kernel_rfl
theorem facts {P : Program} {w : World} {K : PySem.W.Frag} {h : Heap} {mg : Str → Option Value} {f : Addr} (X : K.In h) (G : h.Ns mainGlobals mg) (hfa : mg ("law" : Str) = some (.ref f)) (c : He.SaysD fa fn K) :
    ∃ fd : FuncData, (∀ (s : Shared) (v : Value), BindsTo s fd ⟨[v], []⟩ [("_law_script", v)]) ∧ ∀ base : Heap, K.In base → base.Ns mainGlobals mg → (∃ o, base.get? sysModules = some o) → FnG P w K mg base 4 f fd ["_law_script"] (upSp K sp_law) := by
  obtain ⟨fd_law_left, E_law_left⟩ := c.def_ 0 (d := dd_law_left) rfl
  have F_law_left : FnP K "_law_left" "_law_left" st_law_left (He.ga K "_law_left") fd_law_left := E_law_left
  obtain ⟨fd_law_digit, E_law_digit⟩ := c.def_ 1 (d := dd_law_digit) rfl
  have F_law_digit : FnP K "_law_digit" "_law_digit" st_law_digit (He.ga K "_law_digit") fd_law_digit := E_law_digit
  obtain ⟨fd_law_machine, E_law_machine⟩ := c.def_ 2 (d := dd_law_machine) rfl
  have F_law_machine : FnP K "_law_machine" "_law_machine" st_law_machine (He.ga K "_law_machine") fd_law_machine := E_law_machine
  obtain ⟨fd_law_state, E_law_state⟩ := c.def_ 3 (d := dd_law_state) rfl
  have F_law_state : FnP K "_law_state" "_law_state" st_law_state (He.ga K "_law_state") fd_law_state := E_law_state
  obtain ⟨fd_law_next, E_law_next⟩ := c.def_ 4 (d := dd_law_next) rfl
  have F_law_next : FnP K "_law_next" "_law_next" st_law_next (He.ga K "_law_next") fd_law_next := E_law_next
  obtain ⟨fd_changed, E_changed⟩ := c.def_ 5 (d := dd_changed) rfl
  have F_changed : FnP K "changed" "changed" st_changed (He.ga K "changed") fd_changed := E_changed
  obtain ⟨fd_next_state, E_next_state⟩ := c.def_ 6 (d := dd_next_state) rfl
  have F_next_state : FnP K "next_state" "next_state" st_next_state (He.ga K "next_state") fd_next_state := E_next_state
  obtain ⟨fd_law_right, E_law_right⟩ := c.def_ 7 (d := dd_law_right) rfl
  have F_law_right : FnP K "_law_right" "_law_right" st_law_right (He.ga K "_law_right") fd_law_right := E_law_right
  obtain ⟨fd_law, E_law⟩ := c.def_ 8 (d := dd_law) rfl
  have F_law : FnP K "law" "law" st_law (He.ga K "law") fd_law := E_law
  have a_law_left := He.glo_ok X G (c.fact 0 (f := .glo "_law_left") rfl)
  have a_law_digit := He.glo_ok X G (c.fact 1 (f := .glo "_law_digit") rfl)
  have a_law_machine := He.glo_ok X G (c.fact 2 (f := .glo "_law_machine") rfl)
  have a_law_state := He.glo_ok X G (c.fact 3 (f := .glo "_law_state") rfl)
  have a_law_next := He.glo_ok X G (c.fact 4 (f := .glo "_law_next") rfl)
  have a_changed := He.glo_ok X G (c.fact 5 (f := .glo "changed") rfl)
  have a_next_state := He.glo_ok X G (c.fact 6 (f := .glo "next_state") rfl)
  have a_law_right := He.glo_ok X G (c.fact 7 (f := .glo "_law_right") rfl)
  have g_abs := He.free_ok X G (c.fact 9 (f := .free "abs") rfl)
  have g_range := He.free_ok X G (c.fact 10 (f := .free "range") rfl)
  have g_tuple := He.free_ok X G (c.fact 11 (f := .free "tuple") rfl)
  have g_len := He.free_ok X G (c.fact 12 (f := .free "len") rfl)
  have g_list := He.free_ok X G (c.fact 13 (f := .free "list") rfl)
  have g_repr := He.free_ok X G (c.fact 14 (f := .free "repr") rfl)
  have g_isinstance := He.free_ok X G (c.fact 15 (f := .free "isinstance") rfl)
  have g_sum := He.free_ok X G (c.fact 16 (f := .free "sum") rfl)
  have e := hfa.symm.trans (He.glo_ok X G (c.fact 8 (f := .glo "law") rfl))
  cases e
  have bl := FunD.bindsA (ps := ["_law_script"]) F_law fun _ _ _ _ _ _ us hl => match us, hl with | [_], _ => rfl
  refine ⟨fd_law, fun s v => bl s [v] rfl, fun base _ _ hmod => ?_⟩
  · skip
    have c_law_left : Cal P w K mg base "_law_left" ["_law_cell"] 1 C.sp_law_left := cal_of F_law_left a_law_left sc_law_left (by intro ds G Q h; unfold C.sp_law_left at h; split at h <;> first | rfl | exact h.elim) (d_law_left g_abs g_range (k := 0)) C.p_law_left (FunD.bindsN F_law_left fun _ _ _ _ _ _ us hl => match us, hl with | [_], _ => rfl)
    have c_law_digit : Cal P w K mg base "_law_digit" ["_law_left_here", "_law_many"] 1 C.sp_law_digit := cal_of F_law_digit a_law_digit sc_law_digit (by intro ds G Q h; unfold C.sp_law_digit at h; split at h <;> first | rfl | exact h.elim) (d_law_digit  (k := 0)) C.p_law_digit (FunD.bindsN F_law_digit fun _ _ _ _ _ _ us hl => match us, hl with | [_, _], _ => rfl)
    have c_law_machine : Cal P w K mg base "_law_machine" ["_law_left_here"] 2 sp_law_machine := cal_of F_law_machine a_law_machine sc_law_machine (by intro ds G Q h; unfold sp_law_machine at h; split at h <;> first | rfl | exact h.elim) (d_law_machine g_range g_tuple c_law_digit (k := 1) (by decide)) p_law_machine (FunD.bindsN F_law_machine fun _ _ _ _ _ _ us hl => match us, hl with | [_], _ => rfl)
    have c_law_state : Cal P w K mg base "_law_state" ["_law_left_here", "_law_machine_here", "_law_most"] 2 sp_law_state := cal_of F_law_state a_law_state sc_law_state (by intro ds G Q h; unfold sp_law_state at h; split at h <;> first | rfl | exact h.elim) (d_law_state g_range g_len g_tuple c_law_digit (k := 1) (by decide)) p_law_state (FunD.bindsN F_law_state fun _ _ _ _ _ _ us hl => match us, hl with | [_, _, _], _ => rfl)
    have c_law_next : Cal P w K mg base "_law_next" ["_law_machine_here", "_law_state_here"] 1 sp_law_next := cal_of F_law_next a_law_next sc_law_next (by intro ds G Q h; unfold sp_law_next at h; split at h <;> first | rfl | exact h.elim) (d_law_next g_list g_tuple (k := 0)) p_law_next (FunD.bindsN F_law_next fun _ _ _ _ _ _ us hl => match us, hl with | [_, _], _ => rfl)
    have c_changed : Cal P w K mg base "changed" ["values", "counter", "more"] 1 sp_changed := cal_of F_changed a_changed sc_changed (by intro ds G Q h; unfold sp_changed at h; split at h <;> first | rfl | exact h.elim) (d_changed  (k := 0)) p_changed (FunD.bindsN F_changed fun _ _ _ _ _ _ us hl => match us, hl with | [_, _, _], _ => rfl)
    have c_next_state : Cal P w K mg base "next_state" ["machine", "state"] 2 sp_next_state := cal_of F_next_state a_next_state sc_next_state (by intro ds G Q h; unfold sp_next_state at h; split at h <;> first | rfl | exact h.elim) (d_next_state c_changed (k := 1) (by decide)) p_next_state (FunD.bindsN F_next_state fun _ _ _ _ _ _ us hl => match us, hl with | [_, _], _ => rfl)
    have c_law_right : CalG P w K mg base "_law_right" ["_law_machine_here", "_law_state_here"] 3 sp_law_right := calG_of F_law_right a_law_right sc_law_right (by intro ds G Q h; unfold sp_law_right at h; split at h <;> first | rfl | exact h.elim) (d_law_right g_repr g_range g_tuple g_isinstance c_law_next c_next_state hmod (k := 2) (by decide) (by decide)) p_law_right (FunD.bindsN F_law_right fun _ _ _ _ _ _ us hl => match us, hl with | [_, _], _ => rfl)
    exact okG F_law sc_law (by intro ds G Q h; unfold sp_law at h; split at h <;> first | rfl | exact h.elim) (d_law g_range g_sum c_law_left c_law_machine c_law_state c_law_right c_law_next hmod (k := 3) (by decide) (by decide) (by decide) (by decide) (by decide)) p_law
end K59
open PySem PySem.W PySem.Calls PyProof.Rows
theorem PySem.Challenge.cw_walkrooms_k59_machines_gone_on_holds : PySem.Challenge.rw_walkrooms_k59_machines_gone_on.Holds := by
  w_on; o_law
  refine HandSHeadRun.head_any (r := OpenLaw.row PySem.Challenge.rw_walkrooms_k59_machines_gone_on) (q := view (OpenLaw.row PySem.Challenge.rw_walkrooms_k59_machines_gone_on).prog [11]) (H := K59.hk) (ob := K59.ob) (M := 400) (loose := K59.others) (d := HandSHeadRun.topDef (OpenLaw.row PySem.Challenge.rw_walkrooms_k59_machines_gone_on).prog 11) (kwd := []) K59.ob_eq
    (by kernel_rfl) (fun s => by kernel_rfl) K59.run (by kernel_rfl) (by kernel_rfl) (by kernel_rfl) (by rfl) (by first | assumption | decide +kernel) (by decide +kernel) ⟨rfl, rfl, rfl, rfl, rfl, by decide +kernel⟩ ?hw ?hc
  case hw => w_witness2
  case hc =>
    refine D3.walk_goG (l := PySem.Challenge.rw_walkrooms_k59_machines_gone_on) (n := 63) (k := 4) (x := "_law_script") rfl (by decide) (by kernel_rfl) ⟨rfl, by decide, by decide⟩ (by kernel_rfl) ?F
    intro w mg fa h Y G hmg0
    obtain ⟨K, KX, c⟩ := Y
    have hmg : mg ("law" : PySem.Str) = some (.ref fa) := by
      have e : (HandSHeadRun.topDef (OpenLaw.row PySem.Challenge.rw_walkrooms_k59_machines_gone_on).prog 11).name = ("law" : PySem.Str) := by kernel_rfl
      rw [← e]
      exact hmg0
    obtain ⟨fd, hb, hF⟩ := K59.facts (P := (PySem.Challenge.rw_walkrooms_k59_machines_gone_on).prog) (w := w) KX G hmg c
    exact ⟨K, fd, D3.upSp K K59.sp_law, KX, hb, fun H a ns hl hO hS => D3.law_in K59.law_len hl hO hS, hF⟩

