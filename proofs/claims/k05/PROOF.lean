import PyProof.Rows.All
import Wide.All
import OpenK.AllK
import Wide.FinOn
import HandS.ForMost
import HandS.Wide
import HandS.Flow
import HandS.AnyAll
import HandS.IsInst
import HandS.Conv
import HandS.Deep
import HandS.WideBits
import HandS.Zip
import PyProof.StrLawsIn
import PySem.Challenge.RW_slicewise_k05_shapes
set_option Elab.async false
set_option linter.all false
set_option maxHeartbeats 4000000
set_option maxRecDepth 100000
namespace VL
open PySem PySem.Spec PyProof.Rows L2

/-! ### data -/
inductive D where
  | non | bl (b : Bool) | int (i : Int) | str (x : Str)
  | tup (xs : List D) | lst (xs : List D) | scr (ns : List Int)
inductive W where
  | d (x : D) | loc (k : Nat) | tup (ws : List W) | ty (n : String) | raw (a : Addr)
inductive C where
  | lst (xs : List D) | lstW (ws : List W) | ins (c : Addr) (fs : List (Str × W)) | dk (kvs : List (Key × D)) | dt (kvs : List (List Key × D))
abbrev Sto := List C
abbrev Ev := List (Option W)

/-! ### pairs of lists -/
section
variable {A1 B1 : Type} {R S : A1 → B1 → Prop}
theorem pGetL : ∀ {xs : List A1} {ys : List B1}, Paired R xs ys → ∀ {i : Nat} {x : A1}, xs[i]? = some x → ∃ y, ys[i]? = some y ∧ R x y
  | _, _, .nil, i, x, e => by simp at e
  | _, _, .cons r t, 0, x, e => by simp at e; subst e; exact ⟨_, rfl, r⟩
  | _, _, .cons r t, i + 1, x, e => by
    obtain ⟨y, h1, h2⟩ := pGetL t (i := i) (x := x) (by simpa using e)
    exact ⟨y, by simpa using h1, h2⟩
theorem pGetR : ∀ {xs : List A1} {ys : List B1}, Paired R xs ys → ∀ {i : Nat} {y : B1}, ys[i]? = some y → ∃ x, xs[i]? = some x ∧ R x y
  | _, _, .nil, i, x, e => by simp at e
  | _, _, .cons r t, 0, x, e => by simp at e; subst e; exact ⟨_, rfl, r⟩
  | _, _, .cons r t, i + 1, x, e => by
    obtain ⟨y, h1, h2⟩ := pGetR t (i := i) (y := x) (by simpa using e)
    exact ⟨y, by simpa using h1, h2⟩
theorem pApp : ∀ {xs xs' : List A1} {ys ys' : List B1}, Paired R xs ys → Paired R xs' ys' → Paired R (xs ++ xs') (ys ++ ys')
  | _, _, _, _, .nil, h => h
  | _, _, _, _, .cons r t, h => .cons r (pApp t h)
theorem pOne {x : A1} {y : B1} (h : R x y) : Paired R [x] [y] := .cons h .nil
theorem pSet {x : A1} {y : B1} (h : R x y) : ∀ {xs : List A1} {ys : List B1} (i : Nat), Paired R xs ys → Paired R (xs.set i x) (ys.set i y)
  | _, _, _, .nil => .nil
  | _, _, 0, .cons _ t => .cons h t
  | _, _, i + 1, .cons q t => .cons q (pSet h i t)
theorem pTake : ∀ {xs : List A1} {ys : List B1} (n : Nat), Paired R xs ys → Paired R (xs.take n) (ys.take n)
  | _, _, 0, _ => by simp; exact .nil
  | _, _, _ + 1, .nil => .nil
  | _, _, n + 1, .cons r t => .cons r (pTake n t)
theorem pDrop : ∀ {xs : List A1} {ys : List B1} (n : Nat), Paired R xs ys → Paired R (xs.drop n) (ys.drop n)
  | _, _, 0, r => r
  | _, _, _ + 1, .nil => .nil
  | _, _, n + 1, .cons _ t => pDrop n t
theorem pRev : ∀ {xs : List A1} {ys : List B1}, Paired R xs ys → Paired R xs.reverse ys.reverse
  | _, _, .nil => .nil
  | _, _, .cons r t => by rw [List.reverse_cons, List.reverse_cons]; exact pApp (pRev t) (pOne r)
theorem pDropLast {xs : List A1} {ys : List B1} (h : Paired R xs ys) : Paired R xs.dropLast ys.dropLast := by
  rw [List.dropLast_eq_take, List.dropLast_eq_take, ← Paired.length h]
  exact pTake _ h
theorem pErase : ∀ {xs : List A1} {ys : List B1} (i : Nat), Paired R xs ys → Paired R (xs.eraseIdx i) (ys.eraseIdx i)
  | _, _, _, .nil => .nil
  | _, _, 0, .cons _ t => t
  | _, _, i + 1, .cons q t => .cons q (pErase i t)
theorem pRep {xs : List A1} {ys : List B1} (h : Paired R xs ys) : ∀ k : Nat, Paired R (List.replicate k xs).flatten (List.replicate k ys).flatten
  | 0 => .nil
  | k + 1 => by
    rw [List.replicate_succ, List.replicate_succ, List.flatten_cons, List.flatten_cons]
    exact pApp h (pRep h k)
theorem pCut {xs : List A1} {ys : List B1} (h : Paired R xs ys) (i j : Nat) : Paired R ((xs.drop i).take j) ((ys.drop i).take j) := pTake j (pDrop i h)
end

/-! ### how data lie in the heap -/
def StrOk (x : Str) : Prop := PyData.strOk x = true ∧ x.length ≤ sizeLine
mutual
inductive RepD (K : PySem.W.Frag) (F : Hp) : D → V → Prop
  | non : RepD K F .non .non
  | bl (b : Bool) : RepD K F (.bl b) (.bl b)
  | int (i : Int) : RepD K F (.int i) (.int i)
  | str (x : Str) : StrOk x → RepD K F (.str x) (.str x)
  | tup {xs : List D} {vs : List V} {a : Addr} : SqT K F a vs → vs.length ≤ sizeLine → RepDs K F xs vs → RepD K F (.tup xs) (.ref a)
  | lst {xs : List D} {vs : List V} {a : Addr} : Rd F a (.lst vs) → vs.length ≤ sizeLine → RepDs K F xs vs → RepD K F (.lst xs) (.ref a)
  | scr {ns : List Int} {a : Addr} : SqL K F a (ns.map V.int) → ns.length ≤ sizeLine → RepD K F (.scr ns) (.ref a)
inductive RepDs (K : PySem.W.Frag) (F : Hp) : List D → List V → Prop
  | nil : RepDs K F [] []
  | cons {x : D} {v : V} {xs : List D} {vs : List V} : RepD K F x v → RepDs K F xs vs → RepDs K F (x :: xs) (v :: vs)
end
mutual
inductive RepW (K : PySem.W.Frag) (F : Hp) (al : List Addr) : W → V → Prop
  | d {x : D} {v : V} : RepD K F x v → RepW K F al (.d x) v
  | loc {k : Nat} {a : Addr} : al[k]? = some a → RepW K F al (.loc k) (.ref a)
  | ty (n : String) : RepW K F al (.ty n) (.ty n)
  | raw (a : Addr) : RepW K F al (.raw a) (.ref a)
  | tup {ws : List W} {vs : List V} {a : Addr} : SqT K F a vs → vs.length ≤ sizeLine → RepWs K F al ws vs → RepW K F al (.tup ws) (.ref a)
inductive RepWs (K : PySem.W.Frag) (F : Hp) (al : List Addr) : List W → List V → Prop
  | nil : RepWs K F al [] []
  | cons {x : W} {v : V} {xs : List W} {vs : List V} : RepW K F al x v → RepWs K F al xs vs → RepWs K F al (x :: xs) (v :: vs)
end
section
variable {K : PySem.W.Frag} {F F' H H' G B : Hp} {al al' : List Addr} {mu mu' : Sto}
theorem RepDs.p : ∀ {xs : List D} {vs : List V}, RepDs K F xs vs → Paired (RepD K F) xs vs
  | [], _, .nil => .nil
  | _ :: _, _, .cons r t => .cons r (RepDs.p t)
theorem RepDs.of : ∀ {xs : List D} {vs : List V}, Paired (RepD K F) xs vs → RepDs K F xs vs
  | [], _, .nil => .nil
  | _ :: _, _, .cons r t => .cons r (RepDs.of t)
theorem RepWs.p : ∀ {xs : List W} {vs : List V}, RepWs K F al xs vs → Paired (RepW K F al) xs vs
  | [], _, .nil => .nil
  | _ :: _, _, .cons r t => .cons r (RepWs.p t)
theorem RepWs.of : ∀ {xs : List W} {vs : List V}, Paired (RepW K F al) xs vs → RepWs K F al xs vs
  | [], _, .nil => .nil
  | _ :: _, _, .cons r t => .cons r (RepWs.of t)
theorem rdMono {o : HO} {a : Addr} (h : Same F F') (r : Rd F a o) : Rd F' a o := by
  rcases r with r | ⟨u, r⟩
  · exact .inl (h _ _ r)
  · exact .inr ⟨u, h _ _ r⟩
theorem sqtMono {a : Addr} {vs : List V} (h : Same F F') (r : SqT K F a vs) : SqT K F' a vs := by
  rcases r with r | r
  · exact .inl (rdMono h r)
  · exact .inr r
theorem sqlMono {a : Addr} {vs : List V} (h : Same F F') (r : SqL K F a vs) : SqL K F' a vs := by
  rcases r with r | r
  · exact .inl (rdMono h r)
  · exact .inr r
mutual
theorem RepD.mono (h : Same F F') : ∀ {d : D} {v : V}, RepD K F d v → RepD K F' d v
  | _, _, .non => .non
  | _, _, .bl b => .bl b
  | _, _, .int i => .int i
  | _, _, .str x q => .str x q
  | _, _, .tup s z r => .tup (sqtMono h s) z (RepDs.mono h r)
  | _, _, .lst s z r => .lst (rdMono h s) z (RepDs.mono h r)
  | _, _, .scr s z => .scr (sqlMono h s) z
theorem RepDs.mono (h : Same F F') : ∀ {d : List D} {v : List V}, RepDs K F d v → RepDs K F' d v
  | _, _, .nil => .nil
  | _, _, .cons r t => .cons (RepD.mono h r) (RepDs.mono h t)
end
/-- the frozen part grows, new locations come behind -/
def Ext (F : Hp) (al : List Addr) (F' : Hp) (al' : List Addr) : Prop := Same F F' ∧ ∃ be, al' = al ++ be
theorem Ext.refl (F : Hp) (al : List Addr) : Ext F al F al := ⟨Same.refl F, [], by simp⟩
theorem Ext.trans {F1 F2 F3 : Hp} {a1 a2 a3 : List Addr} (h : Ext F1 a1 F2 a2) (g : Ext F2 a2 F3 a3) : Ext F1 a1 F3 a3 := by
  obtain ⟨s, b, rfl⟩ := h
  obtain ⟨s', b', rfl⟩ := g
  exact ⟨s.trans s', b ++ b', by simp⟩
theorem Ext.at {k : Nat} {a : Addr} (h : Ext F al F' al') (e : al[k]? = some a) : al'[k]? = some a := by
  obtain ⟨_, b, rfl⟩ := h
  rw [List.getElem?_append_left (by
    have := (List.getElem?_eq_some_iff.mp e).1
    exact this)]
  exact e
mutual
theorem RepW.mono (h : Ext F al F' al') : ∀ {d : W} {v : V}, RepW K F al d v → RepW K F' al' d v
  | _, _, .d r => .d (r.mono h.1)
  | _, _, .loc e => .loc (h.at e)
  | _, _, .ty n => .ty n
  | _, _, .raw a => .raw a
  | _, _, .tup s z r => .tup (sqtMono h.1 s) z (RepWs.mono h r)
theorem RepWs.mono (h : Ext F al F' al') : ∀ {d : List W} {v : List V}, RepWs K F al d v → RepWs K F' al' d v
  | _, _, .nil => .nil
  | _, _, .cons r t => .cons (RepW.mono h r) (RepWs.mono h t)
end

def tupO : HO → Bool
  | .tup _ => true
  | .frz _ (.tup _) => true
  | _ => false
/-- what a container is, at its address -/
inductive CRep (K : PySem.W.Frag) (F : Hp) (al : List Addr) : C → HO → Prop
  | lst {xs : List D} {vs : List V} : vs.length ≤ sizeLine → Paired (RepD K F) xs vs → CRep K F al (.lst xs) (.lst vs)
  | lstW {ws : List W} {vs : List V} : vs.length ≤ sizeLine → Paired (RepW K F al) ws vs → CRep K F al (.lstW ws) (.lst vs)
  | ins {c dx : Addr} {fs : List (Str × W)} {gs : List (Str × V)} : Paired (fun p q => p.1 = q.1 ∧ RepW K F al p.2 q.2) fs gs → CRep K F al (.ins c fs) (.ins c dx gs)
  | dk {kvs : List (Key × D)} {gs : List (Key × V)} : Paired (fun p q => p.1 = q.1 ∧ RepD K F p.2 q.2) kvs gs → (∀ k ∈ kvs, ∀ x, k.1 = .inr x → StrOk x) → CRep K F al (.dk kvs) (.dK gs)
  | dt {kvs : List (List Key × D)} {gs : List (List Key × V)} : Paired (fun p q => p.1 = q.1 ∧ RepD K F p.2 q.2) kvs gs → (∀ k ∈ kvs, ∀ x, Sum.inr x ∈ k.1 → StrOk x) → CRep K F al (.dt kvs) (.dT gs)
theorem CRep.mono (h : Ext F al F' al') {c : C} {o : HO} (r : CRep K F al c o) : CRep K F' al' c o := by
  cases r with
  | lst z r => exact .lst z (Paired.mapP r fun _ _ q => q.mono h.1)
  | lstW z r => exact .lstW z (Paired.mapP r fun _ _ q => q.mono h)
  | ins r => exact .ins (Paired.mapP r fun _ _ q => ⟨q.1, q.2.mono h⟩)
  | dk r q => exact .dk (Paired.mapP r fun _ _ q => ⟨q.1, q.2.mono h.1⟩) q
  | dt r q => exact .dt (Paired.mapP r fun _ _ q => ⟨q.1, q.2.mono h.1⟩) q
/-- a container's object may be written -/
theorem CRep.notTup {c : C} {o : HO} (r : CRep K F al c o) : tupO o = false := by cases r <;> rfl

/-- the state: G what was frozen at the start, B what must stay, F what is frozen, H the heap, al the addresses of the containers mu -/
structure SRS (K : PySem.W.Frag) (G B F H : Hp) (al : List Addr) (mu : Sto) : Prop where
  fz : Same F H
  bs : Same B H
  gf : Same G F
  fr : ∀ a o, F a = some o → G a = some o ∨ B a = none ∨ tupO o = true
  nd : al.Nodup
  len : al.length = mu.length
  st : ∀ (k : Nat) (c : C), mu[k]? = some c → ∃ a o, al[k]? = some a ∧ F a = none ∧ B a = none ∧ H a = some o ∧ CRep K F al c o
theorem SRS.at {k : Nat} {c : C} {a : Addr} (s : SRS K G B F H al mu) (e : mu[k]? = some c) (ea : al[k]? = some a) : ∃ o, F a = none ∧ B a = none ∧ H a = some o ∧ CRep K F al c o := by
  obtain ⟨a', o, e1, e2, e3, e4, e5⟩ := s.st k c e
  rw [ea] at e1; cases e1
  exact ⟨o, e2, e3, e4, e5⟩
theorem SRS.has {k : Nat} {a : Addr} (s : SRS K G B F H al mu) (ea : al[k]? = some a) : ∃ c, mu[k]? = some c := by
  have h1 := (List.getElem?_eq_some_iff.mp ea).1
  rw [s.len] at h1
  exact ⟨mu[k], by simp [h1]⟩
theorem sameN {H : Hp} {p : Addr} {o : HO} (h : H p = none) : Same H (upd H p o) := fun b u e => by
  rw [upd_ne (ne_of_none e h)]; exact e
theorem sameU {p : Addr} {o : HO} (h : Same F H) : Same (upd F p o) (upd H p o) := fun b u e => by
  by_cases q : b = p
  · subst q; rw [upd_same] at e ⊢; exact e
  · rw [upd_ne q] at e ⊢; exact h _ _ e
theorem sameNone {a : Addr} (h : Same F H) (e : H a = none) : F a = none := by
  cases q : F a with
  | none => rfl
  | some o => rw [h _ _ q] at e; cases e
/-- a new frozen object -/
theorem SRS.froz {p : Addr} {o : HO} (s : SRS K G B F H al mu) (hp : H p = none) : SRS K G B (upd F p o) (upd H p o) al mu where
  fz := sameU s.fz
  bs := s.bs.trans (sameN hp)
  gf := s.gf.trans (sameN (sameNone s.fz hp))
  fr := fun a u e => by
    by_cases q : a = p
    · subst q; exact .inr (.inl (sameNone s.bs hp))
    · rw [upd_ne q] at e; exact s.fr a u e
  nd := s.nd
  len := s.len
  st := fun k c e => by
    obtain ⟨a, u, e1, e2, e3, e4, e5⟩ := s.st k c e
    have ne : a ≠ p := ne_of_none e4 hp
    exact ⟨a, u, e1, by rw [upd_ne ne]; exact e2, e3, by rw [upd_ne ne]; exact e4, e5.mono ⟨sameN (sameNone s.fz hp), [], by simp⟩⟩
theorem SRS.frozX {p : Addr} {o : HO} (s : SRS K G B F H al mu) (hp : H p = none) : Ext F al (upd F p o) al := ⟨sameN (sameNone s.fz hp), [], by simp⟩
/-- a new container -/
theorem SRS.own {p : Addr} {o : HO} {c : C} (s : SRS K G B F H al mu) (hp : H p = none) (r : CRep K F al c o) : SRS K G B F (upd H p o) (al ++ [p]) (mu ++ [c]) where
  fz := s.fz.trans (sameN hp)
  bs := s.bs.trans (sameN hp)
  gf := s.gf
  fr := s.fr
  nd := by
    refine List.nodup_append.mpr ⟨s.nd, by simp, fun a ha b hb e => ?_⟩
    subst e
    have e : a = p := by simpa using hb
    subst e
    obtain ⟨k, hk⟩ := List.mem_iff_getElem?.mp ha
    obtain ⟨c, hc⟩ := s.has hk
    obtain ⟨u, _, _, q, _⟩ := s.at hc hk
    rw [hp] at q; cases q
  len := by simp [s.len]
  st := fun k c' e => by
    by_cases hk : k < mu.length
    · rw [List.getElem?_append_left hk] at e
      obtain ⟨a, u, e1, e2, e3, e4, e5⟩ := s.st k c' e
      exact ⟨a, u, by rw [List.getElem?_append_left (by rw [s.len]; exact hk)]; exact e1, e2, e3, by rw [upd_ne (ne_of_none e4 hp)]; exact e4, e5.mono ⟨Same.refl F, [p], rfl⟩⟩
    · rw [List.getElem?_append_right (by omega)] at e
      have hz : k - mu.length = 0 := by
        have := (List.getElem?_eq_some_iff.mp e).1
        simp at this; omega
      rw [hz] at e
      have e' : c = c' := by simpa using e
      subst e'
      exact ⟨p, o, by rw [List.getElem?_append_right (by rw [s.len]; omega), s.len, hz]; rfl, sameNone s.fz hp, sameNone s.bs hp, upd_same, r.mono ⟨Same.refl F, [p], rfl⟩⟩
theorem SRS.ownX {p : Addr} : Ext F al F (al ++ [p]) := ⟨Same.refl F, [p], rfl⟩
theorem SRS.atNew {p : Addr} (s : SRS K G B F H al mu) : (al ++ [p])[mu.length]? = some p := by
  rw [List.getElem?_append_right (by rw [s.len]; omega), s.len]; simp
theorem nodup_ixs {l : List Addr} (h : l.Nodup) {i j : Nat} {a : Addr} (e1 : l[i]? = some a) (e2 : l[j]? = some a) : i = j := by
  obtain ⟨h1, q1⟩ := List.getElem?_eq_some_iff.mp e1
  obtain ⟨h2, q2⟩ := List.getElem?_eq_some_iff.mp e2
  rcases Nat.lt_trichotomy i j with q | q | q
  · exact absurd (q1.trans q2.symm) ((List.pairwise_iff_getElem.mp h) i j h1 h2 q)
  · exact q
  · exact absurd (q2.trans q1.symm) ((List.pairwise_iff_getElem.mp h) j i h2 h1 q)
/-- a container written -/
theorem SRS.put {k : Nat} {a : Addr} {o : HO} {c : C} (s : SRS K G B F H al mu) (ea : al[k]? = some a) (r : CRep K F al c o) : SRS K G B F (upd H a o) al (mu.set k c) where
  fz := fun b u e => by
    obtain ⟨c0, hc⟩ := s.has ea
    obtain ⟨_, q, _, _, _⟩ := s.at hc ea
    rw [upd_ne (ne_of_none e q)]; exact s.fz _ _ e
  bs := fun b u e => by
    obtain ⟨c0, hc⟩ := s.has ea
    obtain ⟨_, _, q, _, _⟩ := s.at hc ea
    rw [upd_ne (ne_of_none e q)]; exact s.bs _ _ e
  gf := s.gf
  fr := s.fr
  nd := s.nd
  len := by simp [s.len]
  st := fun j c' e => by
    by_cases hj : j = k
    · subst hj
      obtain ⟨c0, hc⟩ := s.has ea
      have hl := (List.getElem?_eq_some_iff.mp hc).1
      rw [List.getElem?_set_self hl] at e
      cases e
      obtain ⟨_, q1, q2, _, _⟩ := s.at hc ea
      exact ⟨a, o, ea, q1, q2, upd_same, r⟩
    · rw [List.getElem?_set_ne (Ne.symm hj)] at e
      obtain ⟨b, u, e1, e2, e3, e4, e5⟩ := s.st j c' e
      have ne : b ≠ a := fun q => hj (nodup_ixs s.nd e1 (q ▸ ea))
      exact ⟨b, u, e1, e2, e3, by rw [upd_ne ne]; exact e4, e5⟩

/-- with the names -/
structure SR (K : PySem.W.Frag) (G B F H : Hp) (al : List Addr) (rh : Ev) (si : L2.St) (mu : Sto) : Prop where
  s : SRS K G B F H al mu
  ln : rh.length = si.length
  env : ∀ (i : Nat) (w : W), rh[i]? = some (some w) → ∃ v, si[i]? = some (some v) ∧ RepW K F al w v
theorem SR.step {rh : Ev} {si : L2.St} (r : SR K G B F H al rh si mu) (x : Ext F al F' al') (s : SRS K G B F' H' al' mu') : SR K G B F' H' al' rh si mu' :=
  ⟨s, r.ln, fun i w e => by
    obtain ⟨v, e1, e2⟩ := r.env i w e
    exact ⟨v, e1, e2.mono x⟩⟩
theorem SR.set {rh : Ev} {si : L2.St} {i : Nat} {w : W} {v : V} (r : SR K G B F H al rh si mu) (h : RepW K F al w v) : SR K G B F H al (rh.set i (some w)) (si.set i (some v)) mu :=
  ⟨r.s, by simp [r.ln], fun j u e => by
    by_cases hj : j = i
    · subst hj
      by_cases hl : j < rh.length
      · rw [List.getElem?_set_self hl] at e
        cases e
        exact ⟨v, by rw [List.getElem?_set_self (by rw [← r.ln]; exact hl)], h⟩
      · rw [List.getElem?_eq_none (by simpa using hl)] at e; cases e
    · rw [List.getElem?_set_ne (Ne.symm hj)] at e ⊢
      exact r.env j u e⟩
@[simp] def wipeE (rh : Ev) : List Nat → Ev
  | [] => rh
  | v :: vs => (wipeE rh vs).set v none
theorem SR.wipe {rh : Ev} {si : L2.St} (r : SR K G B F H al rh si mu) : ∀ vs : List Nat, SR K G B F H al (wipeE rh vs) (wipe si vs) mu
  | [] => r
  | x :: vs => by
    have q := SR.wipe r vs
    refine ⟨q.s, by unfold wipeE L2.wipe; simp [q.ln], fun j u e => ?_⟩
    unfold wipeE at e
    unfold L2.wipe
    by_cases hj : j = x
    · subst hj
      by_cases hl : j < (wipeE rh vs).length
      · rw [List.getElem?_set_self hl] at e; cases e
      · rw [List.getElem?_eq_none (by simpa using hl)] at e; cases e
    · rw [List.getElem?_set_ne (Ne.symm hj)] at e ⊢
      exact q.env j u e
end

/-! ### the judgements -/
abbrev WE := Ev → Sto → (W → Sto → Prop) → Prop
abbrev WT := Ev → Sto → (Bool → Sto → Prop) → Prop
abbrev WA := Ev → Sto → (List W → Sto → Prop) → Prop
structure EV where
  nx : Ev → Sto → Prop
  rt : W → Sto → Prop
  bk : Ev → Sto → Prop := fun _ _ => False
  ct : Ev → Sto → Prop := fun _ _ => False
abbrev WS := EV → Ev → Sto → Prop
def Den (K : PySem.W.Frag) (t : TE) (f : WE) : Prop := ∀ (G B F H : Hp) (al : List Addr) (rh : Ev) (si : L2.St) (mu : Sto) (Qd : W → Sto → Prop) (Q : VK), SR K G B F H al rh si mu → f rh mu Qd →
  (∀ F' H' al' mu' w v, Ext F al F' al' → SR K G B F' H' al' rh si mu' → RepW K F' al' w v → Qd w mu' → Q v H') → t si H Q
def DenT (K : PySem.W.Frag) (t : TT) (f : WT) : Prop := ∀ (G B F H : Hp) (al : List Addr) (rh : Ev) (si : L2.St) (mu : Sto) (Qd : Bool → Sto → Prop) (Q : Bool → Hp → Prop), SR K G B F H al rh si mu → f rh mu Qd →
  (∀ F' H' al' mu' b, Ext F al F' al' → SR K G B F' H' al' rh si mu' → Qd b mu' → Q b H') → t si H Q
def DenA (K : PySem.W.Frag) (t : TA) (f : WA) : Prop := ∀ (G B F H : Hp) (al : List Addr) (rh : Ev) (si : L2.St) (mu : Sto) (Qd : List W → Sto → Prop) (Q : List V → Hp → Prop), SR K G B F H al rh si mu → f rh mu Qd →
  (∀ F' H' al' mu' ws vs, Ext F al F' al' → SR K G B F' H' al' rh si mu' → Paired (RepW K F' al') ws vs → Qd ws mu' → Q vs H') → t si H Q
/-- what stands behind a statement -/
structure Beh (K : PySem.W.Frag) (G B F : Hp) (al : List Addr) (V1 : EV) (D1 : Ends) : Prop where
  nx : ∀ F' H' al' rh si mu, Ext F al F' al' → SR K G B F' H' al' rh si mu → V1.nx rh mu → D1.nx si H'
  rt : ∀ F' H' al' mu w v, Ext F al F' al' → SRS K G B F' H' al' mu → RepW K F' al' w v → V1.rt w mu → D1.rt v H'
  bk : ∀ F' H' al' rh si mu, Ext F al F' al' → SR K G B F' H' al' rh si mu → V1.bk rh mu → D1.bk si H'
  ct : ∀ F' H' al' rh si mu, Ext F al F' al' → SR K G B F' H' al' rh si mu → V1.ct rh mu → D1.ct si H'
theorem Beh.mono {K : PySem.W.Frag} {G B F F' : Hp} {al al' : List Addr} {V1 : EV} {D1 : Ends} (b : Beh K G B F al V1 D1) (x : Ext F al F' al') : Beh K G B F' al' V1 D1 :=
  ⟨fun _ _ _ _ _ _ y => b.nx _ _ _ _ _ _ (x.trans y), fun _ _ _ _ _ _ y => b.rt _ _ _ _ _ _ (x.trans y), fun _ _ _ _ _ _ y => b.bk _ _ _ _ _ _ (x.trans y), fun _ _ _ _ _ _ y => b.ct _ _ _ _ _ _ (x.trans y)⟩
def DenS (K : PySem.W.Frag) (t : TS) (f : WS) : Prop := ∀ (G B F H : Hp) (al : List Addr) (rh : Ev) (si : L2.St) (mu : Sto) (V1 : EV) (D1 : Ends), SR K G B F H al rh si mu → f V1 rh mu → Beh K G B F al V1 D1 → t D1 si H
end VL
namespace VL
open PySem PySem.Spec PyProof.Rows L2

/-! ### a family of contexts -/
structure YOk {io : Type} (Y : io → Cx) (P : Program) (w : World) (K : PySem.W.Frag) (mg : Str → Option Value) (base : Heap) (N : List Str) (k : Nat) : Prop where
  hP : ∀ i, (Y i).prog = P
  hw : ∀ i, (Y i).w = w
  hK : ∀ i, (Y i).K = K
  hmg : ∀ i, (Y i).mg = mg
  hbase : ∀ i, (Y i).base = base
  hN : ∀ i, (Y i).N = N
  nd : N.Nodup
  calm : ∀ i, (Y i).calm = true
  room : ∀ i, Room k (Y i).A
def VE {io : Type} (Y : io → Cx) (K : PySem.W.Frag) (e : Expr) (f : WE) : Prop := ∃ t, (∀ i, PE (Y i) e t) ∧ Den K t f
def VT {io : Type} (Y : io → Cx) (K : PySem.W.Frag) (e : Expr) (f : WT) : Prop := ∃ t, (∀ i, PT (Y i) e t) ∧ DenT K t f
def VW {io : Type} (Y : io → Cx) (K : PySem.W.Frag) (e : Expr) (f : WT) : Prop := ∃ t, (∀ i, PW (Y i) e t) ∧ DenT K t f
def VA {io : Type} (Y : io → Cx) (K : PySem.W.Frag) (es : List Expr) (f : WA) : Prop := ∃ t, (∀ i, PA (Y i) es t) ∧ DenA K t f

/-! ### plain data from a value, snapshots -/
mutual
@[simp] def asD : W → Option D
  | .d x => some x
  | .tup ws => (asDs ws).map .tup
  | _ => none
@[simp] def asDs : List W → Option (List D)
  | [] => some []
  | w :: ws => match asD w, asDs ws with
    | some x, some xs => some (x :: xs)
    | _, _ => none
end
mutual
@[simp] def snap (mu : Sto) : W → Option D
  | .d x => some x
  | .tup ws => (snaps mu ws).map .tup
  | .loc k => match mu[k]? with
    | some (.lst xs) => some (.lst xs)
    | some (.lstW ws) => (asDs ws).map .lst
    | _ => none
  | _ => none
@[simp] def snaps (mu : Sto) : List W → Option (List D)
  | [] => some []
  | w :: ws => match snap mu w, snaps mu ws with
    | some x, some xs => some (x :: xs)
    | _, _ => none
end
@[simp] def mkTup (ws : List W) : W := match asDs ws with
  | some xs => .d (.tup xs)
  | none => .tup ws
section
variable {K : PySem.W.Frag} {G B F F' H H' : Hp} {al al' : List Addr} {mu mu' : Sto}
theorem RepDs.len {xs : List D} {vs : List V} (h : RepDs K F xs vs) : xs.length = vs.length := Paired.length h.p
mutual
theorem asD_rep : ∀ {w : W} {v : V} {x : D}, RepW K F al w v → asD w = some x → RepD K F x v
  | .d x, _, _, .d r, e => by cases e; exact r
  | .tup ws, _, _, .tup s z r, e => by
    unfold asD at e
    cases q : asDs ws with
    | none => rw [q] at e; cases e
    | some xs => rw [q] at e; cases e; exact .tup s z (asDs_rep r q)
  | .loc _, _, _, _, e => by cases e
  | .ty _, _, _, _, e => by cases e
  | .raw _, _, _, _, e => by cases e
theorem asDs_rep : ∀ {ws : List W} {vs : List V} {xs : List D}, RepWs K F al ws vs → asDs ws = some xs → RepDs K F xs vs
  | [], _, _, .nil, e => by cases e; exact .nil
  | w :: ws, _, _, .cons r t, e => by
    unfold asDs at e
    cases q : asD w with
    | none => rw [q] at e; cases e
    | some x =>
      cases q2 : asDs ws with
      | none => rw [q, q2] at e; cases e
      | some xs => rw [q, q2] at e; cases e; exact .cons (asD_rep r q) (asDs_rep t q2)
end
theorem SRS.lstAt {k : Nat} {a : Addr} {xs : List D} (s : SRS K G B F H al mu) (e : mu[k]? = some (.lst xs)) (ea : al[k]? = some a) : ∃ vs, H a = some (.lst vs) ∧ vs.length ≤ sizeLine ∧ Paired (RepD K F) xs vs := by
  obtain ⟨o, _, _, h, r⟩ := s.at e ea
  cases r with
  | lst z p => exact ⟨_, h, z, p⟩
theorem SRS.lstWAt {k : Nat} {a : Addr} {xs : List W} (s : SRS K G B F H al mu) (e : mu[k]? = some (.lstW xs)) (ea : al[k]? = some a) : ∃ vs, H a = some (.lst vs) ∧ vs.length ≤ sizeLine ∧ Paired (RepW K F al) xs vs := by
  obtain ⟨o, _, _, h, r⟩ := s.at e ea
  cases r with
  | lstW z p => exact ⟨_, h, z, p⟩
mutual
/-- a snapshot is read in the whole heap -/
theorem snap_rep (s : SRS K G B F H al mu) : ∀ {w : W} {v : V} {x : D}, RepW K F al w v → snap mu w = some x → RepD K H x v
  | .d x, _, _, .d r, e => by cases e; exact r.mono s.fz
  | .tup ws, _, _, .tup q z r, e => by
    unfold snap at e
    cases q1 : snaps mu ws with
    | none => rw [q1] at e; cases e
    | some xs => rw [q1] at e; cases e; exact .tup (sqtMono s.fz q) z (snaps_rep s r q1)
  | .loc k, _, _, .loc ea, e => by
    unfold snap at e
    cases q : mu[k]? with
    | none => rw [q] at e; cases e
    | some c =>
      cases c with
      | lst xs =>
        rw [q] at e; cases e
        obtain ⟨vs, h, z, p⟩ := s.lstAt q ea
        exact .lst (Rd.of h) z (.of (Paired.mapP p fun _ _ r => r.mono s.fz))
      | lstW ws =>
        rw [q] at e
        cases q2 : asDs ws with
        | none => simp only [q2] at e; cases e
        | some xs =>
          simp only [q2] at e; cases e
          obtain ⟨vs, h, z, p⟩ := s.lstWAt q ea
          exact .lst (Rd.of h) z ((asDs_rep (.of p) q2).mono s.fz)
      | _ => rw [q] at e; cases e
  | .ty _, _, _, _, e => by cases e
  | .raw _, _, _, _, e => by cases e
theorem snaps_rep (s : SRS K G B F H al mu) : ∀ {ws : List W} {vs : List V} {xs : List D}, RepWs K F al ws vs → snaps mu ws = some xs → RepDs K H xs vs
  | [], _, _, .nil, e => by cases e; exact .nil
  | w :: ws, _, _, .cons r t, e => by
    unfold snaps at e
    cases q : snap mu w with
    | none => rw [q] at e; cases e
    | some x =>
      cases q2 : snaps mu ws with
      | none => rw [q, q2] at e; cases e
      | some xs => rw [q, q2] at e; cases e; exact .cons (snap_rep s r q) (snaps_rep s t q2)
end

/-! ### new objects -/
/-- a new list: a container of its own, or frozen -/
@[simp] def newL (o : Bool) (xs : List D) (mu : Sto) (Q : W → Sto → Prop) : Prop := if o then Q (.loc mu.length) (mu ++ [.lst xs]) else Q (.d (.lst xs)) mu
theorem newL_ok {o : Bool} {xs : List D} {vs : List V} {Qd : W → Sto → Prop} {Q : VK} {rh : Ev} {si : L2.St} (s : SR K G B F H al rh si mu) (p : Paired (RepD K F) xs vs) (z : vs.length ≤ sizeLine) (h : newL o xs mu Qd)
    (k : ∀ F' H' al' mu' w v, Ext F al F' al' → SR K G B F' H' al' rh si mu' → RepW K F' al' w v → Qd w mu' → Q v H') : ∀ p, H p = none → Q (.ref p) (upd H p (.lst vs)) := fun b hb => by
  cases o with
  | true =>
    have x := SRS.ownX (F := F) (al := al) (p := b)
    exact k _ _ _ _ _ _ x (s.step x (s.s.own hb (.lst z p))) (.loc s.s.atNew) h
  | false =>
    have x := s.s.frozX (o := .lst vs) hb
    exact k _ _ _ _ _ _ x (s.step x (s.s.froz hb)) (.d (.lst (Rd.of upd_same) z ((RepDs.of p).mono x.1))) h
theorem newT_ok {ws : List W} {vs : List V} {Qd : W → Sto → Prop} {Q : VK} {rh : Ev} {si : L2.St} (s : SR K G B F H al rh si mu) (p : Paired (RepW K F al) ws vs) (z : vs.length ≤ sizeLine) (h : Qd (mkTup ws) mu)
    (k : ∀ F' H' al' mu' w v, Ext F al F' al' → SR K G B F' H' al' rh si mu' → RepW K F' al' w v → Qd w mu' → Q v H') : ∀ p, H p = none → Q (.ref p) (upd H p (.tup vs)) := fun b hb => by
  have x := s.s.frozX (o := .tup vs) hb
  refine k _ _ _ _ _ _ x (s.step x (s.s.froz hb)) ?_ h
  unfold mkTup
  cases q : asDs ws with
  | none => exact .tup (SqT.of upd_same) z ((RepWs.of p).mono x)
  | some xs => exact .d (.tup (SqT.of upd_same) z ((asDs_rep (.of p) q).mono x.1))
/-- a new list of values, some of them containers -/
@[simp] def newLW (o : Bool) (ws : List W) (mu : Sto) (Q : W → Sto → Prop) : Prop := match asDs ws with
  | some xs => newL o xs mu Q
  | none => Q (.loc mu.length) (mu ++ [.lstW ws])
theorem newLW_ok {o : Bool} {ws : List W} {vs : List V} {Qd : W → Sto → Prop} {Q : VK} {rh : Ev} {si : L2.St} (s : SR K G B F H al rh si mu) (p : Paired (RepW K F al) ws vs) (z : vs.length ≤ sizeLine) (h : newLW o ws mu Qd)
    (k : ∀ F' H' al' mu' w v, Ext F al F' al' → SR K G B F' H' al' rh si mu' → RepW K F' al' w v → Qd w mu' → Q v H') : ∀ p, H p = none → Q (.ref p) (upd H p (.lst vs)) := by
  unfold newLW at h
  cases q : asDs ws with
  | some xs => rw [q] at h; exact newL_ok s (asDs_rep (.of p) q).p z h k
  | none =>
    rw [q] at h
    intro b hb
    have x := SRS.ownX (F := F) (al := al) (p := b)
    exact k _ _ _ _ _ _ x (s.step x (s.s.own hb (.lstW z p))) (.loc s.s.atNew) h
end

/-! ### names and constants -/
@[simp] def wVar (i : Nat) : WE := fun rh mu Q => match rh[i]? with
  | some (some w) => Q w mu
  | _ => False
@[simp] def wC (x : D) : WE := fun _ mu Q => Q (.d x) mu
section
variable {io : Type} {Y : io → Cx} {P : Program} {w : World} {K : PySem.W.Frag} {mg : Str → Option Value} {base : Heap} {N : List Str} {k : Nat} {pos : Pos}
theorem den_var {K : PySem.W.Frag} (i : Nat) : Den K (tVar i) (wVar i) := fun G B F H al rh si mu Qd Q s h q => by
  unfold wVar at h
  split at h
  · rename_i w e
    obtain ⟨v, e1, r⟩ := s.env i w e
    exact ⟨v, e1, q F H al mu w v (Ext.refl _ _) s r h⟩
  · exact h.elim
theorem ve_v (y : YOk Y P w K mg base N k) (i : Nat) {x : Str} (hN : N[i]? = some x := by rfl) (hv : ∀ j, Vis (Y j).env.scope x := by first | exact fun _ => Or.inl rfl | exact fun _ => Or.inr (Or.inl rfl) | exact fun _ => Or.inr (Or.inr rfl))
    (hd : (x == ("__debug__" : Str)) = false := by decide) (hcd : (x == ("__classdict__" : Str)) = false := by decide) : VE Y K (.Name x pos) (wVar i) :=
  ⟨tVar i, fun j => pe_var (by rw [y.hN j]; exact hN) (hv j) hd hcd, den_var i⟩
theorem den_c {K : PySem.W.Frag} {x : D} {v : V} (h : ∀ F, RepD K F x v) : Den K (tC v) (wC x) := fun G B F H al rh si mu Qd Q s hq q => q F H al mu _ v (Ext.refl _ _) s (.d (h F)) hq
theorem ve_int {i : Int} {j} : VE Y K (.Constant (.int i) j pos) (wC (.int i)) := ⟨_, fun _ => pe_int, den_c fun _ => .int i⟩
theorem ve_bl {b : Bool} {j} : VE Y K (.Constant (.bool b) j pos) (wC (.bl b)) := ⟨_, fun _ => pe_bl, den_c fun _ => .bl b⟩
theorem ve_non {j} : VE Y K (.Constant .none j pos) (wC .non) := ⟨_, fun _ => pe_non, den_c fun _ => .non⟩
theorem ve_str {x : Str} {j} (h : StrOk x := by exact ⟨by decide +kernel, by decide +kernel⟩) : VE Y K (.Constant (.str x) j pos) (wC (.str x)) := ⟨_, fun _ => pe_str, den_c fun _ => .str x h⟩
/-- a module's constant -/
theorem ve_globC (y : YOk Y P w K mg base N k) {x : Str} {d : D} {v : V} {u : Value} (hm : mg x = some u) (r : RelV v u) (h : ∀ F, RepD K F d v) (hg : ∀ j, Gl (Y j) x := by exact fun _ => rfl) (hd : (x == ("__debug__" : Str)) = false := by decide) : VE Y K (.Name x pos) (wC d) :=
  ⟨tC v, fun j => pe_glob (hg j) (by rw [y.hmg j]; exact hm) r hd, den_c h⟩
theorem ve_glob (y : YOk Y P w K mg base N k) {x : Str} {d : D} (h : ∃ v u, mg x = some u ∧ L2.RelV v u ∧ ∀ F, RepD K F d v) (hg : ∀ j, Gl (Y j) x := by exact fun _ => rfl) (hd : (x == ("__debug__" : Str)) = false := by decide) : VE Y K (.Name x pos) (wC d) := by
  obtain ⟨v, u, h1, h2, h3⟩ := h
  exact ve_globC y h1 h2 h3 hg hd
/-- a built-in type as a value -/
@[simp] def wTy (n : String) : WE := fun _ mu Q => Q (.ty n) mu
theorem ve_ty (y : YOk Y P w K mg base N k) {x : Str} {n : String} (hm : mg x = none) (hv : bootBuiltins x = some (.type n) := by decide +kernel) (hg : ∀ j, Gl (Y j) x := by exact fun _ => rfl) (hn : x ≠ "__name__" := by decide) (hd : (x == ("__debug__" : Str)) = false := by decide) : VE Y K (.Name x pos) (wTy n) :=
  ⟨tC (.ty n), fun j => pe_bltn (hg j) (by rw [y.hmg j]; exact hm) hv rfl hn hd, fun G B F H al rh si mu Qd Q s hq q => q F H al mu _ _ (Ext.refl _ _) s (.ty n) hq⟩
end

/-! ### operators -/
abbrev F2 := Sto → W → W → (W → Sto → Prop) → Prop
@[simp] def wOp (f : F2) (a b : WE) : WE := fun rh mu Q => a rh mu fun x mu1 => b rh mu1 fun y mu2 => f mu2 x y Q
def OpD (K : PySem.W.Frag) (r : R2) (f : F2) : Prop := ∀ (G B F H : Hp) (al : List Addr) (rh : Ev) (si : L2.St) (mu : Sto) (x y : W) (vx vy : V) (Qd : W → Sto → Prop) (Q : VK), SR K G B F H al rh si mu → RepW K F al x vx → RepW K F al y vy → f mu x y Qd →
  (∀ F' H' al' mu' w v, Ext F al F' al' → SR K G B F' H' al' rh si mu' → RepW K F' al' w v → Qd w mu' → Q v H') → r vx vy H Q
section
variable {io : Type} {Y : io → Cx} {P : Program} {w : World} {K : PySem.W.Frag} {mg : Str → Option Value} {base : Heap} {N : List Str} {k : Nat} {pos : Pos} {a b : Expr} {wa wb : WE}
theorem den_op {ta tb : TE} {r : R2} {f : F2} (hd : OpD K r f) (ha : Den K ta wa) (hb : Den K tb wb) : Den K (tOp r ta tb) (wOp f wa wb) := fun G B F H al rh si mu Qd Q s h q => by
  refine ha G B F H al rh si mu _ _ s h fun F1 H1 al1 mu1 x vx e1 s1 r1 h1 => ?_
  refine hb G B F1 H1 al1 rh si mu1 _ _ s1 h1 fun F2 H2 al2 mu2 y vy e2 s2 r2 h2 => ?_
  exact hd G B F2 H2 al2 rh si mu2 x y vx vy Qd Q s2 (r1.mono e2) r2 h2 fun F3 H3 al3 mu3 z vz e3 s3 r3 h3 => q F3 H3 al3 mu3 z vz ((e1.trans e2).trans e3) s3 r3 h3
theorem ve_op {op : Operator} {r : R2} {f : F2} (ho : ∀ i, OpR (Y i) (binaryOp op) r) (hd : OpD K r f) (ha : VE Y K a wa) (hb : VE Y K b wb) : VE Y K (.BinOp a op b pos) (wOp f wa wb) := by
  obtain ⟨ta, p1, d1⟩ := ha
  obtain ⟨tb, p2, d2⟩ := hb
  exact ⟨_, fun i => pe_op (ho i) (p1 i) (p2 i), den_op hd d1 d2⟩

/-- two ints -/
@[simp] def fI (C : Int → Int → Prop) (g : Int → Int → Int) : F2 := fun mu x y Q => match x, y with
  | .d (.int i), .d (.int j) => C i j ∧ Q (.d (.int (g i j))) mu
  | _, _ => False
@[simp] def fI0 (g : Int → Int → Int) : F2 := fun mu x y Q => match x, y with
  | .d (.int i), .d (.int j) => Q (.d (.int (g i j))) mu
  | _, _ => False
@[simp] def fB0 (g : Int → Int → Bool) : F2 := fun mu x y Q => match x, y with
  | .d (.int i), .d (.int j) => Q (.d (.bl (g i j))) mu
  | _, _ => False
theorem repInt {F : Hp} {al : List Addr} {i : Int} {v : V} (r : RepW K F al (.d (.int i)) v) : v = .int i := by
  cases r with
  | d r => cases r; rfl
theorem repStr {F : Hp} {al : List Addr} {x : Str} {v : V} (r : RepW K F al (.d (.str x)) v) : v = .str x ∧ StrOk x := by
  cases r with
  | d r => cases r with
    | str _ h => exact ⟨rfl, h⟩
theorem repBl {F : Hp} {al : List Addr} {x : Bool} {v : V} (r : RepW K F al (.d (.bl x)) v) : v = .bl x := by
  cases r with
  | d r => cases r; rfl
theorem repNon {F : Hp} {al : List Addr} {v : V} (r : RepW K F al (.d .non) v) : v = .non := by
  cases r with
  | d r => cases r; rfl
theorem opd_I {C : Int → Int → Prop} {g : Int → Int → Int} : OpD K (rI C fun i j => .int (g i j)) (fI C g) := fun G B F H al rh si mu x y vx vy Qd Q s r1 r2 h q => by
  unfold fI at h
  split at h
  · rename_i i j
    cases repInt r1
    cases repInt r2
    exact ⟨i, j, rfl, rfl, h.1, q F H al mu _ _ (Ext.refl _ _) s (.d (.int _)) h.2⟩
  · exact h.elim
theorem opd_I0 {g : Int → Int → Int} : OpD K (rI0 fun i j => .int (g i j)) (fI0 g) := fun G B F H al rh si mu x y vx vy Qd Q s r1 r2 h q => by
  unfold fI0 at h
  split at h
  · rename_i i j
    cases repInt r1
    cases repInt r2
    exact ⟨i, j, rfl, rfl, q F H al mu _ _ (Ext.refl _ _) s (.d (.int _)) h⟩
  · exact h.elim
theorem opd_B0 {g : Int → Int → Bool} : OpD K (rI0 fun i j => .bl (g i j)) (fB0 g) := fun G B F H al rh si mu x y vx vy Qd Q s r1 r2 h q => by
  unfold fB0 at h
  split at h
  · rename_i i j
    cases repInt r1
    cases repInt r2
    exact ⟨i, j, rfl, rfl, q F H al mu _ _ (Ext.refl _ _) s (.d (.bl _)) h⟩
  · exact h.elim
end
/-! ints of any size -/
def CM (i j : Int) : Prop := CMul i j ∨ CMulW i j
theorem CM.ok {i j : Int} (h : CM i j) : IntMulOk i j := h.elim CMul.ok CMulW.ok
def CD (_ j : Int) : Prop := j ≠ 0 ∧ j.natAbs.log2 < 9000
@[simp] def CR0 (_ j : Int) : Prop := j ≠ 0
def gDiv (i j : Int) : Int := if 0 < j then i / j else i.fdiv j
def gMod (i j : Int) : Int := if 0 < j then i % j else i.fmod j
theorem gDiv_eq (i j : Int) : gDiv i j = i.fdiv j := by
  unfold gDiv
  split
  · rw [Int.fdiv_eq_ediv_of_nonneg i (by omega)]
  · rfl
theorem gMod_eq (i j : Int) : gMod i j = i.fmod j := by
  unfold gMod
  split
  · rw [Int.fmod_eq_emod_of_nonneg i (by omega)]
  · rfl
section
variable {X : Cx}
theorem opr_mul : OpR X (binaryOp .Mult) (rI CM fun i j => .int (i * j)) := opI fun _ _ _ _ _ _ _ hc q => mul_int q hc.ok
theorem opr_div : OpR X (binaryOp .FloorDiv) (rI CD fun i j => .int (gDiv i j)) := opI fun i j _ _ _ _ _ hc q => by
  exact floordiv_int hc.1 (by rw [← gDiv_eq]; exact q) (.inl (PyProof.noPylong_of_log2 hc.2))
theorem opr_mod : OpR X (binaryOp .Mod) (rI CR0 fun i j => .int (gMod i j)) := opI fun i j _ _ _ _ _ hc q => by
  exact mod_int' hc (by rw [← gMod_eq]; exact q)
end
end VL
namespace VL
open PySem PySem.Spec PyProof.Rows L2

/-! ### lists that are read, by their ways -/
section
variable {X : Cx} {pins : List (Addr × Obj)} {si : L2.St} {H : Hp} {s : Shared} {l : Addr} {xs : List V}
theorem Inv_lstR (I : Inv X pins si H s) (h : Rd H l (.lst xs)) : xs.length ≤ sizeLine ∧ ∃ (its : List Value) (n : Nat), Vals xs its ∧ xs.length = its.length ∧ s.heap.get? l = some { cls := .type "list", data := .seq its.toArray n } := by
  obtain ⟨z, its, n, r, e⟩ := h.ok I.hok
  exact ⟨z, its, n, r, r.length, e⟩
end
theorem Vals_of_paired {K : PySem.W.Frag} {F : Hp} {xs : List D} {vs : List V} : Paired (RepD K F) xs vs → xs.length = vs.length := Paired.length
section
variable {X : Cx}
def rCat2 : R2 := fun x y H Q => ∃ l b xs zs, x = .ref l ∧ y = .ref b ∧ Rd H l (.lst xs) ∧ Rd H b (.lst zs) ∧ xs.length + zs.length ≤ sizeLine ∧ ∀ p, H p = none → Q (.ref p) (upd H p (.lst (xs ++ zs)))
theorem opr_cat : OpR X (binaryOp .Add) rCat2 := by
  intro pins s σ H x y v u Q I rx ry h
  obtain ⟨l, b, xs, zs, rfl, rfl, hH, hB, hz, q⟩ := h
  cases rx
  cases ry
  obtain ⟨z, its, n, r, hl, e⟩ := Inv_lstR I hH
  obtain ⟨z2, its2, n2, r2, hl2, e2⟩ := Inv_lstR I hB
  refine PySem.P.add_list e e2 ?_ (by rw [List.size_toArray, List.size_toArray]; omega)
  have ea : its.toArray ++ its2.toArray = (its ++ its2).toArray := by simp
  rw [ea]
  exact ⟨.ref _, _, I.lnew (t' := s.toks) (r.append r2) (by rw [List.length_append]; omega), rfl, q _ I.fresh⟩
def rRep2 : R2 := fun x y H Q => ∃ l k xs, x = .ref l ∧ y = .int k ∧ Rd H l (.lst xs) ∧ -(2 ^ 63) ≤ k ∧ k < 2 ^ 63 ∧ xs.length * k.toNat ≤ sizeLine ∧
  ∀ p, H p = none → Q (.ref p) (upd H p (.lst (List.replicate k.toNat xs).flatten))
theorem opr_rep : OpR X (binaryOp .Mult) rRep2 := by
  intro pins s σ H x y v u Q I rx ry h
  obtain ⟨l, k, xs, rfl, rfl, hH, h1, h2, hz, q⟩ := h
  cases rx
  obtain ⟨t, rfl⟩ := ry
  obtain ⟨z, its, n, r, hl, e⟩ := Inv_lstR I hH
  have hlen : its.toArray.size * k.toNat ≤ sizeLine := by rw [List.size_toArray, ← hl]; exact hz
  have hcap : ¬ its.toArray.size * k.toNat > (2 ^ 63 - 1) / 8 := by
    have : (sizeLine : Nat) ≤ (2 ^ 63 - 1) / 8 := by decide
    omega
  have hfit : ¬ (!Builtin.List.listFitsIndex k) = true := by
    rw [fitsIndex_both h1 h2]
    exact Bool.false_ne_true
  have hlong : ¬ Builtin.List.listTooLong (its.toArray.size * k.toNat) = true := by
    rw [notLongL hlen]
    exact Bool.false_ne_true
  have hnew : List.foldl (fun x1 x2 => x1 ++ x2) #[] (List.replicate (if its.toArray.isEmpty = true then 0 else k.toNat) its.toArray) = (List.replicate k.toNat its).flatten.toArray := by
    have f0 : ∀ m : Nat, List.foldl (fun x1 x2 => x1 ++ x2) #[] (List.replicate m its.toArray) = (List.replicate m its).flatten.toArray := fun m => by
      have := foldl_rep its m []
      rw [List.nil_append] at this
      exact this
    rw [f0]
    cases its with
    | nil => simp
    | cons a r' => rw [if_neg (by simp)]
  refine wpAny_binaryOp_repeat_ref (T := "list") (U := "int") (by decide) ⟨_, e, rfl⟩ (fun s' => typeIs_int s' k t) noFill_list_mul F.fills_int_mul F.slot_int_rmul repeat_list F.slot_int_index.lookup
    (call_meets F.slot_int_rmul (typeIs_int s k t) F.entry_int_rmul (F.args_int_rmul_2 _ _) (int___rmul___int_list k t l its.toArray n)
      ⟨e, rfl, ⟨_, e, rfl⟩, call_meets F.slot_list_mul ⟨_, e, rfl⟩ F.entry_list_mul (F.args_list_mul_2 _ _) (AutoListH.list___mul___list_int_3 l its.toArray n k t hfit hcap hlong) ⟨e, ?_⟩⟩)
  rw [hnew]
  exact ⟨.ref _, _, I.lnew (t' := s.toks) (r.rep k.toNat) (by rw [PyProof.Rows.lm_len_rep_flat, Nat.mul_comm]; exact hz), rfl, q _ I.fresh⟩
theorem opr_add : OpR X (binaryOp .Add) (fun x y H Q => (∃ i j, x = .int i ∧ y = .int j ∧ Q (.int (i + j)) H) ∨ (∃ i j, x = .str i ∧ y = .str j ∧ i.length + j.length ≤ sizeLine ∧ Q (.str (i ++ j)) H) ∨ rCat2 x y H Q ∨ rCatT X.K x y H Q) :=
  op_add.or (op_add_str.or (opr_cat.or op_catT))
theorem opr_mulA : OpR X (binaryOp .Mult) (fun x y H Q => rI CM (fun i j => .int (i * j)) x y H Q ∨ rRep2 x y H Q) := opr_mul.or opr_rep
end

/-- the items of a list -/
@[simp] def lsD (mu : Sto) : W → Option (List D)
  | .d (.lst xs) => some xs
  | .loc k => match mu[k]? with
    | some (.lst xs) => some xs
    | _ => none
  | _ => none
section
variable {K : PySem.W.Frag} {G B F F' H H' : Hp} {al al' : List Addr} {mu mu' : Sto} {rh : Ev} {si : L2.St}
theorem lsD_rep {w : W} {v : V} {xs : List D} (s : SRS K G B F H al mu) (r : RepW K F al w v) (e : lsD mu w = some xs) : ∃ a vs, v = .ref a ∧ Rd H a (.lst vs) ∧ vs.length ≤ sizeLine ∧ Paired (RepD K F) xs vs := by
  unfold lsD at e
  split at e
  · cases e
    cases r with
    | d r => cases r with
      | lst q z p => exact ⟨_, _, rfl, rdMono s.fz q, z, p.p⟩
  · rename_i k
    split at e
    · rename_i q
      cases e
      cases r with
      | loc ea =>
        obtain ⟨vs, h, z, p⟩ := s.lstAt q ea
        exact ⟨_, vs, rfl, Rd.of h, z, p⟩
    · cases e
  · cases e
theorem repTup {xs : List D} {v : V} (r : RepW K F al (.d (.tup xs)) v) : ∃ a vs, v = .ref a ∧ SqT K F a vs ∧ vs.length ≤ sizeLine ∧ Paired (RepD K F) xs vs := by
  cases r with
  | d r => cases r with
    | tup q z p => exact ⟨_, _, rfl, q, z, p.p⟩
theorem strOk_app {x y : Str} (hx : StrOk x) (hy : StrOk y) (h : x.length + y.length ≤ sizeLine) : StrOk (x ++ y) := by
  have e : (x ++ y).cps = x.cps ++ y.cps := rfl
  refine ⟨?_, ?_⟩
  · have h1 := hx.1
    have h2 := hy.1
    unfold PyData.strOk at h1 h2 ⊢
    rw [e, Array.all_append, h1, h2]; rfl
  · show (x ++ y).cps.size ≤ _
    rw [e, Array.size_append]; exact h
@[simp] def fAdd (o : Bool) : F2 := fun mu x y Q => match x, y with
  | .d (.int i), .d (.int j) => Q (.d (.int (i + j))) mu
  | .d (.str a), .d (.str b) => a.length + b.length ≤ sizeLine ∧ Q (.d (.str (a ++ b))) mu
  | .d (.tup xs), .d (.tup ys) => xs ≠ [] ∧ xs.length + ys.length ≤ sizeLine ∧ Q (.d (.tup (xs ++ ys))) mu
  | x, y => match lsD mu x, lsD mu y with
    | some xs, some ys => xs.length + ys.length ≤ sizeLine ∧ newL o (xs ++ ys) mu Q
    | _, _ => False
theorem opd_add (o : Bool) : OpD K (fun x y H Q => (∃ i j, x = .int i ∧ y = .int j ∧ Q (.int (i + j)) H) ∨ (∃ i j, x = .str i ∧ y = .str j ∧ i.length + j.length ≤ sizeLine ∧ Q (.str (i ++ j)) H) ∨ rCat2 x y H Q ∨ rCatT K x y H Q) (fAdd o) :=
  fun G B F H al rh si mu x y vx vy Qd Q s r1 r2 h q => by
  unfold fAdd at h
  split at h
  · cases repInt r1
    cases repInt r2
    exact .inl ⟨_, _, rfl, rfl, q F H al mu _ _ (Ext.refl _ _) s (.d (.int _)) h⟩
  · obtain ⟨rfl, h1⟩ := repStr r1
    obtain ⟨rfl, h2⟩ := repStr r2
    exact .inr (.inl ⟨_, _, rfl, rfl, h.1, q F H al mu _ _ (Ext.refl _ _) s (.d (.str _ (strOk_app h1 h2 h.1))) h.2⟩)
  · rename_i xs ys
    obtain ⟨a, vs, rfl, q1, z1, p1⟩ := repTup r1
    obtain ⟨b, us, rfl, q2, z2, p2⟩ := repTup r2
    obtain ⟨hn, hl, hq⟩ := h
    have e1 := Paired.length p1
    have e2 := Paired.length p2
    refine .inr (.inr (.inr ⟨a, b, vs, us, rfl, rfl, sqtMono s.s.fz q1, sqtMono s.s.fz q2, fun e => hn ?_, by omega, fun e => ?_, fun _ => ?_⟩))
    · subst e; cases p1; rfl
    · subst e
      cases p2
      rw [List.append_nil] at hq
      exact q F H al mu _ _ (Ext.refl _ _) s r1 hq
    · have hx := newT_ok (ws := (xs ++ ys).map W.d) (vs := vs ++ us) (Qd := fun _ mu => Qd (.d (.tup (xs ++ ys))) mu) (Q := Q) s
      intro p hp
      have x := s.s.frozX (o := .tup (vs ++ us)) hp
      exact q _ _ _ _ _ _ x (s.step x (s.s.froz hp)) (.d (.tup (SqT.of upd_same) (by rw [List.length_append]; omega) ((RepDs.of (pApp p1 p2)).mono x.1))) hq
  · split at h
    · rename_i e1 e2
      obtain ⟨a, vs, rfl, q1, z1, p1⟩ := lsD_rep s.s r1 e1
      obtain ⟨b, us, rfl, q2, z2, p2⟩ := lsD_rep s.s r2 e2
      have l1 := Paired.length p1
      have l2 := Paired.length p2
      exact .inr (.inr (.inl ⟨a, b, vs, us, rfl, rfl, q1, q2, by have := h.1; omega, newL_ok s (pApp p1 p2) (by rw [List.length_append]; have := h.1; omega) h.2 q⟩))
    · exact h.elim
@[simp] def fMul (o : Bool) : F2 := fun mu x y Q => match x, y with
  | .d (.int i), .d (.int j) => CM i j ∧ Q (.d (.int (i * j))) mu
  | x, .d (.int k) => match lsD mu x with
    | some xs => -(2 ^ 63) ≤ k ∧ k < 2 ^ 63 ∧ xs.length * k.toNat ≤ sizeLine ∧ newL o (List.replicate k.toNat xs).flatten mu Q
    | _ => False
  | _, _ => False
theorem opd_mul (o : Bool) : OpD K (fun x y H Q => rI CM (fun i j => .int (i * j)) x y H Q ∨ rRep2 x y H Q) (fMul o) := fun G B F H al rh si mu x y vx vy Qd Q s r1 r2 h q => by
  unfold fMul at h
  split at h
  · cases repInt r1
    cases repInt r2
    exact .inl ⟨_, _, rfl, rfl, h.1, q F H al mu _ _ (Ext.refl _ _) s (.d (.int _)) h.2⟩
  · cases repInt r2
    split at h
    · rename_i e1
      obtain ⟨a, vs, rfl, q1, z1, p1⟩ := lsD_rep s.s r1 e1
      have l1 := Paired.length p1
      obtain ⟨h1, h2, h3, h4⟩ := h
      exact .inr ⟨a, _, vs, rfl, rfl, q1, h1, h2, by rw [← l1]; exact h3, newL_ok s (pRep p1 _) (by rw [PyProof.Rows.lm_len_rep_flat, Nat.mul_comm, ← l1]; exact h3) h4 q⟩
    · exact h.elim
  · exact h.elim
end

/-! ### the operators, ready -/
section
variable {io : Type} {Y : io → Cx} {P : Program} {w : World} {K : PySem.W.Frag} {mg : Str → Option Value} {base : Heap} {N : List Str} {k : Nat} {pos : Pos} {a b : Expr} {wa wb : WE}
theorem ve_add (y : YOk Y P w K mg base N k) (o : Bool) (ha : VE Y K a wa) (hb : VE Y K b wb) : VE Y K (.BinOp a .Add b pos) (wOp (fAdd o) wa wb) := ve_op (fun i => by rw [← y.hK i]; exact opr_add) (opd_add o) ha hb
theorem ve_sub (ha : VE Y K a wa) (hb : VE Y K b wb) : VE Y K (.BinOp a .Sub b pos) (wOp (fI0 fun i j => i - j) wa wb) := ve_op (fun i => op_sub) opd_I0 ha hb
theorem ve_mul (o : Bool) (ha : VE Y K a wa) (hb : VE Y K b wb) : VE Y K (.BinOp a .Mult b pos) (wOp (fMul o) wa wb) := ve_op (fun i => opr_mulA) (opd_mul o) ha hb
theorem ve_fdiv (ha : VE Y K a wa) (hb : VE Y K b wb) : VE Y K (.BinOp a .FloorDiv b pos) (wOp (fI CD gDiv) wa wb) := ve_op (fun i => opr_div) opd_I ha hb
theorem ve_mod (ha : VE Y K a wa) (hb : VE Y K b wb) : VE Y K (.BinOp a .Mod b pos) (wOp (fI CR0 gMod) wa wb) := ve_op (fun i => opr_mod) opd_I ha hb
theorem ve_pow (ha : VE Y K a wa) (hb : VE Y K b wb) : VE Y K (.BinOp a .Pow b pos) (wOp (fI CPow fun i j => i ^ j.toNat) wa wb) := ve_op (fun i => op_pow) opd_I ha hb
theorem ve_shl (ha : VE Y K a wa) (hb : VE Y K b wb) : VE Y K (.BinOp a .LShift b pos) (wOp (fI CShl fun i j => i * 2 ^ j.toNat) wa wb) := ve_op (fun i => op_shlW) opd_I ha hb
theorem ve_shr (ha : VE Y K a wa) (hb : VE Y K b wb) : VE Y K (.BinOp a .RShift b pos) (wOp (fI (fun _ j => 0 ≤ j) fun i j => i / 2 ^ j.toNat) wa wb) := ve_op (fun i => op_shr) opd_I ha hb
theorem ve_and (ha : VE Y K a wa) (hb : VE Y K b wb) : VE Y K (.BinOp a .BitAnd b pos) (wOp (fI0 Builtin.bitAnd) wa wb) := ve_op (fun i => op_and) opd_I0 ha hb
theorem ve_or (ha : VE Y K a wa) (hb : VE Y K b wb) : VE Y K (.BinOp a .BitOr b pos) (wOp (fI0 Builtin.bitOr) wa wb) := ve_op (fun i => op_or) opd_I0 ha hb
theorem ve_xor (ha : VE Y K a wa) (hb : VE Y K b wb) : VE Y K (.BinOp a .BitXor b pos) (wOp (fI0 Builtin.bitXor) wa wb) := ve_op (fun i => op_xor) opd_I0 ha hb
@[simp] def wUn (g : Int → Int) (a : WE) : WE := fun rh mu Q => a rh mu fun x mu1 => match x with
  | .d (.int i) => Q (.d (.int (g i))) mu1
  | _ => False
theorem ve_un {op : UnaryOp} {g : Int → Int} (ho : ∀ i, UnR (Y i) (unaryOp op) (rU fun i => .int (g i))) (ha : VE Y K a wa) : VE Y K (.UnaryOp op a pos) (wUn g wa) := by
  obtain ⟨ta, p1, d1⟩ := ha
  refine ⟨_, fun i => pe_un (ho i) (p1 i), fun G B F H al rh si mu Qd Q s h q => ?_⟩
  refine d1 G B F H al rh si mu _ _ s h fun F1 H1 al1 mu1 x vx e1 s1 r1 h1 => ?_
  split at h1
  · cases repInt r1
    exact ⟨_, rfl, q F1 H1 al1 mu1 _ _ e1 s1 (.d (.int _)) h1⟩
  · exact h1.elim
theorem ve_neg (ha : VE Y K a wa) : VE Y K (.UnaryOp .USub a pos) (wUn (fun i => -i) wa) := ve_un (fun _ => un_neg) ha
end

/-! ### equality of data -/
mutual
def deqv : D → D → Bool
  | .non, .non => true
  | .bl a, .bl b => a == b
  | .bl a, .int j => (if a then 1 else 0) == j
  | .int i, .bl b => i == (if b then 1 else 0)
  | .int i, .int j => i == j
  | .str x, .str y => x == y
  | .lst xs, .lst ys => deqvs xs ys
  | .tup xs, .tup ys => deqvs xs ys
  | .non, .bl _ | .non, .int _ | .non, .str _ | .non, .lst _ | .non, .tup _ => false
  | .bl _, .non | .bl _, .str _ | .bl _, .lst _ | .bl _, .tup _ => false
  | .int _, .non | .int _, .str _ | .int _, .lst _ | .int _, .tup _ => false
  | .str _, .non | .str _, .bl _ | .str _, .int _ | .str _, .lst _ | .str _, .tup _ => false
  | .lst _, .non | .lst _, .bl _ | .lst _, .int _ | .lst _, .str _ | .lst _, .tup _ => false
  | .tup _, .non | .tup _, .bl _ | .tup _, .int _ | .tup _, .str _ | .tup _, .lst _ => false
  | .scr _, _ => false
  | .non, .scr _ | .bl _, .scr _ | .int _, .scr _ | .str _, .scr _ | .lst _, .scr _ | .tup _, .scr _ => false
def deqvs : List D → List D → Bool
  | [], [] => true
  | x :: xs, y :: ys => deqv x y && deqvs xs ys
  | [], _ :: _ => false
  | _ :: _, [] => false
end
mutual
def toP : D → PyData
  | .non => .none
  | .bl b => .bool b
  | .int i => .int i
  | .str x => .str x
  | .lst xs => .list (toPs xs)
  | .tup xs => .tuple (toPs xs)
  | .scr _ => .dict []
def toPs : List D → List PyData
  | [] => []
  | x :: xs => toP x :: toPs xs
end
mutual
@[simp] def ddep : D → Nat
  | .lst xs | .tup xs => ddeps xs + 1
  | .non | .bl _ | .int _ | .str _ => 0
  | .scr _ => 1000
@[simp] def ddeps : List D → Nat
  | [] => 0
  | x :: xs => max (ddep x) (ddeps xs)
end
@[simp] theorem deqv_non_non : deqv .non .non = true := by simp only [deqv]
@[simp] theorem deqv_non_bl {b2 : Bool} : deqv .non (.bl b2) = false := by simp only [deqv]
@[simp] theorem deqv_non_int {i2 : Int} : deqv .non (.int i2) = false := by simp only [deqv]
@[simp] theorem deqv_non_str {x2 : Str} : deqv .non (.str x2) = false := by simp only [deqv]
@[simp] theorem deqv_non_lst {xs2 : List D} : deqv .non (.lst xs2) = false := by simp only [deqv]
@[simp] theorem deqv_non_tup {xs2 : List D} : deqv .non (.tup xs2) = false := by simp only [deqv]
@[simp] theorem deqv_bl_non {b1 : Bool} : deqv (.bl b1) .non = false := by simp only [deqv]
@[simp] theorem deqv_bl_bl {b1 : Bool} {b2 : Bool} : deqv (.bl b1) (.bl b2) = (b1 == b2) := by simp only [deqv]
@[simp] theorem deqv_bl_int {b1 : Bool} {i2 : Int} : deqv (.bl b1) (.int i2) = ((if b1 then 1 else 0) == i2) := by simp only [deqv]
@[simp] theorem deqv_bl_str {b1 : Bool} {x2 : Str} : deqv (.bl b1) (.str x2) = false := by simp only [deqv]
@[simp] theorem deqv_bl_lst {b1 : Bool} {xs2 : List D} : deqv (.bl b1) (.lst xs2) = false := by simp only [deqv]
@[simp] theorem deqv_bl_tup {b1 : Bool} {xs2 : List D} : deqv (.bl b1) (.tup xs2) = false := by simp only [deqv]
@[simp] theorem deqv_int_non {i1 : Int} : deqv (.int i1) .non = false := by simp only [deqv]
@[simp] theorem deqv_int_bl {i1 : Int} {b2 : Bool} : deqv (.int i1) (.bl b2) = (i1 == (if b2 then 1 else 0)) := by simp only [deqv]
@[simp] theorem deqv_int_int {i1 : Int} {i2 : Int} : deqv (.int i1) (.int i2) = (i1 == i2) := by simp only [deqv]
@[simp] theorem deqv_int_str {i1 : Int} {x2 : Str} : deqv (.int i1) (.str x2) = false := by simp only [deqv]
@[simp] theorem deqv_int_lst {i1 : Int} {xs2 : List D} : deqv (.int i1) (.lst xs2) = false := by simp only [deqv]
@[simp] theorem deqv_int_tup {i1 : Int} {xs2 : List D} : deqv (.int i1) (.tup xs2) = false := by simp only [deqv]
@[simp] theorem deqv_str_non {x1 : Str} : deqv (.str x1) .non = false := by simp only [deqv]
@[simp] theorem deqv_str_bl {x1 : Str} {b2 : Bool} : deqv (.str x1) (.bl b2) = false := by simp only [deqv]
@[simp] theorem deqv_str_int {x1 : Str} {i2 : Int} : deqv (.str x1) (.int i2) = false := by simp only [deqv]
@[simp] theorem deqv_str_str {x1 : Str} {x2 : Str} : deqv (.str x1) (.str x2) = (x1 == x2) := by simp only [deqv]
@[simp] theorem deqv_str_lst {x1 : Str} {xs2 : List D} : deqv (.str x1) (.lst xs2) = false := by simp only [deqv]
@[simp] theorem deqv_str_tup {x1 : Str} {xs2 : List D} : deqv (.str x1) (.tup xs2) = false := by simp only [deqv]
@[simp] theorem deqv_lst_non {xs1 : List D} : deqv (.lst xs1) .non = false := by simp only [deqv]
@[simp] theorem deqv_lst_bl {xs1 : List D} {b2 : Bool} : deqv (.lst xs1) (.bl b2) = false := by simp only [deqv]
@[simp] theorem deqv_lst_int {xs1 : List D} {i2 : Int} : deqv (.lst xs1) (.int i2) = false := by simp only [deqv]
@[simp] theorem deqv_lst_str {xs1 : List D} {x2 : Str} : deqv (.lst xs1) (.str x2) = false := by simp only [deqv]
@[simp] theorem deqv_lst_lst {xs1 : List D} {xs2 : List D} : deqv (.lst xs1) (.lst xs2) = deqvs xs1 xs2 := by simp only [deqv]
@[simp] theorem deqv_lst_tup {xs1 : List D} {xs2 : List D} : deqv (.lst xs1) (.tup xs2) = false := by simp only [deqv]
@[simp] theorem deqv_tup_non {xs1 : List D} : deqv (.tup xs1) .non = false := by simp only [deqv]
@[simp] theorem deqv_tup_bl {xs1 : List D} {b2 : Bool} : deqv (.tup xs1) (.bl b2) = false := by simp only [deqv]
@[simp] theorem deqv_tup_int {xs1 : List D} {i2 : Int} : deqv (.tup xs1) (.int i2) = false := by simp only [deqv]
@[simp] theorem deqv_tup_str {xs1 : List D} {x2 : Str} : deqv (.tup xs1) (.str x2) = false := by simp only [deqv]
@[simp] theorem deqv_tup_lst {xs1 : List D} {xs2 : List D} : deqv (.tup xs1) (.lst xs2) = false := by simp only [deqv]
@[simp] theorem deqv_tup_tup {xs1 : List D} {xs2 : List D} : deqv (.tup xs1) (.tup xs2) = deqvs xs1 xs2 := by simp only [deqv]
@[simp] theorem deqvs_nil : deqvs [] [] = true := by simp only [deqvs]
@[simp] theorem deqvs_cons {x y : D} {xs ys : List D} : deqvs (x :: xs) (y :: ys) = (deqv x y && deqvs xs ys) := by simp only [deqvs]
@[simp] theorem deqvs_nc {y : D} {ys : List D} : deqvs [] (y :: ys) = false := by simp only [deqvs]
@[simp] theorem deqvs_cn {y : D} {ys : List D} : deqvs (y :: ys) [] = false := by simp only [deqvs]
def noscr : D → Prop := fun d => ddep d < 1000
mutual
theorem deqv_refl : ∀ (d : D), ddep d < 1000 → deqv d d = true
  | .non, _ => by simp
  | .bl _, _ => by simp
  | .int _, _ => by simp
  | .str _, _ => by simp
  | .lst xs, h => by rw [deqv_lst_lst]; exact deqvs_refl xs (by simp only [ddep] at h; omega)
  | .tup xs, h => by rw [deqv_tup_tup]; exact deqvs_refl xs (by simp only [ddep] at h; omega)
  | .scr _, h => by simp at h
theorem deqvs_refl : ∀ (xs : List D), ddeps xs < 1000 → deqvs xs xs = true
  | [], _ => by simp
  | x :: xs, h => by
    simp only [ddeps] at h
    rw [deqvs_cons, deqv_refl x (by omega), deqvs_refl xs (by omega)]; rfl
end
mutual
theorem toP_eqv : ∀ x y : D, PyData.eqv (toP x) (toP y) = deqv x y
  | .non, y => by cases y <;> simp only [toP, PyData.eqv, deqv]
  | .bl _, y => by cases y <;> simp only [toP, PyData.eqv, deqv]
  | .int _, y => by cases y <;> simp only [toP, PyData.eqv, deqv]
  | .str _, y => by cases y <;> simp only [toP, PyData.eqv, deqv]
  | .lst xs, y => by cases y with
    | lst ys => simp only [toP, PyData.eqv, deqv]; exact toPs_eqv xs ys
    | _ => simp only [toP, PyData.eqv, deqv]
  | .tup xs, y => by cases y with
    | tup ys => simp only [toP, PyData.eqv, deqv]; exact toPs_eqv xs ys
    | _ => simp only [toP, PyData.eqv, deqv]
  | .scr _, y => by cases y <;> simp only [toP, PyData.eqv, deqv]
theorem toPs_eqv : ∀ xs ys : List D, PyData.eqvAll (toPs xs) (toPs ys) = deqvs xs ys
  | [], [] => by simp only [toPs, PyData.eqvAll, deqvs]
  | [], _ :: _ => by simp only [toPs, PyData.eqvAll, deqvs]
  | _ :: _, [] => by simp only [toPs, PyData.eqvAll, deqvs]
  | x :: xs, y :: ys => by simp only [toPs, PyData.eqvAll, deqvs, toP_eqv x y, toPs_eqv xs ys]
end
mutual
theorem toP_dep : ∀ x : D, (toP x).depth ≤ ddep x
  | .non => by simp only [toP, PyData.depth, ddep, Nat.le_refl]
  | .bl _ => by simp only [toP, PyData.depth, ddep, Nat.le_refl]
  | .int _ => by simp only [toP, PyData.depth, ddep, Nat.le_refl]
  | .str _ => by simp only [toP, PyData.depth, ddep, Nat.le_refl]
  | .lst xs => by simp only [toP, PyData.depth, ddep]; exact Nat.succ_le_succ (toPs_dep xs)
  | .tup xs => by simp only [toP, PyData.depth, ddep]; exact Nat.succ_le_succ (toPs_dep xs)
  | .scr _ => by simp only [toP, PyData.depth, PyData.depthKv, ddep]; omega
theorem toPs_dep : ∀ xs : List D, PyData.depthAll (toPs xs) ≤ ddeps xs
  | [] => by simp only [toPs, PyData.depthAll, ddeps, Nat.le_refl]
  | x :: xs => by
    simp only [toPs, PyData.depthAll, ddeps]
    have h1 := toP_dep x
    have h2 := toPs_dep xs
    omega
end
section
variable {K : PySem.W.Frag} {G B F F' H H' : Hp} {al al' : List Addr} {mu mu' : Sto} {rh : Ev} {si : L2.St}
mutual
theorem rep_dp : ∀ {x : D} {v : V}, RepD K H x v → ddep x < 1000 → Dp K H v (toP x)
  | _, _, .non, _ => by unfold toP; exact .non
  | _, _, .bl b, _ => by unfold toP; exact .bl b
  | _, _, .int i, _ => by unfold toP; exact .int i
  | _, _, .str x _, _ => by unfold toP; exact .str x
  | _, _, .tup q _ r, h => by unfold toP; exact .tup q (reps_dp r (by unfold ddep at h; omega))
  | _, _, .lst q _ r, h => by unfold toP; exact .lst (.inl q) (reps_dp r (by unfold ddep at h; omega))
  | _, _, .scr _ _, h => by unfold ddep at h; omega
theorem reps_dp : ∀ {xs : List D} {vs : List V}, RepDs K H xs vs → ddeps xs < 1000 → DpAll K H vs (toPs xs)
  | _, _, .nil, _ => by unfold toPs; exact .nil
  | _, _, .cons r t, h => by unfold toPs; exact .cons (rep_dp r (by unfold ddeps at h; omega)) (reps_dp t (by unfold ddeps at h; omega))
end
mutual
theorem rep_lay : ∀ {x : D} {v : V}, RepD K H x v → ddep x < 1000 → (toP x).canLay0 = true
  | _, _, .non, _ => by simp only [toP, PyData.canLay0]
  | _, _, .bl b, _ => by simp only [toP, PyData.canLay0]
  | _, _, .int i, _ => by simp only [toP, PyData.canLay0]
  | _, _, .str x h, _ => by simp only [toP, PyData.canLay0]; exact h.1
  | _, _, .tup q _ r, h => by simp only [toP, PyData.canLay0]; exact reps_lay r (by unfold ddep at h; omega)
  | _, _, .lst q _ r, h => by simp only [toP, PyData.canLay0]; exact reps_lay r (by unfold ddep at h; omega)
  | _, _, .scr _ _, h => by unfold ddep at h; omega
theorem reps_lay : ∀ {xs : List D} {vs : List V}, RepDs K H xs vs → ddeps xs < 1000 → PyData.canLayAll0 (toPs xs) = true
  | _, _, .nil, _ => by simp only [toPs, PyData.canLayAll0]
  | _, _, .cons r t, h => by
    simp only [toPs, PyData.canLayAll0]
    rw [rep_lay r (by unfold ddeps at h; omega), reps_lay t (by unfold ddeps at h; omega)]; rfl
end
theorem rep_shaped {x : D} {v : V} (r : RepD K H x v) (h : ddep x ≤ 64) : SeqAt.shaped (toP x) = true := by
  unfold SeqAt.shaped
  rw [rep_lay r (by omega)]
  have := toP_dep x
  simp only [Bool.true_and, decide_eq_true_eq]
  omega
@[simp] def fEq (neg : Bool) : F2 := fun mu x y Q => match snap mu x, snap mu y with
  | some a, some b => ddep a ≤ 64 ∧ ddep b ≤ 64 ∧ Q (.d (.bl (if neg then !deqv a b else deqv a b))) mu
  | _, _ => False
theorem opd_eq : OpD K (rEqD K) (fEq false) := fun G B F H al rh si mu x y vx vy Qd Q s r1 r2 h q => by
  unfold fEq at h
  split at h
  · rename_i a b e1 e2
    have p1 := snap_rep s.s r1 e1
    have p2 := snap_rep s.s r2 e2
    exact ⟨_, _, rep_dp p1 (by have := h.1; omega), rep_dp p2 (by have := h.2.1; omega), rep_shaped p1 h.1, rep_shaped p2 h.2.1, by rw [toP_eqv]; exact q F H al mu _ _ (Ext.refl _ _) s (.d (.bl _)) h.2.2⟩
  · exact h.elim
theorem opd_ne : OpD K (rNeD K) (fEq true) := fun G B F H al rh si mu x y vx vy Qd Q s r1 r2 h q => by
  unfold fEq at h
  split at h
  · rename_i a b e1 e2
    have p1 := snap_rep s.s r1 e1
    have p2 := snap_rep s.s r2 e2
    exact ⟨_, _, rep_dp p1 (by have := h.1; omega), rep_dp p2 (by have := h.2.1; omega), rep_shaped p1 h.1, rep_shaped p2 h.2.1, by rw [toP_eqv]; exact q F H al mu _ _ (Ext.refl _ _) s (.d (.bl _)) h.2.2⟩
  · exact h.elim
/-- is None -/
@[simp] def fIs (neg : Bool) : F2 := fun mu x y Q => match y with
  | .d .non => Q (.d (.bl (match x with | .d .non => !neg | _ => neg))) mu
  | _ => False
theorem opd_is : OpD K (fun x y H Q => y = .non ∧ Q (.bl (decide (x = .non))) H) (fIs false) := fun G B F H al rh si mu x y vx vy Qd Q s r1 r2 h q => by
  unfold fIs at h
  split at h
  · cases repNon r2
    refine ⟨rfl, q F H al mu _ _ (Ext.refl _ _) s (.d ?_) h⟩
    cases r1 with
    | d r1 => cases r1 <;> exact .bl _
    | _ => exact .bl _
  · exact h.elim
theorem opd_isn : OpD K (fun x y H Q => y = .non ∧ Q (.bl (!decide (x = .non))) H) (fIs true) := fun G B F H al rh si mu x y vx vy Qd Q s r1 r2 h q => by
  unfold fIs at h
  split at h
  · cases repNon r2
    refine ⟨rfl, q F H al mu _ _ (Ext.refl _ _) s (.d ?_) h⟩
    cases r1 with
    | d r1 => cases r1 <;> exact .bl _
    | _ => exact .bl _
  · exact h.elim
end
end VL
namespace VL
open PySem PySem.Spec PyProof.Rows L2

section
variable {io : Type} {Y : io → Cx} {P : Program} {w : World} {K : PySem.W.Frag} {mg : Str → Option Value} {base : Heap} {N : List Str} {k : Nat} {pos : Pos} {a b c : Expr} {wa wb wc : WE} {rest : List Expr}

/-! ### comparisons as values, as tests -/
@[simp] def wTest (f : WE) : WT := fun rh mu Q => f rh mu fun x mu1 => match x with
  | .d (.bl b) => Q b mu1
  | _ => False
theorem ve_cmpR {op : CmpOp} {r : R2} {f : F2} (ho : ∀ i, OpR (Y i) (compareOp op) r) (hd : OpD K r f) (ha : VE Y K a wa) (hb : VE Y K b wb) (hm : behindInMarks op b = false) : VE Y K (.Compare a [op] [b] pos) (wOp f wa wb) := by
  obtain ⟨ta, p1, d1⟩ := ha
  obtain ⟨tb, p2, d2⟩ := hb
  exact ⟨_, fun i => pe_cmpR (ho i) (p1 i) (p2 i) hm, den_op hd d1 d2⟩
theorem den_test {t : TE} {f : WE} (d : Den K t f) : DenT K (tTest t) (wTest f) := fun G B F H al rh si mu Qd Q s h q => by
  refine d G B F H al rh si mu _ _ s h fun F1 H1 al1 mu1 x vx e1 s1 r1 h1 => ?_
  split at h1
  · cases repBl r1
    exact ⟨_, rfl, q F1 H1 al1 mu1 _ e1 s1 h1⟩
  · exact h1.elim
theorem vt_cmpR {op : CmpOp} {r : R2} {f : F2} (ho : ∀ i, OpR (Y i) (compareOp op) r) (hd : OpD K r f) (ha : VE Y K a wa) (hb : VE Y K b wb) (hm : behindInMarks op b = false) : VT Y K (.Compare a [op] [b] pos) (wTest (wOp f wa wb)) := by
  obtain ⟨ta, p1, d1⟩ := ha
  obtain ⟨tb, p2, d2⟩ := hb
  exact ⟨_, fun i => pt_cmpR (ho i) (p1 i) (p2 i) hm, den_test (den_op hd d1 d2)⟩
/-- which comparison it is -/
inductive CmpK (Y : io → Cx) (K : PySem.W.Frag) : CmpOp → F2 → Prop
  | mk {op : CmpOp} {r : R2} {f : F2} : (∀ i, OpR (Y i) (compareOp op) r) → OpD K r f → CmpK Y K op f
theorem c_eq (y : YOk Y P w K mg base N k) : CmpK Y K .Eq (fEq false) := .mk (fun i => by rw [← y.hK i]; exact op_eqD (y.room i).units) opd_eq
theorem c_ne (y : YOk Y P w K mg base N k) : CmpK Y K .NotEq (fEq true) := .mk (fun i => by rw [← y.hK i]; exact op_neD (y.room i).units) opd_ne
theorem c_lt (y : YOk Y P w K mg base N k) : CmpK Y K .Lt (fB0 fun i j => decide (i < j)) := .mk (fun i => op_lt) opd_B0
theorem c_le (y : YOk Y P w K mg base N k) : CmpK Y K .LtE (fB0 fun i j => decide (i ≤ j)) := .mk (fun i => op_le) opd_B0
theorem c_gt (y : YOk Y P w K mg base N k) : CmpK Y K .Gt (fB0 fun i j => decide (j < i)) := .mk (fun i => op_gt) opd_B0
theorem c_ge (y : YOk Y P w K mg base N k) : CmpK Y K .GtE (fB0 fun i j => decide (j ≤ i)) := .mk (fun i => op_ge) opd_B0
theorem c_is (y : YOk Y P w K mg base N k) : CmpK Y K .Is (fIs false) := .mk (fun i => op_isN) opd_is
theorem c_isn (y : YOk Y P w K mg base N k) : CmpK Y K .IsNot (fIs true) := .mk (fun i => op_notN) opd_isn
theorem ve_cmp {op : CmpOp} {f : F2} (c : CmpK Y K op f) (ha : VE Y K a wa) (hb : VE Y K b wb) (hm : behindInMarks op b = false := by first | exact nomark _ | with_unfolding_all rfl) : VE Y K (.Compare a [op] [b] pos) (wOp f wa wb) := by
  obtain ⟨o, d⟩ := c
  exact ve_cmpR o d ha hb hm
theorem vt_cmp {op : CmpOp} {f : F2} (c : CmpK Y K op f) (ha : VE Y K a wa) (hb : VE Y K b wb) (hm : behindInMarks op b = false := by first | exact nomark _ | with_unfolding_all rfl) : VT Y K (.Compare a [op] [b] pos) (wTest (wOp f wa wb)) := by
  obtain ⟨o, d⟩ := c
  exact vt_cmpR o d ha hb hm
/-- by a truth value -/
def onBl (z : W) (A B : Prop) : Prop := match z with
  | .d (.bl true) => A
  | .d (.bl false) => B
  | _ => False
@[simp] theorem onBl_bl (c : Bool) (A B : Prop) : onBl (.d (.bl c)) A B = if c = true then A else B := by cases c <;> rfl
/-- a op1 b op2 c -/
@[simp] def wChain (f g : F2) (a b c : WE) : WE := fun rh mu Q => a rh mu fun x mu1 => b rh mu1 fun y mu2 => f mu2 x y fun z mu3 => onBl z (c rh mu3 fun u mu4 => g mu4 y u Q) (Q (.d (.bl false)) mu3)
theorem den_chain {r r' : R2} {f g : F2} {ta tb tc : TE} (hd : OpD K r f) (hd' : OpD K r' g) (ha : Den K ta wa) (hb : Den K tb wb) (hc : Den K tc wc) : Den K (tChain r r' ta tb tc) (wChain f g wa wb wc) := fun G B F H al rh si mu Qd Q s h q => by
  refine ha G B F H al rh si mu _ _ s h fun F1 H1 al1 mu1 x vx e1 s1 r1 h1 => ?_
  refine hb G B F1 H1 al1 rh si mu1 _ _ s1 h1 fun F2 H2 al2 mu2 y vy e2 s2 r2 h2 => ?_
  refine hd G B F2 H2 al2 rh si mu2 x y vx vy _ _ s2 (r1.mono e2) r2 h2 fun F3 H3 al3 mu3 z vz e3 s3 r3 h3 => ?_
  unfold onBl at h3
  split at h3
  · cases repBl r3
    refine ⟨true, rfl, iteT (hc G B F3 H3 al3 rh si mu3 _ _ s3 h3 fun F4 H4 al4 mu4 u vu e4 s4 r4 h4 => ?_)⟩
    exact hd' G B F4 H4 al4 rh si mu4 y u vy vu Qd Q s4 (r2.mono (e3.trans e4)) r4 h4 fun F5 H5 al5 mu5 v vv e5 s5 r5 h5 => q F5 H5 al5 mu5 v vv ((((e1.trans e2).trans e3).trans e4).trans e5) s5 r5 h5
  · cases repBl r3
    exact ⟨false, rfl, iteF (q F3 H3 al3 mu3 _ _ ((e1.trans e2).trans e3) s3 r3 h3)⟩
  · exact h3.elim
theorem ve_chain {op op' : CmpOp} {f g : F2} (c1 : CmpK Y K op f) (c2 : CmpK Y K op' g) (ha : VE Y K a wa) (hb : VE Y K b wb) (hc : VE Y K c wc) (hm : lastMarks [op, op'] [b, c] = false := by with_unfolding_all rfl) : VE Y K (.Compare a [op, op'] [b, c] pos) (wChain f g wa wb wc) := by
  obtain ⟨o1, d1⟩ := c1
  obtain ⟨o2, d2⟩ := c2
  obtain ⟨ta, p1, e1⟩ := ha
  obtain ⟨tb, p2, e2⟩ := hb
  obtain ⟨tc, p3, e3⟩ := hc
  exact ⟨_, fun i => pe_chain (o1 i) (o2 i) (p1 i) (p2 i) (p3 i) hm, den_chain d1 d2 e1 e2 e3⟩
theorem vt_chain {op op' : CmpOp} {f g : F2} (c1 : CmpK Y K op f) (c2 : CmpK Y K op' g) (ha : VE Y K a wa) (hb : VE Y K b wb) (hc : VE Y K c wc) (hm : lastMarks [op, op'] [b, c] = false := by with_unfolding_all rfl) : VT Y K (.Compare a [op, op'] [b, c] pos) (wTest (wChain f g wa wb wc)) := by
  obtain ⟨o1, d1⟩ := c1
  obtain ⟨o2, d2⟩ := c2
  obtain ⟨ta, p1, e1⟩ := ha
  obtain ⟨tb, p2, e2⟩ := hb
  obtain ⟨tc, p3, e3⟩ := hc
  exact ⟨_, fun i => pt_chain (o1 i) (o2 i) (p1 i) (p2 i) (p3 i) hm, den_test (den_chain d1 d2 e1 e2 e3)⟩

/-! ### truth -/
@[simp] def truW (mu : Sto) : W → Option Bool
  | .d .non => some false
  | .d (.bl b) => some b
  | .d (.int i) => some (i != 0)
  | .d (.str x) => some ((x.length : Int) != 0)
  | .d (.lst xs) => some (!xs.isEmpty)
  | .d (.tup xs) => some (!xs.isEmpty)
  | .d (.scr ns) => some (!ns.isEmpty)
  | .tup ws => some (!ws.isEmpty)
  | .loc k => match mu[k]? with
    | some (.lst xs) => some (!xs.isEmpty)
    | some (.lstW xs) => some (!xs.isEmpty)
    | _ => none
  | _ => none
theorem isEmpty_len {A1 B1 : Type} {xs : List A1} {ys : List B1} (h : xs.length = ys.length) : xs.isEmpty = ys.isEmpty := by
  cases xs <;> cases ys <;> simp at h ⊢
theorem truW_ok {G B F H : Hp} {al : List Addr} {mu : Sto} {x : W} {v : V} {q : Bool} (s : SRS K G B F H al mu) (r : RepW K F al x v) (e : truW mu x = some q) : TruV K v H q := by
  unfold truW at e
  split at e
  · cases e; cases repNon r; rfl
  · cases e; cases repBl r; rfl
  · cases e; cases repInt r; rfl
  · cases e; obtain ⟨rfl, h⟩ := repStr r; exact ⟨h.2, rfl⟩
  · cases e
    cases r with
    | d r => cases r with
      | lst q z p => exact .inl ⟨_, .inl (rdMono s.fz q), by rw [isEmpty_len p.len]⟩
  · cases e
    obtain ⟨a, vs, rfl, q, z, p⟩ := repTup r
    exact .inr (.inl ⟨_, sqtMono s.fz q, by rw [isEmpty_len (Paired.length p)]⟩)
  · cases e
    cases r with
    | d r => cases r with
      | scr q z => exact .inl ⟨_, sqlMono s.fz q, by rw [isEmpty_len (List.length_map (as := _) V.int)]⟩
  · cases e
    cases r with
    | tup q z p => exact .inr (.inl ⟨_, sqtMono s.fz q, by rw [isEmpty_len (Paired.length p.p)]⟩)
  · split at e
    · rename_i q
      cases e
      cases r with
      | loc ea =>
        obtain ⟨vs, h, z, p⟩ := s.lstAt q ea
        exact .inl ⟨vs, SqL.of h, by rw [isEmpty_len (Paired.length p)]⟩
    · rename_i q
      cases e
      cases r with
      | loc ea =>
        obtain ⟨vs, h, z, p⟩ := s.lstWAt q ea
        exact .inl ⟨vs, SqL.of h, by rw [isEmpty_len (Paired.length p)]⟩
    · cases e
  · cases e
@[simp] def wTru (f : WE) : WT := fun rh mu Q => f rh mu fun x mu1 => match truW mu1 x with
  | some b => Q b mu1
  | none => False
theorem vt_truth (y : YOk Y P w K mg base N k) (ha : VE Y K a wa) (he : ∀ i whole, isTrue a (Y i).env whole = (do let v ← whole; standAt a.pos; holding [v] (truthy v)) := by exact fun _ _ => rfl) : VT Y K a (wTru wa) := by
  obtain ⟨ta, p1, d1⟩ := ha
  refine ⟨fun σ H Q => ta σ H fun x H' => ∃ k, TruV K x H' k ∧ Q k H', fun i => by rw [← y.hK i]; exact pt_truth (p1 i) (he i), fun G B F H al rh si mu Qd Q s h q => ?_⟩
  refine d1 G B F H al rh si mu _ _ s h fun F1 H1 al1 mu1 x vx e1 s1 r1 h1 => ?_
  split at h1
  · rename_i b e
    exact ⟨b, truW_ok s1.s r1 e, q F1 H1 al1 mu1 b e1 s1 h1⟩
  · exact h1.elim

/-! ### and, or, not -/
@[simp] def wAnd (f g : WT) : WT := fun rh mu Q => f rh mu fun c mu1 => if c = true then g rh mu1 Q else Q false mu1
@[simp] def wOr (f g : WT) : WT := fun rh mu Q => f rh mu fun c mu1 => if c = true then Q true mu1 else g rh mu1 Q
@[simp] def wNot (f : WT) : WT := fun rh mu Q => f rh mu fun c mu1 => Q (!c) mu1
variable {fa fb : WT}
theorem VW.vt (h : VW Y K a fa) : VT Y K a fa := by
  obtain ⟨t, p, d⟩ := h
  exact ⟨t, fun i => (p i).pt, d⟩
theorem vw_and1 (ha : VT Y K a fa) : VW Y K (.BoolOp .And [a] pos) fa := by
  obtain ⟨t, p, d⟩ := ha
  exact ⟨t, fun i => pw_and1 (p i), d⟩
theorem vw_or1 (ha : VT Y K a fa) : VW Y K (.BoolOp .Or [a] pos) fa := by
  obtain ⟨t, p, d⟩ := ha
  exact ⟨t, fun i => pw_or1 (p i), d⟩
theorem vw_and (ha : VT Y K a fa) (hb : VW Y K (.BoolOp .And (b :: rest) pos) fb) : VW Y K (.BoolOp .And (a :: b :: rest) pos) (wAnd fa fb) := by
  obtain ⟨t, p, d⟩ := ha
  obtain ⟨u, p', d'⟩ := hb
  refine ⟨_, fun i => pw_and (p i) (p' i), fun G B F H al rh si mu Qd Q s h q => ?_⟩
  refine d G B F H al rh si mu _ _ s h fun F1 H1 al1 mu1 x e1 s1 h1 => ?_
  cases x with
  | true => exact iteT (d' G B F1 H1 al1 rh si mu1 Qd Q s1 (by simpa using h1) fun F2 H2 al2 mu2 z e2 => q F2 H2 al2 mu2 z (e1.trans e2))
  | false => exact iteF (q F1 H1 al1 mu1 false e1 s1 (by simpa using h1))
theorem vw_or (ha : VT Y K a fa) (hb : VW Y K (.BoolOp .Or (b :: rest) pos) fb) : VW Y K (.BoolOp .Or (a :: b :: rest) pos) (wOr fa fb) := by
  obtain ⟨t, p, d⟩ := ha
  obtain ⟨u, p', d'⟩ := hb
  refine ⟨_, fun i => pw_or (p i) (p' i), fun G B F H al rh si mu Qd Q s h q => ?_⟩
  refine d G B F H al rh si mu _ _ s h fun F1 H1 al1 mu1 x e1 s1 h1 => ?_
  cases x with
  | true => exact iteT (q F1 H1 al1 mu1 true e1 s1 (by simpa using h1))
  | false => exact iteF (d' G B F1 H1 al1 rh si mu1 Qd Q s1 (by simpa using h1) fun F2 H2 al2 mu2 z e2 => q F2 H2 al2 mu2 z (e1.trans e2))
theorem vt_not (ha : VT Y K a fa) : VT Y K (.UnaryOp .Not a pos) (wNot fa) := by
  obtain ⟨t, p, d⟩ := ha
  refine ⟨_, fun i => pt_not (p i), fun G B F H al rh si mu Qd Q s h q => ?_⟩
  exact d G B F H al rh si mu _ _ s h fun F1 H1 al1 mu1 x e1 s1 h1 => q F1 H1 al1 mu1 _ e1 s1 h1
/-- as values -/
@[simp] def wAndV (f g : WE) : WE := fun rh mu Q => f rh mu fun x mu1 => onBl x (g rh mu1 Q) (Q (.d (.bl false)) mu1)
@[simp] def wOrV (f g : WE) : WE := fun rh mu Q => f rh mu fun x mu1 => onBl x (Q (.d (.bl true)) mu1) (g rh mu1 Q)
theorem ve_one {op} (h : VE Y K a wa) : VE Y K (.BoolOp op [a] pos) wa := by
  obtain ⟨t, p, d⟩ := h
  exact ⟨t, fun i => pe_one (p i), d⟩
theorem ve_andV (ha : VE Y K a wa) (hb : VE Y K (.BoolOp .And (b :: rest) pos) wb) : VE Y K (.BoolOp .And (a :: b :: rest) pos) (wAndV wa wb) := by
  obtain ⟨t, p, d⟩ := ha
  obtain ⟨u, p', d'⟩ := hb
  refine ⟨_, fun i => pe_and (p i) (p' i), fun G B F H al rh si mu Qd Q s h q => ?_⟩
  refine d G B F H al rh si mu _ _ s h fun F1 H1 al1 mu1 x vx e1 s1 r1 h1 => ?_
  unfold onBl at h1
  split at h1
  · cases repBl r1
    exact ⟨true, rfl, iteT (d' G B F1 H1 al1 rh si mu1 Qd Q s1 h1 fun F2 H2 al2 mu2 z vz e2 => q F2 H2 al2 mu2 z vz (e1.trans e2))⟩
  · cases repBl r1
    exact ⟨false, rfl, iteF (q F1 H1 al1 mu1 _ _ e1 s1 r1 h1)⟩
  · exact h1.elim
theorem ve_orV (ha : VE Y K a wa) (hb : VE Y K (.BoolOp .Or (b :: rest) pos) wb) : VE Y K (.BoolOp .Or (a :: b :: rest) pos) (wOrV wa wb) := by
  obtain ⟨t, p, d⟩ := ha
  obtain ⟨u, p', d'⟩ := hb
  refine ⟨_, fun i => pe_or (p i) (p' i), fun G B F H al rh si mu Qd Q s h q => ?_⟩
  refine d G B F H al rh si mu _ _ s h fun F1 H1 al1 mu1 x vx e1 s1 r1 h1 => ?_
  unfold onBl at h1
  split at h1
  · cases repBl r1
    exact ⟨true, rfl, iteT (q F1 H1 al1 mu1 _ _ e1 s1 r1 h1)⟩
  · cases repBl r1
    exact ⟨false, rfl, iteF (d' G B F1 H1 al1 rh si mu1 Qd Q s1 h1 fun F2 H2 al2 mu2 z vz e2 => q F2 H2 al2 mu2 z vz (e1.trans e2))⟩
  · exact h1.elim
@[simp] def wNotV (f : WE) : WE := fun rh mu Q => f rh mu fun x mu1 => match truW mu1 x with
  | some b => Q (.d (.bl (!b))) mu1
  | none => False
theorem ve_not (y : YOk Y P w K mg base N k) (ha : VE Y K a wa) : VE Y K (.UnaryOp .Not a pos) (wNotV wa) := by
  obtain ⟨t, p, d⟩ := ha
  refine ⟨tNotT K t, fun i => by rw [← y.hK i]; exact pe_notT (p i), fun G B F H al rh si mu Qd Q s h q => ?_⟩
  refine d G B F H al rh si mu _ _ s h fun F1 H1 al1 mu1 x vx e1 s1 r1 h1 => ?_
  split at h1
  · rename_i b e
    exact ⟨b, truW_ok s1.s r1 e, q F1 H1 al1 mu1 _ _ e1 s1 (.d (.bl _)) h1⟩
  · exact h1.elim
/-- a if t else b -/
@[simp] def wIf (t : WT) (f g : WE) : WE := fun rh mu Q => t rh mu fun c mu1 => if c = true then f rh mu1 Q else g rh mu1 Q
theorem ve_if (hc : VT Y K c fa) (ha : VE Y K a wa) (hb : VE Y K b wb) : VE Y K (.IfExp c a b pos) (wIf fa wa wb) := by
  obtain ⟨t, p, d⟩ := hc
  obtain ⟨t1, p1, d1⟩ := ha
  obtain ⟨t2, p2, d2⟩ := hb
  refine ⟨_, fun i => pe_ifExp (p i) (p1 i) (p2 i), fun G B F H al rh si mu Qd Q s h q => ?_⟩
  refine d G B F H al rh si mu _ _ s h fun F1 H1 al1 mu1 x e1 s1 h1 => ?_
  cases x with
  | true => exact iteT (d1 G B F1 H1 al1 rh si mu1 Qd Q s1 (by simpa using h1) fun F2 H2 al2 mu2 z vz e2 => q F2 H2 al2 mu2 z vz (e1.trans e2))
  | false => exact iteF (d2 G B F1 H1 al1 rh si mu1 Qd Q s1 (by simpa using h1) fun F2 H2 al2 mu2 z vz e2 => q F2 H2 al2 mu2 z vz (e1.trans e2))

/-! ### argument lists, displays -/
@[simp] def wNil : WA := fun _ mu Q => Q [] mu
@[simp] def wCons (f : WE) (g : WA) : WA := fun rh mu Q => f rh mu fun x mu1 => g rh mu1 fun xs mu2 => Q (x :: xs) mu2
variable {es : List Expr} {ga : WA}
theorem va_nil : VA Y K [] wNil := ⟨_, fun _ => pa_nil, fun G B F H al rh si mu Qd Q s h q => q F H al mu [] [] (Ext.refl _ _) s .nil h⟩
theorem va_cons (ha : VE Y K a wa) (hr : VA Y K es ga) (hs : ∀ i, starEach (a :: es) (Y i).env = (false, eval a (Y i).env) :: starEach es (Y i).env := by exact fun _ => rfl) : VA Y K (a :: es) (wCons wa ga) := by
  obtain ⟨t, p, d⟩ := ha
  obtain ⟨u, p', d'⟩ := hr
  refine ⟨_, fun i => pa_cons (p i) (p' i) (hs i), fun G B F H al rh si mu Qd Q s h q => ?_⟩
  refine d G B F H al rh si mu _ _ s h fun F1 H1 al1 mu1 x vx e1 s1 r1 h1 => ?_
  exact d' G B F1 H1 al1 rh si mu1 _ _ s1 h1 fun F2 H2 al2 mu2 ws vs e2 s2 r2 h2 => q F2 H2 al2 mu2 _ _ (e1.trans e2) s2 (.cons (r1.mono e2) r2) h2
@[simp] def wTup (g : WA) : WE := fun rh mu Q => g rh mu fun ws mu1 => ws.length ≤ sizeLine ∧ Q (mkTup ws) mu1
@[simp] def wLst (o : Bool) (g : WA) : WE := fun rh mu Q => g rh mu fun ws mu1 => ws.length ≤ sizeLine ∧ newLW o ws mu1 Q
theorem ve_tup {x1} (h : VA Y K es ga) : VE Y K (.Tuple es x1 pos) (wTup ga) := by
  obtain ⟨t, p, d⟩ := h
  refine ⟨_, fun i => pe_tup (p i), fun G B F H al rh si mu Qd Q s h q => ?_⟩
  refine d G B F H al rh si mu _ _ s h fun F1 H1 al1 mu1 ws vs e1 s1 r1 h1 => ?_
  have l := Paired.length r1
  exact ⟨by have := h1.1; omega, newT_ok s1 r1 (by have := h1.1; omega) h1.2 fun F2 H2 al2 mu2 z vz e2 => q F2 H2 al2 mu2 z vz (e1.trans e2)⟩
theorem ve_lst (o : Bool) (h : VA Y K es ga) : VE Y K (.List es pos) (wLst o ga) := by
  obtain ⟨t, p, d⟩ := h
  refine ⟨_, fun i => pe_lst (p i), fun G B F H al rh si mu Qd Q s h q => ?_⟩
  refine d G B F H al rh si mu _ _ s h fun F1 H1 al1 mu1 ws vs e1 s1 r1 h1 => ?_
  have l := Paired.length r1
  exact ⟨by have := h1.1; omega, newLW_ok s1 r1 (by have := h1.1; omega) h1.2 fun F2 H2 al2 mu2 z vz e2 => q F2 H2 al2 mu2 z vz (e1.trans e2)⟩
end

/-! ### subscripts -/
/-- the items of a list, a tuple -/
@[simp] def seqW (mu : Sto) : W → Option (List W)
  | .d (.lst xs) => some (xs.map .d)
  | .d (.tup xs) => some (xs.map .d)
  | .d (.scr ns) => some (ns.map fun n => .d (.int n))
  | .tup ws => some ws
  | .loc k => match mu[k]? with
    | some (.lst xs) => some (xs.map .d)
    | some (.lstW ws) => some ws
    | _ => none
  | _ => none
section
variable {K : PySem.W.Frag} {G B F F' H H' : Hp} {al al' : List Addr} {mu mu' : Sto} {rh : Ev} {si : L2.St}
theorem pMapD {xs : List D} {vs : List V} (p : Paired (RepD K F) xs vs) : Paired (RepW K F al) (xs.map .d) vs := by
  induction p with
  | nil => exact .nil
  | cons r t ih => exact .cons (.d r) ih
theorem pScr : ∀ ns : List Int, Paired (RepW K F al) (ns.map fun n => .d (.int n)) (ns.map V.int)
  | [] => .nil
  | n :: ns => .cons (.d (.int n)) (pScr ns)
theorem pScrD : ∀ ns : List Int, Paired (RepD K F) (ns.map D.int) (ns.map V.int)
  | [] => .nil
  | n :: ns => .cons (.int n) (pScrD ns)
/-- what is read of a sequence -/
theorem seqW_rep {x : W} {v : V} {ws : List W} (s : SRS K G B F H al mu) (r : RepW K F al x v) (e : seqW mu x = some ws) : ∃ a vs, v = .ref a ∧ (SqL K H a vs ∨ SqT K H a vs) ∧ vs.length ≤ sizeLine ∧ Paired (RepW K F al) ws vs := by
  unfold seqW at e
  split at e
  · cases e
    cases r with
    | d r => cases r with
      | lst q z p => exact ⟨_, _, rfl, .inl (.inl (rdMono s.fz q)), z, pMapD p.p⟩
  · cases e
    obtain ⟨a, vs, rfl, q, z, p⟩ := repTup r
    exact ⟨_, _, rfl, .inr (sqtMono s.fz q), z, pMapD p⟩
  · cases e
    cases r with
    | d r => cases r with
      | scr q z => exact ⟨_, _, rfl, .inl (sqlMono s.fz q), by rw [List.length_map]; exact z, pScr _⟩
  · cases e
    cases r with
    | tup q z p => exact ⟨_, _, rfl, .inr (sqtMono s.fz q), z, p.p⟩
  · split at e
    · rename_i q
      cases e
      cases r with
      | loc ea =>
        obtain ⟨vs, h, z, p⟩ := s.lstAt q ea
        exact ⟨_, vs, rfl, .inl (SqL.of h), z, pMapD p⟩
    · rename_i q
      cases e
      cases r with
      | loc ea =>
        obtain ⟨vs, h, z, p⟩ := s.lstWAt q ea
        exact ⟨_, vs, rfl, .inl (SqL.of h), z, p⟩
    · cases e
  · cases e
theorem ixN_len {A1 B1 : Type} {R : A1 → B1 → Prop} {xs : List A1} {ys : List B1} (p : Paired R xs ys) {i : Int} {x : A1} (h : atI xs i = some x) : ∃ y, atI ys i = some y ∧ R x y := by
  unfold atI at h ⊢
  rw [← Paired.length p]
  cases q : ixN xs.length i with
  | none => rw [q] at h; cases h
  | some j =>
    rw [q] at h
    exact pGetL p h
@[simp] def fIx : F2 := fun mu x y Q => match x, y with
  | .d (.str z), .d (.int i) => ∃ c, atI z.cps.toList i = some c ∧ Q (.d (.str ⟨#[c]⟩)) mu
  | .d (.lst xs), .d (.int i) => ∃ d, atI xs i = some d ∧ Q (.d d) mu
  | .d (.tup xs), .d (.int i) => ∃ d, atI xs i = some d ∧ Q (.d d) mu
  | x, .d (.int i) => match seqW mu x with
    | some ws => ∃ u, atI ws i = some u ∧ Q u mu
    | none => False
  | _, _ => False
theorem strOk_at {z : Str} {i : Int} {c : Nat} (h : StrOk z) (e : atI z.cps.toList i = some c) : StrOk ⟨#[c]⟩ := by
  unfold atI at e
  cases q : ixN z.cps.toList.length i with
  | none => rw [q] at e; cases e
  | some j =>
    rw [q] at e
    have e' : z.cps.toList[j]? = some c := e
    have hm := List.mem_of_getElem? e'
    have h1 := h.1
    unfold PyData.strOk at h1
    rw [Array.all_eq_true'] at h1
    have h2 := h1 c (by simpa using hm)
    exact ⟨by unfold PyData.strOk; simpa using h2, by show 1 ≤ sizeLine; decide⟩
theorem fIx_seq {x : W} {vx : V} {i : Int} {ws : List W} {u : W} {Q : VK} {Qd : W → Sto → Prop} (s : SR K G B F H al rh si mu) (r : RepW K F al x vx) (e : seqW mu x = some ws) (a : atI ws i = some u) (h : Qd u mu)
    (q : ∀ F' H' al' mu' w v, Ext F al F' al' → SR K G B F' H' al' rh si mu' → RepW K F' al' w v → Qd w mu' → Q v H') : rIx K vx (.int i) H Q := by
  obtain ⟨p, vs, rfl, hs, z, pr⟩ := seqW_rep s.s r e
  obtain ⟨v, e2, rv⟩ := ixN_len pr a
  have fin := q F H al mu u v (Ext.refl _ _) s rv h
  rcases hs with hs | hs
  · exact .inl ⟨p, vs, i, v, rfl, rfl, hs, e2, fin⟩
  · exact .inr (.inl ⟨p, vs, i, v, rfl, rfl, hs, e2, fin⟩)
theorem atI_map {A1 B1 : Type} {xs : List A1} {f : A1 → B1} {i : Int} {x : A1} (h : atI xs i = some x) : atI (xs.map f) i = some (f x) := by
  unfold atI at h ⊢
  rw [List.length_map]
  cases q : ixN xs.length i with
  | none => rw [q] at h; cases h
  | some j =>
    rw [q] at h
    have h' : xs[j]? = some x := h
    show (xs.map f)[j]? = some (f x)
    rw [List.getElem?_map, h']; rfl
theorem opd_ix : OpD K (rIx K) fIx := fun G B F H al rh si mu x y vx vy Qd Q s r1 r2 h q => by
  unfold fIx at h
  split at h
  · obtain ⟨rfl, hz⟩ := repStr r1
    cases repInt r2
    obtain ⟨c, e, h⟩ := h
    exact .inr (.inr ⟨_, _, c, rfl, rfl, hz.2, e, q F H al mu _ _ (Ext.refl _ _) s (.d (.str _ (strOk_at hz e))) h⟩)
  · cases repInt r2
    obtain ⟨d, e, h⟩ := h
    exact fIx_seq s r1 rfl (atI_map (f := W.d) e) h q
  · cases repInt r2
    obtain ⟨d, e, h⟩ := h
    exact fIx_seq s r1 rfl (atI_map (f := W.d) e) h q
  · cases repInt r2
    split at h
    · rename_i e
      obtain ⟨u, a, h⟩ := h
      exact fIx_seq s r1 e a h q
    · exact h.elim
  · exact h.elim
end
section
variable {io : Type} {Y : io → Cx} {P : Program} {w : World} {K : PySem.W.Frag} {mg : Str → Option Value} {base : Heap} {N : List Str} {k : Nat} {pos : Pos} {a b c : Expr} {wa wb wc : WE}
theorem ve_ix (y : YOk Y P w K mg base N k) (ha : VE Y K a wa) (hb : VE Y K b wb) (hs : PlainIx b := by exact fun _ _ => rfl) : VE Y K (.Subscript a b pos) (wOp fIx wa wb) := by
  obtain ⟨ta, p1, d1⟩ := ha
  obtain ⟨tb, p2, d2⟩ := hb
  exact ⟨tOp (rIx K) ta tb, fun i => by rw [← y.hK i]; exact pe_ix ix_seq (p1 i) (p2 i) hs, den_op opd_ix d1 d2⟩

/-! ### slices -/
abbrev WO := Ev → Sto → (Option Int → Sto → Prop) → Prop
def DenO (K : PySem.W.Frag) (t : TO) (f : WO) : Prop := ∀ (G B F H : Hp) (al : List Addr) (rh : Ev) (si : L2.St) (mu : Sto) (Qd : Option Int → Sto → Prop) (Q : Option Int → Hp → Prop), SR K G B F H al rh si mu → f rh mu Qd →
  (∀ F' H' al' mu' o, Ext F al F' al' → SR K G B F' H' al' rh si mu' → Qd o mu' → Q o H') → t si H Q
def VO (Y : io → Cx) (K : PySem.W.Frag) (e : Option Expr) (f : WO) : Prop := ∃ t, (∀ i, PO (Y i) e t) ∧ DenO K t f
@[simp] def wNoPart : WO := fun _ mu Q => Q none mu
@[simp] def wPart (f : WE) : WO := fun rh mu Q => f rh mu fun x mu1 => match x with
  | .d (.int i) => Q (some i) mu1
  | _ => False
theorem vo_none : VO Y K none wNoPart := ⟨_, fun _ => po_none, fun G B F H al rh si mu Qd Q s h q => q F H al mu none (Ext.refl _ _) s h⟩
theorem vo_some (h : VE Y K a wa) : VO Y K (some a) (wPart wa) := by
  obtain ⟨t, p, d⟩ := h
  refine ⟨_, fun i => po_some (p i), fun G B F H al rh si mu Qd Q s h q => ?_⟩
  refine d G B F H al rh si mu _ _ s h fun F1 H1 al1 mu1 x vx e1 s1 r1 h1 => ?_
  split at h1
  · cases repInt r1
    exact ⟨_, rfl, q F1 H1 al1 mu1 _ e1 s1 h1⟩
  · exact h1.elim
/-- the items of xs[lo:hi] -/
def cutL {A1 : Type} (xs : List A1) (lo hi : Option Int) : List A1 := (xs.drop (HT.sIx xs.length 0 lo)).take (HT.sIx xs.length xs.length hi - HT.sIx xs.length 0 lo)
@[simp] def wSl (o : Bool) (f : WE) (l h : WO) : WE := fun rh mu Q => f rh mu fun x mu1 => l rh mu1 fun lo mu2 => h rh mu2 fun hi mu3 => match x with
  | .d (.str z) => Q (.d (.str (cutS z lo hi))) mu3
  | .d (.tup xs) => ¬ (HT.sIx xs.length 0 lo = 0 ∧ HT.sIx xs.length xs.length hi = xs.length) ∧ Q (.d (.tup (cutL xs lo hi))) mu3
  | .d (.scr ns) => newL o (cutL (ns.map D.int) lo hi) mu3 Q
  | x => match lsD mu3 x with
    | some xs => newL o (cutL xs lo hi) mu3 Q
    | none => False
theorem strOk_cut {z : Str} {lo hi : Option Int} (h : StrOk z) : StrOk (cutS z lo hi) := by
  refine ⟨?_, Nat.le_trans (cutS_length z lo hi) h.2⟩
  have h1 := h.1
  unfold PyData.strOk at h1 ⊢
  rw [Array.all_eq_true'] at h1 ⊢
  intro x hx
  refine h1 x ?_
  unfold cutS at hx
  have := List.mem_of_mem_drop (List.mem_of_mem_take (by simpa using hx))
  simpa using this
theorem cutP {A1 B1 : Type} {R : A1 → B1 → Prop} {xs : List A1} {ys : List B1} (p : Paired R xs ys) (lo hi : Option Int) : Paired R (cutL xs lo hi) (cutL ys lo hi) := by
  unfold cutL
  rw [← Paired.length p]
  exact pCut p _ _
theorem ve_slice (y : YOk Y P w K mg base N k) (o : Bool) {lo hi : Option Expr} {p2 : Pos} {fl fh : WO} (ha : VE Y K a wa) (hl : VO Y K lo fl) (hh : VO Y K hi fh) : VE Y K (.Subscript a (.Slice lo hi none p2) pos) (wSl o wa fl fh) := by
  obtain ⟨ta, p1, d1⟩ := ha
  obtain ⟨tl, p2, d2⟩ := hl
  obtain ⟨th, p3, d3⟩ := hh
  refine ⟨tSl (fun x lo hi H Q => rSlS x lo hi H Q ∨ rSlT K x lo hi H Q ∨ rSlL K x lo hi H Q) ta tl th, fun i => by rw [← y.hK i]; exact pe_slice (sl_str.or (sl_tup.or sl_list)) (p1 i) (p2 i) (p3 i), fun G B F H al rh si mu Qd Q s h q => ?_⟩
  refine d1 G B F H al rh si mu _ _ s h fun F1 H1 al1 mu1 x vx e1 s1 r1 h1 => ?_
  refine d2 G B F1 H1 al1 rh si mu1 _ _ s1 h1 fun F2 H2 al2 mu2 l e2 s2 h2 => ?_
  refine d3 G B F2 H2 al2 rh si mu2 _ _ s2 h2 fun F3 H3 al3 mu3 u e3 s3 h3 => ?_
  have r3 := r1.mono (e2.trans e3)
  have q3 := fun F' H' al' mu' w v (x : Ext F3 al3 F' al') => q F' H' al' mu' w v (((e1.trans e2).trans e3).trans x)
  split at h3
  · obtain ⟨rfl, hz⟩ := repStr r3
    exact .inl ⟨_, rfl, hz.2, q3 F3 H3 al3 mu3 _ _ (Ext.refl _ _) s3 (.d (.str _ (strOk_cut hz))) h3⟩
  · obtain ⟨b, vs, rfl, qt, z, pr⟩ := repTup r3
    have le := Paired.length pr
    refine .inr (.inl ⟨b, vs, rfl, sqtMono s3.s.fz qt, by rw [← le]; exact h3.1, fun p hp => ?_⟩)
    have x := s3.s.frozX (o := .tup (cutV vs l u)) hp
    refine q3 _ _ _ _ _ _ x (s3.step x (s3.s.froz hp)) (.d (.tup (SqT.of upd_same) ?_ ((RepDs.of (cutP pr l u)).mono x.1))) h3.2
    exact Nat.le_trans (cutV_length vs l u) z
  · cases r3 with
    | d r3 => cases r3 with
      | scr qt z => exact .inr (.inr ⟨_, _, rfl, sqlMono s3.s.fz qt, newL_ok s3 (cutP (pScrD _) l u) (Nat.le_trans (cutV_length _ l u) (by rw [List.length_map]; exact z)) h3 q3⟩)
  · split at h3
    · rename_i e4
      obtain ⟨b, vs, rfl, qt, z, pr⟩ := lsD_rep s3.s r3 e4
      exact .inr (.inr ⟨b, vs, rfl, .inl qt, newL_ok s3 (cutP pr l u) (Nat.le_trans (cutV_length vs l u) z) h3 q3⟩)
    · exact h3.elim
end
end VL
namespace VL
open PySem PySem.Spec PyProof.Rows L2

/-! ### built-in functions -/
abbrev FC := Sto → List W → (W → Sto → Prop) → Prop
@[simp] def wCall (f : FC) (g : WA) : WE := fun rh mu Q => g rh mu fun ws mu1 => f mu1 ws Q
def CallD (K : PySem.W.Frag) (r : List V → Hp → VK → Prop) (f : FC) : Prop := ∀ (G B F H : Hp) (al : List Addr) (rh : Ev) (si : L2.St) (mu : Sto) (ws : List W) (vs : List V) (Qd : W → Sto → Prop) (Q : VK), SR K G B F H al rh si mu → Paired (RepW K F al) ws vs → f mu ws Qd →
  (∀ F' H' al' mu' w v, Ext F al F' al' → SR K G B F' H' al' rh si mu' → RepW K F' al' w v → Qd w mu' → Q v H') → r vs H Q
section
variable {io : Type} {Y : io → Cx} {P : Program} {w : World} {K : PySem.W.Frag} {mg : Str → Option Value} {base : Heap} {N : List Str} {k : Nat} {pos p : Pos} {a b c e : Expr} {es : List Expr} {wa wb wc : WE} {ga : WA} {x : Str} {id T : String} {r : List V → Hp → VK → Prop} {f : FC}
theorem den_call {t : TA} (hd : CallD K r f) (ha : DenA K t ga) : Den K (tCB r t) (wCall f ga) := fun G B F H al rh si mu Qd Q s h q => by
  refine ha G B F H al rh si mu _ _ s h fun F1 H1 al1 mu1 ws vs e1 s1 r1 h1 => ?_
  exact hd G B F1 H1 al1 rh si mu1 ws vs Qd Q s1 r1 h1 fun F2 H2 al2 mu2 z vz e2 => q F2 H2 al2 mu2 z vz (e1.trans e2)
theorem ve_callB (y : YOk Y P w K mg base N k) (hc : ∀ i, CallR (Y i) (.builtin id) r) (hd : CallD K r f) (hm : mg x = none) (hv : bootBuiltins x = some (.builtin id)) (ha : VA Y K (e :: es) ga) (hg : ∀ j, Gl (Y j) x := by exact fun _ => rfl) (hn : x ≠ "__name__" := by decide) (hdb : (x == ("__debug__" : Str)) = false := by decide)
    (he : ∀ i, starEach (e :: es) (Y i).env = (false, eval e (Y i).env) :: starEach es (Y i).env := by exact fun _ => rfl) (hpl : ∀ i, (backTo pos (starEach es (Y i).env)).any (·.1) = false := by exact fun _ => rfl) : VE Y K (.Call (.Name x p) (e :: es) [] pos) (wCall f ga) := by
  obtain ⟨t, p1, d1⟩ := ha
  exact ⟨_, fun i => pe_callB (hc i) (hg i) (by rw [y.hmg i]; exact hm) hv (p1 i) hn hdb (he i) (hpl i), den_call hd d1⟩
theorem ve_callTy (y : YOk Y P w K mg base N k) (hc : ∀ i, CallR (Y i) (.type T) r) (hd : CallD K r f) (hm : mg x = none) (hv : bootBuiltins x = some (.type T)) (ha : VA Y K (e :: es) ga) (hg : ∀ j, Gl (Y j) x := by exact fun _ => rfl) (hn : x ≠ "__name__" := by decide) (hdb : (x == ("__debug__" : Str)) = false := by decide)
    (he : ∀ i, starEach (e :: es) (Y i).env = (false, eval e (Y i).env) :: starEach es (Y i).env := by exact fun _ => rfl) (hpl : ∀ i, (backTo pos (starEach es (Y i).env)).any (·.1) = false := by exact fun _ => rfl) : VE Y K (.Call (.Name x p) (e :: es) [] pos) (wCall f ga) := by
  obtain ⟨t, p1, d1⟩ := ha
  exact ⟨_, fun i => pe_callTy (hc i) (hg i) (by rw [y.hmg i]; exact hm) hv (p1 i) hn hdb (he i) (hpl i), den_call hd d1⟩
end

section
variable {K : PySem.W.Frag} {G B F F' H H' : Hp} {al al' : List Addr} {mu mu' : Sto} {rh : Ev} {si : L2.St}
theorem pair1 {A1 B1 : Type} {R : A1 → B1 → Prop} {x : A1} {ys : List B1} (p : Paired R [x] ys) : ∃ y, ys = [y] ∧ R x y := by
  cases p with
  | cons r t => cases t; exact ⟨_, rfl, r⟩
theorem pair2 {A1 B1 : Type} {R : A1 → B1 → Prop} {x x' : A1} {ys : List B1} (p : Paired R [x, x'] ys) : ∃ y y', ys = [y, y'] ∧ R x y ∧ R x' y' := by
  cases p with
  | cons r t => obtain ⟨y', rfl, r'⟩ := pair1 t; exact ⟨_, _, rfl, r, r'⟩
/-- len -/
@[simp] def fLen : FC := fun mu ws Q => match ws with
  | [.d (.str z)] => Q (.d (.int z.length)) mu
  | [x] => match seqW mu x with
    | some us => Q (.d (.int us.length)) mu
    | none => False
  | _ => False
theorem cd_len : CallD K (fun xs H Q => ∃ x n, xs = [x] ∧ LenV K x H n ∧ Q (.int n) H) fLen := fun G B F H al rh si mu ws vs Qd Q s r0 h q => by
  unfold fLen at h
  split at h
  · obtain ⟨v, rfl, r⟩ := pair1 r0
    obtain ⟨rfl, hz⟩ := repStr r
    exact ⟨_, _, rfl, ⟨hz.2, rfl⟩, q F H al mu _ _ (Ext.refl _ _) s (.d (.int _)) h⟩
  · obtain ⟨v, rfl, r⟩ := pair1 r0
    split at h
    · rename_i us e
      obtain ⟨b, vs, rfl, hs, z, p⟩ := seqW_rep s.s r e
      have l := Paired.length p
      refine ⟨.ref b, vs.length, rfl, ?_, q F H al mu _ _ (Ext.refl _ _) s (.d ?_) h⟩
      · rcases hs with hs | hs
        · exact .inl ⟨vs, hs, rfl⟩
        · exact .inr ⟨vs, hs, rfl⟩
      · rw [l]; exact .int _
    · exact h.elim
  · exact h.elim
/-- list(x), tuple(x) -/
@[simp] def fList (o : Bool) : FC := fun mu ws Q => match ws with
  | [x] => match seqW mu x with
    | some us => newLW o us mu Q
    | none => False
  | _ => False
theorem cd_list (o : Bool) : CallD K (fun xs H Q => ∃ p ys, xs = [.ref p] ∧ (SqL K H p ys ∨ SqT K H p ys) ∧ ∀ l, H l = none → Q (.ref l) (upd H l (.lst ys))) (fList o) := fun G B F H al rh si mu ws vs Qd Q s r0 h q => by
  unfold fList at h
  split at h
  · obtain ⟨v, rfl, r⟩ := pair1 r0
    split at h
    · rename_i us e
      obtain ⟨b, vs, rfl, hs, z, p⟩ := seqW_rep s.s r e
      exact ⟨b, vs, rfl, hs, newLW_ok s p z h q⟩
    · exact h.elim
  · exact h.elim
@[simp] def fTuple : FC := fun mu ws Q => match ws with
  | [.d (.tup xs)] => Q (.d (.tup xs)) mu
  | [.tup us] => Q (.tup us) mu
  | [x] => match seqW mu x with
    | some us => Q (mkTup us) mu
    | none => False
  | _ => False
theorem cd_tuple : CallD K (fun xs H Q => ∃ p ys, xs = [.ref p] ∧ ((SqL K H p ys ∧ ∀ l, H l = none → Q (.ref l) (upd H l (.tup ys))) ∨ (SqT K H p ys ∧ Q (.ref p) H))) fTuple := fun G B F H al rh si mu ws vs Qd Q s r0 h q => by
  unfold fTuple at h
  split at h
  · obtain ⟨v, rfl, r⟩ := pair1 r0
    obtain ⟨b, vs, rfl, hs, z, p⟩ := repTup r
    exact ⟨b, vs, rfl, .inr ⟨sqtMono s.s.fz hs, q F H al mu _ _ (Ext.refl _ _) s r h⟩⟩
  · obtain ⟨v, rfl, r⟩ := pair1 r0
    cases r with
    | tup hs z p => exact ⟨_, _, rfl, .inr ⟨sqtMono s.s.fz hs, q F H al mu _ _ (Ext.refl _ _) s (.tup hs z p) h⟩⟩
  · rename_i x n1 n2
    obtain ⟨v, rfl, r⟩ := pair1 r0
    split at h
    · rename_i us e
      have nt : ∃ a vs, v = .ref a ∧ SqL K H a vs ∧ vs.length ≤ sizeLine ∧ Paired (RepW K F al) us vs := by
        unfold seqW at e
        split at e
        · cases e
          cases r with
          | d r => cases r with
            | lst q z p => exact ⟨_, _, rfl, .inl (rdMono s.s.fz q), z, pMapD p.p⟩
        · exact (n1 _ rfl).elim
        · cases e
          cases r with
          | d r => cases r with
            | scr q z => exact ⟨_, _, rfl, sqlMono s.s.fz q, by rw [List.length_map]; exact z, pScr _⟩
        · exact (n2 _ rfl).elim
        · split at e
          · rename_i q
            cases e
            cases r with
            | loc ea =>
              obtain ⟨vs, h, z, p⟩ := s.s.lstAt q ea
              exact ⟨_, vs, rfl, SqL.of h, z, pMapD p⟩
          · rename_i q
            cases e
            cases r with
            | loc ea =>
              obtain ⟨vs, h, z, p⟩ := s.s.lstWAt q ea
              exact ⟨_, vs, rfl, SqL.of h, z, p⟩
          · cases e
        · cases e
      obtain ⟨b, vs, rfl, hs, z, p⟩ := nt
      exact ⟨b, vs, rfl, .inl ⟨hs, newT_ok s p z h q⟩⟩
    · exact h.elim
  · exact h.elim
/-- int(x) of an int, a bool -/
@[simp] def fInt : FC := fun mu ws Q => match ws with
  | [.d (.int i)] => Q (.d (.int i)) mu
  | [.d (.bl b)] => Q (.d (.int (if b then 1 else 0))) mu
  | _ => False
theorem cd_int : CallD K (fun xs H Q => (∃ i, xs = [.int i] ∧ Q (.int i) H) ∨ ∃ k, xs = [.bl k] ∧ Q (.int (if k then 1 else 0)) H) fInt := fun G B F H al rh si mu ws vs Qd Q s r0 h q => by
  unfold fInt at h
  split at h
  · obtain ⟨v, rfl, r⟩ := pair1 r0
    cases repInt r
    exact .inl ⟨_, rfl, q F H al mu _ _ (Ext.refl _ _) s (.d (.int _)) h⟩
  · obtain ⟨v, rfl, r⟩ := pair1 r0
    cases repBl r
    exact .inr ⟨_, rfl, q F H al mu _ _ (Ext.refl _ _) s (.d (.int _)) h⟩
  · exact h.elim
/-- min, max of two -/
@[simp] def fMin2 : FC := fun mu ws Q => match ws with
  | [.d (.int i), .d (.int j)] => Q (.d (.int (if j < i then j else i))) mu
  | _ => False
@[simp] def fMax2 : FC := fun mu ws Q => match ws with
  | [.d (.int i), .d (.int j)] => Q (.d (.int (if j > i then j else i))) mu
  | _ => False
theorem cd_min2 : CallD K (fun xs H Q => ∃ i j, xs = [.int i, .int j] ∧ Q (.int (if j < i then j else i)) H) fMin2 := fun G B F H al rh si mu ws vs Qd Q s r0 h q => by
  unfold fMin2 at h
  split at h
  · obtain ⟨v, u, rfl, r, r'⟩ := pair2 r0
    cases repInt r
    cases repInt r'
    exact ⟨_, _, rfl, q F H al mu _ _ (Ext.refl _ _) s (.d (.int _)) h⟩
  · exact h.elim
theorem cd_max2 : CallD K (fun xs H Q => ∃ i j, xs = [.int i, .int j] ∧ Q (.int (if j > i then j else i)) H) fMax2 := fun G B F H al rh si mu ws vs Qd Q s r0 h q => by
  unfold fMax2 at h
  split at h
  · obtain ⟨v, u, rfl, r, r'⟩ := pair2 r0
    cases repInt r
    cases repInt r'
    exact ⟨_, _, rfl, q F H al mu _ _ (Ext.refl _ _) s (.d (.int _)) h⟩
  · exact h.elim
/-- sum, any, all, min of a list -/
theorem ints_rep {ns : List Int} {vs : List V} (p : Paired (RepD K F) (ns.map D.int) vs) : vs = ns.map V.int := by
  induction ns generalizing vs with
  | nil => cases p; rfl
  | cons n ns ih => cases p with
    | cons r t => cases r; rw [ih t]; rfl
theorem bls_rep {ns : List Bool} {vs : List V} (p : Paired (RepD K F) (ns.map D.bl) vs) : vs = ns.map V.bl := by
  induction ns generalizing vs with
  | nil => cases p; rfl
  | cons n ns ih => cases p with
    | cons r t => cases r; rw [ih t]; rfl
def fSum : FC := fun mu ws Q => match ws with
  | [.d (.scr ns)] => Q (.d (.int ns.sum)) mu
  | [x] => match lsD mu x with
    | some xs => ∃ ns, xs = List.map D.int ns ∧ Q (.d (.int ns.sum)) mu
    | none => False
  | _ => False
theorem cd_sum : CallD K (rSum K) fSum := fun G B F H al rh si mu ws vs Qd Q s r0 h q => by
  unfold fSum at h
  split at h
  · obtain ⟨v, rfl, r⟩ := pair1 r0
    cases r with
    | d r => cases r with
      | scr hs z => exact ⟨_, _, rfl, sqlMono s.s.fz hs, q F H al mu _ _ (Ext.refl _ _) s (.d (.int _)) h⟩
  · obtain ⟨v, rfl, r⟩ := pair1 r0
    split at h
    · rename_i xs e
      obtain ⟨ns, rfl, h⟩ := h
      obtain ⟨a, vs, rfl, hs, z, p⟩ := lsD_rep s.s r e
      cases ints_rep p
      exact ⟨a, ns, rfl, .inl hs, q F H al mu _ _ (Ext.refl _ _) s (.d (.int _)) h⟩
    · exact h.elim
  · exact h.elim
def fMin : FC := fun mu ws Q => match ws with
  | [x] => match lsD mu x with
    | some xs => ∃ ns, xs = List.map D.int ns ∧ 0 < ns.length ∧ ∀ m, m ∈ ns → (∀ y, y ∈ ns → m ≤ y) → Q (.d (.int m)) mu
    | none => False
  | _ => False
theorem cd_min : CallD K (rMin K) fMin := fun G B F H al rh si mu ws vs Qd Q s r0 h q => by
  unfold fMin at h
  split at h
  · obtain ⟨v, rfl, r⟩ := pair1 r0
    split at h
    · rename_i xs e
      obtain ⟨ns, rfl, h0, h⟩ := h
      obtain ⟨a, vs, rfl, hs, z, p⟩ := lsD_rep s.s r e
      cases ints_rep p
      exact ⟨a, ns, rfl, .inl hs, h0, fun m h1 h2 => q F H al mu _ _ (Ext.refl _ _) s (.d (.int _)) (h m h1 h2)⟩
    · exact h.elim
  · exact h.elim
def fAny (neg : Bool) : FC := fun mu ws Q => match ws with
  | [x] => match lsD mu x with
    | some xs => ∃ bs, xs = List.map D.bl bs ∧ Q (.d (.bl (if neg then bs.all id else bs.any id))) mu
    | none => False
  | _ => False
theorem cd_any : CallD K (rAny K) (fAny false) := fun G B F H al rh si mu ws vs Qd Q s r0 h q => by
  unfold fAny at h
  split at h
  · obtain ⟨v, rfl, r⟩ := pair1 r0
    split at h
    · rename_i xs e
      obtain ⟨ns, rfl, h⟩ := h
      obtain ⟨a, vs, rfl, hs, z, p⟩ := lsD_rep s.s r e
      cases bls_rep p
      exact ⟨a, ns, rfl, .inl hs, q F H al mu _ _ (Ext.refl _ _) s (.d (.bl _)) h⟩
    · exact h.elim
  · exact h.elim
theorem cd_all : CallD K (rAll K) (fAny true) := fun G B F H al rh si mu ws vs Qd Q s r0 h q => by
  unfold fAny at h
  split at h
  · obtain ⟨v, rfl, r⟩ := pair1 r0
    split at h
    · rename_i xs e
      obtain ⟨ns, rfl, h⟩ := h
      obtain ⟨a, vs, rfl, hs, z, p⟩ := lsD_rep s.s r e
      cases bls_rep p
      exact ⟨a, ns, rfl, .inl hs, q F H al mu _ _ (Ext.refl _ _) s (.d (.bl _)) h⟩
    · exact h.elim
  · exact h.elim
/-- divmod -/
@[simp] def fDivmod : FC := fun mu ws Q => match ws with
  | [.d (.int i), .d (.int j)] => CD i j ∧ Q (.d (.tup [.int (gDiv i j), .int (gMod i j)])) mu
  | _ => False
theorem cr_divmod {X : Cx} : CallR X (.builtin "divmod") (fun xs H Q => ∃ i j, xs = [.int i, .int j] ∧ CD i j ∧ ∀ p, H p = none → Q (.ref p) (upd H p (.tup [.int (gDiv i j), .int (gMod i j)]))) := by
  intro pins s σ H xs us Q I r h
  obtain ⟨i, j, rfl, ⟨h1, h2⟩, q⟩ := h
  obtain ⟨u, w', rfl, ⟨t, rfl⟩, ⟨t', rfl⟩⟩ := vals2 r
  refine divmod_int h1 ?_ (.inl (PyProof.noPylong_of_log2 h2))
  rw [← gDiv_eq, ← gMod_eq]
  have hn : H s.heap.objs.size = none := I.hok.fresh (Nat.le_refl _)
  refine ⟨.ref s.heap.objs.size, _, ?_, rfl, q _ hn⟩
  refine I.laid (fun b o e => Heap.get?_push_of_some _ e) (Nat.le_refl _) ⟨by simp only [List.length_cons, List.length_nil]; rw [sizeLine_eq]; decide, [.int (gDiv i j) s.toks, .int (gMod i j) (s.toks + 1)], .cons ⟨_, rfl⟩ (.cons ⟨_, rfl⟩ .nil), ?_⟩
  exact ⟨_, Heap.get?_push_size s.heap rfl, rfl, 0, rfl⟩
theorem cd_divmod : CallD K (fun xs H Q => ∃ i j, xs = [.int i, .int j] ∧ CD i j ∧ ∀ p, H p = none → Q (.ref p) (upd H p (.tup [.int (gDiv i j), .int (gMod i j)]))) fDivmod := fun G B F H al rh si mu ws vs Qd Q s r0 h q => by
  unfold fDivmod at h
  split at h
  · rename_i i j
    obtain ⟨v, u, rfl, r, r'⟩ := pair2 r0
    cases repInt r
    cases repInt r'
    exact ⟨_, _, rfl, h.1, newT_ok (ws := [.d (.int (gDiv i j)), .d (.int (gMod i j))]) s (.cons (.d (.int _)) (.cons (.d (.int _)) .nil)) (by show 2 ≤ sizeLine; decide) h.2 q⟩
  · exact h.elim
/-- isinstance -/
@[simp] def isi (t n : String) : Bool := t == n || (t == "bool" && n == "int")
theorem isi_kit : ∀ t ∈ ["NoneType", "bool", "int", "str", "list", "tuple", "dict"], ∀ n ∈ ["int", "bool", "str", "tuple", "list"], kitB t n = some (isi t n) := by decide +kernel
@[simp] def tyName (mu : Sto) : W → Option String
  | .d .non => some "NoneType"
  | .d (.bl _) => some "bool"
  | .d (.int _) => some "int"
  | .d (.str _) => some "str"
  | .d (.lst _) => some "list"
  | .d (.tup _) => some "tuple"
  | .d (.scr _) => some "list"
  | .tup _ => some "tuple"
  | .loc k => match mu[k]? with
    | some (.lst _) => some "list"
    | some (.lstW _) => some "list"
    | some (.dk _) => some "dict"
    | some (.dt _) => some "dict"
    | _ => none
  | _ => none
@[simp] def fIsi : FC := fun mu ws Q => match ws with
  | [x, .ty n] => match tyName mu x with
    | some t => n ∈ ["int", "bool", "str", "tuple", "list"] ∧ Q (.d (.bl (isi t n))) mu
    | none => False
  | _ => False
theorem tyx_list {a : Addr} {vs : List V} (h : Rd H a (.lst vs)) : TyX K H (.ref a) (.type "list") := by
  rcases h with h | ⟨o, h⟩
  · exact .base (.lst h)
  · exact .base (.frz h)
theorem tyx_sql {a : Addr} {vs : List V} (h : SqL K H a vs) : TyX K H (.ref a) (.type "list") := by
  rcases h with h | ⟨o, its, n, h, h1, _⟩
  · exact tyx_list h
  · exact .kList h h1
theorem tyx_tup {a : Addr} {vs : List V} (h : SqT K H a vs) : TyX K H (.ref a) (.type "tuple") := by
  rcases h with (h | ⟨o, h⟩) | ⟨o, its, n, h, h1, _⟩
  · exact .base (.tup h)
  · exact .fTuple h
  · exact .kTuple h h1
theorem tyName_ok {x : W} {v : V} {t : String} (s : SRS K G B F H al mu) (r : RepW K F al x v) (e : tyName mu x = some t) : TyX K H v (.type t) ∧ t ∈ ["NoneType", "bool", "int", "str", "list", "tuple", "dict"] := by
  unfold tyName at e
  split at e
  · cases e; cases repNon r; exact ⟨.base .non, by decide⟩
  · cases e; cases repBl r; exact ⟨.base (.bl _), by decide⟩
  · cases e; cases repInt r; exact ⟨.base (.int _), by decide⟩
  · cases e; obtain ⟨rfl, _⟩ := repStr r; exact ⟨.base (.str _), by decide⟩
  · cases e
    cases r with
    | d r => cases r with
      | lst q z p => exact ⟨tyx_list (rdMono s.fz q), by decide⟩
  · cases e
    obtain ⟨a, vs, rfl, q, z, p⟩ := repTup r
    exact ⟨tyx_tup (sqtMono s.fz q), by decide⟩
  · cases e
    cases r with
    | d r => cases r with
      | scr q z => exact ⟨tyx_sql (sqlMono s.fz q), by decide⟩
  · cases e
    cases r with
    | tup q z p => exact ⟨tyx_tup (sqtMono s.fz q), by decide⟩
  · split at e
    · rename_i q
      cases e
      cases r with
      | loc ea =>
        obtain ⟨vs, h, z, p⟩ := s.lstAt q ea
        exact ⟨tyx_list (Rd.of h), by decide⟩
    · rename_i q
      cases e
      cases r with
      | loc ea =>
        obtain ⟨vs, h, z, p⟩ := s.lstWAt q ea
        exact ⟨tyx_list (Rd.of h), by decide⟩
    · rename_i q
      cases e
      cases r with
      | loc ea =>
        obtain ⟨o, _, _, h, c⟩ := s.at q ea
        cases c with
        | dk _ _ => exact ⟨.base (.dK h), by decide⟩
    · rename_i q
      cases e
      cases r with
      | loc ea =>
        obtain ⟨o, _, _, h, c⟩ := s.at q ea
        cases c with
        | dt _ _ => exact ⟨.base (.dT h), by decide⟩
    · cases e
  · cases e
theorem cd_isi : CallD K (rIsi K) fIsi := fun G B F H al rh si mu ws vs Qd Q s r0 h q => by
  unfold fIsi at h
  split at h
  · rename_i n
    obtain ⟨v, u, rfl, r, r'⟩ := pair2 r0
    cases r' with
    | ty =>
      split at h
      · rename_i t e
        obtain ⟨ty, hm⟩ := tyName_ok s.s r e
        exact ⟨v, .ty n, .type t, .type n, _, rfl, .ty n, ty, kit_ty (isi_kit t hm n h.1), q F H al mu _ _ (Ext.refl _ _) s (.d (.bl _)) h.2⟩
      · exact h.elim
  · exact h.elim
end
section
variable {io : Type} {Y : io → Cx} {P : Program} {w : World} {K : PySem.W.Frag} {mg : Str → Option Value} {base : Heap} {N : List Str} {k : Nat} {pos p : Pos} {a b c e e2 : Expr} {es : List Expr} {wa wb wc : WE} {ga : WA}
theorem ve_len (y : YOk Y P w K mg base N k) (hm : mg "len" = none) (ha : VA Y K [e] ga) (hg : ∀ j, Gl (Y j) "len" := by exact fun _ => rfl) (he : ∀ i, starEach [e] (Y i).env = (false, eval e (Y i).env) :: starEach [] (Y i).env := by exact fun _ => rfl) : VE Y K (.Call (.Name "len" p) [e] [] pos) (wCall fLen ga) :=
  ve_callB y (fun i => by rw [← y.hK i]; exact call_len) cd_len hm PySem.boot_len ha hg (by decide) (by decide) he
theorem ve_list (y : YOk Y P w K mg base N k) (o : Bool) (hm : mg "list" = none) (ha : VA Y K [e] ga) (hg : ∀ j, Gl (Y j) "list" := by exact fun _ => rfl) (he : ∀ i, starEach [e] (Y i).env = (false, eval e (Y i).env) :: starEach [] (Y i).env := by exact fun _ => rfl) : VE Y K (.Call (.Name "list" p) [e] [] pos) (wCall (fList o) ga) :=
  ve_callTy y (fun i => by rw [← y.hK i]; exact call_list_of) (cd_list o) hm (by decide +kernel) ha hg (by decide) (by decide) he
theorem ve_tuple (y : YOk Y P w K mg base N k) (hm : mg "tuple" = none) (ha : VA Y K [e] ga) (hg : ∀ j, Gl (Y j) "tuple" := by exact fun _ => rfl) (he : ∀ i, starEach [e] (Y i).env = (false, eval e (Y i).env) :: starEach [] (Y i).env := by exact fun _ => rfl) : VE Y K (.Call (.Name "tuple" p) [e] [] pos) (wCall fTuple ga) :=
  ve_callTy y (fun i => by rw [← y.hK i]; exact call_tuple_of) cd_tuple hm (by decide +kernel) ha hg (by decide) (by decide) he
theorem ve_toInt (y : YOk Y P w K mg base N k) (hm : mg "int" = none) (ha : VA Y K [e] ga) (hg : ∀ j, Gl (Y j) "int" := by exact fun _ => rfl) (he : ∀ i, starEach [e] (Y i).env = (false, eval e (Y i).env) :: starEach [] (Y i).env := by exact fun _ => rfl) : VE Y K (.Call (.Name "int" p) [e] [] pos) (wCall fInt ga) :=
  ve_callTy y (fun i => call_int1) cd_int hm (by decide +kernel) ha hg (by decide) (by decide) he
theorem ve_sum (y : YOk Y P w K mg base N k) (hm : mg "sum" = none) (ha : VA Y K [e] ga) (hg : ∀ j, Gl (Y j) "sum" := by exact fun _ => rfl) (he : ∀ i, starEach [e] (Y i).env = (false, eval e (Y i).env) :: starEach [] (Y i).env := by exact fun _ => rfl) : VE Y K (.Call (.Name "sum" p) [e] [] pos) (wCall fSum ga) :=
  ve_callB y (fun i => by rw [← y.hK i]; exact cr_sum (y.calm i)) cd_sum hm (by decide +kernel) ha hg (by decide) (by decide) he
theorem ve_min (y : YOk Y P w K mg base N k) (hm : mg "min" = none) (ha : VA Y K [e] ga) (hg : ∀ j, Gl (Y j) "min" := by exact fun _ => rfl) (he : ∀ i, starEach [e] (Y i).env = (false, eval e (Y i).env) :: starEach [] (Y i).env := by exact fun _ => rfl) : VE Y K (.Call (.Name "min" p) [e] [] pos) (wCall fMin ga) :=
  ve_callB y (fun i => by rw [← y.hK i]; exact L2.cr_min (y.calm i)) cd_min hm (by decide +kernel) ha hg (by decide) (by decide) he
theorem ve_any (y : YOk Y P w K mg base N k) (hm : mg "any" = none) (ha : VA Y K [e] ga) (hg : ∀ j, Gl (Y j) "any" := by exact fun _ => rfl) (he : ∀ i, starEach [e] (Y i).env = (false, eval e (Y i).env) :: starEach [] (Y i).env := by exact fun _ => rfl) : VE Y K (.Call (.Name "any" p) [e] [] pos) (wCall (fAny false) ga) :=
  ve_callB y (fun i => by rw [← y.hK i]; exact cr_any (y.calm i)) cd_any hm (by decide +kernel) ha hg (by decide) (by decide) he
theorem ve_all (y : YOk Y P w K mg base N k) (hm : mg "all" = none) (ha : VA Y K [e] ga) (hg : ∀ j, Gl (Y j) "all" := by exact fun _ => rfl) (he : ∀ i, starEach [e] (Y i).env = (false, eval e (Y i).env) :: starEach [] (Y i).env := by exact fun _ => rfl) : VE Y K (.Call (.Name "all" p) [e] [] pos) (wCall (fAny true) ga) :=
  ve_callB y (fun i => by rw [← y.hK i]; exact cr_all (y.calm i)) cd_all hm (by decide +kernel) ha hg (by decide) (by decide) he
theorem ve_min2 (y : YOk Y P w K mg base N k) (hm : mg "min" = none) (ha : VA Y K [e, e2] ga) (hg : ∀ j, Gl (Y j) "min" := by exact fun _ => rfl) (he : ∀ i, starEach [e, e2] (Y i).env = (false, eval e (Y i).env) :: starEach [e2] (Y i).env := by exact fun _ => rfl) (hpl : ∀ i, (backTo pos (starEach [e2] (Y i).env)).any (·.1) = false := by exact fun _ => rfl) : VE Y K (.Call (.Name "min" p) [e, e2] [] pos) (wCall fMin2 ga) :=
  ve_callB y (fun i => call_min2 (y.calm i)) cd_min2 hm (by decide +kernel) ha hg (by decide) (by decide) he hpl
theorem ve_max2 (y : YOk Y P w K mg base N k) (hm : mg "max" = none) (ha : VA Y K [e, e2] ga) (hg : ∀ j, Gl (Y j) "max" := by exact fun _ => rfl) (he : ∀ i, starEach [e, e2] (Y i).env = (false, eval e (Y i).env) :: starEach [e2] (Y i).env := by exact fun _ => rfl) (hpl : ∀ i, (backTo pos (starEach [e2] (Y i).env)).any (·.1) = false := by exact fun _ => rfl) : VE Y K (.Call (.Name "max" p) [e, e2] [] pos) (wCall fMax2 ga) :=
  ve_callB y (fun i => call_max2 (y.calm i)) cd_max2 hm (by decide +kernel) ha hg (by decide) (by decide) he hpl
theorem ve_divmod (y : YOk Y P w K mg base N k) (hm : mg "divmod" = none) (ha : VA Y K [e, e2] ga) (hg : ∀ j, Gl (Y j) "divmod" := by exact fun _ => rfl) (he : ∀ i, starEach [e, e2] (Y i).env = (false, eval e (Y i).env) :: starEach [e2] (Y i).env := by exact fun _ => rfl) (hpl : ∀ i, (backTo pos (starEach [e2] (Y i).env)).any (·.1) = false := by exact fun _ => rfl) : VE Y K (.Call (.Name "divmod" p) [e, e2] [] pos) (wCall fDivmod ga) :=
  ve_callB y (fun i => cr_divmod) cd_divmod hm (by decide +kernel) ha hg (by decide) (by decide) he hpl
theorem ve_isi (y : YOk Y P w K mg base N k) (hm : mg "isinstance" = none) (ha : VA Y K [e, e2] ga) (hg : ∀ j, Gl (Y j) "isinstance" := by exact fun _ => rfl) (he : ∀ i, starEach [e, e2] (Y i).env = (false, eval e (Y i).env) :: starEach [e2] (Y i).env := by exact fun _ => rfl) (hpl : ∀ i, (backTo pos (starEach [e2] (Y i).env)).any (·.1) = false := by exact fun _ => rfl) : VE Y K (.Call (.Name "isinstance" p) [e, e2] [] pos) (wCall fIsi ga) :=
  ve_callB y (fun i => by rw [← y.hK i]; exact call_isi) cd_isi hm (by decide +kernel) ha hg (by decide) (by decide) he hpl
end

/-! ### methods of lists -/
@[simp] def isL (mu : Sto) : W → Bool
  | .d (.lst _) => true
  | .loc k => match mu[k]? with
    | some (.lst _) => true
    | some (.lstW _) => true
    | _ => false
  | _ => false
abbrev FM := Sto → W → List W → (W → Sto → Prop) → Prop
@[simp] def wBM (f : FM) (o : WE) (g : WA) : WE := fun rh mu Q => o rh mu fun x mu1 => isL mu1 x = true ∧ g rh mu1 fun ws mu2 => f mu2 x ws Q
def MtD (K : PySem.W.Frag) (r : V → List V → Hp → VK → Prop) (f : FM) : Prop := ∀ (G B F H : Hp) (al : List Addr) (rh : Ev) (si : L2.St) (mu : Sto) (x : W) (vx : V) (ws : List W) (vs : List V) (Qd : W → Sto → Prop) (Q : VK), SR K G B F H al rh si mu → RepW K F al x vx → Paired (RepW K F al) ws vs → f mu x ws Qd →
  (∀ F' H' al' mu' w v, Ext F al F' al' → SR K G B F' H' al' rh si mu' → RepW K F' al' w v → Qd w mu' → Q v H') → r vx vs H Q
section
variable {K : PySem.W.Frag} {G B F F' H H' : Hp} {al al' : List Addr} {mu mu' : Sto} {rh : Ev} {si : L2.St}
theorem isL_ok {x : W} {v : V} (s : SRS K G B F H al mu) (r : RepW K F al x v) (e : isL mu x = true) : tyV K "list" v H := by
  unfold isL at e
  split at e
  · cases r with
    | d r => cases r with
      | lst q z p => exact .inl ⟨rfl, _, .inl (rdMono s.fz q)⟩
  · split at e
    · rename_i q
      cases r with
      | loc ea =>
        obtain ⟨vs, h, z, p⟩ := s.lstAt q ea
        exact .inl ⟨rfl, _, SqL.of h⟩
    · rename_i q
      cases r with
      | loc ea =>
        obtain ⟨vs, h, z, p⟩ := s.lstWAt q ea
        exact .inl ⟨rfl, _, SqL.of h⟩
    · cases e
  · cases e
/-- a container's items, whatever they are -/
@[simp] def itsC : C → Option (List W)
  | .lst xs => some (xs.map .d)
  | .lstW ws => some ws
  | _ => none
/-- a list again -/
@[simp] def mkL (ws : List W) : C := match asDs ws with
  | some xs => .lst xs
  | none => .lstW ws
theorem mkL_rep {ws : List W} {vs : List V} (z : vs.length ≤ sizeLine) (p : Paired (RepW K F al) ws vs) : CRep K F al (mkL ws) (.lst vs) := by
  unfold mkL
  cases q : asDs ws with
  | none => exact .lstW z p
  | some xs => exact .lst z (asDs_rep (.of p) q).p
theorem itsC_rep {k : Nat} {a : Addr} {c : C} {ws : List W} (s : SRS K G B F H al mu) (e : mu[k]? = some c) (ea : al[k]? = some a) (h : itsC c = some ws) : ∃ vs, H a = some (.lst vs) ∧ vs.length ≤ sizeLine ∧ Paired (RepW K F al) ws vs := by
  cases c with
  | lst xs =>
    cases h
    obtain ⟨vs, h, z, p⟩ := s.lstAt e ea
    exact ⟨vs, h, z, pMapD p⟩
  | lstW us =>
    cases h
    exact s.lstWAt e ea
  | _ => cases h
/-- xs.append(y) -/
@[simp] def fApp : FM := fun mu x ws Q => match x, ws with
  | .loc k, [y] => match mu[k]? with
    | some (.lst xs) => match y with
      | .d d => xs.length < sizeLine ∧ Q (.d .non) (mu.set k (.lst (xs ++ [d])))
      | y => xs.length < sizeLine ∧ Q (.d .non) (mu.set k (mkL (xs.map .d ++ [y])))
    | some (.lstW us) => us.length < sizeLine ∧ Q (.d .non) (mu.set k (.lstW (us ++ [y])))
    | _ => False
  | _, _ => False
theorem md_app : MtD K rAppend fApp := fun G B F H al rh si mu x vx ws vs Qd Q s r rw_ h q => by
  unfold fApp at h
  split at h
  · rename_i k y
    obtain ⟨v, rfl, r'⟩ := pair1 rw_
    cases r with
    | loc ea =>
      rename_i a
      split at h
      · rename_i xs e
        obtain ⟨vs, hH, z, p⟩ := s.s.lstAt e ea
        have l := Paired.length p
        split at h
        · rename_i d
          refine ⟨a, vs, v, rfl, rfl, hH, by have := h.1; omega, q F _ al _ _ _ (Ext.refl _ _) (s.step (Ext.refl _ _) (s.s.put ea (.lst ?_ (pApp p (pOne ?_))))) (.d .non) h.2⟩
          · rw [List.length_append, List.length_singleton]; have := h.1; omega
          · cases r' with
            | d r' => exact r'
        · refine ⟨a, vs, v, rfl, rfl, hH, by have := h.1; omega, q F _ al _ _ _ (Ext.refl _ _) (s.step (Ext.refl _ _) (s.s.put ea (mkL_rep ?_ (pApp (pMapD p) (pOne r'))))) (.d .non) h.2⟩
          rw [List.length_append, List.length_singleton]; have := h.1; omega
      · rename_i us e
        obtain ⟨vs, hH, z, p⟩ := s.s.lstWAt e ea
        have l := Paired.length p
        refine ⟨a, vs, v, rfl, rfl, hH, by have := h.1; omega, q F _ al _ _ _ (Ext.refl _ _) (s.step (Ext.refl _ _) (s.s.put ea (.lstW ?_ (pApp p (pOne r'))))) (.d .non) h.2⟩
        rw [List.length_append, List.length_singleton]; have := h.1; omega
      · exact h.elim
  · exact h.elim
/-- xs.pop() -/
@[simp] def fPop : FM := fun mu x ws Q => match x, ws with
  | .loc k, [] => match mu[k]? with
    | some (.lst xs) => ∃ d, xs.getLast? = some d ∧ Q (.d d) (mu.set k (.lst xs.dropLast))
    | some (.lstW us) => ∃ u, us.getLast? = some u ∧ Q u (mu.set k (.lstW us.dropLast))
    | _ => False
  | _, _ => False
theorem md_pop : MtD K rPop fPop := fun G B F H al rh si mu x vx ws vs Qd Q s r rw_ h q => by
  unfold fPop at h
  split at h
  · rename_i k
    cases rw_
    cases r with
    | loc ea =>
      rename_i a
      split at h
      · rename_i xs e
        obtain ⟨d, e1, h⟩ := h
        obtain ⟨vs, hH, z, p⟩ := s.s.lstAt e ea
        rw [List.getLast?_eq_getElem?] at e1
        obtain ⟨v, e2, rv⟩ := pGetL p e1
        have l := Paired.length p
        refine ⟨a, vs, v, rfl, rfl, hH, by rw [← l]; exact e2, q F _ al _ _ _ (Ext.refl _ _) (s.step (Ext.refl _ _) (s.s.put ea (.lst ?_ (pDropLast p)))) (.d rv) h⟩
        rw [List.length_dropLast]; omega
      · rename_i us e
        obtain ⟨d, e1, h⟩ := h
        obtain ⟨vs, hH, z, p⟩ := s.s.lstWAt e ea
        rw [List.getLast?_eq_getElem?] at e1
        obtain ⟨v, e2, rv⟩ := pGetL p e1
        have l := Paired.length p
        refine ⟨a, vs, v, rfl, rfl, hH, by rw [← l]; exact e2, q F _ al _ _ _ (Ext.refl _ _) (s.step (Ext.refl _ _) (s.s.put ea (.lstW ?_ (pDropLast p)))) rv h⟩
        rw [List.length_dropLast]; omega
      · exact h.elim
  · exact h.elim
/-- xs.extend(ys) -/
def rExtend2 : V → List V → Hp → VK → Prop := fun x vs H Q => ∃ l b xs zs, x = .ref l ∧ vs = [.ref b] ∧ H l = some (.lst xs) ∧ Rd H b (.lst zs) ∧ xs.length + zs.length ≤ sizeLine ∧ Q .non (upd H l (.lst (xs ++ zs)))
theorem mt_extend2 {X : Cx} : MtM X "list.extend" rExtend2 := by
  intro pins s σ H x vs v us Q I rx rv h
  obtain ⟨l, b, xs, zs, rfl, rfl, hH, hB, hz, q⟩ := h
  cases rx
  obtain ⟨u, rfl, ru⟩ := rv.one
  cases ru
  obtain ⟨z, its, n, r, hl, e⟩ := I.lstM hH
  obtain ⟨z2, its2, n2, r2, hl2, e2⟩ := Inv_lstR I hB
  have hsz : its.toArray.size + its2.toArray.size ≤ sizeLine := by rw [List.size_toArray, List.size_toArray]; omega
  have hlong : ¬ (!its.toArray.isEmpty && Builtin.List.listTooLong (its.toArray.size + its2.toArray.size)) = true := by
    rw [notLongL hsz, Bool.and_false]
    exact Bool.false_ne_true
  refine call_meets F.slot_list_extend ⟨_, e, rfl⟩ F.entry_list_extend (F.args_list_extend_2 _ _)
    (AutoSeq1.list_extend_list_list_0 l its.toArray n b its2.toArray n2 hlong (by rw [List.size_toArray]; omega) (by omega)) ⟨e, e2, ?_⟩
  refine ⟨.non, _, I.lset (its' := its ++ its2) hH e (by simp) (r.append r2) ?_, rfl, q⟩
  rw [List.length_append]
  omega
@[simp] def fExt : FM := fun mu x ws Q => match x, ws with
  | .loc k, [y] => match mu[k]?, lsD mu y with
    | some (.lst xs), some ys => xs.length + ys.length ≤ sizeLine ∧ Q (.d .non) (mu.set k (.lst (xs ++ ys)))
    | _, _ => False
  | _, _ => False
theorem md_ext : MtD K rExtend2 fExt := fun G B F H al rh si mu x vx ws vs Qd Q s r rw_ h q => by
  unfold fExt at h
  split at h
  · rename_i k y
    obtain ⟨v, rfl, r'⟩ := pair1 rw_
    cases r with
    | loc ea =>
      rename_i a
      split at h
      · rename_i xs ys e e'
        obtain ⟨vs, hH, z, p⟩ := s.s.lstAt e ea
        obtain ⟨b, us, rfl, hB, z', p'⟩ := lsD_rep s.s r' e'
        have l := Paired.length p
        have l' := Paired.length p'
        refine ⟨a, b, vs, us, rfl, rfl, hH, hB, by have := h.1; omega, q F _ al _ _ _ (Ext.refl _ _) (s.step (Ext.refl _ _) (s.s.put ea (.lst ?_ (pApp p p')))) (.d .non) h.2⟩
        rw [List.length_append]; have := h.1; omega
      · exact h.elim
  · exact h.elim
/-- xs.reverse(), xs.clear() -/
@[simp] def fRev : FM := fun mu x ws Q => match x, ws with
  | .loc k, [] => match mu[k]? with
    | some (.lst xs) => Q (.d .non) (mu.set k (.lst xs.reverse))
    | some (.lstW xs) => Q (.d .non) (mu.set k (.lstW xs.reverse))
    | _ => False
  | _, _ => False
theorem md_rev : MtD K rReverse fRev := fun G B F H al rh si mu x vx ws vs Qd Q s r rw_ h q => by
  unfold fRev at h
  split at h
  · rename_i k
    cases rw_
    cases r with
    | loc ea =>
      rename_i a
      split at h
      · rename_i xs e
        obtain ⟨vs, hH, z, p⟩ := s.s.lstAt e ea
        exact ⟨a, vs, rfl, rfl, hH, q F _ al _ _ _ (Ext.refl _ _) (s.step (Ext.refl _ _) (s.s.put ea (.lst (by rw [List.length_reverse]; exact z) (pRev p)))) (.d .non) h⟩
      · rename_i xs e
        obtain ⟨vs, hH, z, p⟩ := s.s.lstWAt e ea
        exact ⟨a, vs, rfl, rfl, hH, q F _ al _ _ _ (Ext.refl _ _) (s.step (Ext.refl _ _) (s.s.put ea (.lstW (by rw [List.length_reverse]; exact z) (pRev p)))) (.d .non) h⟩
      · exact h.elim
  · exact h.elim
@[simp] def fClear : FM := fun mu x ws Q => match x, ws with
  | .loc k, [] => match (mu[k]?).bind itsC with
    | some _ => Q (.d .non) (mu.set k (.lst []))
    | _ => False
  | _, _ => False
theorem md_clear : MtD K rClear fClear := fun G B F H al rh si mu x vx ws vs Qd Q s r rw_ h q => by
  unfold fClear at h
  split at h
  · rename_i k
    cases rw_
    cases r with
    | loc ea =>
      rename_i a
      split at h
      · rename_i us e
        cases e1 : mu[k]? with
        | none => rw [e1] at e; cases e
        | some c =>
          rw [e1] at e
          obtain ⟨vs, hH, z, p⟩ := itsC_rep s.s e1 ea e
          exact ⟨a, vs, rfl, rfl, hH, q F _ al _ _ _ (Ext.refl _ _) (s.step (Ext.refl _ _) (s.s.put ea (.lst (Nat.zero_le _) .nil))) (.d .non) h⟩
      · exact h.elim
  · exact h.elim
end
section
variable {io : Type} {Y : io → Cx} {P : Program} {w : World} {K : PySem.W.Frag} {mg : Str → Option Value} {base : Heap} {N : List Str} {k : Nat} {cpos apos : Pos} {o e : Expr} {es : List Expr} {wo : WE} {ga : WA} {id : String} {name : Str} {r : V → List V → Hp → VK → Prop} {f : FM}
theorem ve_bm (y : YOk Y P w K mg base N k) (pa : PlainAttrs "list") (slot : Slot "list" name id) (hty : typeOf (.builtin id) = pure (.type "method_descriptor")) (hm : ∀ i, MtR (Y i) id r) (hd : MtD K r f) (ho : VE Y K o wo) (ha : VA Y K (e :: es) ga)
    (hbase : ∀ i, attributeBase o name (Y i).env (eval o (Y i).env) = eval o (Y i).env := by exact fun _ => rfl)
    (hfew : ∀ i, ((backTo cpos (starEach (e :: es) (Y i).env)).all (fun x => !x.1) && (backToKw cpos (keywordEach [] (Y i).env)).all (fun x => x.1.isSome)
      && decide ((e :: es).length + ([] : List Keyword).length + (if ([] : List Keyword).isEmpty then 0 else 1) < 30)) = true := by exact fun _ => rfl)
    (hline : (apos.endLine == cpos.line) = true := by rfl) (hs : ∀ i, starEach (e :: es) (Y i).env = (false, eval e (Y i).env) :: starEach es (Y i).env := by exact fun _ => rfl) (hplain : ∀ i, (backTo cpos (starEach es (Y i).env)).any (·.1) = false := by exact fun _ => rfl) :
    VE Y K (.Call (.Attribute o name apos) (e :: es) [] cpos) (wBM f wo ga) := by
  obtain ⟨t, p, d⟩ := ho
  obtain ⟨t2, p2, d2⟩ := ha
  refine ⟨tBM K "list" r t t2, fun i => by rw [← y.hK i]; exact pe_bm pa slot hty (hm i) (p i) (p2 i) (hbase i) (hfew i) hline (hs i) (hplain i), fun G B F H al rh si mu Qd Q s h q => ?_⟩
  refine d G B F H al rh si mu _ _ s h fun F1 H1 al1 mu1 x vx e1 s1 r1 h1 => ⟨isL_ok s1.s r1 h1.1, ?_⟩
  refine d2 G B F1 H1 al1 rh si mu1 _ _ s1 h1.2 fun F2 H2 al2 mu2 ws vs e2 s2 r2 h2 => ?_
  exact hd G B F2 H2 al2 rh si mu2 x vx ws vs Qd Q s2 (r1.mono e2) r2 h2 fun F3 H3 al3 mu3 z vz e3 => q F3 H3 al3 mu3 z vz ((e1.trans e2).trans e3)
theorem ve_bm0 (y : YOk Y P w K mg base N k) (pa : PlainAttrs "list") (slot : Slot "list" name id) (hty : typeOf (.builtin id) = pure (.type "method_descriptor")) (hm : ∀ i, MtR (Y i) id r) (hd : MtD K r f) (ho : VE Y K o wo)
    (hbase : ∀ i, attributeBase o name (Y i).env (eval o (Y i).env) = eval o (Y i).env := by exact fun _ => rfl) (hline : (apos.endLine == cpos.line) = true := by rfl) : VE Y K (.Call (.Attribute o name apos) [] [] cpos) (wBM f wo wNil) := by
  obtain ⟨t, p, d⟩ := ho
  refine ⟨tBM0 K "list" r t, fun i => by rw [← y.hK i]; exact pe_bm0 pa slot hty (hm i) (p i) (hbase i) hline, fun G B F H al rh si mu Qd Q s h q => ?_⟩
  refine d G B F H al rh si mu _ _ s h fun F1 H1 al1 mu1 x vx e1 s1 r1 h1 => ⟨isL_ok s1.s r1 h1.1, ?_⟩
  exact hd G B F1 H1 al1 rh si mu1 x vx [] [] Qd Q s1 r1 .nil h1.2 fun F3 H3 al3 mu3 z vz e3 => q F3 H3 al3 mu3 z vz (e1.trans e3)
theorem ve_append (y : YOk Y P w K mg base N k) (ho : VE Y K o wo) (ha : VA Y K [e] ga)
    (hbase : ∀ i, attributeBase o "append" (Y i).env (eval o (Y i).env) = eval o (Y i).env := by exact fun _ => rfl)
    (hfew : ∀ i, ((backTo cpos (starEach [e] (Y i).env)).all (fun x => !x.1) && (backToKw cpos (keywordEach [] (Y i).env)).all (fun x => x.1.isSome)
      && decide ([e].length + ([] : List Keyword).length + (if ([] : List Keyword).isEmpty then 0 else 1) < 30)) = true := by exact fun _ => rfl)
    (hline : (apos.endLine == cpos.line) = true := by rfl) (hs : ∀ i, starEach [e] (Y i).env = (false, eval e (Y i).env) :: starEach [] (Y i).env := by exact fun _ => rfl) :
    VE Y K (.Call (.Attribute o "append" apos) [e] [] cpos) (wBM fApp wo ga) := ve_bm y PySem.F.plainAttrs_list PySem.F.slot_list_append PySem.F.type_list_append (fun _ => mt_append) md_app ho ha hbase hfew hline hs
theorem ve_extend (y : YOk Y P w K mg base N k) (ho : VE Y K o wo) (ha : VA Y K [e] ga)
    (hbase : ∀ i, attributeBase o "extend" (Y i).env (eval o (Y i).env) = eval o (Y i).env := by exact fun _ => rfl)
    (hfew : ∀ i, ((backTo cpos (starEach [e] (Y i).env)).all (fun x => !x.1) && (backToKw cpos (keywordEach [] (Y i).env)).all (fun x => x.1.isSome)
      && decide ([e].length + ([] : List Keyword).length + (if ([] : List Keyword).isEmpty then 0 else 1) < 30)) = true := by exact fun _ => rfl)
    (hline : (apos.endLine == cpos.line) = true := by rfl) (hs : ∀ i, starEach [e] (Y i).env = (false, eval e (Y i).env) :: starEach [] (Y i).env := by exact fun _ => rfl) :
    VE Y K (.Call (.Attribute o "extend" apos) [e] [] cpos) (wBM fExt wo ga) := ve_bm y PySem.F.plainAttrs_list PySem.F.slot_list_extend PySem.F.type_list_extend (fun _ => mt_extend2) md_ext ho ha hbase hfew hline hs
theorem ve_pop (y : YOk Y P w K mg base N k) (ho : VE Y K o wo) (hbase : ∀ i, attributeBase o "pop" (Y i).env (eval o (Y i).env) = eval o (Y i).env := by exact fun _ => rfl) (hline : (apos.endLine == cpos.line) = true := by rfl) :
    VE Y K (.Call (.Attribute o "pop" apos) [] [] cpos) (wBM fPop wo wNil) := ve_bm0 y PySem.F.plainAttrs_list PySem.F.slot_list_pop PySem.F.type_list_pop (fun _ => mt_pop) md_pop ho hbase hline
theorem ve_reverse (y : YOk Y P w K mg base N k) (ho : VE Y K o wo) (hbase : ∀ i, attributeBase o "reverse" (Y i).env (eval o (Y i).env) = eval o (Y i).env := by exact fun _ => rfl) (hline : (apos.endLine == cpos.line) = true := by rfl) :
    VE Y K (.Call (.Attribute o "reverse" apos) [] [] cpos) (wBM fRev wo wNil) := ve_bm0 y PySem.F.plainAttrs_list PySem.F.slot_list_reverse PySem.F.type_list_reverse (fun _ => mt_reverse) md_rev ho hbase hline
theorem ve_clear (y : YOk Y P w K mg base N k) (ho : VE Y K o wo) (hbase : ∀ i, attributeBase o "clear" (Y i).env (eval o (Y i).env) = eval o (Y i).env := by exact fun _ => rfl) (hline : (apos.endLine == cpos.line) = true := by rfl) :
    VE Y K (.Call (.Attribute o "clear" apos) [] [] cpos) (wBM fClear wo wNil) := ve_bm0 y PySem.F.plainAttrs_list PySem.F.slot_list_clear PySem.F.type_list_clear (fun _ => mt_clear) md_clear ho hbase hline
end
end VL
namespace VL
open PySem PySem.Spec PyProof.Rows L2

abbrev un (X : Cx) : Unit → Cx := fun _ => X
def VS (X : Cx) (K : PySem.W.Frag) (st : Stmt) (f : WS) : Prop := ∃ t, PS X st t ∧ DenS K t f
def VSs (X : Cx) (K : PySem.W.Frag) (sts : List Stmt) (f : WS) : Prop := ∃ t, PSs X sts t ∧ DenS K t f

section
variable {X : Cx} {P : Program} {w : World} {K : PySem.W.Frag} {mg : Str → Option Value} {base : Heap} {N : List Str} {k : Nat} {st : Stmt} {rest : List Stmt} {f g : WS} {e : Expr} {we : WE} {pos : Pos}
/-! ### blocks -/
@[simp] def wNext : WS := fun V rh mu => V.nx rh mu
@[simp] def wSeq (f g : WS) : WS := fun V rh mu => f { V with nx := g V } rh mu
theorem dens_next : DenS K tNext wNext := fun G B F H al rh si mu V1 D1 s h b => b.nx F H al rh si mu (Ext.refl _ _) s h
theorem vss_nil : VSs X K [] wNext := ⟨_, pss_nil, dens_next⟩
theorem vss_one (h : VS X K st f) : VSs X K [st] f := by
  obtain ⟨t, p, d⟩ := h
  exact ⟨t, pss_one p, d⟩
theorem vss_cons (h : VS X K st f) (hr : VSs X K rest g) : VSs X K (st :: rest) (wSeq f g) := by
  obtain ⟨t, p, d⟩ := h
  obtain ⟨u, p', d'⟩ := hr
  refine ⟨_, pss_cons p p', fun G B F H al rh si mu V1 D1 s h b => ?_⟩
  refine d G B F H al rh si mu _ _ s h ⟨fun F' H' al' rh' si' mu' x s' h' => ?_, b.rt, b.bk, b.ct⟩
  exact d' G B F' H' al' rh' si' mu' V1 D1 s' h' (b.mono x)
theorem vs_pass : VS X K (.Pass pos) wNext := ⟨_, ps_pass, dens_next⟩
theorem vs_doc {x j pos pos'} : VS X K (.Expr (.Constant (.str x) j pos) pos') wNext := ⟨_, ps_doc, dens_next⟩
@[simp] def wNever : WS := fun _ _ _ => False
theorem vs_never : VS X K st wNever := ⟨_, ps_never, fun G B F H al rh si mu V1 D1 s h b => h.elim⟩
theorem vss_never {sts : List Stmt} : VSs X K sts wNever := ⟨_, pss_never, fun G B F H al rh si mu V1 D1 s h b => h.elim⟩
@[simp] def wDrop (a : WE) : WS := fun V rh mu => a rh mu fun _ mu1 => V.nx rh mu1
theorem vs_expr (he : VE (un X) K e we) (hs : swapsWith e none pos.line X.env = pure false := by rfl) : VS X K (.Expr e pos) (wDrop we) := by
  obtain ⟨t, p, d⟩ := he
  refine ⟨_, ps_expr (p ()) hs, fun G B F H al rh si mu V1 D1 s h b => ?_⟩
  exact d G B F H al rh si mu _ _ s h fun F1 H1 al1 mu1 x vx e1 s1 r1 h1 => b.nx F1 H1 al1 rh si mu1 e1 s1 h1
@[simp] def wRet (a : WE) : WS := fun V rh mu => a rh mu V.rt
theorem vs_ret (he : VE (un X) K e we) : VS X K (.Return (some e) pos) (wRet we) := by
  obtain ⟨t, p, d⟩ := he
  refine ⟨_, ps_ret (p ()), fun G B F H al rh si mu V1 D1 s h b => ?_⟩
  exact d G B F H al rh si mu _ _ s h fun F1 H1 al1 mu1 x vx e1 s1 r1 h1 => b.rt F1 H1 al1 mu1 x vx e1 s1.s r1 h1
@[simp] def wRetN : WS := fun V _ mu => V.rt (.d .non) mu
theorem vs_retN : VS X K (.Return none pos) wRetN := ⟨_, ps_retN, fun G B F H al rh si mu V1 D1 s h b => b.rt F H al mu _ _ (Ext.refl _ _) s.s (.d .non) h⟩
@[simp] def wIfS (c : WT) (f g : WS) : WS := fun V rh mu => c rh mu fun b mu1 => if b = true then f V rh mu1 else g V rh mu1
theorem vs_if {c : Expr} {a b : List Stmt} {fc : WT} (hc : VT (un X) K c fc) (ha : VSs X K a f) (hb : VSs X K b g) : VS X K (.If c a b pos) (wIfS fc f g) := by
  obtain ⟨t, p, d⟩ := hc
  obtain ⟨t1, p1, d1⟩ := ha
  obtain ⟨t2, p2, d2⟩ := hb
  refine ⟨_, ps_if (p ()) p1 p2, fun G B F H al rh si mu V1 D1 s h b => ?_⟩
  refine d G B F H al rh si mu _ _ s h fun F1 H1 al1 mu1 x e1 s1 h1 => ?_
  cases x with
  | true => exact iteT (d1 G B F1 H1 al1 rh si mu1 V1 D1 s1 (by simpa using h1) (b.mono e1))
  | false => exact iteF (d2 G B F1 H1 al1 rh si mu1 V1 D1 s1 (by simpa using h1) (b.mono e1))

/-! ### targets -/
abbrev WG := W → Ev → Sto → (Ev → Sto → Prop) → Prop
abbrev WGs := List W → Ev → Sto → (Ev → Sto → Prop) → Prop
def DenG (K : PySem.W.Frag) (t : TG) (f : WG) : Prop := ∀ (G B F H : Hp) (al : List Addr) (rh : Ev) (si : L2.St) (mu : Sto) (x : W) (v : V) (Qd : Ev → Sto → Prop) (Q : L2.St → Hp → Prop), SR K G B F H al rh si mu → RepW K F al x v → f x rh mu Qd →
  (∀ F' H' al' rh' si' mu', Ext F al F' al' → SR K G B F' H' al' rh' si' mu' → Qd rh' mu' → Q si' H') → t v si H Q
def DenGs (K : PySem.W.Frag) (t : TGs) (f : WGs) : Prop := ∀ (G B F H : Hp) (al : List Addr) (rh : Ev) (si : L2.St) (mu : Sto) (x : List W) (v : List V) (Qd : Ev → Sto → Prop) (Q : L2.St → Hp → Prop), SR K G B F H al rh si mu → Paired (RepW K F al) x v → f x rh mu Qd →
  (∀ F' H' al' rh' si' mu', Ext F al F' al' → SR K G B F' H' al' rh' si' mu' → Qd rh' mu' → Q si' H') → t v si H Q
/-- it stores to the slots vs alone -/
def GKeep (vs : List Nat) (t : TG) : Prop := ∀ v σ H Q Q', (∀ σ' H', wipe σ' vs = wipe σ vs → Q σ' H' → Q' σ' H') → t v σ H Q → t v σ H Q'
def GKeeps (vs : List Nat) (t : TGs) : Prop := ∀ v σ H Q Q', (∀ σ' H', wipe σ' vs = wipe σ vs → Q σ' H' → Q' σ' H') → t v σ H Q → t v σ H Q'
def VG {io : Type} (Y : io → Cx) (K : PySem.W.Frag) (tg : Expr) (f : WG) : Prop := ∃ t, (∀ i, PG (Y i) tg t) ∧ DenG K t f
def VGs {io : Type} (Y : io → Cx) (K : PySem.W.Frag) (tg : List Expr) (f : WGs) : Prop := ∃ t, (∀ i, PGs (Y i) tg t) ∧ DenGs K t f
def VK {io : Type} (Y : io → Cx) (K : PySem.W.Frag) (tg : Expr) (f : WG) (vs : List Nat) : Prop := ∃ t, (∀ i, PG (Y i) tg t) ∧ DenG K t f ∧ GKeep vs t
def VKs {io : Type} (Y : io → Cx) (K : PySem.W.Frag) (tg : List Expr) (f : WGs) (vs : List Nat) : Prop := ∃ t, (∀ i, PGs (Y i) tg t) ∧ DenGs K t f ∧ GKeeps vs t
theorem VK.vg {io : Type} {Y : io → Cx} {K : PySem.W.Frag} {tg : Expr} {f : WG} {vs : List Nat} (h : VK Y K tg f vs) : VG Y K tg f := by
  obtain ⟨t, a, b, _⟩ := h
  exact ⟨t, a, b⟩
@[simp] def wgName (i : Nat) : WG := fun x rh mu Q => Q (rh.set i (some x)) mu
theorem wipe_set (σ : L2.St) (i : Nat) (x : Option V) : ∀ vs : List Nat, i ∈ vs → wipe (σ.set i x) vs = wipe σ vs
  | [], h => by cases h
  | v :: vs, h => by
    unfold wipe
    by_cases q : i = v
    · subst q
      have : ∀ us : List Nat, (wipe (σ.set i x) us).set i none = (wipe σ us).set i none := fun us => by
        induction us with
        | nil => show (σ.set i x).set i none = σ.set i none; rw [List.set_set]
        | cons u us ih =>
          unfold wipe
          by_cases z : u = i
          · subst z; rw [List.set_set, List.set_set, ih]
          · rw [List.set_comm _ _ z, List.set_comm _ _ z, ih]
      exact this vs
    · rw [wipe_set σ i x vs (by rcases List.mem_cons.mp h with z | z; exact absurd z q; exact z)]
section
variable {io : Type} {Y : io → Cx}
theorem den_gName (i : Nat) : DenG K (gName i) (wgName i) := fun G B F H al rh si mu x v Qd Q s r h q => q F H al _ _ mu (Ext.refl _ _) (s.set r) h
theorem vk_name (y : YOk Y P w K mg base N k) (i : Nat) {x : Str} (vs : List Nat) (hi : N[i]? = some x := by rfl) (hx : ∀ j, Loc (Y j).env.scope x := by first | exact fun _ => Or.inl rfl | exact fun _ => Or.inr rfl) (hf : ∀ j, (Y j).fn x = true ∨ (Y j).env.scope.names.lookup x = some .local := by first | exact fun _ => Or.inl rfl | exact fun _ => Or.inr rfl) (hv : i ∈ vs := by decide) :
    VK Y K (.Name x pos) (wgName i) vs :=
  ⟨_, fun j => pg_name (by rw [y.hN j]; exact y.nd) (by rw [y.hN j]; exact hi) (hx j) (hf j), den_gName i, fun v σ H Q Q' k h => k _ _ (wipe_set σ i _ vs hv) h⟩
@[simp] def wgNil : WGs := fun xs rh mu Q => match xs with
  | [] => Q rh mu
  | _ :: _ => False
@[simp] def wgCons (f : WG) (g : WGs) : WGs := fun xs rh mu Q => match xs with
  | x :: r => f x rh mu fun rh' mu' => g r rh' mu' Q
  | [] => False
theorem den_gNil : DenGs K gNil wgNil := fun G B F H al rh si mu x v Qd Q s r h q => by
  cases r with
  | nil => exact ⟨rfl, q F H al rh si mu (Ext.refl _ _) s h⟩
  | cons _ _ => exact h.elim
theorem den_gCons {t : TG} {u : TGs} {f : WG} {g : WGs} (d : DenG K t f) (d2 : DenGs K u g) : DenGs K (gCons t u) (wgCons f g) := fun G B F H al rh si mu x v Qd Q s r h q => by
  unfold wgCons at h
  split at h
  · cases r with
    | cons r rr =>
      refine ⟨_, _, rfl, d G B F H al rh si mu _ _ _ _ s r h fun F1 H1 al1 rh1 si1 mu1 e1 s1 h1 => ?_⟩
      exact d2 G B F1 H1 al1 rh1 si1 mu1 _ _ _ _ s1 (Paired.mapP rr fun _ _ z => z.mono e1) h1 fun F2 H2 al2 rh2 si2 mu2 e2 => q F2 H2 al2 rh2 si2 mu2 (e1.trans e2)
  · exact h.elim
theorem vks_nil (vs : List Nat) : VKs Y K [] wgNil vs := ⟨_, fun _ => pgs_nil, den_gNil, fun v σ H Q Q' k h => ⟨h.1, k _ _ rfl h.2⟩⟩
theorem vks_cons {es : List Expr} {fg : WG} {fgs : WGs} {vs : List Nat} (h1 : VK Y K e fg vs) (h2 : VKs Y K es fgs vs) (hs : ∀ i, (assignEach (e :: es) (Y i).env).map (·.2) = assign e (Y i).env :: (assignEach es (Y i).env).map (·.2) := by exact fun _ => rfl) : VKs Y K (e :: es) (wgCons fg fgs) vs := by
  obtain ⟨t, p, d, kp⟩ := h1
  obtain ⟨t2, p2, d2, kp2⟩ := h2
  refine ⟨_, fun i => pgs_cons (p i) (p2 i) (hs i), den_gCons d d2, fun v σ H Q Q' k h => ?_⟩
  obtain ⟨x, r, rfl, h⟩ := h
  exact ⟨x, r, rfl, kp x σ H _ _ (fun σ1 H1 w1 h1 => kp2 r σ1 H1 Q Q' (fun σ' H' w2 q => k σ' H' (w2.trans w1) q) h1) h⟩
theorem vgs_nil : VGs Y K [] wgNil := ⟨_, fun _ => pgs_nil, den_gNil⟩
theorem vgs_cons {es : List Expr} {fg : WG} {fgs : WGs} (h1 : VG Y K e fg) (h2 : VGs Y K es fgs) (hs : ∀ i, (assignEach (e :: es) (Y i).env).map (·.2) = assign e (Y i).env :: (assignEach es (Y i).env).map (·.2) := by exact fun _ => rfl) : VGs Y K (e :: es) (wgCons fg fgs) := by
  obtain ⟨t, p, d⟩ := h1
  obtain ⟨t2, p2, d2⟩ := h2
  exact ⟨_, fun i => pgs_cons (p i) (p2 i) (hs i), den_gCons d d2⟩
/-- (a, b, ..) = a tuple -/
@[simp] def wgTup (n : Nat) (g : WGs) : WG := fun x rh mu Q => match x with
  | .d (.tup xs) => xs.length = n ∧ g (xs.map .d) rh mu Q
  | .tup ws => ws.length = n ∧ g ws rh mu Q
  | _ => False
theorem den_gTup {t : TGs} {g : WGs} (n : Nat) (d : DenGs K t g) : DenG K (gTup K n t) (wgTup n g) := fun G B F H al rh si mu x v Qd Q s r h q => by
  unfold wgTup at h
  split at h
  · obtain ⟨a, vs, rfl, hs, z, p⟩ := repTup r
    exact ⟨a, vs, rfl, sqtMono s.s.fz hs, by rw [← Paired.length p]; exact h.1, d G B F H al rh si mu _ _ _ _ s (pMapD p) h.2 q⟩
  · cases r with
    | tup hs z p => exact ⟨_, _, rfl, sqtMono s.s.fz hs, by rw [← Paired.length p.p]; exact h.1, d G B F H al rh si mu _ _ _ _ s p.p h.2 q⟩
  · exact h.elim
theorem vk_tup (y : YOk Y P w K mg base N k) {es : List Expr} {kk : Nat} {g : WGs} (n : Nat) {vs : List Nat} (h : VKs Y K es g vs) (hn : ∀ i, (assignEach es (Y i).env).length = n := by exact fun _ => rfl) (hst : ∀ i, (assignEach es (Y i).env).findIdx? (·.1) = none := by exact fun _ => rfl) : VK Y K (.Tuple es kk pos) (wgTup n g) vs := by
  obtain ⟨t, p, d, kp⟩ := h
  refine ⟨gTup K n t, fun i => by rw [← y.hK i]; exact pg_tup (y.calm i) (p i) (hn i) (hst i), den_gTup n d, fun v σ H Q Q' k h => ?_⟩
  obtain ⟨a, xs, e, hs, l, h⟩ := h
  exact ⟨a, xs, e, hs, l, kp xs σ H Q Q' k h⟩
theorem vg_tup (y : YOk Y P w K mg base N k) {es : List Expr} {kk : Nat} {g : WGs} (n : Nat) (h : VGs Y K es g) (hn : ∀ i, (assignEach es (Y i).env).length = n := by exact fun _ => rfl) (hst : ∀ i, (assignEach es (Y i).env).findIdx? (·.1) = none := by exact fun _ => rfl) : VG Y K (.Tuple es kk pos) (wgTup n g) := by
  obtain ⟨t, p, d⟩ := h
  exact ⟨gTup K n t, fun i => by rw [← y.hK i]; exact pg_tup (y.calm i) (p i) (hn i) (hst i), den_gTup n d⟩
/-- o[i] = .. of a list -/
abbrev FSet := Sto → W → W → W → (Sto → Prop) → Prop
def SetD (K : PySem.W.Frag) (t : TSet) (f : FSet) : Prop := ∀ (G B F H : Hp) (al : List Addr) (rh : Ev) (si : L2.St) (mu : Sto) (o i x : W) (vo vi v : V) (Qd : Sto → Prop) (Q : Hp → Prop), SR K G B F H al rh si mu → RepW K F al o vo → RepW K F al i vi → RepW K F al x v → f mu o i x Qd →
  (∀ F' H' al' mu', Ext F al F' al' → SR K G B F' H' al' rh si mu' → Qd mu' → Q H') → t vo vi v H Q
@[simp] def fSetL : FSet := fun mu o i x Q => match o, i with
  | .loc k, .d (.int n) => match mu[k]? with
    | some (.lst xs) => ∃ j, ixN xs.length n = some j ∧ match x with
      | .d d => Q (mu.set k (.lst (xs.set j d)))
      | x => Q (mu.set k (mkL ((xs.map .d).set j x)))
    | some (.lstW ws) => ∃ j, ixN ws.length n = some j ∧ Q (mu.set k (.lstW (ws.set j x)))
    | _ => False
  | _, _ => False
theorem sd_list : SetD K rSetL fSetL := fun G B F H al rh si mu o i x vo vi v Qd Q s ro ri rx h q => by
  unfold fSetL at h
  split at h
  · rename_i k n
    cases repInt ri
    cases ro with
    | loc ea =>
      rename_i a
      split at h
      · rename_i xs e
        obtain ⟨j, e1, h⟩ := h
        obtain ⟨vs, hH, z, p⟩ := s.s.lstAt e ea
        have l := Paired.length p
        split at h
        · rename_i d
          have rd : RepD K F d v := by cases rx with | d r => exact r
          exact ⟨a, vs, n, j, rfl, rfl, hH, by rw [← l]; exact e1, q F _ al _ (Ext.refl _ _) (s.step (Ext.refl _ _) (s.s.put ea (.lst (by rw [List.length_set]; exact z) (pSet rd j p)))) h⟩
        · exact ⟨a, vs, n, j, rfl, rfl, hH, by rw [← l]; exact e1, q F _ al _ (Ext.refl _ _) (s.step (Ext.refl _ _) (s.s.put ea (mkL_rep (by rw [List.length_set]; exact z) (pSet rx j (pMapD p))))) h⟩
      · rename_i ws e
        obtain ⟨j, e1, h⟩ := h
        obtain ⟨vs, hH, z, p⟩ := s.s.lstWAt e ea
        have l := Paired.length p
        exact ⟨a, vs, n, j, rfl, rfl, hH, by rw [← l]; exact e1, q F _ al _ (Ext.refl _ _) (s.step (Ext.refl _ _) (s.s.put ea (.lstW (by rw [List.length_set]; exact z) (pSet rx j p)))) h⟩
      · exact h.elim
  · exact h.elim
@[simp] def wgSub (f : FSet) (o i : WE) : WG := fun x rh mu Q => o rh mu fun ov mu1 => i rh mu1 fun iv mu2 => f mu2 ov iv x fun mu3 => Q rh mu3
theorem vg_sub {o i : Expr} {wo wi : WE} {t : TSet} {f : FSet} (ho : VE Y K o wo) (hi : VE Y K i wi) (hs : ∀ j, PSet (Y j) t) (hd : SetD K t f)
    (ha : ∀ j v, assign (.Subscript o i pos) (Y j).env v = (do
      let ov ← holding [v] (eval o (Y j).env)
      let iv ← holding [v, ov] (eval i (Y j).env)
      standAt pos
      holding [v, ov, iv] (setItem ov iv v)
      release [v, ov, iv] []) := by exact fun _ _ => rfl) : VG Y K (.Subscript o i pos) (wgSub f wo wi) := by
  obtain ⟨t1, p1, d1⟩ := ho
  obtain ⟨t2, p2, d2⟩ := hi
  refine ⟨_, fun j => pg_sub (p1 j) (p2 j) (hs j) (ha j), fun G B F H al rh si mu x v Qd Q s r h q => ?_⟩
  refine d1 G B F H al rh si mu _ _ s h fun F1 H1 al1 mu1 ov vo e1 s1 r1 h1 => ?_
  refine d2 G B F1 H1 al1 rh si mu1 _ _ s1 h1 fun F2 H2 al2 mu2 iv vi e2 s2 r2 h2 => ?_
  exact hd G B F2 H2 al2 rh si mu2 ov iv x vo vi v _ _ s2 (r1.mono e2) r2 (r.mono (e1.trans e2)) h2 fun F3 H3 al3 mu3 e3 s3 h3 => q F3 H3 al3 rh si mu3 ((e1.trans e2).trans e3) s3 h3
theorem vg_subL {o i : Expr} {wo wi : WE} (ho : VE Y K o wo) (hi : VE Y K i wi)
    (ha : ∀ j v, assign (.Subscript o i pos) (Y j).env v = (do
      let ov ← holding [v] (eval o (Y j).env)
      let iv ← holding [v, ov] (eval i (Y j).env)
      standAt pos
      holding [v, ov, iv] (setItem ov iv v)
      release [v, ov, iv] []) := by exact fun _ _ => rfl) : VG Y K (.Subscript o i pos) (wgSub fSetL wo wi) := vg_sub ho hi (fun _ => set_list) sd_list ha
end

/-! ### assignments -/
@[simp] def wAsg (a : WE) (g : WG) : WS := fun V rh mu => a rh mu fun x mu1 => g x rh mu1 V.nx
theorem den_asg {te : TE} {g : TG} {fg : WG} (d : Den K te we) (d2 : DenG K g fg) : DenS K (tAsg te g) (wAsg we fg) := fun G B F H al rh si mu V1 D1 s h b => by
  refine d G B F H al rh si mu _ _ s h fun F1 H1 al1 mu1 x vx e1 s1 r1 h1 => ?_
  exact d2 G B F1 H1 al1 rh si mu1 x vx _ _ s1 r1 h1 fun F2 H2 al2 rh2 si2 mu2 e2 s2 h2 => b.nx F2 H2 al2 rh2 si2 mu2 (e1.trans e2) s2 h2
theorem vs_set (y : YOk (un X) P w K mg base N k) (i : Nat) {x : Str} {pos' : Pos} (he : VE (un X) K e we) (hi : N[i]? = some x := by rfl) (hx : Loc X.env.scope x := by first | exact Or.inl rfl | exact Or.inr rfl) (hs : swapsWith e (some (.Name x pos')) pos.line X.env = pure false := by rfl)
    (hf : X.fn x = true ∨ X.env.scope.names.lookup x = some .local := by first | exact .inl rfl | exact .inr rfl) : VS X K (.Assign [.Name x pos'] e pos) (wAsg we (wgName i)) := by
  obtain ⟨t, p, d⟩ := he
  exact ⟨_, ps_set (by have q := y.hN (); show X.N.Nodup; rw [show X.N = N from q]; exact y.nd) (by have q := y.hN (); rw [show X.N = N from q]; exact hi) hx (p ()) hs hf, den_asg d (den_gName i)⟩
theorem vs_asg {tg : Expr} {fg : WG} (he : VE (un X) K e we) (hg : VG (un X) K tg fg) (hs : swapsWithSole [tg] e pos.line X.env = pure false := by rfl) (hw : swappedStores [tg] e X.env = pure none := by rfl)
    (h1 : (assignEach [tg] X.env).map (·.2) = [assign tg X.env] := by rfl) : VS X K (.Assign [tg] e pos) (wAsg we fg) := by
  obtain ⟨t, p, d⟩ := he
  obtain ⟨t2, p2, d2⟩ := hg
  exact ⟨_, ps_asg (p ()) (p2 ()) hs hw h1, den_asg d d2⟩
/-- x op= e -/
@[simp] def wAug (f : F2) (i : Nat) (a : WE) : WS := fun V rh mu => wVar i rh mu fun x _ => a rh mu fun y mu1 => f mu1 x y fun z mu2 => V.nx (rh.set i (some z)) mu2
def IpD (K : PySem.W.Frag) (t : TIp) (f : F2) : Prop := OpD K t f
theorem vs_aug (y : YOk (un X) P w K mg base N k) (i : Nat) {x : Str} {op : Operator} {ti : TIp} {f : F2} {pos' : Pos} (he : VE (un X) K e we) (ho : PIp X op ti) (hd : OpD K ti f) (hi : N[i]? = some x := by rfl) (hx : Loc X.env.scope x := by first | exact Or.inl rfl | exact Or.inr rfl)
    (hf : X.fn x = true ∨ X.env.scope.names.lookup x = some .local := by first | exact .inl rfl | exact .inr rfl) : VS X K (.AugAssign (.Name x pos') op e pos) (wAug f i we) := by
  obtain ⟨t, p, d⟩ := he
  have q := y.hN ()
  refine ⟨_, ps_aug (by rw [show X.N = N from q]; exact y.nd) (by rw [show X.N = N from q]; exact hi) hx (p ()) ho hf, fun G B F H al rh si mu V1 D1 s h b => ?_⟩
  unfold wAug wVar at h
  split at h
  · rename_i w0 e0
    obtain ⟨v, e1, r⟩ := s.env i w0 e0
    refine ⟨v, e1, d G B F H al rh si mu _ _ s h fun F1 H1 al1 mu1 z vz x1 s1 r1 h1 => ?_⟩
    exact hd G B F1 H1 al1 rh si mu1 w0 z v vz _ _ s1 (r.mono x1) r1 h1 fun F2 H2 al2 mu2 u vu x2 s2 r2 h2 => b.nx F2 H2 al2 _ _ mu2 (x1.trans x2) (s2.set r2) h2
  · exact h.elim
theorem vs_augAdd (y : YOk (un X) P w K mg base N k) (i : Nat) {x : Str} {pos' : Pos} (he : VE (un X) K e we) (hi : N[i]? = some x := by rfl) (hx : Loc X.env.scope x := by first | exact Or.inl rfl | exact Or.inr rfl)
    (hf : X.fn x = true ∨ X.env.scope.names.lookup x = some .local := by first | exact .inl rfl | exact .inr rfl) : VS X K (.AugAssign (.Name x pos') .Add e pos) (wAug (fI0 fun a b => a + b) i we) := vs_aug y i he ip_add opd_I0 hi hx hf
theorem vs_augSub (y : YOk (un X) P w K mg base N k) (i : Nat) {x : Str} {pos' : Pos} (he : VE (un X) K e we) (hi : N[i]? = some x := by rfl) (hx : Loc X.env.scope x := by first | exact Or.inl rfl | exact Or.inr rfl)
    (hf : X.fn x = true ∨ X.env.scope.names.lookup x = some .local := by first | exact .inl rfl | exact .inr rfl) : VS X K (.AugAssign (.Name x pos') .Sub e pos) (wAug (fI0 fun a b => a - b) i we) := vs_aug y i he ip_sub opd_I0 hi hx hf

/-! ### while -/
def wWhile (c : WT) (b : WS) : WS := fun V rh mu => ∃ I : Nat → Ev → Sto → Prop, (∃ m, I m rh mu) ∧ ∀ m rh mu, I m rh mu → c rh mu fun t mu1 =>
  if t = true then b { V with nx := fun rh' mu' => ∃ m', m' < m ∧ I m' rh' mu', ct := fun rh' mu' => ∃ m', m' < m ∧ I m' rh' mu', bk := V.nx } rh mu1 else V.nx rh mu1
theorem vs_while {c : Expr} {body : List Stmt} {fc : WT} (hp : PassesOwn (model X.prog X.w) X.A X.env X.xe) (hc : VT (un X) K c fc) (hb : VSs X K body f) : VS X K (.While c body [] pos) (wWhile fc f) := by
  obtain ⟨t, p, d⟩ := hc
  obtain ⟨u, p', d'⟩ := hb
  refine ⟨_, ps_while hp (p ()) p', fun G B F H al rh si mu V1 D1 s h b => ?_⟩
  obtain ⟨I, ⟨m0, i0⟩, turn⟩ := h
  refine ⟨fun m σ H1 => ∃ F1 al1 rh1 mu1, Ext F al F1 al1 ∧ SR K G B F1 H1 al1 rh1 σ mu1 ∧ I m rh1 mu1, ⟨m0, F, al, rh, mu, Ext.refl _ _, s, i0⟩, ?_⟩
  rintro m σ H1 ⟨F1, al1, rh1, mu1, e1, s1, i1⟩
  refine d G B F1 H1 al1 rh1 σ mu1 _ _ s1 (turn m rh1 mu1 i1) fun F2 H2 al2 mu2 x e2 s2 h2 => ?_
  cases x with
  | false => exact iteF (b.nx F2 H2 al2 rh1 σ mu2 (e1.trans e2) s2 (by simpa using h2))
  | true =>
    refine iteT ⟨fun σ' H' => ∃ m', m' < m ∧ ∃ F1 al1 rh1 mu1, Ext F al F1 al1 ∧ SR K G B F1 H' al1 rh1 σ' mu1 ∧ I m' rh1 mu1, fun _ _ z => z, ?_⟩
    have again : ∀ F' H' al' rh' si' mu', Ext F2 al2 F' al' → SR K G B F' H' al' rh' si' mu' → (∃ m', m' < m ∧ I m' rh' mu') → ∃ m', m' < m ∧ ∃ F1 al1 rh1 mu1, Ext F al F1 al1 ∧ SR K G B F1 H' al1 rh1 si' mu1 ∧ I m' rh1 mu1 := by
      rintro F' H' al' rh' si' mu' x s' ⟨m', hm, i'⟩
      exact ⟨m', hm, F', al', rh', mu', (e1.trans e2).trans x, s', i'⟩
    refine d' G B F2 H2 al2 rh1 σ mu2 _ _ s2 (by simpa using h2) ⟨again, ?_, ?_, again⟩
    · exact fun F' H' al' mu' w v x => b.rt F' H' al' mu' w v ((e1.trans e2).trans x)
    · exact fun F' H' al' rh' si' mu' x => b.nx F' H' al' rh' si' mu' ((e1.trans e2).trans x)

/-! ### what a loop walks: its items, and what must hold at each turn -/
abbrev WI := Ev → Sto → (List W → (Sto → Prop) → Sto → Prop) → Prop
structure ItD (K : PySem.W.Frag) (F : Hp) (al : List Addr) (J : It) (items : List W) (chk : Sto → Prop) : Prop where
  sz : items.length ≤ sizeLine
  go : ∀ (i : Nat) (x : W) G B F' H al' mu, Ext F al F' al' → SRS K G B F' H al' mu → chk mu → items[i]? = some x → J.go i H
  yld : ∀ (i : Nat) (x : W) G B F' H al' mu v H', Ext F al F' al' → SRS K G B F' H al' mu → chk mu → items[i]? = some x → J.yld i H v H' → ∃ F2, Ext F' al' F2 al' ∧ SRS K G B F2 H' al' mu ∧ RepW K F2 al' x v
  stop : ∀ G B F' H al' mu, Ext F al F' al' → SRS K G B F' H al' mu → chk mu → J.stop items.length H
def DenI (K : PySem.W.Frag) (t : TI) (f : WI) : Prop := ∀ (G B F H : Hp) (al : List Addr) (rh : Ev) (si : L2.St) (mu : Sto) (Qd : List W → (Sto → Prop) → Sto → Prop) (R : It → Hp → Prop), SR K G B F H al rh si mu → f rh mu Qd →
  (∀ F' H' al' mu' J items chk, Ext F al F' al' → SR K G B F' H' al' rh si mu' → ItD K F' al' J items chk → Qd items chk mu' → R J H') → t si H R
def VI {io : Type} (Y : io → Cx) (K : PySem.W.Frag) (tg e : Expr) (f : WI) : Prop := ∃ t, (∀ i, PI (Y i) tg e t) ∧ DenI K t f
/-- the turns -/
@[simp] def forL (chk : Sto → Prop) (g : WG) (b : WS) (V : EV) : List W → Ev → Sto → Prop
  | [], rh, mu => chk mu ∧ V.nx rh mu
  | x :: xs, rh, mu => chk mu ∧ g x rh mu fun rh' mu' => b { V with nx := forL chk g b V xs, ct := forL chk g b V xs, bk := V.nx } rh' mu'
@[simp] def wFor (it : WI) (g : WG) (b : WS) : WS := fun V rh mu => it rh mu fun items chk mu1 => forL chk g b V items rh mu1
theorem vs_for {tg iter : Expr} {body : List Stmt} {fi : WI} {fg : WG} {vs : List Nat} (hp : PassesOwn (model X.prog X.w) X.A X.env X.xe) (hc : X.calm = true) (hi : VI (un X) K tg iter fi) (hg : VK (un X) K tg fg vs) (hb : VSs X K body f)
    (hs : ∀ x, foldedSetIterable iter X.env x = pure x := by intro _; rfl) : VS X K (.For tg iter body [] pos) (wFor fi fg f) := by
  obtain ⟨t, p, d⟩ := hi
  obtain ⟨t2, p2, d2, _⟩ := hg
  obtain ⟨u, p', d'⟩ := hb
  refine ⟨_, ps_for hp hc (p ()) (p2 ()) p' hs, fun G B F H al rh si mu V1 D1 s h b => ?_⟩
  refine d G B F H al rh si mu _ _ s h fun F0 H0 al0 mu0 J items chk e0 s0 it h0 => ?_
  refine ⟨fun i m σ H1 => m = items.length - i ∧ i ≤ items.length ∧ ∃ F1 al1 rh1 mu1, Ext F0 al0 F1 al1 ∧ SR K G B F1 H1 al1 rh1 σ mu1 ∧ forL chk fg f V1 (items.drop i) rh1 mu1, ⟨_, rfl, Nat.zero_le _, F0, al0, rh, mu0, Ext.refl _ _, s0, h0⟩, ?_⟩
  rintro i m σ H1 ⟨rfl, hi, F1, al1, rh1, mu1, e1, s1, h1⟩
  by_cases hlt : i < items.length
  · have ed : items.drop i = items[i] :: items.drop (i + 1) := List.drop_eq_getElem_cons hlt
    rw [ed] at h1
    have ei : items[i]? = some items[i] := by simp [hlt]
    obtain ⟨hchk, h1⟩ := h1
    refine .inr ⟨it.go i _ G B F1 H1 al1 mu1 e1 s1.s hchk ei, fun σ' H' => i + 1 ≤ items.length ∧ ∃ F1 al1 rh1 mu1, Ext F0 al0 F1 al1 ∧ SR K G B F1 H' al1 rh1 σ' mu1 ∧ forL chk fg f V1 (items.drop (i + 1)) rh1 mu1, fun σ' H' z => ⟨items.length - (i + 1), by omega, rfl, z.1, z.2⟩, fun x H' y => ?_⟩
    obtain ⟨F2, e2, s2, r2⟩ := it.yld i _ G B F1 H1 al1 mu1 x H' e1 s1.s hchk ei y
    refine d2 G B F2 H' al1 rh1 σ mu1 _ _ _ _ (s1.step e2 s2) r2 h1 fun F3 H3 al3 rh3 si3 mu3 e3 s3 h3 => ?_
    have ex := (e1.trans e2).trans e3
    have again : ∀ F' H' al' rh' si' mu', Ext F3 al3 F' al' → SR K G B F' H' al' rh' si' mu' → forL chk fg f V1 (items.drop (i + 1)) rh' mu' → i + 1 ≤ items.length ∧ ∃ F1 al1 rh1 mu1, Ext F0 al0 F1 al1 ∧ SR K G B F1 H' al1 rh1 si' mu1 ∧ forL chk fg f V1 (items.drop (i + 1)) rh1 mu1 :=
      fun F' H' al' rh' si' mu' x s' h' => ⟨hlt, F', al', rh', mu', ex.trans x, s', h'⟩
    exact d' G B F3 H3 al3 rh3 si3 mu3 _ _ s3 h3 ⟨again, fun F' H' al' mu' w v x => b.rt F' H' al' mu' w v ((e0.trans ex).trans x), fun F' H' al' rh' si' mu' x => b.nx F' H' al' rh' si' mu' ((e0.trans ex).trans x), again⟩
  · have e : i = items.length := by omega
    subst e
    rw [List.drop_length] at h1
    exact .inl ⟨it.stop G B F1 H1 al1 mu1 e1 s1.s h1.1, b.nx F1 H1 al1 rh1 σ mu1 (e0.trans e1) s1 h1.2⟩
end
end VL
namespace VL
open PySem PySem.Spec PyProof.Rows L2 RZ

/-! ### what is walked -/
section
variable {X : Cx} {tg : Expr}
/-- a list, a tuple, a text -/
def iAny (K : PySem.W.Frag) (tl : TE) : TI := fun σ H R => tl σ H fun x H1 => (∃ a, x = .ref a ∧ (∃ xs, SqL K H1 a xs) ∧ R (Itl K a) H1) ∨ (∃ a, x = .ref a ∧ (∃ xs, SqT K H1 a xs) ∧ R (Itt K a) H1)
theorem pi_any {l : Expr} {tl : TE} (hl : PE X l tl) : PI X tg l (iAny X.K tl) := by
  refine ⟨fun pins s σ H R I h => ?_⟩
  refine thn (hl.run pins s σ H _ I h) fun v s1 ⟨x, H1, I1, r1, q1⟩ => ?_
  rcases q1 with q1 | q1
  · obtain ⟨a, e, ⟨xs, hq⟩, q⟩ := q1
    subst e
    cases r1
    obtain ⟨its, rv, p, hz⟩ := I1.list hq
    refine wpAny_pyIter_list p.isList ?_
    refine ⟨s1.heap.objs.size, [s1.heap.objs.size], _, _, H1, rfl, I1.kept (t' := s1.toks) fun b o e => Heap.get?_push_of_some _ e, turn_list a _, ⟨_, Heap.get?_push_size _ rfl, rfl, rfl⟩, fun b hb => ?_, q⟩
    have e : b = s1.heap.objs.size := by simpa using hb
    subst e
    exact I1.fpOk (Nat.le_refl _) (I1.hok.fresh (Nat.le_refl _))
  · obtain ⟨a, e, ⟨xs, hq⟩, q⟩ := q1
    subst e
    cases r1
    obtain ⟨its, rv, p, hz⟩ := I1.tuple hq
    refine wpAny_pyIter_tuple (show s1.heap.IsTuple a its.toArray from p) ?_
    refine ⟨s1.heap.objs.size, [s1.heap.objs.size], _, _, H1, rfl, I1.kept (t' := s1.toks) fun b o e => Heap.get?_push_of_some _ e, turn_tuple a _, ⟨_, Heap.get?_push_size _ rfl, rfl, rfl⟩, fun b hb => ?_, q⟩
    have e : b = s1.heap.objs.size := by simpa using hb
    subst e
    exact I1.fpOk (Nat.le_refl _) (I1.hok.fresh (Nat.le_refl _))
end
/-- the sequence stays while it is walked -/
@[simp] def chkW (x : W) (ws : List W) : Sto → Prop := match x with
  | .loc _ => fun mu => seqW mu x = some ws
  | _ => fun _ => True
@[simp] def wSeqI (a : WE) : WI := fun rh mu Q => a rh mu fun x mu1 => match seqW mu1 x with
  | some ws => Q ws (chkW x ws) mu1
  | none => False
theorem seqW_any {mu mu' : Sto} {x : W} {ws : List W} (h : seqW mu x = some ws) (c : chkW x ws mu') : seqW mu' x = some ws := by
  cases x with
  | loc k => exact c
  | d x => cases x <;> first | exact h | (unfold seqW at h ⊢; exact h)
  | tup us => unfold seqW at h ⊢; exact h
  | ty n => cases h
  | raw a => cases h
section
variable {io : Type} {Y : io → Cx} {P : Program} {w : World} {K : PySem.W.Frag} {mg : Str → Option Value} {base : Heap} {N : List Str} {k : Nat} {pos p tpos : Pos} {a b e e2 tg : Expr} {wa wb : WE} {ga : WA} {elts : List Expr} {kk : Nat}
theorem seqW_kind {x : W} {v : V} {ws : List W} {G B F H : Hp} {al : List Addr} {mu : Sto} (s : SRS K G B F H al mu) (r : RepW K F al x v) (e : seqW mu x = some ws) : ∃ (b : Addr) (vs : List V), v = .ref b ∧ vs.length = ws.length ∧ vs.length ≤ sizeLine ∧
    ((∀ G' B' F' H' al' mu', Ext F al F' al' → SRS K G' B' F' H' al' mu' → chkW x ws mu' → ∃ us, SqL K H' b us ∧ Paired (RepW K F' al') ws us) ∨ (∀ G' B' F' H' al' mu', Ext F al F' al' → SRS K G' B' F' H' al' mu' → chkW x ws mu' → ∃ us, SqT K H' b us ∧ Paired (RepW K F' al') ws us)) := by
  cases x with
  | loc k =>
    cases r with
    | loc ea =>
      rename_i a
      obtain ⟨b, vs, e1, hs, z, p⟩ := seqW_rep s (.loc ea) e
      cases e1
      refine ⟨a, vs, rfl, (Paired.length p).symm, z, .inl fun G' B' F' H' al' mu' x s' c => ?_⟩
      have c' : seqW mu' (.loc k) = some ws := c
      unfold seqW at c'
      simp only at c'
      split at c'
      · rename_i q
        cases c'
        obtain ⟨us, h, z, p⟩ := s'.lstAt q (x.at ea)
        exact ⟨us, SqL.of h, pMapD p⟩
      · rename_i q
        cases c'
        obtain ⟨us, h, z, p⟩ := s'.lstWAt q (x.at ea)
        exact ⟨us, SqL.of h, p⟩
      · cases c'
  | d x =>
    cases x with
    | lst xs =>
      cases e
      cases r with
      | d r => cases r with
        | lst q z p => exact ⟨_, _, rfl, by rw [List.length_map, p.len], z, .inl fun G' B' F' H' al' mu' x s' c => ⟨_, .inl (rdMono (x.1.trans s'.fz) q), pMapD (Paired.mapP p.p fun _ _ z => z.mono x.1)⟩⟩
    | tup xs =>
      cases e
      obtain ⟨b, vs, rfl, q, z, p⟩ := repTup r
      exact ⟨b, vs, rfl, by rw [List.length_map, Paired.length p], z, .inr fun G' B' F' H' al' mu' x s' c => ⟨_, sqtMono (x.1.trans s'.fz) q, pMapD (Paired.mapP p fun _ _ z => z.mono x.1)⟩⟩
    | scr ns =>
      cases e
      cases r with
      | d r => cases r with
        | scr q z => exact ⟨_, ns.map V.int, rfl, by simp, by simpa using z, .inl fun G' B' F' H' al' mu' x s' c => ⟨_, sqlMono (x.1.trans s'.fz) q, pScr _⟩⟩
    | _ => cases e
  | tup us =>
    cases e
    cases r with
    | tup q z p => exact ⟨_, _, rfl, (Paired.length p.p).symm, z, .inr fun G' B' F' H' al' mu' x s' c => ⟨_, sqtMono (x.1.trans s'.fz) q, Paired.mapP p.p fun _ _ z => z.mono x⟩⟩
  | ty n => cases e
  | raw a => cases e
theorem vi_seq (y : YOk Y P w K mg base N k) (ha : VE Y K a wa) : VI Y K tg a (wSeqI wa) := by
  obtain ⟨t, p1, d1⟩ := ha
  refine ⟨iAny K t, fun i => by rw [← y.hK i]; exact pi_any (p1 i), fun G B F H al rh si mu Qd R s h q => ?_⟩
  refine d1 G B F H al rh si mu _ _ s h fun F1 H1 al1 mu1 x vx e1 s1 r1 h1 => ?_
  split at h1
  · rename_i ws e
    obtain ⟨b, vs, rfl, hl, z, hk⟩ := seqW_kind s1.s r1 e
    have c0 : chkW x ws mu1 := by
      unfold chkW
      split
      · exact e
      · trivial
    rcases hk with hk | hk
    · obtain ⟨us0, hs0, p0⟩ := hk G B F1 H1 al1 mu1 (Ext.refl _ _) s1.s c0
      refine .inl ⟨b, rfl, ⟨us0, hs0⟩, q F1 H1 al1 mu1 _ ws _ e1 s1 ⟨by omega, ?_, ?_, ?_⟩ h1⟩
      · intro i x G' B' F' H' al' mu' ex s' c ei
        obtain ⟨us, hs, p⟩ := hk G' B' F' H' al' mu' ex s' c
        obtain ⟨v, ev, rv⟩ := pGetL p ei
        exact ⟨us, v, hs, ev⟩
      · intro i x G' B' F' H' al' mu' v H'' ex s' c ei yl
        obtain ⟨us, hs, p⟩ := hk G' B' F' H' al' mu' ex s' c
        obtain ⟨v', ev, rv⟩ := pGetL p ei
        obtain ⟨rfl, yl⟩ := yl
        have := yl us hs
        rw [ev] at this
        cases this
        exact ⟨F', Ext.refl _ _, s', rv⟩
      · intro G' B' F' H' al' mu' ex s' c
        obtain ⟨us, hs, p⟩ := hk G' B' F' H' al' mu' ex s' c
        exact ⟨us, hs, by rw [← Paired.length p]; exact Nat.le_refl _⟩
    · obtain ⟨us0, hs0, p0⟩ := hk G B F1 H1 al1 mu1 (Ext.refl _ _) s1.s c0
      refine .inr ⟨b, rfl, ⟨us0, hs0⟩, q F1 H1 al1 mu1 _ ws _ e1 s1 ⟨by omega, ?_, ?_, ?_⟩ h1⟩
      · intro i x G' B' F' H' al' mu' ex s' c ei
        obtain ⟨us, hs, p⟩ := hk G' B' F' H' al' mu' ex s' c
        obtain ⟨v, ev, rv⟩ := pGetL p ei
        exact ⟨us, v, hs, ev⟩
      · intro i x G' B' F' H' al' mu' v H'' ex s' c ei yl
        obtain ⟨us, hs, p⟩ := hk G' B' F' H' al' mu' ex s' c
        obtain ⟨v', ev, rv⟩ := pGetL p ei
        obtain ⟨rfl, yl⟩ := yl
        have := yl us hs
        rw [ev] at this
        cases this
        exact ⟨F', Ext.refl _ _, s', rv⟩
      · intro G' B' F' H' al' mu' ex s' c
        obtain ⟨us, hs, p⟩ := hk G' B' F' H' al' mu' ex s' c
        exact ⟨us, hs, by rw [← Paired.length p]; exact Nat.le_refl _⟩
  · exact h1.elim

/-- a range -/
def rngW : Int → Nat → List W
  | _, 0 => []
  | lo, n + 1 => .d (.int lo) :: rngW (lo + 1) n
theorem rngW_len : ∀ (lo : Int) (n : Nat), (rngW lo n).length = n
  | _, 0 => rfl
  | lo, n + 1 => by rw [rngW, List.length_cons, rngW_len]
theorem rngW_get : ∀ (lo : Int) (n i : Nat), i < n → (rngW lo n)[i]? = some (.d (.int (lo + i)))
  | _, 0, _, h => by omega
  | lo, n + 1, 0, _ => by simp [rngW]
  | lo, n + 1, i + 1, h => by
    rw [rngW, List.getElem?_cons_succ, rngW_get (lo + 1) n i (by omega)]
    congr 3; omega
theorem it_rng {F : Hp} {al : List Addr} {lo : Int} {n : Nat} (h : n ≤ sizeLine) : ItD K F al (Itr lo n) (rngW lo n) fun _ => True where
  sz := by rw [rngW_len]; exact h
  go := fun i x G B F' H al' mu _ _ _ e => by
    have := (List.getElem?_eq_some_iff.mp e).1
    rw [rngW_len] at this; exact this
  yld := fun i x G B F' H al' mu v H' _ s _ e yl => by
    have l := (List.getElem?_eq_some_iff.mp e).1
    rw [rngW_len] at l
    rw [rngW_get lo n i l] at e
    cases e
    obtain ⟨rfl, rfl⟩ := yl
    exact ⟨F', Ext.refl _ _, s, .d (.int _)⟩
  stop := fun G B F' H al' mu _ _ _ => by
    show n ≤ (rngW lo n).length
    rw [rngW_len]; exact Nat.le_refl _
@[simp] def wRng1 (g : WA) : WI := fun rh mu Q => g rh mu fun ws mu1 => match ws with
  | [.d (.int j)] => j ≤ 1000000 ∧ -(2 ^ 62) ≤ j ∧ Q (rngW 0 j.toNat) (fun _ => True) mu1
  | _ => False
@[simp] def wRng2 (g : WA) : WI := fun rh mu Q => g rh mu fun ws mu1 => match ws with
  | [.d (.int i), .d (.int j)] => (j - i ≤ 1000000 ∧ -(2 ^ 62) ≤ i ∧ i < 2 ^ 62 ∧ -(2 ^ 62) ≤ j ∧ j < 2 ^ 62) ∧ Q (rngW i (j - i).toNat) (fun _ => True) mu1
  | _ => False
theorem vi_rng1 (y : YOk Y P w K mg base N k) (hm : mg "range" = none) (ha : VA Y K [a] ga) (hg : ∀ j, Gl (Y j) "range" := by exact fun _ => rfl) (hs : ∀ i, starEach [a] (Y i).env = [(false, eval a (Y i).env)] := by exact fun _ => rfl) : VI Y K tg (.Call (.Name "range" p) [a] [] pos) (wRng1 ga) := by
  obtain ⟨t, p1, d1⟩ := ha
  refine ⟨_, fun i => pi_range1 (hg i) (by rw [y.hmg i]; exact hm) (p1 i) (hs i), fun G B F H al rh si mu Qd R s h q => ?_⟩
  refine d1 G B F H al rh si mu _ _ s h fun F1 H1 al1 mu1 ws vs e1 s1 r1 h1 => ?_
  split at h1
  · obtain ⟨v, rfl, r⟩ := pair1 r1
    cases repInt r
    have l : sizeLine = 16777216 := sizeLine_eq
    exact ⟨_, rfl, h1.2.1, by have := h1.1; omega, q F1 H1 al1 mu1 _ _ _ e1 s1 (it_rng (by have := h1.1; omega)) h1.2.2⟩
  · exact h1.elim
theorem vi_rng2 (y : YOk Y P w K mg base N k) (hm : mg "range" = none) (ha : VA Y K [a, b] ga) (hg : ∀ j, Gl (Y j) "range" := by exact fun _ => rfl) (hs : ∀ i, starEach [a, b] (Y i).env = [(false, eval a (Y i).env), (false, eval b (Y i).env)] := by exact fun _ => rfl) (hs2 : ∀ i, starEach [b] (Y i).env = [(false, eval b (Y i).env)] := by exact fun _ => rfl) : VI Y K tg (.Call (.Name "range" p) [a, b] [] pos) (wRng2 ga) := by
  obtain ⟨t, p1, d1⟩ := ha
  refine ⟨_, fun i => pi_range2 (hg i) (by rw [y.hmg i]; exact hm) (p1 i) (hs i) (hs2 i), fun G B F H al rh si mu Qd R s h q => ?_⟩
  refine d1 G B F H al rh si mu _ _ s h fun F1 H1 al1 mu1 ws vs e1 s1 r1 h1 => ?_
  split at h1
  · obtain ⟨v, u, rfl, r, r'⟩ := pair2 r1
    cases repInt r
    cases repInt r'
    have l : sizeLine = 16777216 := sizeLine_eq
    obtain ⟨⟨h2, h3⟩, h4⟩ := h1
    exact ⟨_, _, rfl, h3, q F1 H1 al1 mu1 _ _ _ e1 s1 (it_rng (by omega)) h4⟩
  · exact h1.elim

/-- enumerate, zip: each turn's tuple is a new one -/
theorem tup2_new {G B F H : Hp} {al : List Addr} {mu : Sto} {x x' : W} {v v' : V} {T : Addr} (s : SRS K G B F H al mu) (r : RepW K F al x v) (r' : RepW K F al x' v') (hT : H T = none) : ∃ F2, Ext F al F2 al ∧ SRS K G B F2 (upd H T (.tup [v, v'])) al mu ∧ RepW K F2 al (mkTup [x, x']) (.ref T) := by
  have e := s.frozX (o := .tup [v, v']) hT
  refine ⟨_, e, s.froz hT, ?_⟩
  have z : ([v, v'] : List V).length ≤ sizeLine := by show 2 ≤ sizeLine; decide
  have p : Paired (RepW K F al) [x, x'] [v, v'] := .cons r (.cons r' .nil)
  unfold mkTup
  cases q : asDs [x, x'] with
  | none => exact .tup (SqT.of upd_same) z ((RepWs.of p).mono e)
  | some xs => exact .d (.tup (SqT.of upd_same) z ((asDs_rep (.of p) q).mono e.1))
@[simp] def enumW : Nat → List W → List W
  | _, [] => []
  | n, x :: xs => mkTup [.d (.int n), x] :: enumW (n + 1) xs
theorem enumW_len : ∀ (n : Nat) (xs : List W), (enumW n xs).length = xs.length
  | _, [] => rfl
  | n, x :: xs => by rw [enumW, List.length_cons, enumW_len, List.length_cons]
theorem enumW_get : ∀ (n : Nat) (xs : List W) (i : Nat) (z : W), (enumW n xs)[i]? = some z → ∃ x, xs[i]? = some x ∧ z = mkTup [.d (.int ((n + i : Nat) : Int)), x]
  | _, [], i, z, h => by simp [enumW] at h
  | n, x :: xs, 0, z, h => by simp [enumW] at h; exact ⟨x, by simp, by rw [← h]; rfl⟩
  | n, x :: xs, i + 1, z, h => by
    rw [enumW, List.getElem?_cons_succ] at h
    obtain ⟨y, h1, h2⟩ := enumW_get (n + 1) xs i z h
    exact ⟨y, by simpa using h1, by rw [h2]; congr 5; omega⟩
@[simp] def wEnum (g : WA) : WI := fun rh mu Q => g rh mu fun ws mu1 => match ws with
  | [x] => isL mu1 x = true ∧ match seqW mu1 x with
    | some us => Q (enumW 0 us) (chkW x us) mu1
    | none => False
  | _ => False
theorem isL_sqL {G B F H : Hp} {al : List Addr} {mu : Sto} {x : W} {v : V} {ws : List W} (s : SRS K G B F H al mu) (r : RepW K F al x v) (e : seqW mu x = some ws) (l : isL mu x = true) : ∃ (b : Addr) (vs : List V), v = .ref b ∧ vs.length = ws.length ∧ vs.length ≤ sizeLine ∧ SqL K H b vs ∧
    (∀ G' B' F' H' al' mu', Ext F al F' al' → SRS K G' B' F' H' al' mu' → chkW x ws mu' → ∃ us, SqL K H' b us ∧ Paired (RepW K F' al') ws us) := by
  cases x with
  | loc k =>
    cases r with
    | loc ea =>
      rename_i a
      obtain ⟨b, vs, e1, hs, z, p⟩ := seqW_rep s (.loc ea) e
      cases e1
      have main : ∀ G' B' F' H' al' mu', Ext F al F' al' → SRS K G' B' F' H' al' mu' → chkW (.loc k) ws mu' → ∃ us, SqL K H' a us ∧ Paired (RepW K F' al') ws us := fun G' B' F' H' al' mu' x s' c => by
        have c' : seqW mu' (.loc k) = some ws := c
        unfold seqW at c'
        simp only at c'
        split at c'
        · rename_i q
          cases c'
          obtain ⟨us, h, z, p⟩ := s'.lstAt q (x.at ea)
          exact ⟨us, SqL.of h, pMapD p⟩
        · rename_i q
          cases c'
          obtain ⟨us, h, z, p⟩ := s'.lstWAt q (x.at ea)
          exact ⟨us, SqL.of h, p⟩
        · cases c'
      obtain ⟨us, h1, h2⟩ := main G B F H al mu (Ext.refl _ _) s e
      have le := Paired.length h2
      refine ⟨a, us, rfl, le.symm, ?_, h1, main⟩
      rw [← le, Paired.length p]; exact z
  | d x =>
    cases x with
    | lst xs =>
      cases e
      cases r with
      | d r => cases r with
        | lst q z p => exact ⟨_, _, rfl, by rw [List.length_map, p.len], z, .inl (rdMono s.fz q), fun G' B' F' H' al' mu' x s' c => ⟨_, .inl (rdMono (x.1.trans s'.fz) q), pMapD (Paired.mapP p.p fun _ _ z => z.mono x.1)⟩⟩
    | _ => first | (cases l; done) | (cases e; done)
  | tup us => cases l
  | ty n => cases e
  | raw a => cases e
theorem vi_enum (y : YOk Y P w K mg base N k) (hm : mg "enumerate" = none) (ha : VA Y K [e] ga) (hg : ∀ j, Gl (Y j) "enumerate" := by exact fun _ => rfl) (hs : ∀ i, starEach [e] (Y i).env = [(false, eval e (Y i).env)] := by exact fun _ => rfl) : VI Y K (.Tuple elts kk tpos) (.Call (.Name "enumerate" p) [e] [] pos) (wEnum ga) := by
  obtain ⟨t, p1, d1⟩ := ha
  refine ⟨iEnum K t, fun i => by rw [← y.hK i]; exact pi_enum (hg i) (by rw [y.hmg i]; exact hm) (p1 i) (hs i), fun G B F H al rh si mu Qd R s h q => ?_⟩
  refine d1 G B F H al rh si mu _ _ s h fun F1 H1 al1 mu1 ws vs e1 s1 r1 h1 => ?_
  split at h1
  · rename_i x
    obtain ⟨v, rfl, r⟩ := pair1 r1
    obtain ⟨hl, h1⟩ := h1
    split at h1
    · rename_i us e
      obtain ⟨b, vs, rfl, hle, z, hq, main⟩ := isL_sqL s1.s r e hl
      refine ⟨b, vs, rfl, hq, q F1 H1 al1 mu1 _ _ (chkW x us) e1 s1 ⟨by rw [enumW_len]; omega, ?_, ?_, ?_⟩ h1⟩
      · intro i x G' B' F' H' al' mu' ex s' c ei
        obtain ⟨ys, hs, p⟩ := main G' B' F' H' al' mu' ex s' c
        obtain ⟨x0, h2, rfl⟩ := enumW_get _ _ _ _ ei
        obtain ⟨v, ev, rv⟩ := pGetL p h2
        exact ⟨ys, v, hs, ev⟩
      · intro i x G' B' F' H' al' mu' v H'' ex s' c ei yl
        obtain ⟨ys, hs, p⟩ := main G' B' F' H' al' mu' ex s' c
        obtain ⟨x0, h2, rfl⟩ := enumW_get _ _ _ _ ei
        obtain ⟨v', ev, rv⟩ := pGetL p h2
        obtain ⟨T, x1, rfl, hT, rfl, yl⟩ := yl
        have := yl ys hs
        rw [ev] at this
        cases this
        rw [Nat.zero_add]
        exact tup2_new s' (.d (.int _)) rv hT
      · intro G' B' F' H' al' mu' ex s' c
        obtain ⟨ys, hs, p⟩ := main G' B' F' H' al' mu' ex s' c
        exact ⟨ys, hs, by rw [enumW_len, ← Paired.length p]; exact Nat.le_refl _⟩
    · exact h1.elim
  · exact h1.elim
@[simp] def zipW : List W → List W → List W
  | x :: xs, y :: ys => mkTup [x, y] :: zipW xs ys
  | _, _ => []
theorem zipW_len : ∀ xs ys : List W, (zipW xs ys).length = min xs.length ys.length
  | [], ys => by simp [zipW]
  | _ :: _, [] => by simp [zipW]
  | x :: xs, y :: ys => by rw [zipW, List.length_cons, zipW_len, List.length_cons, List.length_cons]; omega
theorem zipW_get : ∀ (xs ys : List W) (i : Nat) (z : W), (zipW xs ys)[i]? = some z → ∃ x y, xs[i]? = some x ∧ ys[i]? = some y ∧ z = mkTup [x, y]
  | [], ys, i, z, h => by simp [zipW] at h
  | _ :: _, [], i, z, h => by simp [zipW] at h
  | x :: xs, y :: ys, 0, z, h => by simp [zipW] at h; exact ⟨x, y, by simp, by simp, h.symm⟩
  | x :: xs, y :: ys, i + 1, z, h => by
    rw [zipW, List.getElem?_cons_succ] at h
    obtain ⟨a, b, h1, h2, h3⟩ := zipW_get xs ys i z h
    exact ⟨a, b, by simpa using h1, by simpa using h2, h3⟩
/-- both lists, or both tuples -/
@[simp] def isT : W → Bool
  | .d (.tup _) => true
  | .tup _ => true
  | _ => false
@[simp] def wZip (g : WA) : WI := fun rh mu Q => g rh mu fun ws mu1 => match ws with
  | [x, x'] => ((isL mu1 x = true ∧ isL mu1 x' = true) ∨ (isT x = true ∧ isT x' = true)) ∧ match seqW mu1 x, seqW mu1 x' with
    | some us, some us' => Q (zipW us us') (fun mu => chkW x us mu ∧ chkW x' us' mu) mu1
    | _, _ => False
  | _ => False
theorem isT_sqT {G B F H : Hp} {al : List Addr} {mu : Sto} {x : W} {v : V} {ws : List W} (s : SRS K G B F H al mu) (r : RepW K F al x v) (e : seqW mu x = some ws) (l : isT x = true) : ∃ (b : Addr) (vs : List V), v = .ref b ∧ vs.length = ws.length ∧ vs.length ≤ sizeLine ∧ SqT K H b vs ∧
    (∀ G' B' F' H' al' mu', Ext F al F' al' → SRS K G' B' F' H' al' mu' → ∃ us, SqT K H' b us ∧ Paired (RepW K F' al') ws us) := by
  cases x with
  | loc k => cases l
  | d x =>
    cases x with
    | tup xs =>
      cases e
      obtain ⟨b, vs, rfl, q, z, p⟩ := repTup r
      exact ⟨b, vs, rfl, by rw [List.length_map, Paired.length p], z, sqtMono s.fz q, fun G' B' F' H' al' mu' x s' => ⟨_, sqtMono (x.1.trans s'.fz) q, pMapD (Paired.mapP p fun _ _ z => z.mono x.1)⟩⟩
    | _ => cases l
  | tup us =>
    cases e
    cases r with
    | tup q z p => exact ⟨_, _, rfl, (Paired.length p.p).symm, z, sqtMono s.fz q, fun G' B' F' H' al' mu' x s' => ⟨_, sqtMono (x.1.trans s'.fz) q, Paired.mapP p.p fun _ _ z => z.mono x⟩⟩
  | ty n => cases e
  | raw a => cases e
theorem vi_zip (y : YOk Y P w K mg base N k) (hm : mg "zip" = none) (ha : VA Y K [e, e2] ga) (hg : ∀ j, Gl (Y j) "zip" := by exact fun _ => rfl)
    (hs : ∀ i, starEach [e, e2] (Y i).env = (false, eval e (Y i).env) :: starEach [e2] (Y i).env := by exact fun _ => rfl) (hpl : ∀ i, (backTo pos (starEach [e2] (Y i).env)).any (·.1) = false := by exact fun _ => rfl) : VI Y K (.Tuple elts kk tpos) (.Call (.Name "zip" p) [e, e2] [] pos) (wZip ga) := by
  obtain ⟨t, p1, d1⟩ := ha
  refine ⟨iZipA K t, fun i => by rw [← y.hK i]; exact pi_zipA (hg i) (by rw [y.hmg i]; exact hm) (p1 i) (hs i) (hpl i), fun G B F H al rh si mu Qd R s h q => ?_⟩
  refine d1 G B F H al rh si mu _ _ s h fun F1 H1 al1 mu1 ws vs e1 s1 r1 h1 => ?_
  split at h1
  · rename_i x x'
    obtain ⟨v, v', rfl, r, r'⟩ := pair2 r1
    obtain ⟨hl, h1⟩ := h1
    split at h1
    · rename_i us us' e e'
      rcases hl with ⟨l1, l2⟩ | ⟨l1, l2⟩
      · obtain ⟨b, vs, rfl, hle, z, hq, main⟩ := isL_sqL s1.s r e l1
        obtain ⟨b', vs', rfl, hle', z', hq', main'⟩ := isL_sqL s1.s r' e' l2
        refine ⟨b, b', vs, vs', rfl, .inl ⟨hq, hq', q F1 H1 al1 mu1 _ _ _ e1 s1 ⟨by rw [zipW_len]; omega, ?_, ?_, ?_⟩ h1⟩⟩
        · intro i x0 G' B' F' H' al' mu' ex s' c ei
          obtain ⟨ys, hs, p⟩ := main G' B' F' H' al' mu' ex s' c.1
          obtain ⟨ys', hs', p'⟩ := main' G' B' F' H' al' mu' ex s' c.2
          obtain ⟨a1, a2, h2, h3, rfl⟩ := zipW_get _ _ _ _ ei
          obtain ⟨v, ev, rv⟩ := pGetL p h2
          obtain ⟨v', ev', rv'⟩ := pGetL p' h3
          exact ⟨ys, ys', v, v', hs, hs', ev, ev'⟩
        · intro i x0 G' B' F' H' al' mu' v H'' ex s' c ei yl
          obtain ⟨ys, hs, p⟩ := main G' B' F' H' al' mu' ex s' c.1
          obtain ⟨ys', hs', p'⟩ := main' G' B' F' H' al' mu' ex s' c.2
          obtain ⟨a1, a2, h2, h3, rfl⟩ := zipW_get _ _ _ _ ei
          obtain ⟨v, ev, rv⟩ := pGetL p h2
          obtain ⟨v', ev', rv'⟩ := pGetL p' h3
          obtain ⟨T, w1, w2, rfl, hT, rfl, yl1, yl2⟩ := yl
          have q1 := yl1 ys hs
          have q2 := yl2 ys' hs'
          rw [ev] at q1; rw [ev'] at q2
          cases q1; cases q2
          exact tup2_new s' rv rv' hT
        · intro G' B' F' H' al' mu' ex s' c
          obtain ⟨ys, hs, p⟩ := main G' B' F' H' al' mu' ex s' c.1
          obtain ⟨ys', hs', p'⟩ := main' G' B' F' H' al' mu' ex s' c.2
          exact ⟨ys, ys', hs, hs', by rw [zipW_len, ← Paired.length p, ← Paired.length p']; omega⟩
      · obtain ⟨b, vs, rfl, hle, z, hq, main⟩ := isT_sqT s1.s r e l1
        obtain ⟨b', vs', rfl, hle', z', hq', main'⟩ := isT_sqT s1.s r' e' l2
        refine ⟨b, b', vs, vs', rfl, .inr ⟨hq, hq', q F1 H1 al1 mu1 _ _ _ e1 s1 ⟨by rw [zipW_len]; omega, ?_, ?_, ?_⟩ h1⟩⟩
        · intro i x0 G' B' F' H' al' mu' ex s' c ei
          obtain ⟨ys, hs, p⟩ := main G' B' F' H' al' mu' ex s'
          obtain ⟨ys', hs', p'⟩ := main' G' B' F' H' al' mu' ex s'
          obtain ⟨a1, a2, h2, h3, rfl⟩ := zipW_get _ _ _ _ ei
          obtain ⟨v, ev, rv⟩ := pGetL p h2
          obtain ⟨v', ev', rv'⟩ := pGetL p' h3
          exact ⟨ys, ys', v, v', hs, hs', ev, ev'⟩
        · intro i x0 G' B' F' H' al' mu' v H'' ex s' c ei yl
          obtain ⟨ys, hs, p⟩ := main G' B' F' H' al' mu' ex s'
          obtain ⟨ys', hs', p'⟩ := main' G' B' F' H' al' mu' ex s'
          obtain ⟨a1, a2, h2, h3, rfl⟩ := zipW_get _ _ _ _ ei
          obtain ⟨v, ev, rv⟩ := pGetL p h2
          obtain ⟨v', ev', rv'⟩ := pGetL p' h3
          obtain ⟨T, w1, w2, rfl, hT, rfl, yl1, yl2⟩ := yl
          have q1 := yl1 ys hs
          have q2 := yl2 ys' hs'
          rw [ev] at q1; rw [ev'] at q2
          cases q1; cases q2
          exact tup2_new s' rv rv' hT
        · intro G' B' F' H' al' mu' ex s' c
          obtain ⟨ys, hs, p⟩ := main G' B' F' H' al' mu' ex s'
          obtain ⟨ys', hs', p'⟩ := main' G' B' F' H' al' mu' ex s'
          exact ⟨ys, ys', hs, hs', by rw [zipW_len, ← Paired.length p, ← Paired.length p']; omega⟩
    · exact h1.elim
  · exact h1.elim
/-- a text, sign by sign -/
@[simp] def sgnW (z : Str) : List W := z.cps.toList.map fun c => .d (.str ⟨#[c]⟩)
@[simp] def wStrI (a : WE) : WI := fun rh mu Q => a rh mu fun x mu1 => match x with
  | .d (.str z) => Q (sgnW z) (fun _ => True) mu1
  | _ => False
theorem vi_str (ha : VE Y K a wa) : VI Y K tg a (wStrI wa) := by
  obtain ⟨t, p1, d1⟩ := ha
  refine ⟨_, fun i => pi_str (p1 i), fun G B F H al rh si mu Qd R s h q => ?_⟩
  refine d1 G B F H al rh si mu _ _ s h fun F1 H1 al1 mu1 x vx e1 s1 r1 h1 => ?_
  split at h1
  · rename_i z
    obtain ⟨rfl, hz⟩ := repStr r1
    have hlen : (sgnW z).length = z.cps.size := by simp [sgnW]
    refine ⟨z, rfl, q F1 H1 al1 mu1 _ _ _ e1 s1 ⟨by rw [hlen]; exact hz.2, ?_, ?_, ?_⟩ h1⟩
    · intro i x G' B' F' H' al' mu' _ _ _ ei
      have := (List.getElem?_eq_some_iff.mp ei).1
      rw [hlen] at this; exact this
    · intro i x G' B' F' H' al' mu' v H'' _ s' _ ei yl
      obtain ⟨rfl, c, hc, rfl⟩ := yl
      unfold sgnW at ei
      rw [List.getElem?_map, Array.getElem?_toList, hc] at ei
      cases ei
      refine ⟨F', Ext.refl _ _, s', .d (.str _ ?_)⟩
      refine strOk_at (z := z) (i := (i : Int)) hz (atI_nat (by rw [Array.getElem?_toList]; exact hc))
    · intro G' B' F' H' al' mu' _ _ _
      show z.cps.size ≤ _
      rw [hlen]; exact Nat.le_refl _
  · exact h1.elim
end
end VL
namespace VL
open PySem PySem.Spec PyProof.Rows L2 RZ

/-! ### an object beside: kept by what must stay -/
section
variable {K : PySem.W.Frag} {G B F F' H H' : Hp} {al al' : List Addr} {mu mu' : Sto} {p : Addr} {o o' : HO}
theorem SRS.guard (s : SRS K G B F H al mu) (hH : H p = some o) (hF : F p = none) (hal : p ∉ al) : SRS K G (upd B p o) F H al mu where
  fz := s.fz
  bs := fun a u e => by
    by_cases q : a = p
    · subst q; rw [upd_same] at e; cases e; exact hH
    · rw [upd_ne q] at e; exact s.bs _ _ e
  gf := s.gf
  fr := fun a u e => by
    have ne : a ≠ p := ne_of_none e hF
    rw [upd_ne ne]; exact s.fr a u e
  nd := s.nd
  len := s.len
  st := fun k c e => by
    obtain ⟨a, u, e1, e2, e3, e4, e5⟩ := s.st k c e
    have ne : a ≠ p := fun z => hal (z ▸ List.mem_of_getElem? e1)
    exact ⟨a, u, e1, e2, by rw [upd_ne ne]; exact e3, e4, e5⟩
theorem SRS.unguard (s : SRS K G (upd B p o) F H al mu) (hB : B p = none) : SRS K G B F H al mu ∧ H p = some o ∧ p ∉ al where
  left := {
    fz := s.fz
    bs := fun a u e => s.bs _ _ (by rw [upd_ne (ne_of_none e hB)]; exact e)
    gf := s.gf
    fr := fun a u e => by
      rcases s.fr a u e with q | q | q
      · exact .inl q
      · refine .inr (.inl ?_)
        by_cases z : a = p
        · subst z; exact hB
        · rw [upd_ne z] at q; exact q
      · exact .inr (.inr q)
    nd := s.nd
    len := s.len
    st := fun k c e => by
      obtain ⟨a, u, e1, e2, e3, e4, e5⟩ := s.st k c e
      refine ⟨a, u, e1, e2, ?_, e4, e5⟩
      by_cases z : a = p
      · subst z; exact hB
      · rw [upd_ne z] at e3; exact e3 }
  right := ⟨s.bs _ _ upd_same, fun h => by
    obtain ⟨k, hk⟩ := List.mem_iff_getElem?.mp h
    obtain ⟨c, hc⟩ := s.has hk
    obtain ⟨_, _, q, _, _⟩ := s.at hc hk
    rw [upd_same] at q; cases q⟩
/-- it may be written -/
theorem SRS.beside (s : SRS K G B F H al mu) (hB : B p = none) (hF : F p = none) (hal : p ∉ al) : SRS K G B F (upd H p o') al mu where
  fz := fun a u e => by rw [upd_ne (ne_of_none e hF)]; exact s.fz _ _ e
  bs := fun a u e => by rw [upd_ne (ne_of_none e hB)]; exact s.bs _ _ e
  gf := s.gf
  fr := s.fr
  nd := s.nd
  len := s.len
  st := fun k c e => by
    obtain ⟨a, u, e1, e2, e3, e4, e5⟩ := s.st k c e
    have ne : a ≠ p := fun z => hal (z ▸ List.mem_of_getElem? e1)
    exact ⟨a, u, e1, e2, e3, by rw [upd_ne ne]; exact e4, e5⟩
theorem SRS.frozAt (s : SRS K G B F H al mu) (hH : H p = some o) (hF : F p = none) (hB : B p = none) (hal : p ∉ al) : SRS K G B (upd F p o) H al mu where
  fz := fun a u e => by
    by_cases q : a = p
    · subst q; rw [upd_same] at e; cases e; exact hH
    · rw [upd_ne q] at e; exact s.fz _ _ e
  bs := s.bs
  gf := s.gf.trans (sameN hF)
  fr := fun a u e => by
    by_cases q : a = p
    · subst q; exact .inr (.inl hB)
    · rw [upd_ne q] at e; exact s.fr a u e
  nd := s.nd
  len := s.len
  st := fun k c e => by
    obtain ⟨a, u, e1, e2, e3, e4, e5⟩ := s.st k c e
    have ne : a ≠ p := fun z => hal (z ▸ List.mem_of_getElem? e1)
    exact ⟨a, u, e1, by rw [upd_ne ne]; exact e2, e3, e4, e5.mono ⟨sameN hF, [], by simp⟩⟩
theorem SRS.ownAt {c : C} (s : SRS K G B F H al mu) (hH : H p = some o) (hF : F p = none) (hB : B p = none) (hal : p ∉ al) (r : CRep K F al c o) : SRS K G B F H (al ++ [p]) (mu ++ [c]) where
  fz := s.fz
  bs := s.bs
  gf := s.gf
  fr := s.fr
  nd := List.nodup_append.mpr ⟨s.nd, by simp, fun a ha b hb e => by
    have z : b = p := by simpa using hb
    exact hal (z ▸ e ▸ ha)⟩
  len := by simp [s.len]
  st := fun k c' e => by
    by_cases hk : k < mu.length
    · rw [List.getElem?_append_left hk] at e
      obtain ⟨a, u, e1, e2, e3, e4, e5⟩ := s.st k c' e
      exact ⟨a, u, by rw [List.getElem?_append_left (by rw [s.len]; exact hk)]; exact e1, e2, e3, e4, e5.mono ⟨Same.refl F, [p], rfl⟩⟩
    · rw [List.getElem?_append_right (by omega)] at e
      have hz : k - mu.length = 0 := by
        have := (List.getElem?_eq_some_iff.mp e).1
        simp at this; omega
      rw [hz] at e
      have e' : c = c' := by simpa using e
      subst e'
      exact ⟨p, o, by rw [List.getElem?_append_right (by rw [s.len]; omega), s.len, hz]; rfl, hF, hB, hH, r.mono ⟨Same.refl F, [p], rfl⟩⟩
/-- a list that stands already becomes ours -/
theorem newLW_at {o : Bool} {ws : List W} {vs : List V} {Qd : W → Sto → Prop} {Q : L2.VK} {rh : Ev} {si : L2.St} (s : SR K G B F H al rh si mu) (pr : Paired (RepW K F al) ws vs) (z : vs.length ≤ sizeLine) (hH : H p = some (.lst vs)) (hF : F p = none) (hB : B p = none) (hal : p ∉ al) (h : newLW o ws mu Qd)
    (k : ∀ F' H' al' mu' w v, Ext F al F' al' → SR K G B F' H' al' rh si mu' → RepW K F' al' w v → Qd w mu' → Q v H') : Q (.ref p) H := by
  unfold newLW at h
  have x := SRS.ownX (F := F) (al := al) (p := p)
  cases q : asDs ws with
  | some xs =>
    rw [q] at h
    have pd := (asDs_rep (.of pr) q).p
    unfold newL at h
    cases o with
    | true => exact k _ _ _ _ _ _ x (s.step x (s.s.ownAt hH hF hB hal (.lst z pd))) (.loc s.s.atNew) h
    | false =>
      have x : Ext F al (upd F p (.lst vs)) al := ⟨sameN hF, [], by simp⟩
      exact k _ _ _ _ _ _ x (s.step x (s.s.frozAt hH hF hB hal)) (.d (.lst (Rd.of upd_same) z ((RepDs.of pd).mono x.1))) h
  | none =>
    rw [q] at h
    exact k _ _ _ _ _ _ x (s.step x (s.s.ownAt hH hF hB hal (.lstW z pr))) (.loc s.s.atNew) h
end

/-! ### comprehensions -/
@[simp] def lcL (chk : Sto → Prop) (g : WG) (tt : WT) (te : WE) (rh : Ev) : List W → List W → Sto → (List W → Sto → Prop) → Prop
  | [], acc, mu, Q => chk mu ∧ Q acc mu
  | x :: xs, acc, mu, Q => chk mu ∧ g x rh mu fun rh' mu1 => tt rh' mu1 fun b mu2 => if b = true then te rh' mu2 fun y mu3 => lcL chk g tt te rh xs (acc ++ [y]) mu3 Q else lcL chk g tt te rh xs acc mu2 Q
@[simp] def wLc (o : Bool) (it : WI) (g : WG) (tt : WT) (te : WE) (vs : List Nat) : WE := fun rh mu Q => it rh mu fun items chk mu1 => lcL chk g tt te (wipeE rh vs) items [] mu1 fun ws mu2 => newLW o ws mu2 Q
theorem wipe_wipe (σ : L2.St) (vs : List Nat) : ∀ us : List Nat, (∀ u ∈ us, u ∈ vs) → wipe (wipe σ us) vs = wipe σ vs
  | [], _ => rfl
  | u :: us, h => by
    show wipe ((wipe σ us).set u none) vs = _
    rw [wipe_set _ u none vs (h u (by simp))]
    exact wipe_wipe σ vs us fun x hx => h x (by simp [hx])
def VTs {io : Type} (Y : io → Cx) (K : PySem.W.Frag) (ifs : List Expr) (f : WT) : Prop := ∃ t, (∀ i, PTs (Y i) ifs t) ∧ DenT K t f
@[simp] def wYes : WT := fun _ mu Q => Q true mu
section
variable {io : Type} {Y : io → Cx} {P : Program} {w : World} {K : PySem.W.Frag} {mg : Str → Option Value} {base : Heap} {N : List Str} {k : Nat} {pos : Pos} {c elt tg iter : Expr} {ifs : List Expr} {fc : WT}
theorem vts_nil : VTs Y K [] wYes := ⟨_, fun _ => pts_nil, fun G B F H al rh si mu Qd Q s h q => q F H al mu true (Ext.refl _ _) s h⟩
theorem vts_one (h : VT Y K c fc) : VTs Y K [c] fc := by
  obtain ⟨t, p, d⟩ := h
  exact ⟨t, fun i => pts_one (p i), d⟩
/-- the contexts of a comprehension's block -/
abbrev BlkIx (io : Type) := io × Shared × Hp × Addr × List (Str × Addr) × List Addr
abbrev blkY (Y : io → Cx) (scope : Scope) : BlkIx io → Cx := fun j => (Y j.1).blk j.2.1 j.2.2.1 scope (compEnvC scope j.2.2.2.2.1 j.2.2.2.1 (Y j.1).env) j.2.2.2.2.2
theorem YOk.blk (y : YOk Y P w K mg base N k) (scope : Scope) : YOk (blkY Y scope) P w K mg base N k :=
  ⟨fun j => y.hP j.1, fun j => y.hw j.1, fun j => y.hK j.1, fun j => y.hmg j.1, fun j => y.hbase j.1, fun j => y.hN j.1, y.nd, fun j => y.calm j.1, fun j => y.room j.1⟩
theorem den_lc (o : Bool) {wi : TI} {g : TG} {tt : TT} {te : TE} {vs : List Nat} {fi : WI} {fg : WG} {ft : WT} {fe : WE} (di : DenI K wi fi) (dg : DenG K g fg) (kg : GKeep vs g) (dt : DenT K tt ft) (de : Den K te fe) : Den K (tLc wi g tt te vs) (wLc o fi fg ft fe vs) := fun G B F H al rh si mu Qd Q s h q => by
  refine di G B F H al rh si mu _ _ s h fun F0 H0 al0 mu0 J items chk e0 s0 it h0 => ?_
  intro D hD
  have hB : B D = none := sameNone s0.s.bs hD
  have hF0 : F0 D = none := sameNone s0.s.fz hD
  have hG : G D = none := sameNone (s0.s.gf) hF0
  refine ⟨fun i m H1 => m = items.length - i ∧ i ≤ items.length ∧ ∃ F1 al1 mu1 acc vs1, Ext F0 al0 F1 al1 ∧ SRS K G (upd B D (.lst vs1)) F1 H1 al1 mu1 ∧ F1 D = none ∧ Paired (RepW K F1 al1) acc vs1 ∧ vs1.length ≤ i ∧ lcL chk fg ft fe (wipeE rh vs) (items.drop i) acc mu1 fun ws mu2 => newLW o ws mu2 Qd, ⟨_, rfl, Nat.zero_le _, F0, al0, mu0, [], [], Ext.refl _ _, ?_, hF0, .nil, Nat.le_refl _, h0⟩, ?_⟩
  · have s1 : SRS K G B F0 (upd H0 D (.lst [])) al0 mu0 := s0.s.beside hB hF0 (fun z => by
      obtain ⟨k, hk⟩ := List.mem_iff_getElem?.mp z
      obtain ⟨c, hc⟩ := s0.s.has hk
      obtain ⟨_, _, _, q, _⟩ := s0.s.at hc hk
      rw [hD] at q; cases q)
    exact s1.guard upd_same hF0 (fun z => by
      obtain ⟨k, hk⟩ := List.mem_iff_getElem?.mp z
      obtain ⟨c, hc⟩ := s0.s.has hk
      obtain ⟨_, _, _, q, _⟩ := s0.s.at hc hk
      rw [hD] at q; cases q)
  rintro i m H1 ⟨rfl, hi, F1, al1, mu1, acc, vs1, e1, s1, hF1, pa, hl, h1⟩
  by_cases hlt : i < items.length
  · have ed : items.drop i = items[i] :: items.drop (i + 1) := List.drop_eq_getElem_cons hlt
    rw [ed] at h1
    have ei : items[i]? = some items[i] := by simp [hlt]
    obtain ⟨hchk, h1⟩ := h1
    refine .inr ⟨it.go i _ _ _ F1 H1 al1 mu1 e1 s1 hchk ei, fun H' => i + 1 ≤ items.length ∧ ∃ F1 al1 mu1 acc vs1, Ext F0 al0 F1 al1 ∧ SRS K G (upd B D (.lst vs1)) F1 H' al1 mu1 ∧ F1 D = none ∧ Paired (RepW K F1 al1) acc vs1 ∧ vs1.length ≤ i + 1 ∧ lcL chk fg ft fe (wipeE rh vs) (items.drop (i + 1)) acc mu1 fun ws mu2 => newLW o ws mu2 Qd,
      fun H' z => ⟨items.length - (i + 1), by omega, rfl, z.1, z.2⟩, fun x H' y => ?_⟩
    obtain ⟨F2, e2, s2, r2⟩ := it.yld i _ _ _ F1 H1 al1 mu1 x H' e1 s1 hchk ei y
    -- the new list is no frozen thing
    have noF : ∀ {F' H' : Hp} {al' : List Addr} {mu' : Sto}, SRS K G (upd B D (.lst vs1)) F' H' al' mu' → F' D = none := fun {F' H' al' mu'} s' => by
      cases q : F' D with
      | none => rfl
      | some u =>
        rcases s'.fr D u q with z | z | z
        · rw [hG] at z; cases z
        · rw [upd_same] at z; cases z
        · have := s'.fz _ _ q
          rw [s'.bs _ _ upd_same] at this
          cases this
          cases z
    have sw : SR K G (upd B D (.lst vs1)) F2 H' al1 (wipeE rh vs) (wipe si vs) mu1 := by
      have a := (s0.wipe vs)
      exact ⟨s2, a.ln, fun j u e => by
        obtain ⟨v, q1, q2⟩ := a.env j u e
        exact ⟨v, q1, q2.mono (e1.trans e2)⟩⟩
    refine kg x (wipe si vs) H' (fun σ2 H2 => tt σ2 H2 fun b H3 => if b = true then te σ2 H3 fun y H4 => ∃ acc, H4 D = some (.lst acc) ∧ acc.length < sizeLine ∧ _ else _) _ (fun σ' H'' w' z => ⟨w'.trans (wipe_wipe si vs vs fun _ z => z), z⟩) ?_
    refine dg G _ F2 H' al1 _ _ mu1 _ _ _ _ sw r2 h1 fun F3 H3 al3 rh3 si3 mu3 e3 s3 h3 => ?_
    refine dt G _ F3 H3 al3 rh3 si3 mu3 _ _ s3 h3 fun F4 H4 al4 mu4 b e4 s4 h4 => ?_
    cases b with
    | false =>
      refine iteF ⟨hlt, F4, al4, mu4, acc, vs1, ((e1.trans e2).trans e3).trans e4, s4.s, noF s4.s, Paired.mapP pa fun _ _ z => z.mono ((e2.trans e3).trans e4), by omega, ?_⟩
      simpa using h4
    | true =>
      refine iteT (de G _ F4 H4 al4 rh3 si3 mu4 _ _ s4 (by simpa using h4) fun F5 H5 al5 mu5 u v e5 s5 r5 h5 => ?_)
      obtain ⟨s6, hD5, hal5⟩ := s5.s.unguard hB
      have ex := (((e2.trans e3).trans e4).trans e5)
      refine ⟨vs1, hD5, by have := it.sz; omega, hlt, F5, al5, mu5, acc ++ [u], vs1 ++ [v], e1.trans ex, ?_, noF s5.s, pApp (Paired.mapP pa fun _ _ z => z.mono ex) (pOne r5), by rw [List.length_append, List.length_singleton]; omega, h5⟩
      exact (s6.beside hB (noF s5.s) hal5).guard upd_same (noF s5.s) hal5
  · have e : i = items.length := by omega
    subst e
    rw [List.drop_length] at h1
    obtain ⟨s2, hD1, hal1⟩ := s1.unguard hB
    refine .inl ⟨it.stop _ _ F1 H1 al1 mu1 e1 s1 h1.1, ?_⟩
    exact newLW_at (s0.step e1 s2) pa (by have := it.sz; omega) hD1 hF1 hB hal1 h1.2 fun F' H' al' mu' w v x => q F' H' al' mu' w v ((e0.trans e1).trans x)
theorem ve_lc (y : YOk Y P w K mg base N k) (o : Bool) {scope : Scope} {own : List (Str × Nat)} {fi : WI} {fg : WG} {ft : WT} {fe : WE} (hi : VI Y K tg iter fi) (ok : ∀ i, BlkOk N (Y i).env.scope scope own)
    (hg : VK (blkY Y scope) K tg fg (own.map (·.2))) (ht : VTs (blkY Y scope) K ifs ft) (he : VE (blkY Y scope) K elt fe) (hs : ∀ i x, foldedSetIterable iter (Y i).env x = pure x := by exact fun _ _ => rfl) :
    VE Y K (.ListComp elt [⟨tg, iter, ifs, 0⟩] scope pos) (wLc o fi fg ft fe (own.map (·.2))) := by
  obtain ⟨t1, p1, d1⟩ := hi
  obtain ⟨t2, p2, d2, kp⟩ := hg
  obtain ⟨t3, p3, d3⟩ := ht
  obtain ⟨t4, p4, d4⟩ := he
  refine ⟨_, fun i => pe_lc (y.calm i) (by rw [y.hN i]; exact y.nd) (p1 i) (by rw [y.hN i]; exact ok i) (fun s H C cl fp => p2 (i, s, H, C, cl, fp)) (fun s H C cl fp => p3 (i, s, H, C, cl, fp)) (fun s H C cl fp => p4 (i, s, H, C, cl, fp)) (hs i), den_lc o d1 d2 kp d3 d4⟩
end
section
variable {X : Cx} {P : Program} {w : World} {K : PySem.W.Frag} {mg : Str → Option Value} {base : Heap} {N : List Str} {k : Nat} {pos spos : Pos} {c elt tg iter : Expr} {ifs : List Expr} {fc : WT}
/-- name = [..] on one line -/
theorem vs_setLc (y : YOk (un X) P w K mg base N k) (o : Bool) (i : Nat) {x : Str} {py : Pos} {scope : Scope} {own : List (Str × Nat)} {fi : WI} {fg : WG} {ft : WT} {fe : WE} (hsw : swapsWith (.ListComp elt [⟨tg, iter, ifs, 0⟩] scope pos) (some (.Name x py)) spos.line X.env = pure true)
    (hi : VI (un X) K tg iter fi) (ok : BlkOk N X.env.scope scope own)
    (hg : VK (blkY (un X) scope) K tg fg (own.map (·.2))) (ht : VTs (blkY (un X) scope) K ifs ft) (he : VE (blkY (un X) scope) K elt fe) (hix : N[i]? = some x := by rfl) (hyl : X.env.scope.names.lookup x = some .local := by rfl) (hs : ∀ x, foldedSetIterable iter X.env x = pure x := by exact fun _ => rfl) :
    VS X K (.Assign [.Name x py] (.ListComp elt [⟨tg, iter, ifs, 0⟩] scope pos) spos) (wAsg (wLc o fi fg ft fe (own.map (·.2))) (wgName i)) := by
  obtain ⟨t1, p1, d1⟩ := hi
  obtain ⟨t2, p2, d2, kp⟩ := hg
  obtain ⟨t3, p3, d3⟩ := ht
  obtain ⟨t4, p4, d4⟩ := he
  have q := y.hN ()
  refine ⟨_, ps_setLc (i := i) (y.calm ()) (by rw [show X.N = N from q]; exact y.nd) (by rw [show X.N = N from q]; exact hix) hyl hsw (p1 ()) (by rw [show X.N = N from q]; exact ok) (fun s H C cl fp => p2 ((), s, H, C, cl, fp)) (fun s H C cl fp => p3 ((), s, H, C, cl, fp)) (fun s H C cl fp => p4 ((), s, H, C, cl, fp)) hs, den_asg (den_lc o d1 d2 kp d3 d4) (den_gName i)⟩
end

/-! ### promises -/
abbrev VSp := List W → Sto → (W → Sto → Prop) → Prop
def toSp (K : PySem.W.Frag) (sp : VSp) : Sp := fun vs H Q _ => ∃ (B F : Hp) (al : List Addr) (mu : Sto) (ws : List W) (Qd : W → Sto → Prop), SRS K F B F H al mu ∧ Paired (RepW K F al) ws vs ∧ sp ws mu Qd ∧
  ∀ F' H' al' mu' u v, Ext F al F' al' → SRS K F B F' H' al' mu' → RepW K F' al' u v → Qd u mu' → Q v H'
@[simp] def startE (N : List Str) (ws : List W) : Ev := ws.map some ++ List.replicate (N.length - ws.length) none
abbrev bX (P : Program) (w : World) (K : PySem.W.Frag) (mg : Str → Option Value) (base : Heap) (N : List Str) (qual : Str) (scope : Scope) (f : Addr) (cdv : Value) (A : Around) (outer : List Env) (s : Shared) (H : Hp) (E : XK) : Cx := (cxOf CX0 P w K mg base N qual scope f cdv A outer s H E).nox
section
variable {P : Program} {w : World} {K : PySem.W.Frag} {mg : Str → Option Value} {base : Heap}
theorem bX_ok {N ps : List Str} {qual : Str} {scope : Scope} {f : Addr} {cdv : Value} {A : Around} {outer : List Env} {s : Shared} {H : Hp} {E : XK} {k : Nat} (S : FnScope N ps scope) (hr : Room k (A.deeper (envOfC qual scope s.heap.objs.size f cdv))) :
    YOk (un (bX P w K mg base N qual scope f cdv A outer s H E)) P w K mg base N k := ⟨fun _ => rfl, fun _ => rfl, fun _ => rfl, fun _ => rfl, fun _ => rfl, fun _ => rfl, S.nd, fun _ => rfl, fun _ => hr⟩
theorem start_sr {N : List Str} {G B F H : Hp} {al : List Addr} {mu : Sto} {ws : List W} {vs : List V} (s : SRS K G B F H al mu) (p : Paired (RepW K F al) ws vs) : SR K G B F H al (startE N ws) (L2.start N vs) mu := by
  have l := Paired.length p
  refine ⟨s, by unfold startE L2.start; simp [l], fun i u e => ?_⟩
  unfold startE at e
  unfold L2.start
  by_cases hi : i < ws.length
  · rw [List.getElem?_append_left (by simpa using hi), List.getElem?_map] at e
    cases q : ws[i]? with
    | none => rw [q] at e; cases e
    | some z =>
      rw [q] at e
      cases e
      obtain ⟨v, h1, h2⟩ := pGetL p q
      exact ⟨v, by rw [List.getElem?_append_left (by rw [List.length_map, ← l]; exact hi), List.getElem?_map, h1]; rfl, h2⟩
  · rw [List.getElem?_append_right (by simpa using hi), List.getElem?_replicate] at e
    split at e <;> cases e
/-- THE RULE for a def -/
theorem fnv_ok {x qual : Str} {st : Stmt} {f : Addr} {fd : FuncData} {N ps : List Str} {k : Nat} {sp : VSp} (F : Fun K x qual st f fd) (S : FnScope N ps (defScope st)) (hlen : ∀ ws mu Q, sp ws mu Q → ws.length = ps.length)
    (body : ∀ (cdv : Value) (A : Around) (outer : List Env) (s : Shared) (H : Hp) (E : XK), YOk (un (bX P w K mg base N qual (defScope st) f cdv A outer s H E)) P w K mg base N k →
      ∃ g, VSs (bX P w K mg base N qual (defScope st) f cdv A outer s H E) K (defBody st) g ∧ ∀ ws mu Q, sp ws mu Q → g { nx := fun _ mu => Q (.d .non) mu, rt := Q } (startE N ws) mu) : FnOk P w K mg base CX0 (k + 1) f fd ps (toSp K sp) := by
  refine F.ok S (fun vs H Q E h => ?_) (fun cdv A outer s H vs Q E hr h => ?_)
  · obtain ⟨B, F, al, mu, ws, Qd, s, p, h, _⟩ := h
    rw [← Paired.length p]; exact hlen _ _ _ h
  · obtain ⟨B, F, al, mu, ws, Qd, s', p, h, q⟩ := h
    obtain ⟨g, ⟨t, ht, d⟩, hg⟩ := body cdv A outer s H E (bX_ok S hr)
    refine ⟨t, ht, d F B F H al _ _ mu _ _ (start_sr s' p) (hg ws mu Qd h) ⟨fun F' H' al' rh si mu' x s2 h2 => q F' H' al' mu' _ _ x s2.s (.d .non) h2, fun F' H' al' mu' u v x s2 r h2 => q F' H' al' mu' u v x s2 r h2, fun _ _ _ _ _ _ _ _ z => z.elim, fun _ _ _ _ _ _ _ _ z => z.elim⟩⟩
end
end VL
namespace VL
open PySem PySem.Spec PyProof.Rows L2 RZ

/-! ### a snapshot in any heap that has what is read -/
mutual
@[simp] def dflat : D → Bool
  | .lst _ => false
  | .scr _ => false
  | .tup xs => dflats xs
  | _ => true
@[simp] def dflats : List D → Bool
  | [] => true
  | x :: xs => dflat x && dflats xs
end
mutual
@[simp] def wflat : W → Bool
  | .d x => dflat x
  | .tup ws => wflats ws
  | _ => true
@[simp] def wflats : List W → Bool
  | [] => true
  | x :: xs => wflat x && wflats xs
end
@[simp] def cflat : C → Bool
  | .lst xs => dflats xs
  | .lstW ws => wflats ws
  | .ins _ fs => wflats (fs.map (·.2))
  | .dk kvs => dflats (kvs.map (·.2))
  | .dt kvs => dflats (kvs.map (·.2))
mutual
@[simp] def snapF (mu : Sto) : W → Option D
  | .d x => if dflat x then some x else none
  | .tup ws => (snapFs mu ws).map .tup
  | .loc k => match mu[k]? with
    | some (.lst xs) => if dflats xs then some (.lst xs) else none
    | _ => none
  | _ => none
@[simp] def snapFs (mu : Sto) : List W → Option (List D)
  | [] => some []
  | w :: ws => match snapF mu w, snapFs mu ws with
    | some x, some xs => some (x :: xs)
    | _, _ => none
end
section
variable {K : PySem.W.Frag} {G B F F' F2 H H' Fc : Hp} {al al' : List Addr} {mu mu' : Sto}
/-- what F2 must have of F: all, or the tuples -/
def Tups (F F2 : Hp) : Prop := ∀ a o, F a = some o → tupO o = true → F2 a = some o
theorem Tups.sqT {a : Addr} {vs : List V} (h : Tups F F2) (r : SqT K F a vs) : SqT K F2 a vs := by
  rcases r with (r | ⟨o, r⟩) | r
  · exact .inl (.inl (h _ _ r rfl))
  · exact .inl (.inr ⟨o, h _ _ r rfl⟩)
  · exact .inr r
mutual
theorem flat_rep (h : Tups F F2) : ∀ {x : D} {v : V}, RepD K F x v → dflat x = true → RepD K F2 x v
  | _, _, .non, _ => .non
  | _, _, .bl b, _ => .bl b
  | _, _, .int i, _ => .int i
  | _, _, .str x q, _ => .str x q
  | _, _, .tup s z r, e => .tup (h.sqT s) z (flats_rep h r (by simpa [dflat] using e))
  | _, _, .lst s z r, e => by simp [dflat] at e
  | _, _, .scr s z, e => by simp [dflat] at e
theorem flats_rep (h : Tups F F2) : ∀ {x : List D} {v : List V}, RepDs K F x v → dflats x = true → RepDs K F2 x v
  | _, _, .nil, _ => .nil
  | _, _, .cons r t, e => by
    have e' := e
    unfold dflats at e'
    rw [Bool.and_eq_true] at e'
    exact .cons (flat_rep h r e'.1) (flats_rep h t e'.2)
end
mutual
theorem snap_in (s : SRS K G B F H al mu) (h1 : Same F F2) (h2 : ∀ a ∈ al, ∀ o, H a = some o → F2 a = some o) : ∀ {w : W} {v : V} {x : D}, RepW K F al w v → snap mu w = some x → RepD K F2 x v
  | .d x, _, _, .d r, e => by cases e; exact r.mono h1
  | .tup ws, _, _, .tup q z r, e => by
    unfold snap at e
    cases q1 : snaps mu ws with
    | none => rw [q1] at e; cases e
    | some xs => rw [q1] at e; cases e; exact .tup (sqtMono h1 q) z (snaps_in s h1 h2 r q1)
  | .loc k, _, _, .loc ea, e => by
    unfold snap at e
    cases q : mu[k]? with
    | none => rw [q] at e; cases e
    | some c =>
      cases c with
      | lst xs =>
        rw [q] at e; cases e
        obtain ⟨vs, h, z, p⟩ := s.lstAt q ea
        exact .lst (Rd.of (h2 _ (List.mem_of_getElem? ea) _ h)) z (.of (Paired.mapP p fun _ _ r => r.mono h1))
      | lstW ws =>
        rw [q] at e
        cases q2 : asDs ws with
        | none => simp only [q2] at e; cases e
        | some xs =>
          simp only [q2] at e; cases e
          obtain ⟨vs, h, z, p⟩ := s.lstWAt q ea
          exact .lst (Rd.of (h2 _ (List.mem_of_getElem? ea) _ h)) z ((asDs_rep (.of p) q2).mono h1)
      | _ => rw [q] at e; cases e
  | .ty _, _, _, _, e => by cases e
  | .raw _, _, _, _, e => by cases e
theorem snaps_in (s : SRS K G B F H al mu) (h1 : Same F F2) (h2 : ∀ a ∈ al, ∀ o, H a = some o → F2 a = some o) : ∀ {ws : List W} {vs : List V} {xs : List D}, RepWs K F al ws vs → snaps mu ws = some xs → RepDs K F2 xs vs
  | [], _, _, .nil, e => by cases e; exact .nil
  | w :: ws, _, _, .cons r t, e => by
    unfold snaps at e
    cases q : snap mu w with
    | none => rw [q] at e; cases e
    | some x =>
      cases q2 : snaps mu ws with
      | none => rw [q, q2] at e; cases e
      | some xs => rw [q, q2] at e; cases e; exact .cons (snap_in s h1 h2 r q) (snaps_in s h1 h2 t q2)
end
mutual
theorem snapF_in (s : SRS K G B F H al mu) (h1 : Tups F F2) (h2 : ∀ a ∈ al, ∀ o, H a = some o → F2 a = some o) : ∀ {w : W} {v : V} {x : D}, RepW K F al w v → snapF mu w = some x → RepD K F2 x v
  | .d x, _, _, .d r, e => by
    unfold snapF at e
    split at e
    · cases e; exact flat_rep h1 r (by assumption)
    · cases e
  | .tup ws, _, _, .tup q z r, e => by
    unfold snapF at e
    cases q1 : snapFs mu ws with
    | none => rw [q1] at e; cases e
    | some xs => rw [q1] at e; cases e; exact .tup (h1.sqT q) z (snapFs_in s h1 h2 r q1)
  | .loc k, _, _, .loc ea, e => by
    unfold snapF at e
    cases q : mu[k]? with
    | none => rw [q] at e; cases e
    | some c =>
      cases c with
      | lst xs =>
        rw [q] at e
        simp only at e
        split at e
        · cases e
          obtain ⟨vs, h, z, p⟩ := s.lstAt q ea
          exact .lst (Rd.of (h2 _ (List.mem_of_getElem? ea) _ h)) z (flats_rep h1 (.of p) (by assumption))
        · cases e
      | _ => rw [q] at e; cases e
  | .ty _, _, _, _, e => by cases e
  | .raw _, _, _, _, e => by cases e
theorem snapFs_in (s : SRS K G B F H al mu) (h1 : Tups F F2) (h2 : ∀ a ∈ al, ∀ o, H a = some o → F2 a = some o) : ∀ {ws : List W} {vs : List V} {xs : List D}, RepWs K F al ws vs → snapFs mu ws = some xs → RepDs K F2 xs vs
  | [], _, _, .nil, e => by cases e; exact .nil
  | w :: ws, _, _, .cons r t, e => by
    unfold snapFs at e
    cases q : snapF mu w with
    | none => rw [q] at e; cases e
    | some x =>
      cases q2 : snapFs mu ws with
      | none => rw [q, q2] at e; cases e
      | some xs => rw [q, q2] at e; cases e; exact .cons (snapF_in s h1 h2 r q) (snapFs_in s h1 h2 t q2)
end

/-! ### coming back from a call -/
theorem SRS.fresh (s' : SRS K Fc H F' H' al' mu') {a : Addr} (h : a ∈ al') : H a = none := by
  obtain ⟨k, hk⟩ := List.mem_iff_getElem?.mp h
  obtain ⟨c, hc⟩ := s'.has hk
  obtain ⟨_, _, q, _, _⟩ := s'.at hc hk
  exact q
theorem ret_frz (s : SRS K G B F H al mu) (s' : SRS K Fc H F' H' al' mu') (ha : Same F F2) (hb : Same F2 H') (hc : ∀ a o, F2 a = some o → F a = some o ∨ H a = none ∨ tupO o = true) : SRS K G B F2 H' al mu ∧ Ext F al F2 al where
  left := {
    fz := hb
    bs := s.bs.trans s'.bs
    gf := s.gf.trans ha
    fr := fun a o e => by
      rcases hc a o e with q | q | q
      · exact s.fr a o q
      · exact .inr (.inl (sameNone s.bs q))
      · exact .inr (.inr q)
    nd := s.nd
    len := s.len
    st := fun k c e => by
      obtain ⟨a, o, e1, e2, e3, e4, e5⟩ := s.st k c e
      refine ⟨a, o, e1, ?_, e3, s'.bs _ _ e4, e5.mono ⟨ha, [], by simp⟩⟩
      cases q : F2 a with
      | none => rfl
      | some u =>
        rcases hc a u q with z | z | z
        · rw [e2] at z; cases z
        · rw [e4] at z; cases z
        · have := hb _ _ q
          rw [s'.bs _ _ e4] at this
          cases this
          rw [e5.notTup] at z; cases z }
  right := ⟨ha, [], by simp⟩
/-- with the callee's containers frozen -/
def plusC (F2 H' : Hp) (al' : List Addr) : Hp := fun a => if a ∈ al' then H' a else F2 a
theorem plusC_ok (s : SRS K G B F H al mu) (s' : SRS K Fc H F' H' al' mu') (ha : Same F F2) (hb : Same F2 H') (hc : ∀ a o, F2 a = some o → F a = some o ∨ H a = none ∨ tupO o = true) :
    Same F (plusC F2 H' al') ∧ Same (plusC F2 H' al') H' ∧ (∀ a o, plusC F2 H' al' a = some o → F a = some o ∨ H a = none ∨ tupO o = true) ∧ Same F2 (plusC F2 H' al') ∧ ∀ a ∈ al', ∀ o, H' a = some o → plusC F2 H' al' a = some o := by
  have key : Same F2 (plusC F2 H' al') := fun a o e => by
    unfold plusC
    split
    · exact hb _ _ e
    · exact e
  refine ⟨ha.trans key, fun a o e => ?_, fun a o e => ?_, key, fun a hm o e => by unfold plusC; rw [if_pos hm]; exact e⟩
  · unfold plusC at e
    split at e
    · exact e
    · exact hb _ _ e
  · unfold plusC at e
    split at e
    · rename_i hm
      exact .inr (.inl (s'.fresh hm))
    · exact hc a o e
/-- F and the tuples of F' -/
def cutT (F F' : Hp) : Hp := fun a => match F a with
  | some o => some o
  | none => match F' a with
    | some o => if tupO o then some o else none
    | none => none
theorem cutT_ok (s : SRS K G B F H al mu) (s' : SRS K H H F' H' al' mu') : Same F (cutT F F') ∧ Same (cutT F F') H' ∧ (∀ a o, cutT F F' a = some o → F a = some o ∨ H a = none ∨ tupO o = true) ∧ Tups F' (cutT F F') := by
  have FF : Same F F' := s.fz.trans s'.gf
  refine ⟨fun a o e => by unfold cutT; rw [e], fun a o e => ?_, fun a o e => ?_, fun a o e t => ?_⟩
  · unfold cutT at e
    split at e
    · cases e; exact s'.bs _ _ (s.fz _ _ (by assumption))
    · split at e
      · split at e
        · cases e; exact s'.fz _ _ (by assumption)
        · cases e
      · cases e
  · unfold cutT at e
    split at e
    · cases e; exact .inl (by assumption)
    · split at e
      · split at e
        · cases e; exact .inr (.inr (by assumption))
        · cases e
      · cases e
  · unfold cutT
    split
    · rename_i u q
      rw [FF _ _ q] at e; exact e
    · rw [e]; simp [t]
theorem same_ok (s : SRS K G B F H al mu) (s' : SRS K F H F' H' al' mu') : Same F F' ∧ Same F' H' ∧ ∀ a o, F' a = some o → F a = some o ∨ H a = none ∨ tupO o = true := ⟨s'.gf, s'.fz, s'.fr⟩

/-! ### the callee's containers become ours -/
mutual
@[simp] def shiftW (n : Nat) : W → W
  | .loc k => .loc (n + k)
  | .tup ws => .tup (shiftWs n ws)
  | w => w
@[simp] def shiftWs (n : Nat) : List W → List W
  | [] => []
  | w :: ws => shiftW n w :: shiftWs n ws
end
@[simp] def shiftC (n : Nat) : C → C
  | .lstW ws => .lstW (shiftWs n ws)
  | .ins c fs => .ins c (fs.map fun p => (p.1, shiftW n p.2))
  | c => c
mutual
theorem shift_rep (h : Same F F2 ∨ Tups F F2) : ∀ {w : W} {v : V}, RepW K F al' w v → (Same F F2 ∨ wflat w = true) → RepW K F2 (al ++ al') (shiftW al.length w) v
  | _, _, .d r, e => by
    unfold shiftW
    rcases e with e | e
    · exact .d (r.mono e)
    · rcases h with h | h
      · exact .d (r.mono h)
      · exact .d (flat_rep h r (by simpa [wflat] using e))
  | _, _, .loc ea, _ => by
    unfold shiftW
    refine .loc ?_
    rw [List.getElem?_append_right (by omega)]
    simpa using ea
  | _, _, .ty n, _ => by unfold shiftW; exact .ty n
  | _, _, .raw a, _ => by unfold shiftW; exact .raw a
  | _, _, .tup s z r, e => by
    unfold shiftW
    refine .tup ?_ z (shifts_rep h r (e.imp id fun q => by simpa [wflat] using q))
    rcases h with h | h
    · exact sqtMono h s
    · exact h.sqT s
theorem shifts_rep (h : Same F F2 ∨ Tups F F2) : ∀ {w : List W} {v : List V}, RepWs K F al' w v → (Same F F2 ∨ wflats w = true) → RepWs K F2 (al ++ al') (shiftWs al.length w) v
  | _, _, .nil, _ => by unfold shiftWs; exact .nil
  | _, _, .cons r t, e => by
    unfold shiftWs
    exact .cons (shift_rep h r (e.imp id fun q => by unfold wflats at q; rw [Bool.and_eq_true] at q; exact q.1)) (shifts_rep h t (e.imp id fun q => by unfold wflats at q; rw [Bool.and_eq_true] at q; exact q.2))
end
theorem flats_mem : ∀ {xs : List D}, dflats xs = true → ∀ x ∈ xs, dflat x = true
  | [], _, x, h => by cases h
  | y :: ys, e, x, h => by
    unfold dflats at e
    rw [Bool.and_eq_true] at e
    rcases List.mem_cons.mp h with rfl | h
    · exact e.1
    · exact flats_mem e.2 x h
theorem wflats_mem : ∀ {xs : List W}, wflats xs = true → ∀ x ∈ xs, wflat x = true
  | [], _, x, h => by cases h
  | y :: ys, e, x, h => by
    unfold wflats at e
    rw [Bool.and_eq_true] at e
    rcases List.mem_cons.mp h with rfl | h
    · exact e.1
    · exact wflats_mem e.2 x h
theorem mapPm {A1 B1 : Type} {R S : A1 → B1 → Prop} : ∀ {xs : List A1} {ys : List B1}, Paired R xs ys → (∀ x ∈ xs, ∀ y, R x y → S x y) → Paired S xs ys
  | _, _, .nil, _ => .nil
  | _, _, .cons r t, h => .cons (h _ (by simp) _ r) (mapPm t fun x hx => h x (by simp [hx]))
theorem mapPmap {A1 B1 C1 : Type} {R : A1 → B1 → Prop} {S : C1 → B1 → Prop} (f : A1 → C1) : ∀ {xs : List A1} {ys : List B1}, Paired R xs ys → (∀ x ∈ xs, ∀ y, R x y → S (f x) y) → Paired S (xs.map f) ys
  | _, _, .nil, _ => .nil
  | _, _, .cons r t, h => .cons (h _ (by simp) _ r) (mapPmap f t fun x hx => h x (by simp [hx]))
theorem shiftC_rep (h : Same F F2 ∨ Tups F F2) {c : C} {o : HO} (r : CRep K F al' c o) (e : Same F F2 ∨ cflat c = true) : CRep K F2 (al ++ al') (shiftC al.length c) o := by
  have dd : ∀ {x : D} {v : V}, RepD K F x v → (Same F F2 ∨ dflat x = true) → RepD K F2 x v := fun r e => by
    rcases e with e | e
    · exact r.mono e
    · rcases h with h | h
      · exact r.mono h
      · exact flat_rep h r e
  cases r with
  | lst z p => exact .lst z (mapPm p fun x hx v r => dd r (e.imp id fun q => flats_mem (by simpa [cflat] using q) x hx))
  | lstW z p => exact .lstW z (shifts_rep h (.of p) (e.imp id fun q => by simpa [cflat] using q)).p
  | ins p =>
    refine .ins (mapPmap _ p fun x hx v r => ⟨r.1, shift_rep h r.2 (e.imp id fun q => ?_)⟩)
    exact wflats_mem (show wflats _ = true from q) _ (List.mem_map.mpr ⟨x, hx, rfl⟩)
  | dk p q0 =>
    refine .dk (mapPm p fun x hx v r => ⟨r.1, dd r.2 (e.imp id fun q => ?_)⟩) q0
    exact flats_mem (show dflats _ = true from q) _ (List.mem_map.mpr ⟨x, hx, rfl⟩)
  | dt p q0 =>
    refine .dt (mapPm p fun x hx v r => ⟨r.1, dd r.2 (e.imp id fun q => ?_)⟩) q0
    exact flats_mem (show dflats _ = true from q) _ (List.mem_map.mpr ⟨x, hx, rfl⟩)
theorem ret_own (s : SRS K G B F H al mu) (s' : SRS K Fc H F' H' al' mu') (ha : Same F F2) (hb : Same F2 H') (hc : ∀ a o, F2 a = some o → F a = some o ∨ H a = none ∨ tupO o = true) (hn : ∀ a ∈ al', F2 a = none) (h : Same F' F2 ∨ Tups F' F2) (hf : Same F' F2 ∨ mu'.all cflat = true) :
    SRS K G B F2 H' (al ++ al') (mu ++ mu'.map (shiftC mu.length)) ∧ Ext F al F2 (al ++ al') := by
  obtain ⟨s1, x1⟩ := ret_frz s s' ha hb hc
  refine ⟨⟨s1.fz, s1.bs, s1.gf, s1.fr, ?_, by simp [s1.len, s'.len], fun k c e => ?_⟩, ⟨ha, al', rfl⟩⟩
  · refine List.nodup_append.mpr ⟨s.nd, s'.nd, fun a h1 b h2 e => ?_⟩
    subst e
    obtain ⟨k, hk⟩ := List.mem_iff_getElem?.mp h1
    obtain ⟨c, hc⟩ := s.has hk
    obtain ⟨_, _, _, q, _⟩ := s.at hc hk
    rw [s'.fresh h2] at q; cases q
  · by_cases hk : k < mu.length
    · rw [List.getElem?_append_left hk] at e
      obtain ⟨a, o, e1, e2, e3, e4, e5⟩ := s1.st k c e
      exact ⟨a, o, by rw [List.getElem?_append_left (by rw [s1.len]; exact hk)]; exact e1, e2, e3, e4, e5.mono ⟨Same.refl F2, al', rfl⟩⟩
    · rw [List.getElem?_append_right (by omega), List.getElem?_map] at e
      cases q : mu'[k - mu.length]? with
      | none => rw [q] at e; cases e
      | some c' =>
        rw [q] at e
        cases e
        obtain ⟨a, o, e1, e2, e3, e4, e5⟩ := s'.st _ c' q
        have hm := List.mem_of_getElem? e1
        refine ⟨a, o, by rw [List.getElem?_append_right (by rw [s1.len]; omega), s1.len]; exact e1, hn a hm, sameNone s.bs e3, e4, ?_⟩
        rw [← s.len]
        exact shiftC_rep h e5 (hf.imp id fun z => List.all_eq_true.mp z _ (List.mem_of_getElem? q))
end

/-! ### calls of defs -/
abbrev PSp := List D → (W → Sto → Prop) → Prop
/-- a def that gets data alone -/
@[simp] def pSp (sp : PSp) : VSp := fun ws mu Q => mu = [] ∧ ∃ ds, ws = List.map W.d ds ∧ sp ds Q
@[simp] def allD (ws : List W) : Bool := ws.all fun w => match w with
  | .d _ => true
  | _ => false
/-- what comes back: frozen -/
@[simp] def backF (a : Bool) (w : W) (mu' mu : Sto) (Q : W → Sto → Prop) : Prop := match (if a then snap mu' w else snapF mu' w) with
  | some x => Q (.d x) mu
  | none => False
/-- .. our own -/
@[simp] def backO (a : Bool) (w : W) (mu' mu : Sto) (Q : W → Sto → Prop) : Prop := (a || (wflat w && mu'.all cflat)) = true ∧ Q (shiftW mu.length w) (mu ++ mu'.map (shiftC mu.length))
@[simp] def wCallP (o : Bool) (sp : PSp) (dds : List D) (g : WA) : WE := fun rh mu Q => g rh mu fun ws mu1 => match snaps mu1 ws with
  | some ds => sp (ds ++ dds) fun w mu' => if o then backO (allD ws) w mu' mu1 Q else backF (allD ws) w mu' mu1 Q
  | none => False
section
variable {K : PySem.W.Frag} {G B F F' F2 H H' Fc : Hp} {al al' : List Addr} {mu mu' : Sto}
theorem allD_reps : ∀ {ws : List W} {vs : List V} {ds : List D}, Paired (RepW K F al) ws vs → allD ws = true → snaps mu ws = some ds → RepDs K F ds vs
  | [], _, _, .nil, _, e => by cases e; exact .nil
  | w :: ws, _, ds, .cons r t, a, e => by
    unfold allD at a
    rw [List.all_cons, Bool.and_eq_true] at a
    cases w with
    | d x =>
      unfold snaps at e
      cases q : snaps mu ws with
      | none => simp only [q] at e; split at e <;> simp_all
      | some xs =>
        simp only [q] at e
        have : ds = x :: xs := by simp only [snap] at e; cases e; rfl
        subst this
        cases r with
        | d r => exact .cons r (allD_reps t a.2 q)
    | _ => simp at a
theorem pMapDs {ds : List D} {vs : List V} (p : RepDs K F ds vs) : Paired (RepW K F al) (ds.map W.d) vs := pMapD p.p
theorem SRS.none {B F H : Hp} (s : SRS K G B F H al mu) : SRS K F H F H [] [] := ⟨s.fz, Same.refl H, Same.refl F, fun a o e => .inl e, by simp, rfl, fun k c e => by simp at e⟩
theorem SRS.none' {B F H : Hp} (s : SRS K G B F H al mu) : SRS K H H H H [] [] := ⟨Same.refl H, Same.refl H, Same.refl H, fun a o e => .inl e, by simp, rfl, fun k c e => by simp at e⟩
/-- a call of a def that gets data alone -/
theorem callP_ok {o : Bool} {sp : PSp} {dds : List D} {dvs : List V} (hdd : ∀ F, RepDs K F dds dvs) {ws : List W} {vs : List V} {rh : Ev} {si : L2.St} {Qd : W → Sto → Prop} {Q : L2.VK} {E : XK} (s : SR K G B F H al rh si mu) (r : Paired (RepW K F al) ws vs)
    (h : match snaps mu ws with
      | some ds => sp (ds ++ dds) fun w mu' => if o then backO (allD ws) w mu' mu Qd else backF (allD ws) w mu' mu Qd
      | Option.none => False)
    (q : ∀ F' H' al' mu' w v, Ext F al F' al' → SR K G B F' H' al' rh si mu' → RepW K F' al' w v → Qd w mu' → Q v H') : toSp K (pSp sp) (vs ++ dvs) H Q E := by
  split at h
  · rename_i ds e
    -- behind the call
    have fin : ∀ (Fc F' H' : Hp) (al' : List Addr) (mu' : Sto) (u : W) (v : V), (Fc = F ∧ allD ws = true ∨ Fc = H ∧ allD ws = false) → SRS K Fc H F' H' al' mu' → RepW K F' al' u v → (if o then backO (allD ws) u mu' mu Qd else backF (allD ws) u mu' mu Qd) → Q v H' := by
      intro Fc F' H' al' mu' u v hF s' ru hb
      have al'N : ∀ a ∈ al', F' a = Option.none := fun a ha => by
        obtain ⟨k, hk⟩ := List.mem_iff_getElem?.mp ha
        obtain ⟨c, hc⟩ := s'.has hk
        obtain ⟨_, z, _, _, _⟩ := s'.at hc hk
        exact z
      rcases hF with ⟨rfl, ha⟩ | ⟨rfl, ha⟩
      · obtain ⟨a1, a2, a3⟩ := same_ok s.s s'
        rw [ha] at hb
        cases o with
        | false =>
          simp only [Bool.false_eq_true, if_false] at hb
          unfold backF at hb
          rw [if_pos rfl] at hb
          split at hb
          · rename_i x ex
            obtain ⟨b1, b2, b3, b4, b5⟩ := plusC_ok s.s s' a1 a2 a3
            obtain ⟨s2, x2⟩ := ret_frz s.s s' b1 b2 b3
            exact q _ _ _ _ _ _ x2 (s.step x2 s2) (.d (snap_in s' b4 b5 ru ex)) hb
          · exact hb.elim
        | true =>
          simp only [if_true] at hb
          obtain ⟨hf, hb⟩ := hb
          obtain ⟨s2, x2⟩ := ret_own s.s s' a1 a2 a3 al'N (.inl (Same.refl _)) (.inl (Same.refl _))
          have rr : RepW K F' (al ++ al') (shiftW al.length u) v := shift_rep (.inl (Same.refl _)) ru (.inl (Same.refl _))
          rw [s.s.len] at rr
          exact q _ _ _ _ _ _ x2 (s.step x2 s2) rr hb
      · obtain ⟨a1, a2, a3, a4⟩ := cutT_ok s.s s'
        rw [ha] at hb
        cases o with
        | false =>
          simp only [Bool.false_eq_true, if_false] at hb
          unfold backF at hb
          rw [if_neg (by simp)] at hb
          split at hb
          · rename_i x ex
            obtain ⟨b1, b2, b3, b4, b5⟩ := plusC_ok s.s s' a1 a2 a3
            obtain ⟨s2, x2⟩ := ret_frz s.s s' b1 b2 b3
            exact q _ _ _ _ _ _ x2 (s.step x2 s2) (.d (snapF_in s' (fun a u e t => b4 _ _ (a4 a u e t)) b5 ru ex)) hb
          · exact hb.elim
        | true =>
          simp only [if_true] at hb
          obtain ⟨hf, hb⟩ := hb
          rw [Bool.false_or, Bool.and_eq_true] at hf
          have hn : ∀ a ∈ al', cutT F F' a = Option.none := fun a ha => by
            have z1 := sameNone s.s.fz (s'.fresh ha)
            have z2 := al'N a ha
            unfold cutT
            rw [z1, z2]
          obtain ⟨s2, x2⟩ := ret_own s.s s' a1 a2 a3 hn (.inr a4) (.inr hf.2)
          have rr : RepW K (cutT F F') (al ++ al') (shiftW al.length u) v := shift_rep (.inr a4) ru (.inr hf.1)
          rw [s.s.len] at rr
          exact q _ _ _ _ _ _ x2 (s.step x2 s2) rr hb
    cases ha : allD ws with
    | true =>
      have rd := allD_reps r ha e
      refine ⟨H, F, [], [], _, _, s.s.none, pMapDs (.of (pApp rd.p (hdd F).p)), ⟨rfl, _, rfl, h⟩, fun F' H' al' mu' u v x s' ru hb => fin F F' H' al' mu' u v (.inl ⟨rfl, ha⟩) s' ru hb⟩
    | false =>
      have rd := snaps_rep s.s (.of r) e
      refine ⟨H, H, [], [], _, _, s.s.none', pMapDs (.of (pApp rd.p (hdd H).p)), ⟨rfl, _, rfl, h⟩, fun F' H' al' mu' u v x s' ru hb => fin H F' H' al' mu' u v (.inr ⟨rfl, ha⟩) s' ru hb⟩
  · exact h.elim
end
end VL
namespace VL
open PySem PySem.Spec PyProof.Rows L2 RZ

/-- a def of the module, as it is called with dds for the last parameters -/
def Def (P : Program) (w : World) (K : PySem.W.Frag) (mg : Str → Option Value) (base : Heap) (x : Str) (k : Nat) (dds : List D) (sp : VSp) : Prop :=
  ∃ (f : Addr) (fd : FuncData) (ps : List Str) (ds : List Value) (dvs : List V), mg x = some (.ref f) ∧ PySem.W.keepIn K (.ref f) = true ∧ Binds K fd ps ds ∧ Vals dvs ds ∧ (∀ F, RepDs K F dds dvs) ∧ FnOk P w K mg base CX0 k f fd ps (toSp K sp)
/-- the store handed on -/
@[simp] def wCallS (sp : VSp) (dds : List D) (g : WA) : WE := fun rh mu Q => g rh mu fun ws mu1 => sp (ws ++ dds.map .d) mu1 Q
section
variable {K : PySem.W.Frag} {G B F F' F2 H H' : Hp} {al al' : List Addr} {mu mu' : Sto} {rh : Ev} {si : L2.St}
/-- all but the containers must stay -/
def but (H : Hp) (al : List Addr) : Hp := fun a => if a ∈ al then none else H a
theorem callS_ok {sp : VSp} {dds : List D} {dvs : List V} (hdd : ∀ F, RepDs K F dds dvs) {ws : List W} {vs : List V} {Qd : W → Sto → Prop} {Q : L2.VK} {E : XK} (s : SR K G B F H al rh si mu) (r : Paired (RepW K F al) ws vs) (h : sp (ws ++ dds.map .d) mu Qd)
    (q : ∀ F' H' al' mu' w v, Ext F al F' al' → SR K G B F' H' al' rh si mu' → RepW K F' al' w v → Qd w mu' → Q v H') : toSp K sp (vs ++ dvs) H Q E := by
  have inAl : ∀ {a : Addr}, a ∈ al → B a = none ∧ F a = none := fun {a} hm => by
    obtain ⟨k, hk⟩ := List.mem_iff_getElem?.mp hm
    obtain ⟨c, hc⟩ := s.s.has hk
    obtain ⟨_, z1, z2, _, _⟩ := s.s.at hc hk
    exact ⟨z2, z1⟩
  have s0 : SRS K F (but H al) F H al mu := {
    fz := s.s.fz
    bs := fun a o e => by
      unfold but at e
      split at e
      · cases e
      · exact e
    gf := Same.refl F
    fr := fun a o e => .inl e
    nd := s.s.nd
    len := s.s.len
    st := fun k c e => by
      obtain ⟨a, o, e1, e2, e3, e4, e5⟩ := s.s.st k c e
      exact ⟨a, o, e1, e2, by unfold but; rw [if_pos (List.mem_of_getElem? e1)], e4, e5⟩ }
  refine ⟨but H al, F, al, mu, _, Qd, s0, pApp r (pMapDs (hdd F)), h, fun F' H' al' mu' u v x s' ru hq => ?_⟩
  have bN : ∀ {a : Addr}, but H al a = none → B a = none := fun {a} z => by
    unfold but at z
    split at z
    · exact (inAl (by assumption)).1
    · exact sameNone s.s.bs z
  have s2 : SRS K G B F' H' al' mu' := {
    fz := s'.fz
    bs := fun a o e => s'.bs _ _ (by
      unfold but
      rw [if_neg fun hm => by rw [(inAl hm).1] at e; cases e]
      exact s.s.bs _ _ e)
    gf := s.s.gf.trans s'.gf
    fr := fun a o e => by
      rcases s'.fr a o e with z | z | z
      · exact s.s.fr a o z
      · exact .inr (.inl (bN z))
      · exact .inr (.inr z)
    nd := s'.nd
    len := s'.len
    st := fun k c e => by
      obtain ⟨a, o, e1, e2, e3, e4, e5⟩ := s'.st k c e
      exact ⟨a, o, e1, e2, bN e3, e4, e5⟩ }
  exact q F' H' al' mu' u v x (s.step x s2) ru hq
end
section
variable {io : Type} {Y : io → Cx} {P : Program} {w : World} {K : PySem.W.Frag} {mg : Str → Option Value} {base : Heap} {N : List Str} {k j : Nat} {pos p : Pos} {e : Expr} {es : List Expr} {ga : WA} {x : Str} {dds : List D}
theorem fnOk_at {f : Addr} {fd : FuncData} {ps : List Str} {sp : Sp} (y : YOk Y P w K mg base N k) (F : FnOk P w K mg base CX0 j f fd ps sp) (i : io) : FnOk (Y i).prog (Y i).w (Y i).K (Y i).mg (Y i).base CX0 j f fd ps sp := by
  rw [y.hP i, y.hw i, y.hK i, y.hmg i, y.hbase i]; exact F
theorem binds_at {fd : FuncData} {ps : List Str} {ds : List Value} (y : YOk Y P w K mg base N k) (F : Binds K fd ps ds) (i : io) : Binds (Y i).K fd ps ds := by
  rw [y.hK i]; exact F
/-- f(e, ..) of data -/
theorem ve_callP (y : YOk Y P w K mg base N k) (o : Bool) {sp : PSp} (d : Def P w K mg base x j dds (pSp sp)) (hj : j ≤ k) (ha : VA Y K (e :: es) ga) (hg : ∀ i, Gl (Y i) x := by exact fun _ => rfl) (hdb : (x == ("__debug__" : Str)) = false := by decide)
    (he : ∀ i, starEach (e :: es) (Y i).env = (false, eval e (Y i).env) :: starEach es (Y i).env := by exact fun _ => rfl) (hpl : ∀ i, (backTo pos (starEach es (Y i).env)).any (·.1) = false := by exact fun _ => rfl) : VE Y K (.Call (.Name x p) (e :: es) [] pos) (wCallP o sp dds ga) := by
  obtain ⟨f, fd, ps, ds, dvs, hm, hk, hb, hd, hdd, F⟩ := d
  obtain ⟨t, p1, d1⟩ := ha
  refine ⟨tCall (toSp K (pSp sp)) dvs E0 t, fun i => pe_call (fnOk_at y F i) ((y.room i).mono hj) (hg i) (by rw [y.hmg i]; exact hm) (by rw [y.hK i]; exact hk) (binds_at y hb i) hd pass0 (p1 i) hdb (he i) (hpl i), fun G B F H al rh si mu Qd Q s h q => ?_⟩
  refine d1 G B F H al rh si mu _ _ s h fun F1 H1 al1 mu1 ws vs e1 s1 r1 h1 => ?_
  exact callP_ok hdd s1 r1 h1 fun F2 H2 al2 mu2 z vz e2 => q F2 H2 al2 mu2 z vz (e1.trans e2)
theorem ve_callP0 (y : YOk Y P w K mg base N k) (o : Bool) {sp : PSp} (d : Def P w K mg base x j dds (pSp sp)) (hj : j ≤ k) (hg : ∀ i, Gl (Y i) x := by exact fun _ => rfl) (hdb : (x == ("__debug__" : Str)) = false := by decide) : VE Y K (.Call (.Name x p) [] [] pos) (wCallP o sp dds wNil) := by
  obtain ⟨f, fd, ps, ds, dvs, hm, hk, hb, hd, hdd, F⟩ := d
  refine ⟨tCall (toSp K (pSp sp)) dvs E0 tNil, fun i => pe_call0 (fnOk_at y F i) ((y.room i).mono hj) (hg i) (by rw [y.hmg i]; exact hm) (by rw [y.hK i]; exact hk) (binds_at y hb i) hd pass0 hdb, fun G B F H al rh si mu Qd Q s h q => ?_⟩
  exact callP_ok (E := E0) hdd s .nil h q
/-- f(e, ..) with containers -/
theorem ve_callS (y : YOk Y P w K mg base N k) {sp : VSp} (d : Def P w K mg base x j dds sp) (hj : j ≤ k) (ha : VA Y K (e :: es) ga) (hg : ∀ i, Gl (Y i) x := by exact fun _ => rfl) (hdb : (x == ("__debug__" : Str)) = false := by decide)
    (he : ∀ i, starEach (e :: es) (Y i).env = (false, eval e (Y i).env) :: starEach es (Y i).env := by exact fun _ => rfl) (hpl : ∀ i, (backTo pos (starEach es (Y i).env)).any (·.1) = false := by exact fun _ => rfl) : VE Y K (.Call (.Name x p) (e :: es) [] pos) (wCallS sp dds ga) := by
  obtain ⟨f, fd, ps, ds, dvs, hm, hk, hb, hd, hdd, F⟩ := d
  obtain ⟨t, p1, d1⟩ := ha
  refine ⟨tCall (toSp K sp) dvs E0 t, fun i => pe_call (fnOk_at y F i) ((y.room i).mono hj) (hg i) (by rw [y.hmg i]; exact hm) (by rw [y.hK i]; exact hk) (binds_at y hb i) hd pass0 (p1 i) hdb (he i) (hpl i), fun G B F H al rh si mu Qd Q s h q => ?_⟩
  refine d1 G B F H al rh si mu _ _ s h fun F1 H1 al1 mu1 ws vs e1 s1 r1 h1 => ?_
  exact callS_ok hdd s1 r1 h1 fun F2 H2 al2 mu2 z vz e2 => q F2 H2 al2 mu2 z vz (e1.trans e2)
end
section
variable {P : Program} {w : World} {K : PySem.W.Frag} {mg : Str → Option Value} {base : Heap}
/-- a def that stands behind the top -/
theorem def_mk {x qual : Str} {st : Stmt} {f : Addr} {fd : FuncData} {N ps : List Str} {k : Nat} {sp : VSp} (F : Fun K x qual st f fd) (hm : mg x = some (.ref f)) (S : FnScope N ps (defScope st)) (hb : Binds K fd ps []) (hlen : ∀ ws mu Q, sp ws mu Q → ws.length = ps.length)
    (body : ∀ (cdv : Value) (A : Around) (outer : List Env) (s : Shared) (H : Hp) (E : XK), YOk (un (bX P w K mg base N qual (defScope st) f cdv A outer s H E)) P w K mg base N k →
      ∃ g, VSs (bX P w K mg base N qual (defScope st) f cdv A outer s H E) K (defBody st) g ∧ ∀ ws mu Q, sp ws mu Q → g { nx := fun _ mu => Q (.d .non) mu, rt := Q } (startE N ws) mu) : Def P w K mg base x (k + 1) [] sp :=
  ⟨f, fd, ps, [], [], hm, F.kp, hb, .nil, fun _ => .nil, fnv_ok F S hlen body⟩
/-- the law's own promise -/
def lawSp : PSp := fun ds Q => ∃ ns, ds = [.scr ns] ∧ ns.length ≤ 63 ∧ ∀ mu, Q (.d (.bl true)) mu
def spLaw (K : PySem.W.Frag) : Sp := fun vs H Q _ => ∃ (a : Addr) (ns : List Int), vs = [.ref a] ∧ SqL K H a (ns.map V.int) ∧ ns.length ≤ 63 ∧ ∀ H', Q (.bl true) H'
end
end VL
namespace VL
open PySem PySem.Spec PyProof.Rows L2 RZ
theorem law_sp {K : PySem.W.Frag} {H : Hp} {a : Addr} {ns : List Int} (hl : ns.length ≤ 63) (h : SqL K H a (ns.map V.int)) : toSp K (pSp lawSp) [.ref a] H (fun v _ => v = .bl true) fun _ _ _ => False := by
  refine ⟨H, H, [], [], [.d (.scr ns)], fun w _ => w = .d (.bl true), ⟨Same.refl H, Same.refl H, Same.refl H, fun _ _ e => .inl e, by simp, rfl, fun k c e => by simp at e⟩, .cons (.d (.scr h (Nat.le_trans hl (by decide)))) .nil, ⟨rfl, [.scr ns], rfl, ns, rfl, hl, fun _ => rfl⟩, fun F' H' al' mu' u v x s r e => ?_⟩
  subst e
  cases r with
  | d r => cases r; rfl
theorem law_walk {l : PySem.W.OpenLaw} {q : Program} {loose : List Str} {XP : (Str → Option Value) → Heap → Prop} {YP : World → Heap → Prop} {d : DefRec} {K : Params → PySem.W.Frag} {k : Nat} {x : Str} (hn : l.most = some 63) (hdf : d.params.defaults = []) (hr : Room k callerA)
    (hY : ∀ (w : World) (h : Heap), YP w h → (K w.params).In h)
    (F : ∀ (w : World) (mg : Str → Option Value) (fa : Addr) (h : Heap), (K w.params).In h → h.Ns mainGlobals mg → mg d.name = some (.ref fa) →
      ∃ fd : FuncData, (∀ (s : Shared) (u : Value), BindsTo s fd ⟨[u], []⟩ [(x, u)]) ∧
        ∀ base : Heap, (K w.params).In base → base.Ns mainGlobals mg → FnOk l.prog w (K w.params) mg base CX0 k fa fd [x] (toSp (K w.params) (pSp lawSp))) :
    PySem.W.WalkO q loose XP YP l.row.toRowW d [] (fun f vs => PySem.call f vs) :=
  L2.walk_of (CX := fun _ => CX0) (sp := fun w => toSp (K w.params) (pSp lawSp)) hn (by decide) hdf hr hY F (fun _ _ _ _ hl _ hS => law_sp hl hS) fun _ _ _ _ _ z => z
end VL
namespace VL
open PySem PySem.Spec PyProof.Rows L2 RZ

/-! ### reckoning with the values -/
@[simp] def evr (Q : W → Sto → Prop) : EV := { nx := fun _ mu => Q (.d .non) mu, rt := Q }
@[simp] def sp0 (g : (W → Sto → Prop) → Prop) : PSp := fun ds Q => match ds with
  | [] => g Q
  | _ => False
@[simp] def sp1 (g : D → (W → Sto → Prop) → Prop) : PSp := fun ds Q => match ds with
  | [a] => g a Q
  | _ => False
@[simp] def sp2 (g : D → D → (W → Sto → Prop) → Prop) : PSp := fun ds Q => match ds with
  | [a, b] => g a b Q
  | _ => False
@[simp] def sp3 (g : D → D → D → (W → Sto → Prop) → Prop) : PSp := fun ds Q => match ds with
  | [a, b, c] => g a b c Q
  | _ => False
@[simp] def sp4 (g : D → D → D → D → (W → Sto → Prop) → Prop) : PSp := fun ds Q => match ds with
  | [a, b, c, d] => g a b c d Q
  | _ => False
@[simp] def sp5 (g : D → D → D → D → D → (W → Sto → Prop) → Prop) : PSp := fun ds Q => match ds with
  | [a, b, c, d, e] => g a b c d e Q
  | _ => False
theorem len0 {g} {ws : List W} {mu : Sto} {Q} (h : pSp (sp0 g) ws mu Q) : ws.length = 0 := by
  obtain ⟨_, ds, rfl, h⟩ := h
  unfold sp0 at h
  split at h
  · rfl
  · exact h.elim
theorem len1 {g} {ws : List W} {mu : Sto} {Q} (h : pSp (sp1 g) ws mu Q) : ws.length = 1 := by
  obtain ⟨_, ds, rfl, h⟩ := h
  unfold sp1 at h
  split at h
  · rfl
  · exact h.elim
theorem len2 {g} {ws : List W} {mu : Sto} {Q} (h : pSp (sp2 g) ws mu Q) : ws.length = 2 := by
  obtain ⟨_, ds, rfl, h⟩ := h
  unfold sp2 at h
  split at h
  · rfl
  · exact h.elim
theorem len3 {g} {ws : List W} {mu : Sto} {Q} (h : pSp (sp3 g) ws mu Q) : ws.length = 3 := by
  obtain ⟨_, ds, rfl, h⟩ := h
  unfold sp3 at h
  split at h
  · rfl
  · exact h.elim
theorem len4 {g} {ws : List W} {mu : Sto} {Q} (h : pSp (sp4 g) ws mu Q) : ws.length = 4 := by
  obtain ⟨_, ds, rfl, h⟩ := h
  unfold sp4 at h
  split at h
  · rfl
  · exact h.elim
theorem len5 {g} {ws : List W} {mu : Sto} {Q} (h : pSp (sp5 g) ws mu Q) : ws.length = 5 := by
  obtain ⟨_, ds, rfl, h⟩ := h
  unfold sp5 at h
  split at h
  · rfl
  · exact h.elim
theorem lenL {ws : List W} {mu : Sto} {Q} (h : pSp lawSp ws mu Q) : ws.length = 1 := by
  obtain ⟨_, ds, rfl, ns, rfl, _⟩ := h
  rfl
/-- from the promise to the body -/
theorem at0 {g} {f : WS} {N : List Str} (v : ∀ Q, g Q → f (evr Q) (startE N []) []) : ∀ ws mu Q, pSp (sp0 g) ws mu Q → f { nx := fun _ mu => Q (.d .non) mu, rt := Q } (startE N ws) mu := fun ws mu Q h => by
  obtain ⟨rfl, ds, rfl, h⟩ := h
  unfold sp0 at h
  split at h
  · exact v _ h
  · exact h.elim
theorem at1 {g} {f : WS} {N : List Str} (v : ∀ a Q, g a Q → f (evr Q) (startE N [.d a]) []) : ∀ ws mu Q, pSp (sp1 g) ws mu Q → f { nx := fun _ mu => Q (.d .non) mu, rt := Q } (startE N ws) mu := fun ws mu Q h => by
  obtain ⟨rfl, ds, rfl, h⟩ := h
  unfold sp1 at h
  split at h
  · exact v _ _ h
  · exact h.elim
theorem at2 {g} {f : WS} {N : List Str} (v : ∀ a b Q, g a b Q → f (evr Q) (startE N [.d a, .d b]) []) : ∀ ws mu Q, pSp (sp2 g) ws mu Q → f { nx := fun _ mu => Q (.d .non) mu, rt := Q } (startE N ws) mu := fun ws mu Q h => by
  obtain ⟨rfl, ds, rfl, h⟩ := h
  unfold sp2 at h
  split at h
  · exact v _ _ _ h
  · exact h.elim
theorem at3 {g} {f : WS} {N : List Str} (v : ∀ a b c Q, g a b c Q → f (evr Q) (startE N [.d a, .d b, .d c]) []) : ∀ ws mu Q, pSp (sp3 g) ws mu Q → f { nx := fun _ mu => Q (.d .non) mu, rt := Q } (startE N ws) mu := fun ws mu Q h => by
  obtain ⟨rfl, ds, rfl, h⟩ := h
  unfold sp3 at h
  split at h
  · exact v _ _ _ _ h
  · exact h.elim
theorem at4 {g} {f : WS} {N : List Str} (v : ∀ a b c d Q, g a b c d Q → f (evr Q) (startE N [.d a, .d b, .d c, .d d]) []) : ∀ ws mu Q, pSp (sp4 g) ws mu Q → f { nx := fun _ mu => Q (.d .non) mu, rt := Q } (startE N ws) mu := fun ws mu Q h => by
  obtain ⟨rfl, ds, rfl, h⟩ := h
  unfold sp4 at h
  split at h
  · exact v _ _ _ _ _ h
  · exact h.elim
theorem at5 {g} {f : WS} {N : List Str} (v : ∀ a b c d e Q, g a b c d e Q → f (evr Q) (startE N [.d a, .d b, .d c, .d d, .d e]) []) : ∀ ws mu Q, pSp (sp5 g) ws mu Q → f { nx := fun _ mu => Q (.d .non) mu, rt := Q } (startE N ws) mu := fun ws mu Q h => by
  obtain ⟨rfl, ds, rfl, h⟩ := h
  unfold sp5 at h
  split at h
  · exact v _ _ _ _ _ _ h
  · exact h.elim
theorem atL {f : WS} {N : List Str} (v : ∀ (ns : List Int) (Q : W → Sto → Prop), ns.length ≤ 63 → (∀ mu, Q (.d (.bl true)) mu) → f (evr Q) (startE N [.d (.scr ns)]) []) : ∀ ws mu Q, pSp lawSp ws mu Q → f { nx := fun _ mu => Q (.d .non) mu, rt := Q } (startE N ws) mu := fun ws mu Q h => by
  obtain ⟨rfl, ds, rfl, ns, rfl, hl, h⟩ := h
  exact v ns Q hl h

/-! ### numbers -/
@[simp] theorem gDiv_pos {i j : Int} (h : 0 < j) : gDiv i j = i / j := by unfold gDiv; rw [if_pos h]
@[simp] theorem gMod_pos {i j : Int} (h : 0 < j) : gMod i j = i % j := by unfold gMod; rw [if_pos h]
theorem log2_lt_of' {n a : Nat} (h0 : 0 < a) (h : n < 2 ^ a) : n.log2 < a := PySem.Flt.log2_lt_of h0 h
theorem CD_of {i j : Int} (h0 : j ≠ 0) (h1 : j.natAbs < 2 ^ 8000) : CD i j := ⟨h0, Nat.lt_of_lt_of_le (log2_lt_of' (by decide) h1) (by decide)⟩
@[simp] theorem CD_lit {i j : Int} (h0 : 0 < j) (h1 : j < 2 ^ 250) : CD i j ↔ True := ⟨fun _ => trivial, fun _ => ⟨by omega, by
  have h : j.natAbs < 2 ^ 250 := by
    have e : ((2 : Int) ^ 250) = ((2 ^ 250 : Nat) : Int) := by decide
    rw [e] at h1; omega
  exact Nat.lt_of_lt_of_le (log2_lt_of' (by decide) h) (by decide)⟩⟩
theorem CM_r {i j : Int} (h0 : -(2 ^ 64) < j) (h1 : j < 2 ^ 64) : CM i j := .inl (.inr ⟨h0, h1⟩)
theorem CM_l {i j : Int} (h0 : -(2 ^ 64) < i) (h1 : i < 2 ^ 64) : CM i j := .inl (.inl ⟨h0, h1⟩)
theorem CM_w {i j : Int} {a b : Nat} (h0 : i.natAbs < 2 ^ (a + 1)) (h1 : j.natAbs < 2 ^ (b + 1)) (h : a + b < 999990) : CM i j := .inr (by
  have x := log2_lt_of' (Nat.succ_pos _) h0
  have y := log2_lt_of' (Nat.succ_pos _) h1
  unfold CMulW
  omega)
@[simp] theorem CM_lit {i j : Int} (h0 : -(2 ^ 64) < j) (h1 : j < 2 ^ 64) : CM i j ↔ True := ⟨fun _ => trivial, fun _ => CM_r h0 h1⟩
@[simp] theorem CM_lit' {i j : Int} (h0 : -(2 ^ 64) < i) (h1 : i < 2 ^ 64) : CM i j ↔ True := ⟨fun _ => trivial, fun _ => CM_l h0 h1⟩
theorem CM_big {i j : Int} (h0 : i.natAbs < 2 ^ 1000) (h1 : j.natAbs < 2 ^ 1000) : CM i j := CM_w (a := 999) (b := 999) h0 h1 (by decide)
@[simp] theorem CM_lit2 {i j : Int} (h0 : -(2 ^ 250) < i) (h1 : i < 2 ^ 250) (h2 : -(2 ^ 250) < j) (h3 : j < 2 ^ 250) : CM i j ↔ True := ⟨fun _ => trivial, fun _ => by
  have e : ((2 : Int) ^ 250) = ((2 ^ 250 : Nat) : Int) := by decide
  rw [e] at h0 h1 h2 h3
  exact CM_w (a := 249) (b := 249) (by omega) (by omega) (by decide)⟩
@[simp] theorem CPow_lit {i j : Int} (h0 : 0 ≤ j) (h1 : j ≤ 1000000) (h2 : -(2 ^ 63) < i) (h3 : i < 2 ^ 63) : CPow i j ↔ True := ⟨fun _ => trivial, fun _ => ⟨h0, h1, by omega⟩⟩

/-! ### texts -/
theorem ofString_inj {a b : String} (h : Str.ofString a = Str.ofString b) : a = b := by
  have h1 : (Str.ofString a).cps.toList = (Str.ofString b).cps.toList := by rw [h]
  unfold Str.ofString at h1
  simp only at h1
  rw [cpsOfBytes_string, cpsOfBytes_string] at h1
  have h2 : a.toList = b.toList := by
    refine (List.map_inj_right (f := Char.toNat) fun x y e => ?_).mp h1
    exact Char.toNat_inj.mp e
  exact String.toList_inj.mp h2
@[simp] theorem str_beq (a b : String) : ((Str.ofString a) == (Str.ofString b)) = (a == b) := by
  rw [Bool.eq_iff_iff]
  simp only [beq_iff_eq]
  exact ⟨ofString_inj, fun h => by rw [h]⟩
@[simp] theorem str_eq (a b : String) : (Str.ofString a = Str.ofString b) ↔ (a = b) := ⟨ofString_inj, fun h => by rw [h]⟩

/-! ### lists of data -/
@[simp] theorem asDs_map : ∀ xs : List D, asDs (xs.map W.d) = some xs
  | [] => rfl
  | x :: xs => by simp [asDs_map xs]
@[simp] theorem asDs_mapf {A1 : Type} (f : A1 → D) : ∀ xs : List A1, asDs (xs.map fun x => W.d (f x)) = some (xs.map f)
  | [] => rfl
  | x :: xs => by simp [asDs_mapf f xs]
@[simp] theorem ddeps_int : ∀ ns : List Int, ddeps (ns.map D.int) = 0
  | [] => rfl
  | _ :: ns => by simp [ddeps_int ns]
theorem ddeps_le {n : Nat} : ∀ {xs : List D}, (∀ x ∈ xs, ddep x ≤ n) → ddeps xs ≤ n
  | [], _ => by simp
  | x :: xs, h => by
    have h1 := h x (by simp)
    have h2 := ddeps_le (xs := xs) fun y hy => h y (by simp [hy])
    simp only [ddeps]
    omega

theorem at_mem {A1 : Type} {xs : List A1} {i : Int} (h0 : 0 ≤ i) (h1 : i < xs.length) : ∃ x, atI xs i = some x ∧ x ∈ xs := by
  refine ⟨xs[i.toNat]'(by omega), ?_, List.getElem_mem _⟩
  unfold atI ixN
  rw [if_pos h0, if_pos h1]
  show xs[i.toNat]? = _
  simp
theorem at_nat {A1 : Type} {xs : List A1} {i : Int} (h0 : 0 ≤ i) (h1 : i < xs.length) : atI xs i = xs[i.toNat]? := by
  unfold atI ixN
  rw [if_pos h0, if_pos h1]; rfl
theorem at_getD {A1 : Type} {xs : List A1} {i : Int} (d : A1) (h0 : 0 ≤ i) (h1 : i < xs.length) : atI xs i = some (xs.getD i.toNat d) := by
  rw [at_nat h0 h1, List.getD_eq_getElem?_getD]
  have : i.toNat < xs.length := by omega
  simp [this]
theorem cutL_len {A1 : Type} (xs : List A1) (lo hi : Option Int) : (cutL xs lo hi).length ≤ xs.length := by
  unfold cutL
  rw [List.length_take, List.length_drop]; omega
@[simp] theorem cutL_map {A1 B1 : Type} (f : A1 → B1) (xs : List A1) (lo hi : Option Int) : cutL (xs.map f) lo hi = (cutL xs lo hi).map f := by
  unfold cutL
  rw [List.length_map, List.map_drop.symm, List.map_take.symm]
theorem cutL_mem {A1 : Type} {xs : List A1} {lo hi : Option Int} {x : A1} (h : x ∈ cutL xs lo hi) : x ∈ xs := List.mem_of_mem_drop (List.mem_of_mem_take h)
/-! ### comprehensions of data -/
theorem lc_pure {chk : Sto → Prop} {g : WG} {tt : WT} {te : WE} {rh : Ev} {mu : Sto} {Q : List W → Sto → Prop} (r : W → Option W) (hc : chk mu) : ∀ {items acc : List W},
    (∀ x ∈ items, ∀ (A : W → Sto → Prop) (B : Sto → Prop), (match r x with | some y => A y mu | none => B mu) → g x rh mu fun rh' mu1 => tt rh' mu1 fun b mu2 => if b = true then te rh' mu2 A else B mu2) →
    Q (acc ++ items.filterMap r) mu → lcL chk g tt te rh items acc mu Q
  | [], acc, _, h => ⟨hc, by simpa using h⟩
  | x :: xs, acc, H, h => by
    refine ⟨hc, H x (by simp) _ _ ?_⟩
    split
    · rename_i y e
      refine lc_pure r hc (fun z hz => H z (by simp [hz])) ?_
      rw [List.filterMap_cons, e] at h
      simpa using h
    · rename_i e
      refine lc_pure r hc (fun z hz => H z (by simp [hz])) ?_
      rw [List.filterMap_cons, e] at h
      exact h
theorem lc_D {chk : Sto → Prop} {g : WG} {tt : WT} {te : WE} {rh : Ev} {mu : Sto} {Q : List W → Sto → Prop} {ds : List D} (r : D → Option D) (hc : chk mu)
    (H : ∀ x ∈ ds, ∀ (A : W → Sto → Prop) (B : Sto → Prop), (match r x with | some y => A (.d y) mu | none => B mu) → g (.d x) rh mu fun rh' mu1 => tt rh' mu1 fun b mu2 => if b = true then te rh' mu2 A else B mu2)
    (h : Q ((ds.filterMap r).map W.d) mu) : lcL chk g tt te rh (ds.map W.d) [] mu Q := by
  refine lc_pure (fun w => match w with | .d x => (r x).map W.d | _ => none) hc (fun x hx A B q => ?_) ?_
  · obtain ⟨d, hd, rfl⟩ := List.mem_map.mp hx
    refine H d hd A B ?_
    cases e : r d with
    | none => simp only [e, Option.map_none] at q ⊢; exact q
    | some y => simp only [e, Option.map_some] at q ⊢; exact q
  · have e : (ds.map W.d).filterMap (fun w => match w with | .d x => (r x).map W.d | _ => none) = (ds.filterMap r).map W.d := by
      rw [List.filterMap_map, List.map_filterMap]
      rfl
    rw [List.nil_append, e]
    exact h
/-- .. without a test -/
theorem lc_M {chk : Sto → Prop} {g : WG} {te : WE} {rh : Ev} {mu : Sto} {Q : List W → Sto → Prop} {ds : List D} (f : D → D) (hc : chk mu)
    (H : ∀ x ∈ ds, ∀ (A : W → Sto → Prop), A (.d (f x)) mu → g (.d x) rh mu fun rh' mu1 => te rh' mu1 A)
    (h : Q ((ds.map f).map W.d) mu) : lcL chk g wYes te rh (ds.map W.d) [] mu Q :=
  lc_D (fun x => some (f x)) hc (fun x hx A B q => by simpa using H x hx A q) (by rw [List.filterMap_eq_map']; exact h)

/-! ### an item of a displayed list -/
@[simp] theorem at_c0 {A1 : Type} (x : A1) (xs : List A1) : atI (x :: xs) 0 = some x := by
  rw [at_nat (by omega) (by simp)]; rfl
@[simp] theorem at_c1 {A1 : Type} (x y : A1) (xs : List A1) : atI (x :: y :: xs) 1 = some y := by
  rw [at_nat (by omega) (by simp; omega)]; rfl
@[simp] theorem at_c2 {A1 : Type} (x y z : A1) (xs : List A1) : atI (x :: y :: z :: xs) 2 = some z := by
  rw [at_nat (by omega) (by simp; omega)]; rfl
@[simp] theorem at_c3 {A1 : Type} (x y z u : A1) (xs : List A1) : atI (x :: y :: z :: u :: xs) 3 = some u := by
  rw [at_nat (by omega) (by simp; omega)]; rfl
/-- an item counted from behind -/
theorem at_neg {A1 : Type} {xs : List A1} {i : Int} (h0 : i < 0) (h1 : -xs.length ≤ i) : ∃ x, atI xs i = some x ∧ x ∈ xs := by
  refine ⟨xs[(i + xs.length).toNat]'(by omega), ?_, List.getElem_mem _⟩
  unfold atI ixN
  rw [if_neg (by omega), if_pos (by omega)]
  show xs[_]? = _
  rw [List.getElem?_eq_getElem (by omega)]
theorem at_any {A1 : Type} {xs : List A1} {i : Int} (h0 : -xs.length ≤ i) (h1 : i < xs.length) : ∃ x, atI xs i = some x ∧ x ∈ xs := by
  by_cases h : 0 ≤ i
  · exact at_mem h h1
  · exact at_neg (by omega) h0

/-! ### loops by an invariant -/
theorem forL_inv {chk : Sto → Prop} {g : WG} {b : WS} {V : EV} (I : Ev → Sto → Prop) (hc : ∀ rh mu, I rh mu → chk mu) (hend : ∀ rh mu, I rh mu → V.nx rh mu) : ∀ {items : List W} {rh : Ev} {mu : Sto},
    (∀ x ∈ items, ∀ rh mu, I rh mu → ∀ N : Ev → Sto → Prop, (∀ rh mu, I rh mu → N rh mu) → g x rh mu fun rh' mu' => b { V with nx := N, ct := N, bk := V.nx } rh' mu') → I rh mu → forL chk g b V items rh mu
  | [], _, _, _, h => ⟨hc _ _ h, hend _ _ h⟩
  | x :: xs, rh, mu, H, h => ⟨hc _ _ h, H x (by simp) _ _ h _ fun rh mu h1 => forL_inv I hc hend (fun y hy => H y (by simp [hy])) h1⟩
theorem forL_rem {chk : Sto → Prop} {g : WG} {b : WS} {V : EV} (I : List W → Ev → Sto → Prop) (hc : ∀ xs rh mu, I xs rh mu → chk mu) (hend : ∀ rh mu, I [] rh mu → V.nx rh mu)
    (H : ∀ x xs rh mu, I (x :: xs) rh mu → ∀ N : Ev → Sto → Prop, (∀ rh mu, I xs rh mu → N rh mu) → g x rh mu fun rh' mu' => b { V with nx := N, ct := N, bk := V.nx } rh' mu') : ∀ {items : List W} {rh : Ev} {mu : Sto}, I items rh mu → forL chk g b V items rh mu
  | [], _, _, h => ⟨hc _ _ _ h, hend _ _ h⟩
  | x :: xs, rh, mu, h => ⟨hc _ _ _ h, H x xs _ _ h _ fun rh mu h1 => forL_rem I hc hend H h1⟩
theorem forL_idx {chk : Sto → Prop} {g : WG} {b : WS} {V : EV} (I : Nat → Ev → Sto → Prop) (hc : ∀ i rh mu, I i rh mu → chk mu) {items : List W} (hend : ∀ rh mu, I items.length rh mu → V.nx rh mu)
    (H : ∀ i x, items[i]? = some x → ∀ rh mu, I i rh mu → ∀ N : Ev → Sto → Prop, (∀ rh mu, I (i + 1) rh mu → N rh mu) → g x rh mu fun rh' mu' => b { V with nx := N, ct := N, bk := V.nx } rh' mu') {rh : Ev} {mu : Sto} (h : I 0 rh mu) : forL chk g b V items rh mu := by
  refine forL_rem (fun xs rh mu => ∃ i, xs = items.drop i ∧ i ≤ items.length ∧ I i rh mu) (fun _ _ _ ⟨i, _, _, h⟩ => hc i _ _ h) (fun rh mu ⟨i, e, l, h⟩ => ?_) (fun x xs rh mu ⟨i, e, l, h⟩ N hN => ?_) ⟨0, by simp, Nat.zero_le _, h⟩
  · have : items.length ≤ i := by
      have := congrArg List.length e; simp at this; omega
    obtain rfl : i = items.length := by omega
    exact hend _ _ h
  · have hi : i < items.length := by
      have := congrArg List.length e; simp at this; omega
    rw [List.drop_eq_getElem_cons hi] at e
    injection e with e1 e2
    subst e1
    exact H i _ (List.getElem?_eq_getElem hi) _ _ h N fun rh mu h1 => hN _ _ ⟨i + 1, e2, hi, h1⟩
/-- a range from nought -/
theorem forL_rng {chk : Sto → Prop} {g : WG} {b : WS} {V : EV} {n : Nat} (I : Nat → Ev → Sto → Prop) (hc : ∀ i rh mu, I i rh mu → chk mu) (hend : ∀ rh mu, I n rh mu → V.nx rh mu)
    (H : ∀ i, i < n → ∀ rh mu, I i rh mu → ∀ N : Ev → Sto → Prop, (∀ rh mu, I (i + 1) rh mu → N rh mu) → g (.d (.int i)) rh mu fun rh' mu' => b { V with nx := N, ct := N, bk := V.nx } rh' mu') {rh : Ev} {mu : Sto} (h : I 0 rh mu) : forL chk g b V (rngW 0 n) rh mu := by
  refine forL_idx I hc (fun rh mu h => hend rh mu (by rw [rngW_len] at h; exact h)) (fun i x e rh mu h N hN => ?_) h
  have hi : i < n := by
    have := (List.getElem?_eq_some_iff.mp e).1; rw [rngW_len] at this; exact this
  rw [rngW_get 0 n i hi] at e
  injection e with e; subst e
  rw [Int.zero_add]
  exact H i hi rh mu h N hN
theorem rngW_mem {x : W} : ∀ {n : Nat} {lo : Int}, x ∈ rngW lo n → ∃ i : Int, lo ≤ i ∧ i < lo + n ∧ x = .d (.int i)
  | 0, lo, h => by simp [rngW] at h
  | n + 1, lo, h => by
    rw [rngW] at h
    rcases List.mem_cons.mp h with h | h
    · exact ⟨lo, by omega, by omega, h⟩
    · obtain ⟨i, h1, h2, h3⟩ := rngW_mem h
      exact ⟨i, by omega, by omega, h3⟩
/-- the names' values at a loop's head: the fixed ones, the loose ones -/
def Loose (fix : Ev) (n : Nat) (rh : Ev) : Prop := ∃ ys : Ev, ys.length = n ∧ rh = fix ++ ys

/-! ### comprehensions: a filter; results of a kind -/
theorem lc_F {chk : Sto → Prop} {g : WG} {tt : WT} {te : WE} {rh : Ev} {mu : Sto} {Q : List W → Sto → Prop} {ds : List D} (p : D → Bool) (hc : chk mu)
    (H : ∀ x ∈ ds, ∀ (A : W → Sto → Prop) (B : Sto → Prop), (if p x = true then A (.d x) mu else B mu) → g (.d x) rh mu fun rh' mu1 => tt rh' mu1 fun b mu2 => if b = true then te rh' mu2 A else B mu2)
    (h : Q ((ds.filter p).map W.d) mu) : lcL chk g tt te rh (ds.map W.d) [] mu Q := by
  refine lc_D (fun x => if p x = true then some x else none) hc (fun x hx A B q => H x hx A B ?_) ?_
  · by_cases e : p x = true
    · simp only [e, if_true] at q ⊢; exact q
    · simp only [e, if_false] at q ⊢; exact q
  · have e : ds.filterMap (fun x => if p x = true then some x else none) = ds.filter p := by
      rw [← List.filterMap_eq_filter]; congr
    rw [e]; exact h
theorem lcL_any {chk : Sto → Prop} {g : WG} {te : WE} {rh : Ev} {mu : Sto} {Q : List W → Sto → Prop} (ok : D → Prop) (hc : chk mu) : ∀ {items : List W} {acc : List D},
    (∀ x ∈ items, ∀ (A : W → Sto → Prop), (∀ y, ok y → A (.d y) mu) → g x rh mu fun rh' mu1 => te rh' mu1 A) →
    (∀ y ∈ acc, ok y) → (∀ ys : List D, ys.length = acc.length + items.length → (∀ y ∈ ys, ok y) → Q (ys.map W.d) mu) → lcL chk g wYes te rh items (acc.map W.d) mu Q
  | [], acc, _, h0, h => ⟨hc, h acc (by simp) h0⟩
  | x :: xs, acc, H, h0, h => by
    refine ⟨hc, ?_⟩
    simp only [wYes, if_true]
    refine H x (by simp) _ fun y hy => ?_
    have e : acc.map W.d ++ [W.d y] = (acc ++ [y]).map W.d := by simp
    rw [e]
    refine lcL_any ok hc (fun z hz => H z (by simp [hz])) (fun z hz => ?_) fun ys hl hys => h ys ?_ hys
    · rcases List.mem_append.mp hz with hz | hz
      · exact h0 z hz
      · rw [List.mem_singleton.mp hz]; exact hy
    · simp at hl ⊢; omega
theorem lc_any {chk : Sto → Prop} {g : WG} {te : WE} {rh : Ev} {mu : Sto} {Q : List W → Sto → Prop} {items : List W} (ok : D → Prop) (hc : chk mu)
    (H : ∀ x ∈ items, ∀ (A : W → Sto → Prop), (∀ y, ok y → A (.d y) mu) → g x rh mu fun rh' mu1 => te rh' mu1 A)
    (h : ∀ ys : List D, ys.length = items.length → (∀ y ∈ ys, ok y) → Q (ys.map W.d) mu) : lcL chk g wYes te rh items [] mu Q :=
  lcL_any (acc := []) ok hc H (by simp) fun ys hl hys => h ys (by simpa using hl) hys

theorem blkOk_at {N : List Str} {S S' scope : Scope} {own : List (Str × Nat)} (h : blkC N S scope own = true) (e : S' = S := by rfl) : BlkOk N S' scope own := e ▸ blkOk_by h
/-! ### bits -/
theorem bit_bool {a : Int} : (Builtin.bitAnd a 1) = a % 2 := by
  have := bitAnd_m1 a
  exact this
end VL
namespace VL
open PySem PySem.Spec PyProof.Rows L2 RZ
/-! ### in, not in -/
@[simp] def flatD : D → Bool
  | .non | .bl _ | .int _ | .str _ => true
  | _ => false
def inD (a : D) (ds : List D) : Bool := ds.any fun z => deqv z a
@[simp] theorem inD_nil (a : D) : inD a [] = false := rfl
@[simp] theorem inD_cons (a x : D) (xs : List D) : inD a (x :: xs) = (deqv x a || inD a xs) := rfl
def subS (i j : Str) : Bool := !(Builtin.Str.occurrences j i 0 j.length 1).isEmpty
@[simp] def fInL (neg : Bool) : F2 := fun mu x y Q => match snap mu x, snap mu y with
  | some a, some (.lst ds) => ddep a ≤ 64 ∧ ddeps ds ≤ 63 ∧ Q (.d (.bl (if neg then !inD a ds else inD a ds))) mu
  | _, _ => False
@[simp] def fInT (neg : Bool) : F2 := fun mu x y Q => match x, y with
  | .d a, .d (.tup ds) => flatD a = true ∧ ds.all flatD = true ∧ Q (.d (.bl (if neg then !inD a ds else inD a ds))) mu
  | _, _ => False
@[simp] def fInS (neg : Bool) : F2 := fun mu x y Q => match x, y with
  | .d (.str a), .d (.str b) => Q (.d (.bl (if neg then !subS a b else subS a b))) mu
  | _, _ => False
@[simp] theorem subS_one (c : Nat) (j : Str) : subS ⟨#[c]⟩ j = decide (c ∈ j.cps.toList) := PySem.StrLaws.found_one j c
section
variable {io : Type} {Y : io → Cx} {P : Program} {w : World} {K : PySem.W.Frag} {mg : Str → Option Value} {base : Heap} {N : List Str} {k : Nat}
theorem any_toPs (a : D) : ∀ ds : List D, ((toPs ds).any fun z => PyData.eqv z (toP a)) = inD a ds
  | [] => rfl
  | d :: ds => by
    rw [inD_cons, ← any_toPs a ds, ← toP_eqv]; rfl
theorem flD_rep {F : Hp} {x : D} {v : V} (r : RepD K F x v) (h : flatD x = true) : flatV v = true := by
  cases r <;> first | rfl | (exfalso; simp at h; done)
theorem flat_eqV {F : Hp} {x y : D} {v u : V} (r : RepD K F x v) (r' : RepD K F y u) (h : flatD x = true) (h' : flatD y = true) : eqV v u = deqv x y := by
  cases r <;> cases r' <;> first | (exfalso; simp at h; done) | (exfalso; simp at h'; done) | simp [eqV]
theorem flD_all {F : Hp} : ∀ {xs : List D} {vs : List V}, Paired (RepD K F) xs vs → xs.all flatD = true → vs.all flatV = true
  | [], _, .nil, _ => rfl
  | x :: xs, _, .cons r t, h => by
    rw [List.all_cons, Bool.and_eq_true] at h ⊢
    exact ⟨flD_rep r h.1, flD_all t h.2⟩
theorem flat_in {F : Hp} {a : D} {v : V} (ra : RepD K F a v) (ha : flatD a = true) : ∀ {xs : List D} {vs : List V}, Paired (RepD K F) xs vs → xs.all flatD = true → inV v vs = inD a xs
  | [], _, .nil, _ => rfl
  | x :: xs, _, .cons r t, h => by
    rw [List.all_cons, Bool.and_eq_true] at h
    show (eqV _ v || inV v _) = _
    rw [inD_cons, flat_eqV r ra h.1 ha, flat_in ra ha t h.2]
theorem opd_inL : OpD K (rInD K) (fInL false) := fun G B F H al rh si mu x y vx vy Qd Q s r1 r2 h q => by
  unfold fInL at h
  split at h
  · rename_i a ds e1 e2
    have p1 := snap_rep s.s r1 e1
    have p2 := snap_rep s.s r2 e2
    exact ⟨toP a, toPs ds, rep_dp p1 (by have := h.1; omega), rep_dp p2 (by have := h.2.1; simp; omega), rep_shaped p1 h.1, rep_shaped p2 (by have := h.2.1; simp; omega), by rw [any_toPs]; exact q F H al mu _ _ (Ext.refl _ _) s (.d (.bl _)) h.2.2⟩
  · exact h.elim
theorem opd_notinL : OpD K (rNotInD K) (fInL true) := fun G B F H al rh si mu x y vx vy Qd Q s r1 r2 h q => by
  unfold fInL at h
  split at h
  · rename_i a ds e1 e2
    have p1 := snap_rep s.s r1 e1
    have p2 := snap_rep s.s r2 e2
    exact ⟨toP a, toPs ds, rep_dp p1 (by have := h.1; omega), rep_dp p2 (by have := h.2.1; simp; omega), rep_shaped p1 h.1, rep_shaped p2 (by have := h.2.1; simp; omega), by rw [any_toPs]; exact q F H al mu _ _ (Ext.refl _ _) s (.d (.bl _)) h.2.2⟩
  · exact h.elim
theorem opd_inT (neg : Bool) : OpD K (rIn K neg) (fInT neg) := fun G B F H al rh si mu x y vx vy Qd Q s r1 r2 h q => by
  unfold fInT at h
  split at h
  · rename_i a ds
    obtain ⟨h1, h2, h3⟩ := h
    obtain ⟨p, vs, rfl, hs, hz, hp⟩ := repTup r2
    cases r1 with
    | d r1 =>
      refine ⟨p, vs, rfl, .inr (sqtMono s.s.fz hs), flD_rep r1 h1, flD_all hp h2, ?_⟩
      rw [flat_in r1 h1 hp h2]
      exact q F H al mu _ _ (Ext.refl _ _) s (.d (.bl _)) h3
  · exact h.elim
theorem opd_inS : OpD K (fun x y H Q => ∃ i j, x = .str i ∧ y = .str j ∧ Q (.bl (!(Builtin.Str.occurrences j i 0 j.length 1).isEmpty)) H) (fInS false) := fun G B F H al rh si mu x y vx vy Qd Q s r1 r2 h q => by
  unfold fInS at h
  split at h
  · obtain ⟨rfl, _⟩ := repStr r1
    obtain ⟨rfl, _⟩ := repStr r2
    exact ⟨_, _, rfl, rfl, q F H al mu _ _ (Ext.refl _ _) s (.d (.bl _)) h⟩
  · exact h.elim
theorem opd_notinS : OpD K (fun x y H Q => ∃ i j, x = .str i ∧ y = .str j ∧ Q (.bl (!(!(Builtin.Str.occurrences j i 0 j.length 1).isEmpty))) H) (fInS true) := fun G B F H al rh si mu x y vx vy Qd Q s r1 r2 h q => by
  unfold fInS at h
  split at h
  · obtain ⟨rfl, _⟩ := repStr r1
    obtain ⟨rfl, _⟩ := repStr r2
    exact ⟨_, _, rfl, rfl, q F H al mu _ _ (Ext.refl _ _) s (.d (.bl _)) h⟩
  · exact h.elim
theorem c_inL (y : YOk Y P w K mg base N k) : CmpK Y K .In (fInL false) := .mk (fun i => by rw [← y.hK i]; exact op_inD (by have := (y.room i).un; omega)) opd_inL
theorem c_notinL (y : YOk Y P w K mg base N k) : CmpK Y K .NotIn (fInL true) := .mk (fun i => by rw [← y.hK i]; exact op_notInD (by have := (y.room i).un; omega)) opd_notinL
theorem c_inT (y : YOk Y P w K mg base N k) : CmpK Y K .In (fInT false) := .mk (fun i => by rw [← y.hK i]; exact op_in_seq) (opd_inT false)
theorem c_notinT (y : YOk Y P w K mg base N k) : CmpK Y K .NotIn (fInT true) := .mk (fun i => by rw [← y.hK i]; exact op_notIn_seq) (opd_inT true)
theorem c_inS (y : YOk Y P w K mg base N k) : CmpK Y K .In (fInS false) := .mk (fun i => op_in_str) opd_inS
theorem c_notinS (y : YOk Y P w K mg base N k) : CmpK Y K .NotIn (fInS true) := .mk (fun i => op_notin_str) opd_notinS
end

/-! ### methods of texts with one argument -/
section
variable {io : Type} {Y : io → Cx} {P : Program} {w : World} {K : PySem.W.Frag} {mg : Str → Option Value} {base : Heap} {N : List Str} {k : Nat} {o e : Expr} {wo we : WE} {apos pos : Pos}
@[simp] def wM1 (f : F2) (o e : WE) : WE := fun rh mu Q => o rh mu fun x mu1 => match x with
  | .d (.str a) => e rh mu1 fun y mu2 => f mu2 (.d (.str a)) y Q
  | _ => False
@[simp] def fStarts : F2 := fun mu x y Q => match x, y with
  | .d (.str a), .d (.str b) => Q (.d (.bl (Txt.startswith a b))) mu
  | _, _ => False
def strsOf : List D → Option (List Str)
  | [] => some []
  | .str x :: ds => (strsOf ds).map (x :: ·)
  | _ :: _ => none
@[simp] def fJoin : F2 := fun mu x y Q => match x, lsD mu y with
  | .d (.str a), some ds => match strsOf ds with
    | some ys => (ys.map (·.length)).sum + ys.length * a.length ≤ 16777216 ∧ StrOk (Txt.join a ys) ∧ Q (.d (.str (Txt.join a ys))) mu
    | none => False
  | _, _ => False
theorem strs_rep {F : Hp} : ∀ {ds : List D} {vs : List V} {ys : List Str}, Paired (RepD K F) ds vs → strsOf ds = some ys → vs = ys.map V.str
  | [], _, _, .nil, e => by cases e; rfl
  | d :: ds, _, ys, .cons r t, e => by
    cases r <;> simp only [strsOf] at e <;> try cases e
    cases q : strsOf ds with
    | none => rw [q] at e; cases e
    | some zs =>
      rw [q] at e
      cases e
      rw [strs_rep t q]; rfl
theorem den_m1 {r : V → List V → Hp → L2.VK → Prop} {f : F2} {to te : TE} (hd : OpD K (fun x y H Q => r x [y] H Q) f) (d1 : Den K to wo) (d2 : Den K te we) : Den K (tM1 r to te) (wM1 f wo we) := fun G B F H al rh si mu Qd Q s h q => by
  refine d1 G B F H al rh si mu _ _ s h fun F1 H1 al1 mu1 x vx e1 s1 r1 h1 => ?_
  split at h1
  · obtain ⟨rfl, hx⟩ := repStr r1
    refine ⟨⟨_, rfl⟩, ?_⟩
    refine d2 G B F1 H1 al1 rh si mu1 _ _ s1 h1 fun F2 H2 al2 mu2 y vy e2 s2 r2 h2 => ?_
    exact hd G B F2 H2 al2 rh si mu2 _ y _ vy Qd Q s2 (r1.mono e2) r2 h2 fun F3 H3 al3 mu3 z vz e3 => q F3 H3 al3 mu3 z vz ((e1.trans e2).trans e3)
  · exact h1.elim
theorem opd_starts : OpD K (fun x y H Q => ∃ a b, x = .str a ∧ [y] = [.str b] ∧ Q (.bl (Txt.startswith a b)) H) fStarts := fun G B F H al rh si mu x y vx vy Qd Q s r1 r2 h q => by
  unfold fStarts at h
  split at h
  · obtain ⟨rfl, _⟩ := repStr r1
    obtain ⟨rfl, _⟩ := repStr r2
    exact ⟨_, _, rfl, rfl, q F H al mu _ _ (Ext.refl _ _) s (.d (.bl _)) h⟩
  · exact h.elim
def rJoin (K : PySem.W.Frag) : V → List V → Hp → L2.VK → Prop := fun x xs H Q => ∃ a p, ∃ ys : List Str, x = .str a ∧ xs = [.ref p] ∧ (SqL K H p (ys.map V.str) ∨ SqT K H p (ys.map V.str)) ∧
      (ys.map (·.length)).sum + ys.length * a.length ≤ 16777216 ∧ Q (.str (Txt.join a ys)) H
theorem opd_join : OpD K (fun x y H Q => rJoin K x [y] H Q) fJoin := fun G B F H al rh si mu x y vx vy Qd Q s r1 r2 h q => by
  unfold fJoin at h
  split at h
  · rename_i a ds e
    split at h
    · rename_i ys e2
      obtain ⟨rfl, _⟩ := repStr r1
      obtain ⟨p, vs, rfl, hr, hz, hp⟩ := lsD_rep s.s r2 e
      have := strs_rep hp e2
      subst this
      exact ⟨a, p, ys, rfl, rfl, .inl (.inl hr), h.1, q F H al mu _ _ (Ext.refl _ _) s (.d (.str _ h.2.1)) h.2.2⟩
    · exact h.elim
  · exact h.elim
theorem ve_m1 {id : String} {name : Str} {r : V → List V → Hp → L2.VK → Prop} {f : F2} (slot : Slot "str" name id) (ty : typeOf (.builtin id) = pure (.type "method_descriptor")) (rule : ∀ i, MtR (Y i) id r) (hd : OpD K (fun x y H Q => r x [y] H Q) f) (ho : VE Y K o wo) (he : VE Y K e we)
    (hs : ∀ i, starEach [e] (Y i).env = [(false, eval e (Y i).env)] := by exact fun _ => rfl) (hbase : ∀ i, attributeBase o name (Y i).env (eval o (Y i).env) = eval o (Y i).env := by exact fun _ => rfl) (hline : (apos.endLine == pos.line) = true := by rfl) :
    VE Y K (.Call (.Attribute o name apos) [e] [] pos) (wM1 f wo we) := by
  obtain ⟨t1, p1, d1⟩ := ho
  obtain ⟨t2, p2, d2⟩ := he
  exact ⟨_, fun i => pe_m1 slot ty (rule i) (p1 i) (p2 i) (hs i) (hbase i) hline, den_m1 hd d1 d2⟩
theorem ve_starts (ho : VE Y K o wo) (he : VE Y K e we) (hs : ∀ i, starEach [e] (Y i).env = [(false, eval e (Y i).env)] := by exact fun _ => rfl)
    (hbase : ∀ i, attributeBase o "startswith" (Y i).env (eval o (Y i).env) = eval o (Y i).env := by exact fun _ => rfl) (hline : (apos.endLine == pos.line) = true := by rfl) : VE Y K (.Call (.Attribute o "startswith" apos) [e] [] pos) (wM1 fStarts wo we) :=
  ve_m1 F.slot_str_startswith F.type_str_startswith (fun _ => mt_startswith) opd_starts ho he hs hbase hline
theorem ve_join (y : YOk Y P w K mg base N k) (ho : VE Y K o wo) (he : VE Y K e we) (hs : ∀ i, starEach [e] (Y i).env = [(false, eval e (Y i).env)] := by exact fun _ => rfl)
    (hbase : ∀ i, attributeBase o "join" (Y i).env (eval o (Y i).env) = eval o (Y i).env := by exact fun _ => rfl) (hline : (apos.endLine == pos.line) = true := by rfl) : VE Y K (.Call (.Attribute o "join" apos) [e] [] pos) (wM1 fJoin wo we) :=
  ve_m1 (r := rJoin K) F.slot_str_join F.type_str_join (fun i => by rw [← y.hK i]; exact mt_join) opd_join ho he hs hbase hline
end
end VL
namespace VL
open PySem PySem.Spec PyProof.Rows L2 RZ
/-! ### promises over values and the store -/
@[simp] def sS1 (g : W → Sto → (W → Sto → Prop) → Prop) : VSp := fun ws mu Q => match ws with
  | [a] => g a mu Q
  | _ => False
@[simp] def sS2 (g : W → W → Sto → (W → Sto → Prop) → Prop) : VSp := fun ws mu Q => match ws with
  | [a, b] => g a b mu Q
  | _ => False
@[simp] def sS3 (g : W → W → W → Sto → (W → Sto → Prop) → Prop) : VSp := fun ws mu Q => match ws with
  | [a, b, c] => g a b c mu Q
  | _ => False
@[simp] def sS4 (g : W → W → W → W → Sto → (W → Sto → Prop) → Prop) : VSp := fun ws mu Q => match ws with
  | [a, b, c, d] => g a b c d mu Q
  | _ => False
@[simp] def sS5 (g : W → W → W → W → W → Sto → (W → Sto → Prop) → Prop) : VSp := fun ws mu Q => match ws with
  | [a, b, c, d, e] => g a b c d e mu Q
  | _ => False
theorem lenS1 {g} {ws : List W} {mu : Sto} {Q} (h : sS1 g ws mu Q) : ws.length = 1 := by
  unfold sS1 at h
  split at h
  · rfl
  · exact h.elim
theorem lenS2 {g} {ws : List W} {mu : Sto} {Q} (h : sS2 g ws mu Q) : ws.length = 2 := by
  unfold sS2 at h
  split at h
  · rfl
  · exact h.elim
theorem lenS3 {g} {ws : List W} {mu : Sto} {Q} (h : sS3 g ws mu Q) : ws.length = 3 := by
  unfold sS3 at h
  split at h
  · rfl
  · exact h.elim
theorem lenS4 {g} {ws : List W} {mu : Sto} {Q} (h : sS4 g ws mu Q) : ws.length = 4 := by
  unfold sS4 at h
  split at h
  · rfl
  · exact h.elim
theorem lenS5 {g} {ws : List W} {mu : Sto} {Q} (h : sS5 g ws mu Q) : ws.length = 5 := by
  unfold sS5 at h
  split at h
  · rfl
  · exact h.elim
theorem atS1 {g} {f : WS} {N : List Str} (v : ∀ a mu Q, g a mu Q → f (evr Q) (startE N [a]) mu) : ∀ ws mu Q, sS1 g ws mu Q → f { nx := fun _ mu => Q (.d .non) mu, rt := Q } (startE N ws) mu := fun ws mu Q h => by
  unfold sS1 at h
  split at h
  · exact v _ _ _ h
  · exact h.elim
theorem atS2 {g} {f : WS} {N : List Str} (v : ∀ a b mu Q, g a b mu Q → f (evr Q) (startE N [a, b]) mu) : ∀ ws mu Q, sS2 g ws mu Q → f { nx := fun _ mu => Q (.d .non) mu, rt := Q } (startE N ws) mu := fun ws mu Q h => by
  unfold sS2 at h
  split at h
  · exact v _ _ _ _ h
  · exact h.elim
theorem atS3 {g} {f : WS} {N : List Str} (v : ∀ a b c mu Q, g a b c mu Q → f (evr Q) (startE N [a, b, c]) mu) : ∀ ws mu Q, sS3 g ws mu Q → f { nx := fun _ mu => Q (.d .non) mu, rt := Q } (startE N ws) mu := fun ws mu Q h => by
  unfold sS3 at h
  split at h
  · exact v _ _ _ _ _ h
  · exact h.elim
theorem atS4 {g} {f : WS} {N : List Str} (v : ∀ a b c d mu Q, g a b c d mu Q → f (evr Q) (startE N [a, b, c, d]) mu) : ∀ ws mu Q, sS4 g ws mu Q → f { nx := fun _ mu => Q (.d .non) mu, rt := Q } (startE N ws) mu := fun ws mu Q h => by
  unfold sS4 at h
  split at h
  · exact v _ _ _ _ _ _ h
  · exact h.elim
theorem atS5 {g} {f : WS} {N : List Str} (v : ∀ a b c d e mu Q, g a b c d e mu Q → f (evr Q) (startE N [a, b, c, d, e]) mu) : ∀ ws mu Q, sS5 g ws mu Q → f { nx := fun _ mu => Q (.d .non) mu, rt := Q } (startE N ws) mu := fun ws mu Q h => by
  unfold sS5 at h
  split at h
  · exact v _ _ _ _ _ _ _ h
  · exact h.elim

/-! ### {} -/
section
variable {io : Type} {Y : io → Cx} {P : Program} {w : World} {K : PySem.W.Frag} {mg : Str → Option Value} {base : Heap} {N : List Str} {k : Nat} {pos : Pos}
@[simp] def wDNewK : WE := fun _ mu Q => Q (.loc mu.length) (mu ++ [.dk []])
@[simp] def wDNewT : WE := fun _ mu Q => Q (.loc mu.length) (mu ++ [.dt []])
theorem ve_dnewK : VE Y K (.Dict [] [] pos) wDNewK := ⟨_, fun _ => pe_dnewK, fun G B F H al rh si mu Qd Q s h q => fun p hp => by
  have c : CRep K F al (.dk []) (.dK []) := .dk .nil (by simp)
  have x := SRS.ownX (F := F) (al := al) (p := p)
  exact q _ _ _ _ _ _ x (s.step x (s.s.own hp c)) (.loc s.s.atNew) h⟩
theorem ve_dnewT : VE Y K (.Dict [] [] pos) wDNewT := ⟨_, fun _ => pe_dnewT, fun G B F H al rh si mu Qd Q s h q => fun p hp => by
  have c : CRep K F al (.dt []) (.dT []) := .dt .nil (by simp)
  have x := SRS.ownX (F := F) (al := al) (p := p)
  exact q _ _ _ _ _ _ x (s.step x (s.s.own hp c)) (.loc s.s.atNew) h⟩
end
@[simp] theorem atI_comp {A1 : Type} (f : A1 → D) (xs : List A1) (i : Int) : atI (xs.map (W.d ∘ f)) i = (atI (xs.map f) i).map W.d := by
  unfold atI
  simp only [List.length_map]
  cases ixN xs.length i with
  | none => rfl
  | some j =>
    show (xs.map (W.d ∘ f))[j]? = ((xs.map f)[j]?).map W.d
    simp [Function.comp_def]
@[simp] theorem len_sign (c : Nat) : Str.length ⟨#[c]⟩ = 1 := rfl
theorem ite_of {c : Prop} [Decidable c] {a b : Prop} (h1 : c → a) (h2 : ¬ c → b) : if c then a else b := by
  by_cases h : c
  · rw [if_pos h]; exact h1 h
  · rw [if_neg h]; exact h2 h
theorem sum_ints {ns : List Int} {mu : Sto} {Q : W → Sto → Prop} (h : Q (.d (.int ns.sum)) mu) : fSum mu [.d (.lst (ns.map D.int))] Q := ⟨ns, rfl, h⟩
theorem sw_cell {elt : Expr} {gs : List Comprehension} {scope : Scope} {pos py : Pos} {y : Str} {l : Nat} {env : Env} (hk : env.scope.kind = .function) (hy : env.scope.names.lookup y = some .cell) : swapsWith (.ListComp elt gs scope pos) (some (.Name y py)) l env = pure false := by
  have ky : env.kindOf y = some .cell := hy
  have hb : env.blockKind = .function := by unfold Env.blockKind; rw [hk]; rfl
  unfold swapsWith
  simp only [hb, ky]
  rfl
end VL
namespace VL
open PySem PySem.Spec PyProof.Rows L2 RZ
@[simp] def p__law_cell_at : D → D → (W → Sto → Prop) → Prop := fun s k Q => match s, k with
  | .scr ns, .int i => 0 ≤ i ∧ Q (.d (.int (ns.getD i.toNat 0))) []
  | _, _ => False
def w__law_cell_at : WS := (wSeq (wIfS (wTest (wOp (fB0 fun i j => decide (i < j)) (wVar 1) (wCall fLen (wCons (wVar 0) wNil)))) (wRet (wOp fIx (wVar 0) (wVar 1))) wNext)
    (wRet (wC (.int 0))))
@[simp] def sp__law_cell_at : PSp := sp2 p__law_cell_at
theorem v__law_cell_at : ∀ a b Q, p__law_cell_at a b Q → w__law_cell_at (evr Q) (startE ["_law_script", "_law_k"] [.d a, .d b]) [] := by
  intro a b Q h
  unfold p__law_cell_at at h
  split at h
  · rename_i ns i
    obtain ⟨h0, h⟩ := h
    simp [w__law_cell_at]
    split
    · rename_i hl
      exact ⟨_, atI_map (at_getD 0 h0 hl), h⟩
    · rename_i hl
      simpa [List.getD_eq_getElem?_getD, List.getElem?_eq_none (show ns.length ≤ i.toNat by omega)] using h
  · exact h.elim
/-! words -/
def AZ : Str := Str.ofString "abcdefghijklmnopqrstuvwxyz"
theorem az_list : (Str.ofString "abcdefghijklmnopqrstuvwxyz").cps.toList = (List.range 26).map (97 + ·) := by decide +kernel
theorem az_at (n : Int) : atI (Str.ofString "abcdefghijklmnopqrstuvwxyz").cps.toList (n % 26) = some (97 + (n % 26).toNat) := by
  rw [az_list, at_nat (by omega) (by simp; omega)]
  have : (n % 26).toNat < 26 := by omega
  simp [this]
def goodW (w : Str) : Prop := 1 ≤ w.length ∧ w.length ≤ 8 ∧ ∀ c ∈ w.cps.toList, 97 ≤ c ∧ c ≤ 122
theorem low_ok {w : Str} (h : ∀ c ∈ w.cps.toList, 97 ≤ c ∧ c ≤ 122) (l : w.length ≤ 1000) : StrOk w := by
  refine ⟨?_, by rw [sizeLine_eq]; omega⟩
  unfold PyData.strOk
  rw [Array.all_eq_true']
  intro c hc
  have := h c (by simpa using hc)
  simp
  omega
theorem goodW.ok {w : Str} (h : goodW w) : StrOk w := low_ok h.2.2 (by have := h.2.1; omega)
def wordsD (ws : List Str) : List D := ws.map D.str
@[simp] def p__law_words : D → D → (W → Sto → Prop) → Prop := fun a b Q => match a, b with
  | .int _, .int m => 2 ≤ m ∧ m ≤ 20 ∧ ∀ ws : List Str, ws.length = m.toNat → (∀ w ∈ ws, goodW w) → ws.Nodup → Q (.loc 0) [.lst (ws.map D.str)]
  | _, _ => False
/-- the number of the j-th sign of the k-th word -/
def wNum (c at' k : Int) (j : Nat) : Int := c / 49 / (j + 1) + j * j + (if (j : Int) = at' then k else 0)
def wCps (c at' k : Int) (n : Nat) : List Nat := (List.range n).map fun j => 97 + (wNum c at' k j % 26).toNat
def wStr (c at' k : Int) (n : Nat) : Str := ⟨(wCps c at' k n).toArray⟩
theorem wStr_len (c a k : Int) (n : Nat) : (wStr c a k n).length = n := by simp [wStr, wCps, Str.length]
theorem wStr_low (c a k : Int) (n : Nat) : ∀ x ∈ (wStr c a k n).cps.toList, 97 ≤ x ∧ x ≤ 122 := by
  intro x hx
  simp [wStr, wCps] at hx
  obtain ⟨j, _, rfl⟩ := hx
  omega
theorem wStr_succ (c a k : Int) (n : Nat) : wStr c a k n ++ ⟨#[97 + (wNum c a k n % 26).toNat]⟩ = wStr c a k (n + 1) := by
  show Str.mk _ = Str.mk _
  congr 1
  simp [wStr, wCps, List.range_succ]
theorem wStr_zero (c a k : Int) : wStr c a k 0 = Str.ofString "" := rfl
theorem wStr_ne {c a k k' : Int} {n : Nat} (ha : 0 ≤ a) (hn : a < n) (hk : 0 ≤ k) (hk' : 0 ≤ k') (h : k < 26) (h' : k' < 26) (e : wStr c a k n = wStr c a k' n) : k = k' := by
  have e1 := congrArg (fun z : Str => z.cps.toList[a.toNat]?) e
  have : a.toNat < n := by omega
  have ea : ((a.toNat : Nat) : Int) = a := by omega
  simp [wStr, wCps, this] at e1
  unfold wNum at e1
  rw [ea] at e1
  simp at e1
  omega
theorem goodW_w {c a k : Int} {n : Nat} (h : 1 ≤ n) (h' : n ≤ 8) : goodW (wStr c a k n) := ⟨by rw [wStr_len]; exact h, by rw [wStr_len]; exact h', wStr_low _ _ _ _⟩
theorem nodup_set {A1 : Type} {y : A1} : ∀ {xs : List A1}, xs.Nodup → y ∉ xs → ∀ i, (xs.set i y).Nodup
  | [], _, _, _ => by simp
  | x :: xs, h, hy, 0 => by
    rw [List.set_cons_zero, List.nodup_cons]
    exact ⟨fun hm => hy (List.mem_cons_of_mem _ hm), (List.nodup_cons.mp h).2⟩
  | x :: xs, h, hy, i + 1 => by
    rw [List.set_cons_succ, List.nodup_cons]
    refine ⟨fun hm => ?_, nodup_set (List.nodup_cons.mp h).2 (fun hm => hy (List.mem_cons_of_mem _ hm)) i⟩
    rcases List.mem_or_eq_of_mem_set hm with hm | rfl
    · exact (List.nodup_cons.mp h).1 hm
    · exact hy List.mem_cons_self
def w__law_words : WS := (wSeq (wAsg (wC (.str "abcdefghijklmnopqrstuvwxyz")) (wgName 2))
    (wSeq (wAsg (wOp (fI CR0 gMod) (wVar 0) (wOp (fI CPow fun i j => i ^ j.toNat) (wC (.int 10)) (wC (.int 12)))) (wgName 0))
    (wSeq (wAsg (wOp (fAdd false) (wC (.int 1)) (wOp (fI CR0 gMod) (wVar 0) (wC (.int 7)))) (wgName 3))
    (wSeq (wAsg (wOp (fI CR0 gMod) (wOp (fI CD gDiv) (wVar 0) (wC (.int 7))) (wVar 3)) (wgName 4))
    (wSeq (wAsg (wLst true wNil) (wgName 5))
    (wSeq (wFor (wRng1 (wCons (wVar 1) wNil)) (wgName 6) (wSeq (wAsg (wC (.str "")) (wgName 7))
    (wSeq (wFor (wRng1 (wCons (wVar 3) wNil)) (wgName 8) (wSeq (wAsg (wOp (fAdd false) (wOp (fI CD gDiv) (wOp (fI CD gDiv) (wVar 0) (wC (.int 49))) (wOp (fAdd false) (wVar 8) (wC (.int 1)))) (wOp (fMul false) (wVar 8) (wVar 8))) (wgName 9))
    (wSeq (wIfS (wTest (wOp (fEq false) (wVar 8) (wVar 4))) (wAug (fI0 fun a b => a + b) 9 (wVar 6)) wNext)
    (wAsg (wOp (fAdd false) (wVar 7) (wOp fIx (wVar 2) (wOp (fI CR0 gMod) (wVar 9) (wC (.int 26))))) (wgName 7)))))
    (wDrop (wBM fApp (wVar 5) (wCons (wVar 7) wNil))))))
    (wSeq (wIfS (wTest (wOp (fEq false) (wOp (fI CR0 gMod) (wOp (fI CD gDiv) (wVar 0) (wC (.int 49))) (wC (.int 3))) (wC (.int 1)))) (wAsg (wOp (fAdd false) (wOp fIx (wVar 5) (wC (.int 0))) (wOp fIx (wVar 2) (wOp (fI CR0 gMod) (wOp (fI CD gDiv) (wVar 0) (wC (.int 147))) (wC (.int 26))))) (wgSub fSetL (wVar 5) (wC (.int 1)))) wNext)
    (wRet (wVar 5)))))))))
@[simp] def sp__law_words : PSp := sp2 p__law_words
theorem v__law_words : ∀ a b Q, p__law_words a b Q → w__law_words (evr Q) (startE ["_law_cell", "_law_many", "_law_letters", "_law_size", "_law_at", "_law_words_here", "_law_k", "_law_word", "_law_j", "_law_number"] [.d a, .d b]) [] := by
  intro a b Q h
  unfold p__law_words at h
  split at h
  · rename_i c0 m
    obtain ⟨h0, h1, h⟩ := h
    simp [w__law_words, sizeLine_eq]
    refine ⟨by omega, by omega, ?_⟩
    generalize (c0 % 1000000000000 : Int) = c at *
    obtain ⟨n, en, n1, n2⟩ : ∃ n : Nat, (1 + c % 7 : Int) = n ∧ 1 ≤ n ∧ n ≤ 7 := ⟨(1 + c % 7 : Int).toNat, by omega, by omega, by omega⟩
    rw [en]
    have hn0 : (0 : Int) < n := by omega
    rw [gMod_pos hn0]
    have a0 := Int.emod_nonneg (c / 7) (b := (n : Int)) (by omega)
    have a1 := Int.emod_lt_of_pos (c / 7) hn0
    generalize c / 7 % (n : Int) = at' at *
    obtain ⟨m', rfl⟩ : ∃ m' : Nat, m = m' := ⟨m.toNat, by omega⟩
    simp only [Int.toNat_natCast] at h ⊢
    have gw : ∀ k : Int, goodW (wStr c at' k n) := fun k => goodW_w n1 (by omega)
    refine ⟨by omega, forL_rng (fun i rh mu => mu = [C.lst (((List.range i).map fun k => wStr c at' (k : Nat) n).map D.str)] ∧ ∃ (x1 x2 x3 x4 : Option W), rh = [some (W.d (D.int c)), some (W.d (D.int m')), some (W.d (D.str (Str.ofString "abcdefghijklmnopqrstuvwxyz"))),
        some (W.d (D.int n)), some (W.d (D.int at')), some (W.loc 0), x1, x2, x3, x4]) (fun _ _ _ _ => trivial) ?_ ?_ ⟨rfl, _, _, _, _, rfl⟩⟩
    · rintro _ _ ⟨rfl, x1, x2, x3, x4, rfl⟩
      have nd : ((List.range m').map fun k => wStr c at' (k : Nat) n).Nodup := by
        rw [List.Nodup, List.pairwise_map]
        refine List.Pairwise.imp_of_mem (R := (· ≠ ·)) (fun {x y} hx hy hxy e => hxy ?_) List.nodup_range
        have hx' := List.mem_range.mp hx
        have hy' := List.mem_range.mp hy
        have := wStr_ne a0 a1 (by omega) (by omega) (by omega) (by omega) e
        omega
      have gd : ∀ w ∈ (List.range m').map fun k => wStr c at' (k : Nat) n, goodW w := fun w hw => by
        obtain ⟨k, _, rfl⟩ := List.mem_map.mp hw; exact gw _
      have i0 : ((List.range m').map fun k => wStr c at' (k : Nat) n)[0]? = some (wStr c at' 0 n) := by
        rw [List.getElem?_map, List.getElem?_range (by omega)]; rfl
      have il : ((List.range m').map fun k => wStr c at' (k : Nat) n).length = m' := by simp
      have il2 : ∀ w ∈ (List.range m').map fun k => wStr c at' (k : Nat) n, w.length = n := fun w hw => by
        obtain ⟨k, _, rfl⟩ := List.mem_map.mp hw; exact wStr_len _ _ _ _
      generalize ((List.range m').map fun k => wStr c at' (k : Nat) n) = ws at *
      have at0 : atI (ws.map D.str) 0 = some (.str (wStr c at' 0 n)) := by
        rw [at_nat (by omega) (by simp; omega)]; simp [i0]
      have ix1 : ixN ws.length 1 = some 1 := by
        unfold ixN; rw [if_pos (by omega), if_pos (by omega)]; rfl
      simp [at0, az_at, ix1, sizeLine_eq, wStr_len]
      split
      · refine ⟨by omega, ?_⟩
        have l1 : (wStr c at' 0 n ++ ⟨#[97 + (c / 147 % 26).toNat]⟩ : Str).length = n + 1 := by
          show ((wStr c at' 0 n).cps ++ #[97 + (c / 147 % 26).toNat]).size = _
          simp [Str.length] at *
          have := wStr_len c at' 0 n
          simp [Str.length] at this
          omega
        have q := h (ws.set 1 (wStr c at' 0 n ++ ⟨#[97 + (c / 147 % 26).toNat]⟩)) (by simp; exact il) (fun w hw => ?_) (nodup_set nd (fun hm => ?_) 1)
        · rw [List.map_set] at q; exact q
        · rcases List.mem_or_eq_of_mem_set hw with hw | rfl
          · exact gd w hw
          · refine ⟨by omega, by omega, fun x hx => ?_⟩
            have hx : x ∈ (wStr c at' 0 n).cps.toList ++ [97 + (c / 147 % 26).toNat] := by
              have : (wStr c at' 0 n ++ ⟨#[97 + (c / 147 % 26).toNat]⟩ : Str).cps.toList = (wStr c at' 0 n).cps.toList ++ [97 + (c / 147 % 26).toNat] := by
                show ((wStr c at' 0 n).cps ++ #[97 + (c / 147 % 26).toNat]).toList = _
                simp
              rw [this] at hx; exact hx
            rcases List.mem_append.mp hx with hx | hx
            · exact wStr_low _ _ _ _ x hx
            · rw [List.mem_singleton.mp hx]; omega
        · have := il2 _ hm; omega
      · exact h ws il gd nd
    · rintro k hk _ _ ⟨rfl, x1, x2, x3, x4, rfl⟩ N hN
      simp
      refine ⟨by omega, forL_rng (fun j rh mu => mu = [C.lst ((List.range k).map (D.str ∘ fun k => wStr c at' (k : Nat) n))] ∧ ∃ (x3 x4 : Option W), rh = [some (W.d (D.int c)), some (W.d (D.int m')), some (W.d (D.str (Str.ofString "abcdefghijklmnopqrstuvwxyz"))),
        some (W.d (D.int n)), some (W.d (D.int at')), some (W.loc 0), some (.d (.int k)), some (.d (.str (wStr c at' k j))), x3, x4]) (fun _ _ _ _ => trivial) ?_ ?_ ⟨rfl, _, _, rfl⟩⟩
      · rintro _ _ ⟨rfl, x3, x4, rfl⟩
        simp [sizeLine_eq]
        refine ⟨by omega, hN _ _ ⟨?_, _, _, _, _, rfl⟩⟩
        simp [List.range_succ]
      · rintro j hj _ _ ⟨rfl, x3, x4, rfl⟩ N' hN'
        have c3 : CM (j : Int) j := CM_r (by omega) (by omega)
        have j1 : (0 : Int) < j + 1 := by omega
        have cd : CD (c / 49) ((j : Int) + 1) := CD_of (by omega) (by omega)
        simp [c3, j1, cd, az_at, wStr_len, sizeLine_eq, gDiv_pos j1]
        have e := wStr_succ c at' k j
        unfold wNum at e
        split
        · rename_i hb
          rw [if_pos hb] at e
          rw [e]
          exact ⟨by omega, hN' _ _ ⟨rfl, _, _, rfl⟩⟩
        · rename_i hb
          rw [if_neg hb, Int.add_zero] at e
          rw [e]
          exact ⟨by omega, hN' _ _ ⟨rfl, _, _, rfl⟩⟩
  · exact h.elim
/-! operands, keys, rows -/
@[simp] theorem strs_inj {ws vs : List Str} : (ws.map D.str = vs.map D.str) ↔ ws = vs := by
  constructor
  · intro h
    exact List.map_inj_right (f := D.str) (fun _ _ e => by injection e) |>.mp h
  · rintro rfl; rfl
def OperD (ws : List Str) (d : D) : Prop := (∃ x, x ∈ ws.take 4 ∧ d = .str x) ∨ ∃ n : Int, -1000000000000000000000000000000 ≤ n ∧ n < 1000000000000000000000000000000 ∧ d = .int n
def KeyD (ws : List Str) (d : D) : Prop := (∃ x, x ∈ ws.take 2 ∧ d = .str (Str.ofString "." ++ x)) ∨ OperD ws d
theorem at_word {ws : List Str} {i : Int} {n : Nat} (h0 : 0 ≤ i) (h1 : i < n) (hn : n ≤ ws.length) : ∃ x, x ∈ ws.take n ∧ atI (ws.map D.str) i = some (.str x) := by
  refine ⟨ws[i.toNat]'(by omega), ?_, ?_⟩
  · rw [List.mem_take_iff_getElem]
    exact ⟨i.toNat, by omega, rfl⟩
  · rw [at_nat h0 (by simp; omega)]
    have : i.toNat < ws.length := by omega
    simp [this]
@[simp] def p__law_operand : D → D → (W → Sto → Prop) → Prop := fun a b Q => match a, b with
  | .int n, .lst ds => ∃ ws : List Str, ds = ws.map D.str ∧ -100000000000000000000000000000000000000000000000000 ≤ n ∧ n ≤ 100000000000000000000000000000000000000000000000000 ∧ 4 ≤ ws.length ∧ ∀ d, OperD ws d → Q (.d d) []
  | _, _ => False
def w__law_operand : WS := (wSeq (wIfS (wTest (wOp (fB0 fun i j => decide (j < i)) (wOp (fI CR0 gMod) (wVar 0) (wC (.int 3))) (wC (.int 0)))) (wRet (wOp fIx (wVar 1) (wOp (fI CR0 gMod) (wOp (fI CD gDiv) (wVar 0) (wC (.int 3))) (wC (.int 4))))) wNext)
    (wSeq (wIfS (wTest (wOp (fEq false) (wOp (fI CR0 gMod) (wVar 0) (wC (.int 15))) (wC (.int 0)))) (wRet (wOp (fI0 fun i j => i - j) (wOp (fI CR0 gMod) (wOp (fAdd false) (wOp (fMul false) (wOp (fMul false) (wVar 0) (wC (.int 1000003))) (wOp (fI CPow fun i j => i ^ j.toNat) (wC (.int 10)) (wC (.int 20)))) (wVar 0)) (wOp (fMul false) (wC (.int 2)) (wOp (fI CPow fun i j => i ^ j.toNat) (wC (.int 10)) (wC (.int 30))))) (wOp (fI CPow fun i j => i ^ j.toNat) (wC (.int 10)) (wC (.int 30))))) wNext)
    (wRet (wOp (fI0 fun i j => i - j) (wOp (fI CR0 gMod) (wOp (fI CD gDiv) (wVar 0) (wC (.int 3))) (wC (.int 9))) (wC (.int 4))))))
@[simp] def sp__law_operand : PSp := sp2 p__law_operand
theorem v__law_operand : ∀ a b Q, p__law_operand a b Q → w__law_operand (evr Q) (startE ["_law_number", "_law_words_here"] [.d a, .d b]) [] := by
  intro a b Q h
  unfold p__law_operand at h
  split at h
  · rename_i n ds
    obtain ⟨ws, rfl, b0, b1, h0, h⟩ := h
    have cm : CM (n * 1000003) 100000000000000000000 := by
      rw [CM_lit2 (by omega) (by omega) (by omega) (by omega)]; trivial
    simp [w__law_operand, cm]
    split
    · obtain ⟨x, hx, e⟩ := at_word (ws := ws) (i := n / 3 % 4) (n := 4) (by omega) (by omega) h0
      simp [e]
      exact h _ (.inl ⟨x, hx, rfl⟩)
    · split
      · refine h _ (.inr ⟨_, ?_, ?_, rfl⟩) <;> omega
      · refine h _ (.inr ⟨_, ?_, ?_, rfl⟩) <;> omega
  · exact h.elim
@[simp] def p__law_key : D → D → (W → Sto → Prop) → Prop := fun a b Q => match a, b with
  | .int n, .lst ds => ∃ ws : List Str, ds = ws.map D.str ∧ -100000000000000000000000000000000000000000000000000 ≤ n ∧ n ≤ 100000000000000000000000000000000000000000000000000 ∧ 4 ≤ ws.length ∧ (∀ w ∈ ws, goodW w) ∧ ∀ d, KeyD ws d → Q (.d d) []
  | _, _ => False
def w__law_key : WS := (wSeq (wIfS (wTest (wOp (fEq false) (wOp (fI CR0 gMod) (wVar 0) (wC (.int 2))) (wC (.int 0)))) (wRet (wOp (fAdd true) (wC (.str ".")) (wOp fIx (wVar 1) (wOp (fI CR0 gMod) (wOp (fI CD gDiv) (wVar 0) (wC (.int 2))) (wC (.int 2)))))) wNext)
    (wRet (wCallP true sp__law_operand [] (wCons (wOp (fI CD gDiv) (wVar 0) (wC (.int 2))) (wCons (wVar 1) wNil)))))
@[simp] def sp__law_key : PSp := sp2 p__law_key
theorem v__law_key : ∀ a b Q, p__law_key a b Q → w__law_key (evr Q) (startE ["_law_number", "_law_words_here"] [.d a, .d b]) [] := by
  intro a b Q h
  unfold p__law_key at h
  split at h
  · rename_i n ds
    obtain ⟨ws, rfl, b0, b1, h0, hg, h⟩ := h
    simp [w__law_key]
    split
    · obtain ⟨x, hx, e⟩ := at_word (ws := ws) (i := n / 2 % 2) (n := 2) (by omega) (by omega) (by omega)
      have := (hg x (List.mem_of_mem_take hx)).2.1
      simp [e, sizeLine_eq]
      refine ⟨?_, h _ (.inl ⟨x, hx, rfl⟩)⟩
      show 1 + x.length ≤ 16777216
      omega
    · refine ⟨by omega, by omega, h0, fun d hd => h _ (.inr hd)⟩
  · exact h.elim
/-- the defs that come later: name, parameters -/
def planD (pl : List (Str × List Str)) : List D := pl.map fun p => .tup [.str p.1, .tup (p.2.map D.str)]
def opWords : List String := ["plus", "minus", "times", "over", "rest", "less", "same"]
/-- a row that is no head, no foot -/
inductive Simple (ws : List Str) (pl : List (Str × List Str)) : D → Prop
  | put {n : Str} {op : D} : n ∈ ws.take 4 → OperD ws op → Simple ws pl (.tup [.str "put", .str n, op])
  | doo {n : Str} {a b : D} {o : String} : n ∈ ws.take 4 → OperD ws a → o ∈ opWords → OperD ws b → Simple ws pl (.tup [.str "do", .str n, a, .str o, b])
  | new {n : Str} : n ∈ ws.take 4 → Simple ws pl (.tup [.str "new", .str n])
  | get {n o : Str} {k : D} : n ∈ ws.take 4 → o ∈ ws.take 4 → KeyD ws k → Simple ws pl (.tup [.str "get", .str n, .str o, k])
  | set {o : Str} {k op : D} : o ∈ ws.take 4 → KeyD ws k → OperD ws op → Simple ws pl (.tup [.str "set", .str o, k, op])
  | call {n : Str} {p : Str × List Str} {ops : List D} : n ∈ ws.take 4 → p ∈ pl → ops.length = p.2.length → (∀ d ∈ ops, OperD ws d) → Simple ws pl (.tup [.str "call", .str n, .str p.1, .tup ops])
  | fail {n : Str} : n ∈ (ws.take 6).drop 4 → Simple ws pl (.tup [.str "fail", .str n])
  | skip : Simple ws pl (.tup [.str "skip"])
@[simp] def p__law_call : D → D → D → D → (W → Sto → Prop) → Prop := fun a n b l Q => match a, n, b, l with
  | .int m, .str n, .lst ds, .lst ls => ∃ (ws : List Str) (pl : List (Str × List Str)), ds = ws.map D.str ∧ ls = planD pl ∧ 0 ≤ m ∧ m ≤ 100000000000000000000000000000000000000000000000000 ∧ 4 ≤ ws.length ∧ pl ≠ [] ∧ pl.length ≤ 1000 ∧ (∀ p ∈ pl, p.2.length ≤ 1000) ∧ n ∈ ws.take 4 ∧ ∀ d mu, Simple ws pl d → Q (.d d) mu
  | _, _, _, _ => False
def w__law_call : WS := (wSeq (wAsg (wOp fIx (wVar 3) (wOp (fI CR0 gMod) (wVar 0) (wCall fLen (wCons (wVar 3) wNil)))) (wgTup 2 (wgCons (wgName 4) (wgCons (wgName 5) wgNil))))
    (wSeq (wAsg (wLst true wNil) (wgName 6))
    (wSeq (wFor (wRng1 (wCons (wCall fLen (wCons (wVar 5) wNil)) wNil)) (wgName 7) (wDrop (wBM fApp (wVar 6) (wCons (wCallP false sp__law_operand [] (wCons (wOp (fI CD gDiv) (wVar 0) (wOp (fAdd false) (wCall fLen (wCons (wVar 3) wNil)) (wVar 7))) (wCons (wVar 2) wNil))) wNil))))
    (wRet (wTup (wCons (wC (.str "call")) (wCons (wVar 1) (wCons (wVar 4) (wCons (wCall fTuple (wCons (wVar 6) wNil)) wNil)))))))))
@[simp] def sp__law_call : PSp := sp4 p__law_call
theorem v__law_call : ∀ a b c d Q, p__law_call a b c d Q → w__law_call (evr Q) (startE ["_law_number", "_law_name", "_law_words_here", "_law_later", "_law_other", "_law_parameters", "_law_operands", "_law_k"] [.d a, .d b, .d c, .d d]) [] := by
  intro a b c d Q h
  unfold p__law_call at h
  split at h
  · rename_i m n ds ls
    obtain ⟨ws, pl, rfl, rfl, h0, hB, h1, h2, h3, h4, h5, h⟩ := h
    have pl0 : 0 < pl.length := List.length_pos_iff.mpr h2
    have plN : ¬ planD pl = [] := by intro e; have := congrArg List.length e; simp [planD] at this; exact h2 this
    have ll : (planD pl).length = pl.length := by simp [planD]
    have m1 := Int.emod_nonneg m (b := (pl.length : Int)) (by omega)
    have m2 := Int.emod_lt_of_pos m (b := (pl.length : Int)) (by omega)
    obtain ⟨p, hp, ep⟩ : ∃ p, p ∈ pl ∧ atI (planD pl) (m % (pl.length : Int)) = some (.tup [.str p.1, .tup (p.2.map D.str)]) := by
      obtain ⟨d, e, hd⟩ := at_mem (xs := planD pl) (i := m % (pl.length : Int)) m1 (by rw [ll]; exact m2)
      obtain ⟨p, hp, rfl⟩ := List.mem_map.mp hd
      exact ⟨p, hp, e⟩
    have p1 := h4 p hp
    simp [w__law_call, plN, ll, gMod_pos (show (0 : Int) < pl.length by omega), ep, sizeLine_eq]
    refine ⟨by omega, by omega, forL_rng (fun i rh mu => ∃ (ops : List D) (b : Option W), mu = [C.lst ops] ∧ rh = [some (.d (.int m)), some (.d (.str n)), some (.d (.lst (ws.map D.str))), some (.d (.lst (planD pl))), some (.d (.str p.1)), some (.d (.tup (p.2.map D.str))), some (.loc 0), b] ∧ ops.length = i ∧ ∀ d ∈ ops, OperD ws d) (fun _ _ _ _ => trivial) ?_ ?_ ⟨[], _, rfl, rfl, rfl, by simp⟩⟩
    · rintro _ _ ⟨ops, b, rfl, rfl, ho, hops⟩
      simp [sizeLine_eq]
      exact h _ _ (.call h5 hp ho hops)
    · rintro i hi _ _ ⟨ops, b, rfl, rfl, ho, hops⟩ N hN
      have cd : CD m ((pl.length : Int) + i) := CD_of (by omega) (by omega)
      have q0 : (0 : Int) < (pl.length : Int) + i := by omega
      simp [ll, cd, gDiv_pos q0, sizeLine_eq]
      have e1 := Int.ediv_nonneg h0 (Int.le_of_lt q0)
      have e2 := Int.ediv_le_self ((pl.length : Int) + i) h0
      refine ⟨by omega, by omega, h1, fun d hd => ⟨by omega, hN _ _ ⟨ops ++ [d], _, rfl, rfl, by simp [ho], fun x hx => ?_⟩⟩⟩
      rcases List.mem_append.mp hx with hx | hx
      · exact hops x hx
      · rw [List.mem_singleton.mp hx]; exact hd
  · exact h.elim
theorem plan_nil {pl : List (Str × List Str)} : (planD pl = []) ↔ pl = [] := by simp [planD]
def planOk (pl : List (Str × List Str)) : Prop := pl.length ≤ 1000 ∧ ∀ p ∈ pl, p.2.length ≤ 1000
theorem plan_dep {pl : List (Str × List Str)} : ddeps (planD pl) ≤ 5 := ddeps_le fun x hx => by
  obtain ⟨p, _, rfl⟩ := List.mem_map.mp hx
  have : ddeps (p.2.map D.str) ≤ 0 := ddeps_le fun y hy => by
    obtain ⟨z, _, rfl⟩ := List.mem_map.mp hy; simp
  simp; omega
theorem deqvs_e (xs : List D) : deqvs xs [] = xs.isEmpty := by cases xs <;> simp
@[simp] def p__law_simple : D → D → D → (W → Sto → Prop) → Prop := fun a b l Q => match a, b, l with
  | .int m, .lst ds, .lst ls => ∃ (ws : List Str) (pl : List (Str × List Str)), ds = ws.map D.str ∧ ls = planD pl ∧ 0 ≤ m ∧ m ≤ 100000000000000000000000000000000000000000000000000 ∧ 6 ≤ ws.length ∧ (∀ w ∈ ws, goodW w) ∧ planOk pl ∧ ∀ d mu, Simple ws pl d → Q (.d d) mu
  | _, _, _ => False
def w__law_simple : WS := (wSeq (wAsg (wOp (fI CR0 gMod) (wVar 0) (wC (.int 13))) (wgName 3))
    (wSeq (wAsg (wOp fIx (wVar 1) (wOp (fI CR0 gMod) (wOp (fI CD gDiv) (wVar 0) (wC (.int 13))) (wC (.int 4)))) (wgName 4))
    (wSeq (wAsg (wOp fIx (wVar 1) (wOp (fI CR0 gMod) (wOp (fI CD gDiv) (wVar 0) (wC (.int 52))) (wC (.int 4)))) (wgName 5))
    (wSeq (wAsg (wOp (fI CD gDiv) (wVar 0) (wC (.int 208))) (wgName 6))
    (wSeq (wIfS (wTest (wOp (fB0 fun i j => decide (i < j)) (wVar 3) (wC (.int 2)))) (wRet (wTup (wCons (wC (.str "put")) (wCons (wVar 4) (wCons (wCallP false sp__law_operand [] (wCons (wVar 6) (wCons (wVar 1) wNil))) wNil))))) wNext)
    (wSeq (wIfS (wTest (wOp (fB0 fun i j => decide (i < j)) (wVar 3) (wC (.int 5)))) (wSeq (wAsg (wOp fIx (wLst false (wCons (wC (.str "plus")) (wCons (wC (.str "minus")) (wCons (wC (.str "times")) (wCons (wC (.str "over")) (wCons (wC (.str "rest")) (wCons (wC (.str "less")) (wCons (wC (.str "same")) wNil)))))))) (wOp (fI CR0 gMod) (wVar 6) (wC (.int 7)))) (wgName 7))
    (wRet (wTup (wCons (wC (.str "do")) (wCons (wVar 4) (wCons (wCallP false sp__law_operand [] (wCons (wOp (fI CD gDiv) (wVar 6) (wC (.int 7))) (wCons (wVar 1) wNil))) (wCons (wVar 7) (wCons (wCallP false sp__law_operand [] (wCons (wOp (fI CD gDiv) (wVar 6) (wC (.int 420))) (wCons (wVar 1) wNil))) wNil)))))))) wNext)
    (wSeq (wIfS (wTest (wOp (fEq false) (wVar 3) (wC (.int 5)))) (wRet (wTup (wCons (wC (.str "new")) (wCons (wVar 4) wNil)))) wNext)
    (wSeq (wIfS (wTest (wOp (fB0 fun i j => decide (i < j)) (wVar 3) (wC (.int 8)))) (wRet (wTup (wCons (wC (.str "get")) (wCons (wVar 4) (wCons (wVar 5) (wCons (wCallP false sp__law_key [] (wCons (wVar 6) (wCons (wVar 1) wNil))) wNil)))))) wNext)
    (wSeq (wIfS (wTest (wOp (fB0 fun i j => decide (i < j)) (wVar 3) (wC (.int 10)))) (wRet (wTup (wCons (wC (.str "set")) (wCons (wVar 5) (wCons (wCallP false sp__law_key [] (wCons (wVar 6) (wCons (wVar 1) wNil))) (wCons (wCallP false sp__law_operand [] (wCons (wOp (fI CD gDiv) (wVar 6) (wC (.int 90))) (wCons (wVar 1) wNil))) wNil)))))) wNext)
    (wSeq (wIfS (wAnd (wTest (wOp (fEq false) (wVar 3) (wC (.int 10)))) (wTest (wOp (fEq true) (wVar 2) (wLst false wNil)))) (wRet (wCallP true sp__law_call [] (wCons (wVar 6) (wCons (wVar 4) (wCons (wVar 1) (wCons (wVar 2) wNil)))))) wNext)
    (wSeq (wIfS (wAnd (wTest (wOp (fEq false) (wVar 3) (wC (.int 11)))) (wTest (wOp (fEq false) (wOp (fI CR0 gMod) (wVar 6) (wC (.int 3))) (wC (.int 0))))) (wRet (wTup (wCons (wC (.str "fail")) (wCons (wOp fIx (wVar 1) (wOp (fAdd false) (wC (.int 4)) (wOp (fI CR0 gMod) (wOp (fI CD gDiv) (wVar 6) (wC (.int 3))) (wC (.int 2))))) wNil)))) wNext)
    (wSeq (wIfS (wAnd (wTest (wOp (fEq false) (wVar 3) (wC (.int 12)))) (wTest (wOp (fEq false) (wOp (fI CR0 gMod) (wVar 6) (wC (.int 2))) (wC (.int 0))))) (wRet (wTup (wCons (wC (.str "skip")) wNil))) wNext)
    (wRet (wTup (wCons (wC (.str "put")) (wCons (wVar 4) (wCons (wVar 5) wNil)))))))))))))))))
@[simp] def sp__law_simple : PSp := sp3 p__law_simple
theorem v__law_simple : ∀ a b c Q, p__law_simple a b c Q → w__law_simple (evr Q) (startE ["_law_number", "_law_words_here", "_law_later", "_law_kind", "_law_name", "_law_other", "_law_rest", "_law_word"] [.d a, .d b, .d c]) [] := by
  intro a b c Q h
  unfold p__law_simple at h
  split at h
  · rename_i m ds ls
    obtain ⟨ws, pl, rfl, rfl, h0, hB, h1, hg, hp, h⟩ := h
    have h4 : 4 ≤ ws.length := by omega
    obtain ⟨n, hn, en⟩ := at_word (ws := ws) (i := m / 13 % 4) (n := 4) (by omega) (by omega) h4
    obtain ⟨o, ho, eo⟩ := at_word (ws := ws) (i := m / 52 % 4) (n := 4) (by omega) (by omega) h4
    have en' : atI (ws.map (W.d ∘ D.str)) (m / 13 % 4) = some (.d (.str n)) := by rw [atI_comp, en]; rfl
    have b1 : 0 ≤ m / 208 ∧ m / 208 ≤ m := ⟨by omega, by omega⟩
    have oput := h _ [] (.put (n := n) (op := .str o) hn (.inl ⟨o, ho, rfl⟩))
    have oskip := h _ [] (.skip)
    have tail : ∀ (_ : 10 ≤ m % 13), if m % 13 = 11 then
                if m / 208 % 3 = 0 then
                  ∃ d,
                    atI (List.map D.str ws) (4 + m / 208 / 3 % 2) = some d ∧
                      Q (W.d (D.tup [D.str (Str.ofString "fail"), d])) []
                else
                  if m % 13 = 12 then
                    if m / 208 % 2 = 0 then Q (W.d (D.tup [D.str (Str.ofString "skip")])) []
                    else Q (W.d (D.tup [D.str (Str.ofString "put"), D.str n, D.str o])) []
                  else Q (W.d (D.tup [D.str (Str.ofString "put"), D.str n, D.str o])) []
              else
                if m % 13 = 12 then
                  if m / 208 % 2 = 0 then Q (W.d (D.tup [D.str (Str.ofString "skip")])) []
                  else Q (W.d (D.tup [D.str (Str.ofString "put"), D.str n, D.str o])) []
                else Q (W.d (D.tup [D.str (Str.ofString "put"), D.str n, D.str o])) [] := by
      intro _
      split
      · split
        · obtain ⟨j, ej, j0, j1⟩ : ∃ j : Nat, 4 + m / 208 / 3 % 2 = (j : Int) ∧ 4 ≤ j ∧ j < 6 := ⟨(4 + m / 208 / 3 % 2).toNat, by omega, by omega, by omega⟩
          rw [ej]
          refine ⟨.str ws[j], by rw [at_nat (by omega) (by simp; omega)]; simp [show j < ws.length by omega], h _ _ (.fail ?_)⟩
          rw [List.mem_drop_iff_getElem]
          exact ⟨j - 4, by simp; omega, by simp; congr 1; omega⟩
        · split
          · split
            · exact oskip
            · exact oput
          · exact oput
      · split
        · split
          · exact oskip
          · exact oput
        · exact oput
    simp [w__law_simple, en, eo, sizeLine_eq]
    refine ite_of (fun c => ?_) (fun c => ite_of (fun c2 => ?_) (fun c2 => ite_of (fun c3 => ?_) (fun c3 => ite_of (fun c4 => ?_) (fun c4 => ite_of (fun c5 => ?_) (fun c5 => ite_of (fun c6 => ?_) (fun c6 => ?_))))))
    · exact ⟨by omega, by omega, h4, fun d hd => h _ _ (.put hn hd)⟩
    · obtain ⟨d, e, hd⟩ := at_mem (xs := opWords.map fun z => D.str (Str.ofString z)) (i := m / 208 % 7) (by omega) (by simp [opWords]; omega)
      obtain ⟨z, hz, rfl⟩ := List.mem_map.mp hd
      exact ⟨_, e, by omega, by omega, h4, fun a ha => ⟨by omega, by omega, h4, fun b hb => h _ _ (.doo hn ha hz hb)⟩⟩
    · exact h _ _ (.new hn)
    · exact ⟨by omega, by omega, h4, hg, fun d hd => h _ _ (.get hn ho hd)⟩
    · exact ⟨by omega, by omega, h4, hg, fun d hd => ⟨by omega, by omega, h4, fun op hop => h _ _ (.set ho hd hop)⟩⟩
    · refine ⟨Nat.le_trans plan_dep (by decide), ?_⟩
      rw [deqvs_e]
      refine ite_of (fun he => tail (by omega)) (fun he => ?_)
      refine ⟨pl, rfl, by omega, by omega, h4, ?_, hp.1, ?_, hn, fun d mu hd => h _ _ hd⟩
      · rintro rfl; simp [planD] at he
      · exact fun a b hab => hp.2 (a, b) hab
    · exact tail (by omega)
  · exact h.elim
/-- a plan: which defs there are -/
structure PlanIn (ws : List Str) (pl : List (Str × List Str)) : Prop where
  pos : 1 ≤ pl.length
  few : pl.length ≤ 3
  nm : ∀ (i : Nat) (p : Str × List Str), pl[i]? = some p → ws[i]? = some p.1
  ps : ∀ p ∈ pl, p.2.length ≤ 2 ∧ (∀ x ∈ p.2, x ∈ ws.take 4) ∧ p.2.Nodup
theorem PlanIn.ok {ws : List Str} {pl : List (Str × List Str)} (h : PlanIn ws pl) : planOk pl := ⟨by have := h.few; omega, fun p hp => by have := (h.ps p hp).1; omega⟩
@[simp] def p__law_plan : D → D → (W → Sto → Prop) → Prop := fun a b Q => match a, b with
  | .int _, .lst ds => ∃ ws : List Str, ds = ws.map D.str ∧ 4 ≤ ws.length ∧ ws.Nodup ∧ ∀ pl, PlanIn ws pl → Q (.loc 0) [.lst (planD pl)]
  | _, _ => False
def w__law_plan : WS := (wSeq (wAsg (wOp (fI CR0 gMod) (wVar 0) (wOp (fI CPow fun i j => i ^ j.toNat) (wC (.int 10)) (wC (.int 9)))) (wgName 2))
    (wSeq (wAsg (wLst true wNil) (wgName 3))
    (wSeq (wFor (wRng1 (wCons (wOp (fAdd false) (wC (.int 1)) (wOp (fI CR0 gMod) (wVar 2) (wC (.int 3)))) wNil)) (wgName 4) (wSeq (wAsg (wOp (fI CR0 gMod) (wOp (fAdd false) (wOp (fAdd false) (wOp (fMul false) (wVar 2) (wVar 2)) (wOp (fMul false) (wC (.int 48271)) (wVar 2))) (wVar 4)) (wC (.int 2147483647))) (wgName 2))
    (wSeq (wAsg (wLc false (wRng1 (wCons (wOp (fI CR0 gMod) (wVar 2) (wC (.int 3))) wNil)) (wgName 6) wYes (wOp fIx (wVar 1) (wOp (fI CR0 gMod) (wOp (fAdd false) (wOp (fI CD gDiv) (wVar 2) (wC (.int 3))) (wVar 6)) (wC (.int 4)))) [6]) (wgName 5))
    (wDrop (wBM fApp (wVar 3) (wCons (wTup (wCons (wOp fIx (wVar 1) (wVar 4)) (wCons (wCall fTuple (wCons (wVar 5) wNil)) wNil))) wNil))))))
    (wRet (wVar 3)))))
@[simp] def sp__law_plan : PSp := sp2 p__law_plan
theorem v__law_plan : ∀ a b Q, p__law_plan a b Q → w__law_plan (evr Q) (startE ["_law_cell", "_law_words_here", "_law_number", "_law_plan_here", "_law_k", "_law_parameters", "_law_j"] [.d a, .d b]) [] := by
  intro a b Q h
  unfold p__law_plan at h
  split at h
  · rename_i c ds
    obtain ⟨ws, rfl, h4, hnd, h⟩ := h
    obtain ⟨m, em, m0, m1⟩ : ∃ m : Nat, (1 + c % 1000000000 % 3 : Int) = m ∧ 1 ≤ m ∧ m ≤ 3 := ⟨(1 + c % 1000000000 % 3 : Int).toNat, by omega, by omega, by omega⟩
    simp [w__law_plan, sizeLine_eq, em]
    refine ⟨by omega, forL_rng (fun k rh mu => ∃ (pl : List (Str × List Str)) (n : Int) (x1 x2 x3 : Option W), 0 ≤ n ∧ n < 2147483647 ∧ mu = [C.lst (planD pl)] ∧ rh = [some (.d (.int c)), some (.d (.lst (ws.map D.str))), some (.d (.int n)), some (.loc 0), x1, x2, x3] ∧
      pl.length = k ∧ (∀ (i : Nat) (p : Str × List Str), pl[i]? = some p → ws[i]? = some p.1) ∧ ∀ p ∈ pl, p.2.length ≤ 2 ∧ (∀ x ∈ p.2, x ∈ ws.take 4) ∧ p.2.Nodup) (fun _ _ _ _ => trivial) ?_ ?_ ⟨[], c % 1000000000, _, _, _, by omega, by omega, rfl, rfl, rfl, by simp, by simp⟩⟩
    · rintro _ _ ⟨pl, n, x1, x2, x3, n0, n1, rfl, rfl, e1, e2, e3⟩
      simp
      exact h pl ⟨by omega, by omega, e2, e3⟩
    · rintro k hk _ _ ⟨pl, n, x1, x2, x3, n0, n1, rfl, rfl, e1, e2, e3⟩ N hN
      have c1 : CM n n := CM_r (by omega) (by omega)
      have v0 : 0 ≤ (n * n + 48271 * n + (k : Int)) % 2147483647 := by omega
      have v1 : (n * n + 48271 * n + (k : Int)) % 2147483647 < 2147483647 := by omega
      have lk : k < ws.length := by omega
      have wk : atI (ws.map D.str) (k : Int) = some (.str ws[k]) := by
        rw [at_nat (by omega) (by simp; omega)]; simp [lk]
      have lp : (planD pl).length = k := by simp [planD, e1]
      have wj : ∀ j : Nat, j < 4 → ∃ x, x ∈ ws.take 4 ∧ atI (ws.map D.str) (j : Int) = some (.str x) ∧ ws[j]? = some x := fun j hj => by
        refine ⟨ws[j]'(by omega), ?_, ?_, by simp [show j < ws.length by omega]⟩
        · rw [List.mem_take_iff_getElem]; exact ⟨j, by omega, rfl⟩
        · rw [at_nat (by omega) (by simp; omega)]; simp [show j < ws.length by omega]
      simp [c1, sizeLine_eq]
      generalize (n * n + 48271 * n + (k : Int)) % 2147483647 = v at *
      obtain ⟨j0, ej0, hj0⟩ : ∃ j : Nat, v / 3 % 4 = (j : Int) ∧ j < 4 := ⟨(v / 3 % 4).toNat, by omega, by omega⟩
      obtain ⟨j1, ej1, hj1⟩ : ∃ j : Nat, (v / 3 + 1) % 4 = (j : Int) ∧ j < 4 := ⟨((v / 3 + 1) % 4).toNat, by omega, by omega⟩
      obtain ⟨x0, t0, a0, g0⟩ := wj j0 hj0
      obtain ⟨x1, t1, a1, g1⟩ := wj j1 hj1
      have hne : x0 ≠ x1 := by
        rintro rfl
        have this := List.pairwise_iff_getElem.mp hnd
        obtain ⟨l0, g0⟩ := List.getElem?_eq_some_iff.mp g0
        obtain ⟨l1, g1⟩ := List.getElem?_eq_some_iff.mp g1
        rcases Nat.lt_or_gt_of_ne (show j0 ≠ j1 by omega) with q | q
        · exact this j0 j1 l0 l1 q (by rw [g0, g1])
        · exact this j1 j0 l1 l0 q (by rw [g0, g1])
      have fin : ∀ (qs : List Str) (x2 x3 : Option W), qs.length ≤ 2 → (∀ x ∈ qs, x ∈ ws.take 4) → qs.Nodup → N [some (.d (.int c)), some (.d (.lst (ws.map D.str))), some (.d (.int v)), some (.loc 0), some (.d (.int k)), x2, x3] [C.lst (planD pl ++ [.tup [.str ws[k], .tup (qs.map D.str)]])] := fun qs x2 x3 q1 q2 q3 => by
        refine hN _ _ ⟨pl ++ [(ws[k], qs)], v, _, _, _, v0, v1, by simp [planD], rfl, by simp [e1], fun i p hp => ?_, fun p hp => ?_⟩
        · by_cases q : i < pl.length
          · rw [List.getElem?_append_left q] at hp; exact e2 i p hp
          · have hl := (List.getElem?_eq_some_iff.mp hp).1
            simp at hl
            obtain rfl : i = pl.length := by omega
            simp at hp
            subst hp
            subst e1
            simp
        · rcases List.mem_append.mp hp with hp | hp
          · exact e3 p hp
          · rw [List.mem_singleton.mp hp]; exact ⟨q1, q2, q3⟩
      have h3 : v % 3 = 0 ∨ v % 3 = 1 ∨ v % 3 = 2 := by omega
      rcases h3 with e | e | e
      · simp [e, rngW, wk, lp]
        exact ⟨by omega, fin [] _ _ (by simp) (by simp) (by simp)⟩
      · simp [e, rngW, wk, lp, ej0, a0]
        exact ⟨by omega, fin [x0] _ _ (by simp) (by simpa using t0) (by simp)⟩
      · simp [e, rngW, wk, lp, ej0, a0, ej1, a1]
        exact ⟨by omega, fin [x0, x1] _ _ (by simp) (by simp; exact ⟨t0, t1⟩) (by simp; exact hne)⟩
  · exact h.elim
/-- the rows of a body so far; the blocks that are open -/
inductive Part (ws : List Str) (pl : List (Str × List Str)) : List String → List D → Prop
  | nil : Part ws pl [] []
  | row {st : List String} {rs : List D} {r : D} : Part ws pl st rs → Simple ws pl r → Part ws pl st (rs ++ [r])
  | opIf {st : List String} {rs : List D} {op : D} : Part ws pl st rs → OperD ws op → Part ws pl (st ++ ["if"]) (rs ++ [.tup [.str "if", op]])
  | opWhile {st : List String} {rs : List D} {op : D} : Part ws pl st rs → OperD ws op → Part ws pl (st ++ ["while"]) (rs ++ [.tup [.str "while", op]])
  | els {st : List String} {rs : List D} : Part ws pl (st ++ ["if"]) rs → Part ws pl (st ++ ["else"]) (rs ++ [.tup [.str "else"]])
  | cls {st : List String} {rs : List D} {w : String} : Part ws pl (st ++ [w]) rs → Part ws pl st (rs ++ [.tup [.str "end"]])
def stD (st : List String) : List D := st.map fun z => .str (Str.ofString z)
def lay1 (rs : List D) (st : List String) (mu : Sto) (i j : Nat) : Sto := (mu.set i (.lst rs)).set j (.lst (stD st))
@[simp] def p__law_lay : W → W → W → W → W → Sto → (W → Sto → Prop) → Prop := fun a b c d e mu Q => ∃ (i j : Nat) (pre rs : List D) (st : List String) (n : Int) (ws : List Str) (pl : List (Str × List Str)),
  a = .loc i ∧ b = .loc j ∧ c = .d (.int n) ∧ d = .d (.lst (ws.map D.str)) ∧ e = .d (.lst (planD pl)) ∧ i ≠ j ∧ mu[i]? = some (.lst (pre ++ rs)) ∧ mu[j]? = some (.lst (stD st)) ∧
  Part ws pl st rs ∧ pre.length + rs.length ≤ 1000 ∧ st.length ≤ 4 ∧ 6 ≤ ws.length ∧ (∀ w ∈ ws, goodW w) ∧ planOk pl ∧
  ∀ rs' st', Part ws pl st' rs' → rs'.length + st'.length ≤ rs.length + st.length + 3 → st'.length ≤ 4 → Q (.d .non) (lay1 (pre ++ rs') st' mu i j)
theorem set_same {A1 : Type} {x : A1} : ∀ {xs : List A1} {j : Nat}, xs[j]? = some x → xs.set j x = xs
  | [], _, _ => by simp
  | y :: ys, 0, h => by simp at h; simp [h]
  | y :: ys, j + 1, h => by simp at h; simp [set_same h]
theorem at_last {A1 : Type} (xs : List A1) (x : A1) : atI (xs ++ [x]) (-1) = some x := by
  unfold atI ixN
  rw [if_neg (by omega), if_pos (by simp; omega)]
  show (xs ++ [x])[_]? = _
  have : ((-1 : Int) + ((xs ++ [x]).length : Nat)).toNat = xs.length := by simp; omega
  rw [this]; simp
def w__law_lay : WS := (wSeq (wAsg (wOp (fI CR0 gMod) (wOp (fMul false) (wOp (fI CD gDiv) (wVar 2) (wC (.int 8))) (wC (.int 48271))) (wC (.int 2147483647))) (wgName 5))
    (wSeq (wAsg (wOp (fI CR0 gMod) (wVar 2) (wC (.int 8))) (wgName 6))
    (wIfS (wAnd (wTest (wOp (fEq false) (wVar 6) (wC (.int 0)))) (wTest (wOp (fB0 fun i j => decide (i < j)) (wCall fLen (wCons (wVar 1) wNil)) (wC (.int 4))))) (wSeq (wDrop (wBM fApp (wVar 0) (wCons (wTup (wCons (wC (.str "if")) (wCons (wCallP false sp__law_operand [] (wCons (wVar 5) (wCons (wVar 3) wNil))) wNil))) wNil)))
    (wDrop (wBM fApp (wVar 1) (wCons (wC (.str "if")) wNil)))) (wIfS (wAnd (wTest (wOp (fEq false) (wVar 6) (wC (.int 1)))) (wTest (wOp (fB0 fun i j => decide (i < j)) (wCall fLen (wCons (wVar 1) wNil)) (wC (.int 4))))) (wSeq (wDrop (wBM fApp (wVar 1) (wCons (wC (.str "while")) wNil)))
    (wIfS (wTest (wOp (fEq false) (wOp (fI CR0 gMod) (wVar 5) (wC (.int 3))) (wC (.int 0)))) (wDrop (wBM fApp (wVar 0) (wCons (wTup (wCons (wC (.str "while")) (wCons (wCallP false sp__law_operand [] (wCons (wOp (fI CD gDiv) (wVar 5) (wC (.int 3))) (wCons (wVar 3) wNil))) wNil))) wNil))) (wSeq (wAsg (wOp fIx (wVar 3) (wOp (fI CR0 gMod) (wOp (fI CD gDiv) (wVar 5) (wC (.int 3))) (wC (.int 4)))) (wgName 7))
    (wSeq (wDrop (wBM fApp (wVar 0) (wCons (wTup (wCons (wC (.str "while")) (wCons (wVar 7) wNil))) wNil)))
    (wDrop (wBM fApp (wVar 0) (wCons (wTup (wCons (wC (.str "do")) (wCons (wVar 7) (wCons (wVar 7) (wCons (wC (.str "minus")) (wCons (wC (.int 1)) wNil)))))) wNil))))))) (wIfS (wAnd (wTest (wOp (fEq false) (wVar 6) (wC (.int 2)))) (wAnd (wTest (wOp (fEq true) (wVar 1) (wLst false wNil))) (wTest (wOp (fEq false) (wOp fIx (wVar 1) (wUn (fun i => -i) (wC (.int 1)))) (wC (.str "if")))))) (wSeq (wDrop (wBM fApp (wVar 0) (wCons (wTup (wCons (wC (.str "else")) wNil)) wNil)))
    (wAsg (wC (.str "else")) (wgSub fSetL (wVar 1) (wUn (fun i => -i) (wC (.int 1)))))) (wIfS (wAnd (wTest (wOp (fEq false) (wVar 6) (wC (.int 3)))) (wTest (wOp (fEq true) (wVar 1) (wLst false wNil)))) (wSeq (wDrop (wBM fApp (wVar 0) (wCons (wTup (wCons (wC (.str "end")) wNil)) wNil)))
    (wDrop (wBM fPop (wVar 1) wNil))) (wDrop (wBM fApp (wVar 0) (wCons (wCallP false sp__law_simple [] (wCons (wVar 5) (wCons (wVar 3) (wCons (wVar 4) wNil)))) wNil)))))))))
@[simp] def sp__law_lay : VSp := sS5 p__law_lay
theorem v__law_lay : ∀ a b c d e mu Q, p__law_lay a b c d e mu Q → w__law_lay (evr Q) (startE ["_law_rows", "_law_stack", "_law_cell", "_law_words_here", "_law_later", "_law_number", "_law_move", "_law_name"] [a, b, c, d, e]) mu := by
  intro a b c d e mu Q h
  obtain ⟨i, j, pre, rs, st, n, ws, pl, rfl, rfl, rfl, rfl, rfl, hij, hi, hj, hp, hrl, hsl, h6, hg, hpl, h⟩ := h
  have li := (List.getElem?_eq_some_iff.mp hi).1
  have lj := (List.getElem?_eq_some_iff.mp hj).1
  have ls : (stD st).length = st.length := by simp [stD]
  have hs1 : ∀ c, (mu.set i c)[j]? = some (C.lst (stD st)) := fun c => by rw [List.getElem?_set_ne hij]; exact hj
  have hs2 : ∀ c, (mu.set j c)[i]? = some (C.lst (pre ++ rs)) := fun c => by rw [List.getElem?_set_ne (Ne.symm hij)]; exact hi
  have hs3 : ∀ c c', ((mu.set j c).set i c')[i]? = some c' := fun c c' => List.getElem?_set_self (by simpa using li)
  have ha : ∀ rs' st', lay1 rs' st' mu i j = (mu.set j (.lst (stD st'))).set i (.lst rs') := fun rs' st' => List.set_comm _ _ hij
  have hb : ∀ rs', lay1 rs' st mu i j = mu.set i (.lst rs') := fun rs' => set_same (hs1 _)
  have dst : ddeps (stD st) ≤ 63 := ddeps_le fun x hx => by
    obtain ⟨z, _, rfl⟩ := List.mem_map.mp hx; simp
  have hrow : ∀ d, Simple ws pl d → pre.length + rs.length < 16777216 ∧ Q (.d .non) (mu.set i (.lst (pre ++ (rs ++ [d])))) := fun d hd => by
    have := h (rs ++ [d]) st (.row hp hd) (by simp; omega) hsl
    rw [hb] at this; exact ⟨by omega, this⟩
  have v0 : 0 ≤ n / 8 * 48271 % 2147483647 := by omega
  have v1 : n / 8 * 48271 % 2147483647 < 2147483647 := by omega
  have app : ∀ z : String, stD st ++ [.str (Str.ofString z)] = stD (st ++ [z]) := fun z => by simp [stD]
  have simple : ∃ x, planD pl = planD x ∧ 0 ≤ n / 8 * 48271 % 2147483647 ∧ n / 8 * 48271 % 2147483647 ≤ 100000000000000000000000000000000000000000000000000 ∧ 6 ≤ ws.length ∧ (∀ (w : Str), w ∈ ws → goodW w) ∧ planOk x ∧
      ∀ (d : D), Simple ws x d → pre.length + rs.length < 16777216 ∧ Q (W.d D.non) (List.set mu i (C.lst (pre ++ (rs ++ [d])))) := ⟨pl, rfl, v0, by omega, h6, hg, hpl, hrow⟩
  have rl : pre.length + rs.length < 16777216 := by omega
  obtain ⟨w0, hw0, ew0⟩ := at_word (ws := ws) (i := n / 8 * 48271 % 2147483647 / 3 % 4) (n := 4) (by omega) (by omega) (by omega)
  have fIf : st.length < 4 → ∀ op, OperD ws op → Q (.d .non) ((mu.set i (.lst (pre ++ (rs ++ [.tup [.str (Str.ofString "if"), op]])))).set j (.lst (stD st ++ [.str (Str.ofString "if")]))) := fun hl op ho => by
    rw [app]; exact h _ (st ++ ["if"]) (.opIf hp ho) (by simp; omega) (by simp; omega)
  have fWh : st.length < 4 → ∀ op, OperD ws op → Q (.d .non) ((mu.set j (.lst (stD st ++ [.str (Str.ofString "while")]))).set i (.lst (pre ++ (rs ++ [.tup [.str (Str.ofString "while"), op]])))) := fun hl op ho => by
    have := h (rs ++ [.tup [.str (Str.ofString "while"), op]]) (st ++ ["while"]) (.opWhile hp ho) (by simp; omega) (by simp; omega)
    rw [ha] at this; rw [app]; exact this
  have fWh2 : st.length < 4 → Q (.d .non) ((mu.set j (.lst (stD st ++ [.str (Str.ofString "while")]))).set i (.lst (pre ++ (rs ++ [.tup [.str (Str.ofString "while"), .str w0], .tup [.str (Str.ofString "do"), .str w0, .str w0, .str (Str.ofString "minus"), .int 1]])))) := fun hl => by
    have q : Part ws pl (st ++ ["while"]) ((rs ++ [.tup [.str (Str.ofString "while"), .str w0]]) ++ [.tup [.str (Str.ofString "do"), .str w0, .str w0, .str (Str.ofString "minus"), .int 1]]) :=
      .row (.opWhile hp (.inl ⟨w0, hw0, rfl⟩)) (.doo (o := "minus") hw0 (.inl ⟨w0, hw0, rfl⟩) (by decide) (.inr ⟨1, by omega, by omega, rfl⟩))
    have := h _ (st ++ ["while"]) q (by simp; omega) (by simp; omega)
    rw [ha] at this; rw [app]
    simpa using this
  rcases List.eq_nil_or_concat st with rfl | ⟨s0, z, hz⟩
  · have e0 : stD [] = [] := rfl
    simp only [e0] at hs1 hj
    simp only [e0, List.nil_append] at fIf fWh fWh2
    simp [w__law_lay, hi, hj, hs1, hs2, hs3, e0, rl, sizeLine_eq, ew0]
    refine ite_of (fun c => ⟨by omega, by omega, by omega, fIf (by simp)⟩) (fun c => ite_of (fun c2 => ite_of (fun c3 => ⟨by omega, by omega, by omega, fWh (by simp)⟩) (fun c3 => ⟨by omega, fWh2 (by simp)⟩)) (fun c2 => ?_))
    obtain ⟨x, a1, a2, a3, a4, a5, a6, a7⟩ := simple
    exact ⟨x, a1, a2, a3, a4, a5, a6, fun d hd => (a7 d hd).2⟩
  · rw [List.concat_eq_append] at hz
    subst hz
    simp at hsl
    have e0 : stD (s0 ++ [z]) = stD s0 ++ [.str (Str.ofString z)] := by simp [stD]
    have e1 : deqvs (stD s0 ++ [D.str (Str.ofString z)]) [] = false := by rw [deqvs_e]; simp
    have e3 : atI (stD s0 ++ [D.str (Str.ofString z)]) (-1) = some (.str (Str.ofString z)) := at_last _ _
    have e4 : atI ((stD s0).map W.d ++ [W.d (.str (Str.ofString z))]) (-1) = some (.d (.str (Str.ofString z))) := at_last _ _
    have ls0 : (stD s0).length = s0.length := by simp [stD]
    have ls1 : (stD s0 ++ [D.str (Str.ofString z)]).length = s0.length + 1 := by simp [ls0]
    have ix : ixN (s0.length + 1) (-1) = some s0.length := by
      unfold ixN; rw [if_neg (by omega), if_pos (by omega)]; congr 1; omega
    have sset : ∀ y : D, (stD s0 ++ [D.str (Str.ofString z)]).set s0.length y = stD s0 ++ [y] := fun y => by
      rw [List.set_append_right _ _ (by rw [ls0]; exact Nat.le_refl _), ls0, Nat.sub_self]; rfl
    have fEl : z = "if" → Q (.d .non) ((mu.set i (.lst (pre ++ (rs ++ [.tup [.str (Str.ofString "else")]])))).set j (.lst (stD s0 ++ [.str (Str.ofString "else")]))) := fun hz => by
      subst hz
      have := h _ (s0 ++ ["else"]) (.els hp) (by simp; omega) (by simp; omega)
      unfold lay1 at this
      rw [show stD (s0 ++ ["else"]) = stD s0 ++ [.str (Str.ofString "else")] by simp [stD]] at this
      exact this
    have fEn : Q (.d .non) ((mu.set i (.lst (pre ++ (rs ++ [.tup [.str (Str.ofString "end")]])))).set j (.lst (stD s0))) := h _ s0 (.cls hp) (by simp; omega) (by omega)
    simp only [e0] at hs1 hj dst fIf fWh fWh2
    simp only [List.length_append, List.length_singleton] at fIf fWh fWh2
    simp [w__law_lay, hi, hj, hs1, hs2, hs3, rl, sizeLine_eq, ew0, dst, e1, e3, e4, ls0, ls1, ix, sset]
    obtain ⟨x, a1, a2, a3, a4, a5, a6, a7⟩ := simple
    have simple' : ∃ x, planD pl = planD x ∧ 0 ≤ n / 8 * 48271 % 2147483647 ∧ n / 8 * 48271 % 2147483647 ≤ 100000000000000000000000000000000000000000000000000 ∧ 6 ≤ ws.length ∧ (∀ (w : Str), w ∈ ws → goodW w) ∧ planOk x ∧
      ∀ (d : D), Simple ws x d → Q (W.d D.non) (List.set mu i (C.lst (pre ++ (rs ++ [d])))) := ⟨x, a1, a2, a3, a4, a5, a6, fun d hd => (a7 d hd).2⟩
    simp only [List.append_assoc, List.singleton_append] at fIf fWh fWh2
    repeat' (first
      | exact fEn
      | exact simple'
      | exact fEl (by assumption)
      | exact ⟨by omega, by omega, by omega, fun d hd => ⟨by omega, fIf (by omega) d hd⟩⟩
      | exact ⟨by omega, ite_of (fun c => ⟨by omega, by omega, by omega, fun d hd => fWh (by omega) d hd⟩) (fun c => ⟨by omega, fWh2 (by omega)⟩)⟩
      | refine ite_of (fun c => ?_) (fun c => ?_))
end VL
namespace VL
open PySem PySem.Spec PyProof.Rows L2 RZ
/-- the rows of one def -/
inductive FunRows (ws : List Str) (p : Str × List Str) (later : List (Str × List Str)) : List D → Prop
  | mk {body : List D} {op : D} : Part ws later [] body → OperD ws op → FunRows ws p later ([.tup [.str "def", .str p.1, .tup (p.2.map D.str)]] ++ body ++ [.tup [.str "give", op]])
  | sk {rs : List D} : FunRows ws p later rs → FunRows ws p later (rs ++ [.tup [.str "skip"]])
inductive Funs (ws : List Str) (pl : List (Str × List Str)) : Nat → List D → Prop
  | nil : Funs ws pl 0 []
  | next {k : Nat} {rs fr : List D} {p : Str × List Str} : Funs ws pl k rs → pl[k]? = some p → FunRows ws p (pl.drop (k + 1)) fr → Funs ws pl (k + 1) (rs ++ fr)
@[simp] def p__law_program : D → D → D → (W → Sto → Prop) → Prop := fun a b c Q => match a, b, c with
  | .lst cs, .lst ds, .lst ls => ∃ (ns : List Int) (ws : List Str) (pl : List (Str × List Str)), cs = ns.map D.int ∧ ds = ws.map D.str ∧ ls = planD pl ∧ ns.length ≤ 1000 ∧ 6 ≤ ws.length ∧ (∀ w ∈ ws, goodW w) ∧ PlanIn ws pl ∧
    ∀ rs mu, Funs ws pl pl.length rs → rs.length ≤ 60 → Q (.loc 0) (.lst rs :: mu)
  | _, _, _ => False
def w__law_program : WS := (wSeq (wAsg (wLst true wNil) (wgName 3))
    (wSeq (wFor (wRng1 (wCons (wCall fLen (wCons (wVar 2) wNil)) wNil)) (wgName 4) (wSeq (wDrop (wBM fApp (wVar 3) (wCons (wTup (wCons (wC (.str "def")) (wCons (wOp fIx (wOp fIx (wVar 2) (wVar 4)) (wC (.int 0))) (wCons (wOp fIx (wOp fIx (wVar 2) (wVar 4)) (wC (.int 1))) wNil)))) wNil)))
    (wSeq (wAsg (wLst true wNil) (wgName 5))
    (wSeq (wAsg (wOp (fI CD gDiv) (wOp (fMul false) (wVar 4) (wCall fLen (wCons (wVar 0) wNil))) (wCall fLen (wCons (wVar 2) wNil))) (wgName 6))
    (wSeq (wAsg (wOp (fI CD gDiv) (wOp (fMul false) (wOp (fAdd false) (wVar 4) (wC (.int 1))) (wCall fLen (wCons (wVar 0) wNil))) (wCall fLen (wCons (wVar 2) wNil))) (wgName 7))
    (wSeq (wAsg (wSl false (wVar 0) (wPart (wVar 6)) (wPart (wVar 7))) (wgName 8))
    (wSeq (wFor (wSeqI (wVar 8)) (wgName 9) (wIfS (wTest (wOp (fB0 fun i j => decide (i < j)) (wOp (fAdd false) (wCall fLen (wCons (wVar 3) wNil)) (wCall fLen (wCons (wVar 5) wNil))) (wOp (fI0 fun i j => i - j) (wC (.int 56)) (wOp (fMul false) (wC (.int 3)) (wOp (fI0 fun i j => i - j) (wOp (fI0 fun i j => i - j) (wCall fLen (wCons (wVar 2) wNil)) (wC (.int 1))) (wVar 4)))))) (wDrop (wCallS sp__law_lay [] (wCons (wVar 3) (wCons (wVar 5) (wCons (wVar 9) (wCons (wVar 1) (wCons (wSl false (wVar 2) (wPart (wOp (fAdd false) (wVar 4) (wC (.int 1)))) wNoPart) wNil))))))) wNext))
    (wSeq (wFor (wSeqI (wVar 5)) (wgName 10) (wDrop (wBM fApp (wVar 3) (wCons (wTup (wCons (wC (.str "end")) wNil)) wNil))))
    (wSeq (wDrop (wBM fApp (wVar 3) (wCons (wTup (wCons (wC (.str "give")) (wCons (wCallP false sp__law_operand [] (wCons (wOp (fI CR0 gMod) (wCall fSum (wCons (wVar 8) wNil)) (wOp (fI CPow fun i j => i ^ j.toNat) (wC (.int 10)) (wC (.int 6)))) (wCons (wVar 1) wNil))) wNil))) wNil)))
    (wIfS (wAnd (wTest (wOp (fEq false) (wOp (fI CR0 gMod) (wVar 4) (wC (.int 2))) (wC (.int 0)))) (wTest (wOp (fEq false) (wOp (fI CR0 gMod) (wCall fLen (wCons (wVar 8) wNil)) (wC (.int 2))) (wC (.int 1))))) (wDrop (wBM fApp (wVar 3) (wCons (wTup (wCons (wC (.str "skip")) wNil)) wNil))) wNext))))))))))
    (wRet (wVar 3))))
@[simp] def sp__law_program : PSp := sp3 p__law_program
theorem cut_from {A1 : Type} (xs : List A1) (k : Nat) : cutL xs (some (k : Int)) none = xs.drop k := by
  unfold cutL
  rw [HT.sIx_nat, HT.sIx_none]
  by_cases h : k ≤ xs.length
  · rw [Nat.min_eq_left h, List.take_of_length_le (by simp)]
  · rw [Nat.min_eq_right (by omega), List.drop_length, List.drop_of_length_le (by omega)]; simp
theorem planD_drop (pl : List (Str × List Str)) (k : Nat) : (planD pl).drop k = planD (pl.drop k) := by simp [planD, List.map_drop]
theorem v__law_program : ∀ a b c Q, p__law_program a b c Q → w__law_program (evr Q) (startE ["_law_cells", "_law_words_here", "_law_plan_here", "_law_rows", "_law_k", "_law_stack", "_law_start", "_law_stop", "_law_share", "_law_cell", "_law_word"] [.d a, .d b, .d c]) [] := by
  intro a b c Q h
  unfold p__law_program at h
  split at h
  · obtain ⟨ns, ws, pl, rfl, rfl, rfl, hn, h6, hg, hpl, h⟩ := h
    have lp : (planD pl).length = pl.length := by simp [planD]
    have hf := hpl.few
    have hp1 := hpl.pos
    simp [w__law_program, lp]
    refine ⟨by omega, forL_rng (fun k rh mu => ∃ (rs : List D) (rest : Sto) (x1 x2 x3 x4 x5 x6 x7 : Option W), mu = .lst rs :: rest ∧ rh = [some (.d (.lst (ns.map D.int))), some (.d (.lst (ws.map D.str))), some (.d (.lst (planD pl))), some (.loc 0), x1, x2, x3, x4, x5, x6, x7] ∧
      Funs ws pl k rs ∧ rs.length + 3 * pl.length ≤ 60 + 3 * k) (fun _ _ _ _ => trivial) ?_ ?_ ⟨[], [], _, _, _, _, _, _, _, rfl, rfl, .nil, by simp; omega⟩⟩
    · rintro _ _ ⟨rs, rest, x1, x2, x3, x4, x5, x6, x7, rfl, rfl, hF, hl⟩
      simp
      exact h _ _ hF (by omega)
    · rintro k hk _ _ ⟨rs, rest, x1, x2, x3, x4, x5, x6, x7, rfl, rfl, hF, hl⟩ N hN
      obtain ⟨p, ep⟩ : ∃ p, pl[k]? = some p := ⟨_, List.getElem?_eq_getElem hk⟩
      have ak : atI (planD pl) (k : Int) = some (.tup [.str p.1, .tup (p.2.map D.str)]) := by
        rw [at_nat (by omega) (by rw [lp]; omega)]; simp [planD, ep]
      have cm1 : CM (k : Int) ns.length := CM_r (by omega) (by omega)
      have cm2 : CM ((k : Int) + 1) ns.length := CM_r (by omega) (by omega)
      have cd1 : ∀ x : Int, CD x (pl.length : Int) := fun x => CD_of (by omega) (by omega)
      have rl : rs.length < 16777216 := by omega
      have hm1 : ∀ (a c : C), (a :: (rest ++ [c]))[rest.length + 1]? = some c := fun a c => by simp
      have hm2 : ∀ (a c c' : C), (a :: (rest ++ [c])).set (rest.length + 1) c' = a :: (rest ++ [c']) := fun a c c' => by simp
      simp [lp, ak, sizeLine_eq, rl, cm1, cm2, cd1]
      have sl := cutL_len ns (some (gDiv ((k : Int) * ns.length) pl.length)) (some (gDiv (((k : Int) + 1) * ns.length) pl.length))
      generalize cutL ns (some (gDiv ((k : Int) * ns.length) pl.length)) (some (gDiv (((k : Int) + 1) * ns.length) pl.length)) = sh at *
      generalize (gDiv ((k : Int) * ns.length) pl.length) = u1
      generalize (gDiv (((k : Int) + 1) * ns.length) pl.length) = u2
      refine forL_inv (fun rh mu => ∃ (body : List D) (st : List String) (x6 x7 : Option W), mu = .lst (rs ++ [.tup [.str (Str.ofString "def"), .str p.1, .tup (p.2.map D.str)]] ++ body) :: (rest ++ [.lst (stD st)]) ∧
        rh = [some (W.d (D.lst (List.map D.int ns))), some (W.d (D.lst (List.map D.str ws))), some (W.d (D.lst (planD pl))), some (W.loc 0), some (W.d (D.int ↑k)), some (W.loc (List.length rest + 1)), some (W.d (D.int u1)), some (W.d (D.int u2)), some (.d (.lst (sh.map D.int))), x6, x7] ∧
        Part ws (pl.drop (k + 1)) st body ∧ st.length ≤ 4 ∧ rs.length + 1 + body.length + st.length + 3 * pl.length ≤ 61 + 3 * k) (fun _ _ _ => trivial) ?_ ?_ ⟨[], [], _, _, by simp [stD], rfl, .nil, by simp, by simp; omega⟩
      · rintro _ _ ⟨body, st, x6, x7, rfl, rfl, hP, hst, hL⟩
        simp [hm1, hm2]
        refine forL_rem (fun items rh mu => ∃ (st' : List String) (body' : List D) (x7 : Option W), items.length = st'.length ∧ mu = .lst (rs ++ .tup [.str (Str.ofString "def"), .str p.1, .tup (p.2.map D.str)] :: body') :: (rest ++ [.lst (stD st)]) ∧
          rh = [some (W.d (D.lst (List.map D.int ns))), some (W.d (D.lst (List.map D.str ws))), some (W.d (D.lst (planD pl))), some (W.loc 0), some (W.d (D.int ↑k)), some (W.loc (List.length rest + 1)), some (W.d (D.int u1)), some (W.d (D.int u2)), some (.d (.lst (sh.map D.int))), x6, x7] ∧
          Part ws (pl.drop (k + 1)) st' body' ∧ body'.length + st'.length = body.length + st.length) ?_ ?_ ?_ ⟨st, body, _, by simp [stD], rfl, rfl, hP, rfl⟩
        · rintro _ _ _ ⟨st', body', x7, _, rfl, _⟩
          simp [hm1]
        · rintro _ _ ⟨st', body', x7, e, rfl, rfl, hP', hL'⟩
          have : st' = [] := List.length_eq_zero_iff.mp e.symm
          subst this
          have q1 : rs.length + (body'.length + 1) < 16777216 := by simp at hL'; omega
          have fin : ∀ (fr : List D) (x7 : Option W), FunRows ws p (pl.drop (k + 1)) fr → fr.length ≤ body'.length + 3 → N [some (W.d (D.lst (List.map D.int ns))), some (W.d (D.lst (List.map D.str ws))), some (W.d (D.lst (planD pl))), some (W.loc 0), some (W.d (D.int ↑k)), some (W.loc (List.length rest + 1)), some (W.d (D.int u1)), some (W.d (D.int u2)), some (.d (.lst (sh.map D.int))), x6, x7]
              (.lst (rs ++ fr) :: (rest ++ [.lst (stD st)])) := fun fr x7 hfr hle => by
            refine hN _ _ ⟨_, _, _, _, _, _, _, _, _, rfl, rfl, .next hF ep hfr, ?_⟩
            simp at hL' ⊢; omega
          simp only [List.length_nil, Nat.add_zero] at hL'
          have q2 : rs.length + (body'.length + 1) + 1 < 16777216 := by omega
          have q2' : rs.length + (body'.length + 1 + 1) < 16777216 := by omega
          simp [sizeLine_eq, q1]
          refine sum_ints ?_
          simp [q1, q2, q2']
          have gp : gMod sh.sum 1000000 = sh.sum % 1000000 := gMod_pos (by decide)
          refine ⟨by omega, by omega, by omega, fun op hop => ?_⟩
          have f1 := FunRows.mk (p := p) hP' hop
          refine ite_of (fun c => ite_of (fun c2 => ?_) (fun c2 => ?_)) (fun c => ?_)
          · simpa using fin _ x7 f1.sk (by simp)
          · simpa using fin _ x7 f1 (by simp)
          · simpa using fin _ x7 f1 (by simp)
        · rintro x items _ _ ⟨st', body', x7, e, rfl, rfl, hP', hL'⟩ N' hN'
          rcases List.eq_nil_or_concat st' with rfl | ⟨s0, z, hz⟩
          · simp at e
          · rw [List.concat_eq_append] at hz
            subst hz
            simp at hL' e
            have q1 : rs.length + (body'.length + 1) < 16777216 := by omega
            simp [sizeLine_eq, q1]
            exact hN' _ _ ⟨s0, body' ++ [.tup [.str (Str.ofString "end")]], _, e, rfl, rfl, .cls hP', by simp; omega⟩
      · rintro x hx _ _ ⟨body, st, x6, x7, rfl, rfl, hP, hst, hL⟩ N' hN'
        simp at hx
        obtain ⟨n, _, rfl⟩ := hx
        have ls : (stD st).length = st.length := by simp [stD]
        simp [hm1, hm2, ls]
        refine ite_of (fun c => ?_) (fun c => hN' _ _ ⟨body, st, _, _, by simp, rfl, hP, hst, hL⟩)
        rw [lp] at c
        have cl : cutL (planD pl) (some ((k : Int) + 1)) none = planD (pl.drop (k + 1)) := by
          rw [show ((k : Int) + 1) = ((k + 1 : Nat) : Int) by omega, cut_from, planD_drop]
        refine ⟨rs ++ [.tup [.str (Str.ofString "def"), .str p.1, .tup (p.2.map D.str)]], body, st, pl.drop (k + 1), cl, by simp, rfl, hP, by simp; omega, hst, h6, hg, ⟨by simp; omega, fun q hq => hpl.ok.2 q (List.mem_of_mem_drop hq)⟩, fun rs' st' g1 g2 g3 => hN' _ _ ⟨rs', st', _, _, ?_, rfl, g1, g3, by omega⟩⟩
        simp [lay1, hm2]
  · exact h.elim
end VL
namespace VL
open PySem PySem.Spec PyProof.Rows L2 RZ
def optD : Option Nat → D
  | none => .non
  | some k => .int (k : Nat)
def natsL (xs : List Nat) : List D := xs.map fun n => .int (n : Nat)
/-- what shape knows -/
structure ShS where
  heads : List (Option Nat)
  ends : List (Option Nat)
  elses : List (Option Nat)
  homes : List (Option Nat)
  stack : List Nat
def ShS.start (n : Nat) : ShS := ⟨List.replicate n none, List.replicate n none, List.replicate n none, List.replicate n none, []⟩
def shC (mu : Sto) (s : ShS) : Sto := mu ++ [.lst (s.heads.map optD), .lst (s.ends.map optD), .lst (s.elses.map optD), .lst (s.homes.map optD), .lst (natsL s.stack)]
/-- the five things that shape does with the row at place k, of the word w -/
def topS (k : Nat) (s : ShS) : ShS := match s.stack.getLast?, s.stack.head? with
  | some j, some i => { s with heads := s.heads.set k (some j), homes := s.homes.set k (some i) }
  | _, _ => s
def defS (k : Nat) (w : Str) (s : ShS) : ShS := if w = Str.ofString "def" then { s with homes := s.homes.set k (some k) } else s
def elseS (k : Nat) (w : Str) (s : ShS) : Option ShS := if w = Str.ofString "else" then (match s.stack.getLast? with
    | some j => some { s with elses := s.elses.set j (some k) }
    | none => none) else some s
def footS (k : Nat) (w : Str) (s : ShS) : Option ShS := if w = Str.ofString "give" ∨ w = Str.ofString "end" then (match s.stack.getLast? with
    | some j => some { s with ends := s.ends.set j (some k), stack := s.stack.dropLast }
    | none => none) else some s
def pushS (k : Nat) (w : Str) (s : ShS) : ShS := if w = Str.ofString "def" ∨ w = Str.ofString "if" ∨ w = Str.ofString "while" then { s with stack := s.stack ++ [k] } else s
def stepS (k : Nat) (w : Str) (s : ShS) : Option ShS := ((elseS k w (defS k w (topS k s))).bind (footS k w)).map (pushS k w)
def wordR : D → Option Str
  | .tup (.str w :: _) => some w
  | _ => none
def runS : Nat → List D → ShS → Option ShS
  | _, [], s => some s
  | k, r :: rs, s => match wordR r with
    | some w => match stepS k w s with
      | some s' => runS (k + 1) rs s'
      | none => none
    | none => none
@[simp] def p_shape : W → Sto → (W → Sto → Prop) → Prop := fun a mu Q => ∃ (rows : List D) (s : ShS), a = .d (.lst rows) ∧ rows.length ≤ 1000 ∧ runS 0 rows (.start rows.length) = some s ∧
  Q (.tup [.loc mu.length, .loc (mu.length + 1), .loc (mu.length + 2), .loc (mu.length + 3)]) (shC mu s)
structure ShOk (n k : Nat) (s : ShS) : Prop where
  l1 : s.heads.length = n
  l2 : s.ends.length = n
  l3 : s.elses.length = n
  l4 : s.homes.length = n
  st : ∀ j ∈ s.stack, j < k
  sl : s.stack.length ≤ k
theorem ShOk.top {n k : Nat} {s : ShS} (h : ShOk n k s) : ShOk n k (topS k s) := by
  unfold topS
  split
  · exact ⟨by simp [h.l1], h.l2, h.l3, by simp [h.l4], h.st, h.sl⟩
  · exact h
theorem ShOk.deff {n k : Nat} {w : Str} {s : ShS} (h : ShOk n k s) : ShOk n k (defS k w s) := by
  unfold defS
  split
  · exact ⟨h.l1, h.l2, h.l3, by simp [h.l4], h.st, h.sl⟩
  · exact h
theorem ShOk.els {n k : Nat} {w : Str} {s s' : ShS} (h : ShOk n k s) (e : elseS k w s = some s') : ShOk n k s' := by
  unfold elseS at e
  split at e
  · split at e
    · injection e with e; subst e; exact ⟨h.l1, h.l2, by simp [h.l3], h.l4, h.st, h.sl⟩
    · cases e
  · injection e with e; subst e; exact h
theorem ShOk.foot {n k : Nat} {w : Str} {s s' : ShS} (h : ShOk n k s) (e : footS k w s = some s') : ShOk n k s' := by
  unfold footS at e
  split at e
  · split at e
    · injection e with e; subst e
      exact ⟨h.l1, by simp [h.l2], h.l3, h.l4, fun j hj => h.st j (List.dropLast_subset _ hj), by have := h.sl; simp; omega⟩
    · cases e
  · injection e with e; subst e; exact h
theorem ShOk.push {n k : Nat} {w : Str} {s : ShS} (h : ShOk n k s) : ShOk n (k + 1) (pushS k w s) := by
  unfold pushS
  split
  · refine ⟨h.l1, h.l2, h.l3, h.l4, fun j hj => ?_, by have := h.sl; simp; omega⟩
    rcases List.mem_append.mp hj with hj | hj
    · have := h.st j hj; omega
    · have := List.mem_singleton.mp hj; omega
  · exact ⟨h.l1, h.l2, h.l3, h.l4, fun j hj => by have := h.st j hj; omega, by have := h.sl; omega⟩
theorem at_lastS {A1 : Type} (xs : List A1) (x : A1) : atI (xs ++ [x]) (-1) = some x := by
  unfold atI ixN
  rw [if_neg (by omega), if_pos (by simp; omega)]
  show (xs ++ [x])[_]? = _
  have : ((-1 : Int) + ((xs ++ [x]).length : Nat)).toNat = xs.length := by simp; omega
  rw [this]; simp
theorem seq_to {a b : WS} {V : EV} {rh : Ev} {mu : Sto} (rh' : Ev) (mu' : Sto) (h1 : ∀ K : Ev → Sto → Prop, K rh' mu' → a { V with nx := K } rh mu) (h2 : b V rh' mu') : wSeq a b V rh mu := h1 _ h2
def w_shape : WS := (wSeq (wAsg (wLc false (wSeqI (wVar 0)) (wgName 2) wYes (wC .non) [2]) (wgName 1))
    (wSeq (wAsg (wCall (fList true) (wCons (wVar 1) wNil)) (wgName 3))
    (wSeq (wAsg (wCall (fList true) (wCons (wVar 1) wNil)) (wgName 4))
    (wSeq (wAsg (wCall (fList true) (wCons (wVar 1) wNil)) (wgName 5))
    (wSeq (wAsg (wCall (fList true) (wCons (wVar 1) wNil)) (wgName 6))
    (wSeq (wAsg (wLst true wNil) (wgName 7))
    (wSeq (wFor (wEnum (wCons (wVar 0) wNil)) (wgTup 2 (wgCons (wgName 8) (wgCons (wgName 2) wgNil))) (wSeq (wAsg (wOp fIx (wVar 2) (wC (.int 0))) (wgName 9))
    (wSeq (wIfS (wTest (wOp (fEq true) (wVar 7) (wLst false wNil))) (wSeq (wAsg (wOp fIx (wVar 7) (wUn (fun i => -i) (wC (.int 1)))) (wgSub fSetL (wVar 3) (wVar 8)))
    (wAsg (wOp fIx (wVar 7) (wC (.int 0))) (wgSub fSetL (wVar 6) (wVar 8)))) wNext)
    (wSeq (wIfS (wTest (wOp (fEq false) (wVar 9) (wC (.str "def")))) (wAsg (wVar 8) (wgSub fSetL (wVar 6) (wVar 8))) wNext)
    (wSeq (wIfS (wTest (wOp (fEq false) (wVar 9) (wC (.str "else")))) (wAsg (wVar 8) (wgSub fSetL (wVar 5) (wOp fIx (wVar 7) (wUn (fun i => -i) (wC (.int 1)))))) wNext)
    (wSeq (wIfS (wOr (wTest (wOp (fEq false) (wVar 9) (wC (.str "give")))) (wTest (wOp (fEq false) (wVar 9) (wC (.str "end"))))) (wAsg (wVar 8) (wgSub fSetL (wVar 4) (wBM fPop (wVar 7) wNil))) wNext)
    (wIfS (wOr (wTest (wOp (fEq false) (wVar 9) (wC (.str "def")))) (wOr (wTest (wOp (fEq false) (wVar 9) (wC (.str "if")))) (wTest (wOp (fEq false) (wVar 9) (wC (.str "while")))))) (wDrop (wBM fApp (wVar 7) (wCons (wVar 8) wNil))) wNext)))))))
    (wRet (wTup (wCons (wVar 3) (wCons (wVar 4) (wCons (wVar 5) (wCons (wVar 6) wNil)))))))))))))
@[simp] def sp_shape : VSp := sS1 p_shape
theorem v_shape : ∀ a mu Q, p_shape a mu Q → w_shape (evr Q) (startE ["program", "nothing", "row", "heads", "ends", "elses", "homes", "stack", "place", "word"] [a]) mu := by
  intro a mu Q h
  obtain ⟨rows, s, rfl, hl, hr, h⟩ := h
  simp [w_shape, sizeLine_eq]
  refine lc_M (fun _ => .non) trivial (fun x hx A q => by simpa using q) ?_
  simp only [asDs_map]
  have en : rows.map (fun _ => D.non) = (List.replicate rows.length none).map optD := by rw [List.map_replicate]; exact List.map_const' ..
  refine forL_rem (fun items rh mu' => ∃ (k : Nat) (ys : List D) (s1 : ShS) (a b c : Option W), items = enumW k (ys.map W.d) ∧ rh = [some (W.d (D.lst rows)), some (W.d (D.lst (rows.map fun _ => D.non))), a, some (W.loc mu.length), some (W.loc (mu.length + 1)), some (W.loc (mu.length + 2)), some (W.loc (mu.length + 3)), some (W.loc (mu.length + 4)), b, c] ∧
    mu' = shC mu s1 ∧ runS k ys s1 = some s ∧ k + ys.length = rows.length ∧ ShOk rows.length k s1) (fun _ _ _ _ => trivial) ?_ ?_ ⟨0, rows, .start rows.length, _, _, _, rfl, rfl, ?_, hr, by omega, ⟨by simp [ShS.start], by simp [ShS.start], by simp [ShS.start], by simp [ShS.start], by simp [ShS.start], by simp [ShS.start]⟩⟩
  · rintro _ _ ⟨k, ys, s1, a, b, c, e, rfl, rfl, hrun, hk, ok⟩
    have hy : ys = [] := by
      cases ys with
      | nil => rfl
      | cons y ys => simp at e
    subst hy
    simp only [runS] at hrun
    injection hrun with hrun
    subst hrun
    simp [sizeLine_eq]
    exact h
  · rintro x items _ _ ⟨k, ys, s1, a, b, c, e, rfl, rfl, hrun, hk, ok⟩ N hN
    cases ys with
    | nil => simp at e
    | cons y ys =>
      simp at e
      obtain ⟨rfl, rfl⟩ := e
      simp only [runS] at hrun
      split at hrun
      · rename_i w ew
        obtain ⟨rest, rfl⟩ : ∃ rest, y = .tup (.str w :: rest) := by
          unfold wordR at ew
          split at ew
          · injection ew with ew; subst ew; exact ⟨_, rfl⟩
          · cases ew
        split at hrun
        · rename_i s2 es
          simp only [List.length_cons] at hk
          unfold stepS at es
          have fin : ∀ a b c, ShOk rows.length (k + 1) s2 → N [some (W.d (D.lst rows)), some (W.d (D.lst (rows.map fun _ => D.non))), a, some (W.loc mu.length), some (W.loc (mu.length + 1)), some (W.loc (mu.length + 2)), some (W.loc (mu.length + 3)), some (W.loc (mu.length + 4)), b, c] (shC mu s2) := fun a b c ok2 =>
            hN _ _ ⟨k + 1, ys, s2, _, _, _, rfl, rfl, rfl, hrun, by omega, ok2⟩
          have g0 : ∀ a b c d e : C, (mu ++ [a, b, c, d, e])[mu.length]? = some a := fun a b c d e => by simp
          have g1 : ∀ a b c d e : C, (mu ++ [a, b, c, d, e])[mu.length + 1]? = some b := fun a b c d e => by simp
          have g2 : ∀ a b c d e : C, (mu ++ [a, b, c, d, e])[mu.length + 2]? = some c := fun a b c d e => by simp
          have g3 : ∀ a b c d e : C, (mu ++ [a, b, c, d, e])[mu.length + 3]? = some d := fun a b c d e => by simp
          have g4 : ∀ a b c d e : C, (mu ++ [a, b, c, d, e])[mu.length + 4]? = some e := fun a b c d e => by simp
          have t0 : ∀ a b c d e x : C, (mu ++ [a, b, c, d, e]).set mu.length x = mu ++ [x, b, c, d, e] := fun a b c d e x => by simp
          have t1 : ∀ a b c d e x : C, (mu ++ [a, b, c, d, e]).set (mu.length + 1) x = mu ++ [a, x, c, d, e] := fun a b c d e x => by simp
          have t2 : ∀ a b c d e x : C, (mu ++ [a, b, c, d, e]).set (mu.length + 2) x = mu ++ [a, b, x, d, e] := fun a b c d e x => by simp
          have t3 : ∀ a b c d e x : C, (mu ++ [a, b, c, d, e]).set (mu.length + 3) x = mu ++ [a, b, c, x, e] := fun a b c d e x => by simp
          have t4 : ∀ a b c d e x : C, (mu ++ [a, b, c, d, e]).set (mu.length + 4) x = mu ++ [a, b, c, d, x] := fun a b c d e x => by simp
          have ixk : ∀ (j n : Nat), j < n → ixN n (j : Int) = some j := fun j n hn => by
            unfold ixN; rw [if_pos (by omega), if_pos (by omega)]; rfl
          have hat : ∀ (xs : List Nat) (j : Nat), atI (natsL (xs ++ [j])) (-1) = some (.int (j : Nat)) := fun xs j => by
            rw [show natsL (xs ++ [j]) = natsL xs ++ [.int (j : Nat)] by simp [natsL]]; exact at_lastS _ _
          have hat' : ∀ (xs : List Nat) (j : Nat), atI ((natsL (xs ++ [j])).map W.d) (-1) = some (.d (.int (j : Nat))) := fun xs j => by
            rw [show (natsL (xs ++ [j])).map W.d = (natsL xs).map W.d ++ [.d (.int (j : Nat))] by simp [natsL]]; exact at_lastS _ _
          have hdp : ∀ xs : List Nat, ddeps (natsL xs) ≤ 63 := fun xs => ddeps_le fun x hx => by
            obtain ⟨z, _, rfl⟩ := List.mem_map.mp hx; simp
          have m1 : ∀ (xs : List (Option Nat)) (j v : Nat), (xs.map optD).set j (.int (v : Nat)) = (xs.set j (some v)).map optD := fun xs j v => by rw [List.map_set]; rfl
          let E : Ev := [some (W.d (D.lst rows)), some (W.d (D.lst (rows.map fun _ => D.non))), some (.d (.tup (.str w :: rest))), some (W.loc mu.length), some (W.loc (mu.length + 1)), some (W.loc (mu.length + 2)), some (W.loc (mu.length + 3)), some (W.loc (mu.length + 4)), some (.d (.int k)), some (.d (.str w))]
          show wgTup 2 (wgCons (wgName 8) (wgCons (wgName 2) wgNil)) _ _ _ _
          simp only [wgTup, wgCons, wgName, wgNil, mkTup]
          refine ⟨rfl, seq_to E (shC mu s1) (fun K hK => by simpa using hK) ?_⟩
          have okA := ok.top
          refine seq_to E (shC mu (topS k s1)) (fun K hK => ?_) ?_
          · rcases s1 with ⟨he, nd, el, hm, stk⟩
            obtain ⟨l1, l2, l3, l4, st, sl⟩ := ok
            simp only at l1 l2 l3 l4 st sl
            rcases List.eq_nil_or_concat stk with rfl | ⟨s0, j, hz⟩
            · simp [E, shC, natsL, g4]
              exact hK
            · rw [List.concat_eq_append] at hz
              subst hz
              obtain ⟨i, r, hi⟩ : ∃ i r, s0 ++ [j] = i :: r := by
                cases s0 with
                | nil => exact ⟨_, _, rfl⟩
                | cons x xs => exact ⟨_, _, rfl⟩
              have e1 : topS k ⟨he, nd, el, hm, s0 ++ [j]⟩ = ⟨he.set k (some j), nd, el, hm.set k (some i), s0 ++ [j]⟩ := by
                unfold topS
                simp only
                rw [List.getLast?_concat, hi]; rfl
              rw [e1] at hK
              have ne : deqvs (natsL (s0 ++ [j])) [] = false := by rw [hi]; simp [natsL]
              have a0 : atI ((natsL (s0 ++ [j])).map W.d) 0 = some (.d (.int (i : Nat))) := by rw [hi]; simp [natsL]
              have k1 := ixk k he.length (by omega)
              have k2 := ixk k hm.length (by omega)
              simp [E, shC, g0, g1, g2, g3, g4, t0, t1, t2, t3, t4, hdp, ne, hat', a0, k1, k2]
              have := hK
              simp only [E, shC, List.map_set] at this
              exact this
          clear ok
          generalize topS k s1 = sA at *
          have okB := okA.deff (w := w)
          refine seq_to E (shC mu (defS k w sA)) (fun K hK => ?_) ?_
          · rcases sA with ⟨he, nd, el, hm, stk⟩
            obtain ⟨l1, l2, l3, l4, st, sl⟩ := okA
            simp only at l1 l2 l3 l4 st sl
            have k2 := ixk k hm.length (by omega)
            unfold defS at hK
            by_cases c : w = Str.ofString "def"
            · rw [if_pos c] at hK
              have := hK
              simp only [E, shC, List.map_set] at this
              simp [E, shC, c, g3, t3, k2]
              rw [c] at this
              exact this
            · rw [if_neg c] at hK
              simp [E, shC, c]
              exact hK
          clear okA
          generalize defS k w sA = sB at *
          obtain ⟨sC, eC, es⟩ : ∃ sC, elseS k w sB = some sC ∧ (footS k w sC).map (pushS k w) = some s2 := by
            cases q : elseS k w sB with
            | none => rw [q] at es; cases es
            | some sC => rw [q] at es; exact ⟨sC, rfl, es⟩
          have okC := okB.els eC
          refine seq_to E (shC mu sC) (fun K hK => ?_) ?_
          · rcases sB with ⟨he, nd, el, hm, stk⟩
            obtain ⟨l1, l2, l3, l4, st, sl⟩ := okB
            simp only at l1 l2 l3 l4 st sl
            unfold elseS at eC
            by_cases c : w = Str.ofString "else"
            · rw [if_pos c] at eC
              rcases List.eq_nil_or_concat stk with rfl | ⟨s0, j, hz⟩
              · cases eC
              · rw [List.concat_eq_append] at hz
                subst hz
                simp only [List.getLast?_concat] at eC
                injection eC with eC
                subst eC
                have hj : j < k := st j (by simp)
                have k3 := ixk j el.length (by omega)
                have := hK
                simp only [E, shC, List.map_set] at this
                simp [E, shC, c, g2, g4, t2, hat', k3]
                rw [c] at this
                exact this
            · rw [if_neg c] at eC
              injection eC with eC
              subst eC
              simp [E, shC, c]
              exact hK
          clear okB eC
          obtain ⟨sD, eD, es⟩ : ∃ sD, footS k w sC = some sD ∧ pushS k w sD = s2 := by
            cases q : footS k w sC with
            | none => rw [q] at es; cases es
            | some sD => rw [q] at es; injection es with es; exact ⟨sD, rfl, es⟩
          have okD := okC.foot eD
          refine seq_to E (shC mu sD) (fun K hK => ?_) ?_
          · rcases sC with ⟨he, nd, el, hm, stk⟩
            obtain ⟨l1, l2, l3, l4, st, sl⟩ := okC
            simp only at l1 l2 l3 l4 st sl
            unfold footS at eD
            by_cases c : w = Str.ofString "give" ∨ w = Str.ofString "end"
            · rw [if_pos c] at eD
              rcases List.eq_nil_or_concat stk with rfl | ⟨s0, j, hz⟩
              · cases eD
              · rw [List.concat_eq_append] at hz
                subst hz
                simp only [List.getLast?_concat, List.dropLast_concat] at eD
                injection eD with eD
                subst eD
                have hj : j < k := st j (by simp)
                have k3 := ixk j nd.length (by omega)
                have n1 : natsL (s0 ++ [j]) = natsL s0 ++ [.int (j : Nat)] := by simp [natsL]
                have := hK
                simp only [E, shC, List.map_set] at this
                rcases c with c | c
                · simp [E, shC, c, g1, g4, t1, t4, n1, k3]
                  rw [c] at this
                  exact this
                · simp [E, shC, c, g1, g4, t1, t4, n1, k3]
                  rw [c] at this
                  exact this
            · rw [if_neg c] at eD
              injection eD with eD
              subst eD
              have c1 : ¬ w = Str.ofString "give" := fun z => c (.inl z)
              have c2 : ¬ w = Str.ofString "end" := fun z => c (.inr z)
              simp [E, shC, c1, c2]
              exact hK
          subst es
          have okE := okD.push (w := w)
          have fin' := fin (some (.d (.tup (.str w :: rest)))) (some (.d (.int k))) (some (.d (.str w))) okE
          rcases sD with ⟨he, nd, el, hm, stk⟩
          obtain ⟨l1, l2, l3, l4, st, sl⟩ := okD
          simp only at l1 l2 l3 l4 st sl
          have q1 : (natsL stk).length < sizeLine := by rw [sizeLine_eq]; simp [natsL]; omega
          unfold pushS at fin'
          by_cases c : w = Str.ofString "def" ∨ w = Str.ofString "if" ∨ w = Str.ofString "while"
          · rw [if_pos c] at fin'
            have n1 : natsL (stk ++ [k]) = natsL stk ++ [.int (k : Nat)] := by simp [natsL]
            simp only [shC, n1] at fin'
            rcases c with c | c | c
            · rw [c] at fin'
              simp [E, shC, c, g4, t4, q1]
              exact fin'
            · rw [c] at fin'
              simp [E, shC, c, g4, t4, q1]
              exact fin'
            · rw [c] at fin'
              simp [E, shC, c, g4, t4, q1]
              exact fin'
          · rw [if_neg c] at fin'
            have c1 : ¬ w = Str.ofString "def" := fun z => c (.inl z)
            have c2 : ¬ w = Str.ofString "if" := fun z => c (.inr (.inl z))
            have c3 : ¬ w = Str.ofString "while" := fun z => c (.inr (.inr z))
            simp [E, shC, c1, c2, c3]
            exact fin'
        · cases hrun
      · cases hrun
  · simp only [shC, ShS.start, en]; rfl
end VL
namespace VL
open PySem PySem.Spec PyProof.Rows L2 RZ
def wordN : D → Option Str
  | .tup (.str w :: _) => some w
  | _ => none
def opensW (w : Str) : Prop := w = Str.ofString "def" ∨ w = Str.ofString "if" ∨ w = Str.ofString "while"
def closesW (w : Str) : Prop := w = Str.ofString "give" ∨ w = Str.ofString "end"
/-- rows that are well nested so far, with h blocks open -/
inductive Nest : Nat → List D → Prop
  | nil : Nest 0 []
  | pl {h : Nat} {rs : List D} {r : D} {w : Str} : Nest h rs → wordN r = some w → ¬ opensW w → ¬ closesW w → w ≠ Str.ofString "else" → Nest h (rs ++ [r])
  | op {h : Nat} {rs : List D} {r : D} {w : Str} : Nest h rs → wordN r = some w → opensW w → Nest (h + 1) (rs ++ [r])
  | els {h : Nat} {rs : List D} {r : D} : Nest (h + 1) rs → wordN r = some (Str.ofString "else") → Nest (h + 1) (rs ++ [r])
  | cl {h : Nat} {rs : List D} {r : D} {w : Str} : Nest (h + 1) rs → wordN r = some w → closesW w → Nest h (rs ++ [r])
theorem Nest.plain {h : Nat} {rs : List D} {z : String} {rest : List D} (n : Nest h rs) (hz : z ∉ ["def", "if", "while", "give", "end", "else"]) : Nest h (rs ++ [.tup (.str (Str.ofString z) :: rest)]) := by
  simp at hz
  exact .pl n rfl (by unfold opensW; simp [hz]) (by unfold closesW; simp [hz]) (by simp [hz])
theorem simple_nest {ws : List Str} {pl : List (Str × List Str)} {h : Nat} {rs : List D} {r : D} (n : Nest h rs) (s : Simple ws pl r) : Nest h (rs ++ [r]) := by
  cases s <;> exact n.plain (by decide)
theorem part_nest {ws : List Str} {pl : List (Str × List Str)} {b : Nat} {pre : List D} (n : Nest b pre) : ∀ {st : List String} {body : List D}, Part ws pl st body → Nest (b + st.length) (pre ++ body) := by
  intro st body p
  induction p with
  | nil => simpa using n
  | row _ s ih => rw [← List.append_assoc]; exact simple_nest ih s
  | opIf _ _ ih =>
    rw [← List.append_assoc, List.length_append]
    exact .op ih rfl (.inr (.inl rfl))
  | opWhile _ _ ih =>
    rw [← List.append_assoc, List.length_append]
    exact .op ih rfl (.inr (.inr rfl))
  | els _ ih =>
    rw [← List.append_assoc]
    rw [List.length_append] at ih ⊢
    exact .els ih rfl
  | cls _ ih =>
    rw [← List.append_assoc]
    rw [List.length_append] at ih
    exact .cl ih rfl (.inr rfl)
theorem fun_nest {ws : List Str} {p : Str × List Str} {later : List (Str × List Str)} {pre fr : List D} (n : Nest 0 pre) (f : FunRows ws p later fr) : Nest 0 (pre ++ fr) := by
  induction f with
  | mk hp _ =>
    rw [← List.append_assoc, ← List.append_assoc]
    have q := part_nest (.op (r := .tup [.str "def", .str p.1, .tup (p.2.map D.str)]) (w := Str.ofString "def") n rfl (.inl rfl)) hp
    exact .cl q rfl (.inl rfl)
  | sk _ ih => rw [← List.append_assoc]; exact ih.plain (by decide)
theorem funs_nest {ws : List Str} {pl : List (Str × List Str)} {k : Nat} {rs : List D} (f : Funs ws pl k rs) : Nest 0 rs := by
  induction f with
  | nil => exact .nil
  | next _ _ hf ih => exact fun_nest ih hf
end VL
namespace VL
open PySem PySem.Spec PyProof.Rows L2 RZ
def stW (w : Str) : Int := if w = Str.ofString "def" ∨ w = Str.ofString "if" ∨ w = Str.ofString "while" then 1 else if w = Str.ofString "give" ∨ w = Str.ofString "end" then -1 else 0
def stR (r : D) : Int := match wordR r with
  | some w => stW w
  | none => 0
@[simp] def p__law_whole : D → (W → Sto → Prop) → Prop := fun a Q => match a with
  | .int _ => Q (.d (.bl true)) []
  | .non => Q (.d (.bl false)) []
  | _ => False
def w__law_whole : WS := (wRet (wAndV (wCall fIsi (wCons (wVar 0) (wCons (wTy "int") wNil))) (wNotV (wCall fIsi (wCons (wVar 0) (wCons (wTy "bool") wNil))))))
@[simp] def sp__law_whole : PSp := sp1 p__law_whole
theorem v__law_whole : ∀ a Q, p__law_whole a Q → w__law_whole (evr Q) (startE ["_law_found"] [.d a]) [] := by
  intro a Q h
  unfold p__law_whole at h
  split at h
  · simpa [w__law_whole] using h
  · simpa [w__law_whole] using h
  · exact h.elim
@[simp] def p__law_step : D → (W → Sto → Prop) → Prop := fun a Q => (∃ w, wordR a = some w) ∧ Q (.d (.int (stR a))) []
theorem wordR_tup {r : D} {w : Str} (h : wordR r = some w) : ∃ rest, r = .tup (.str w :: rest) := by
  unfold wordR at h
  split at h
  · injection h with h; subst h; exact ⟨_, rfl⟩
  · cases h
def w__law_step : WS := (wSeq (wIfS (wTest (wOp (fInT false) (wOp fIx (wVar 0) (wC (.int 0))) (wTup (wCons (wC (.str "def")) (wCons (wC (.str "if")) (wCons (wC (.str "while")) wNil)))))) (wRet (wC (.int 1))) wNext)
    (wSeq (wIfS (wTest (wOp (fInT false) (wOp fIx (wVar 0) (wC (.int 0))) (wTup (wCons (wC (.str "give")) (wCons (wC (.str "end")) wNil))))) (wRet (wUn (fun i => -i) (wC (.int 1)))) wNext)
    (wRet (wC (.int 0)))))
@[simp] def sp__law_step : PSp := sp1 p__law_step
theorem v__law_step : ∀ a Q, p__law_step a Q → w__law_step (evr Q) (startE ["_law_row"] [.d a]) [] := by
  intro a Q h
  obtain ⟨⟨w, hw⟩, h⟩ := h
  obtain ⟨rest, rfl⟩ := wordR_tup hw
  have e : stR (.tup (.str w :: rest)) = stW w := rfl
  rw [e] at h
  unfold stW at h
  by_cases c0 : w = Str.ofString "def"
  · subst c0; simpa [w__law_step, sizeLine_eq] using h
  by_cases c1 : w = Str.ofString "if"
  · subst c1; simpa [w__law_step, sizeLine_eq] using h
  by_cases c2 : w = Str.ofString "while"
  · subst c2; simpa [w__law_step, sizeLine_eq] using h
  by_cases c3 : w = Str.ofString "give"
  · subst c3; simpa [w__law_step, sizeLine_eq] using h
  by_cases c4 : w = Str.ofString "end"
  · subst c4; simpa [w__law_step, sizeLine_eq] using h
  have d0 : ¬ Str.ofString "def" = w := fun z => c0 z.symm
  have d1 : ¬ Str.ofString "if" = w := fun z => c1 z.symm
  have d2 : ¬ Str.ofString "while" = w := fun z => c2 z.symm
  have d3 : ¬ Str.ofString "give" = w := fun z => c3 z.symm
  have d4 : ¬ Str.ofString "end" = w := fun z => c4 z.symm
  simp only [c0, c1, c2, c3, c4, or_self, if_false] at h
  simp [w__law_step, d0, d1, d2, d3, d4, sizeLine_eq]
  exact h
/-- the place where the depth comes to nought -/
def endF : List D → Nat → Int → Option Nat
  | [], _, _ => none
  | r :: rs, k, d => if d + stR r = 0 then some k else endF rs (k + 1) (d + stR r)
@[simp] def p__law_end : D → D → (W → Sto → Prop) → Prop := fun a b Q => match a, b with
  | .lst rows, .int j => (∀ r ∈ rows, ∃ w, wordR r = some w) ∧ 0 ≤ j ∧ j < rows.length ∧ rows.length ≤ 1000 ∧ Q (.d (optD (endF (rows.drop (j.toNat + 1)) (j.toNat + 1) 1))) []
  | _, _ => False
def w__law_end : WS := (wSeq (wAsg (wC (.int 1)) (wgName 2))
    (wSeq (wFor (wRng2 (wCons (wOp (fAdd false) (wVar 1) (wC (.int 1))) (wCons (wCall fLen (wCons (wVar 0) wNil)) wNil))) (wgName 3) (wSeq (wAug (fI0 fun a b => a + b) 2 (wCallP false sp__law_step [] (wCons (wOp fIx (wVar 0) (wVar 3)) wNil)))
    (wIfS (wTest (wOp (fEq false) (wVar 2) (wC (.int 0)))) (wRet (wVar 3)) wNext)))
    (wRet (wC .non))))
@[simp] def sp__law_end : PSp := sp2 p__law_end
theorem v__law_end : ∀ a b Q, p__law_end a b Q → w__law_end (evr Q) (startE ["_law_rows", "_law_at", "_law_depth", "_law_k"] [.d a, .d b]) [] := by
  intro a b Q h
  unfold p__law_end at h
  split at h
  · rename_i rows j0
    obtain ⟨hw, h0, h1, h2, h⟩ := h
    obtain ⟨j, rfl⟩ : ∃ j : Nat, j0 = j := ⟨j0.toNat, by omega⟩
    simp only [Int.toNat_natCast] at h
    simp [w__law_end, sizeLine_eq]
    refine ⟨⟨by omega, by omega, by omega, by omega⟩, ?_⟩
    rw [show ((rows.length : Int) - ((j : Int) + 1)).toNat = rows.length - (j + 1) by omega, show ((j : Int) + 1) = ((j + 1 : Nat) : Int) by omega]
    refine forL_rem (fun items rh mu => mu = [] ∧ ∃ (k : Nat) (d : Int) (b : Option W), items = rngW (k : Nat) (rows.length - k) ∧ k ≤ rows.length ∧ rh = [some (W.d (D.lst rows)), some (W.d (D.int ↑j)), some (.d (.int d)), b] ∧ Q (.d (optD (endF (rows.drop k) k d))) []) (fun _ _ _ _ => trivial) ?_ ?_ ⟨rfl, j + 1, 1, _, rfl, by omega, rfl, h⟩
    · rintro _ _ ⟨rfl, k, d, b, e, hk, rfl, hq⟩
      have : k = rows.length := by
        have := congrArg List.length e
        rw [rngW_len] at this; simp at this; omega
      subst this
      simp [endF, optD] at hq
      simpa using hq
    · rintro x items _ _ ⟨rfl, k, d, b, e, hk, rfl, hq⟩ N hN
      have hlt : k < rows.length := by
        have := congrArg List.length e
        rw [rngW_len] at this; simp at this; omega
      rw [show rows.length - k = (rows.length - (k + 1)) + 1 by omega, rngW] at e
      injection e with e1 e2
      subst e1
      have at1 : atI rows (k : Int) = some rows[k] := by
        rw [at_nat (by omega) (by omega)]; simp [hlt]
      rw [List.drop_eq_getElem_cons hlt, endF] at hq
      simp [at1, hw]
      refine ite_of (fun c => ?_) (fun c => ?_)
      · rw [if_pos c] at hq; exact hq
      · rw [if_neg c] at hq
        exact hN _ _ ⟨rfl, k + 1, _, _, by rw [e2]; rfl, hlt, rfl, hq⟩
  · exact h.elim
def endsF (rows : List D) (j : Nat) : Option Nat := match rows[j]? with
  | some r => if stR r = 1 then endF (rows.drop (j + 1)) (j + 1) 1 else none
  | none => none
def roundF (rows : List D) (k : Nat) : List Nat := (List.range k).filter fun j => match endsF rows j with
  | some e => decide (k ≤ e)
  | none => false
def preL (f : Nat → Option Nat) (k n : Nat) : List D := (List.range n).map fun j => if j < k then optD (f j) else .non
@[simp] theorem preL_len (f : Nat → Option Nat) (k n : Nat) : (preL f k n).length = n := by simp [preL]
theorem preL_set {f : Nat → Option Nat} {k n : Nat} (h : k < n) : (preL f k n).set k (optD (f k)) = preL f (k + 1) n := by
  refine List.ext_getElem (by simp) fun i h1 h2 => ?_
  simp only [preL, List.getElem_set, List.getElem_map, List.getElem_range]
  by_cases e : k = i
  · subst e; simp
  · rw [if_neg e]
    by_cases q : i < k
    · rw [if_pos q, if_pos (by omega)]
    · rw [if_neg q, if_neg (by omega)]
theorem preL_none {f : Nat → Option Nat} {k n : Nat} (h : f k = none) : preL f k n = preL f (k + 1) n := by
  refine List.map_congr_left fun i _ => ?_
  by_cases e : i = k
  · subst e; rw [if_neg (by omega), if_pos (by omega), h]; rfl
  · by_cases q : i < k
    · rw [if_pos q, if_pos (by omega)]
    · rw [if_neg q, if_neg (by omega)]
theorem preL_zero (f : Nat → Option Nat) (n : Nat) : preL f 0 n = List.replicate n .non := by simp [preL, List.map_const']
theorem preL_at {f : Nat → Option Nat} {n j : Nat} (h : j < n) : atI (preL f n n) (j : Int) = some (optD (f j)) := by
  rw [at_nat (by omega) (by simp; omega)]; simp [preL, h]
def headsF (rows : List D) (k : Nat) : Option Nat := (roundF rows k).getLast?
def isW (rows : List D) (k : Nat) (z : String) : Bool := match rows[k]? with
  | some r => wordR r == some (Str.ofString z)
  | none => false
def homesF (rows : List D) (k : Nat) : Option Nat := if isW rows k "def" then some k else (roundF rows k).head?
def elsesU (rows : List D) : Nat → List (Option Nat)
  | 0 => List.replicate rows.length none
  | k + 1 => if isW rows k "else" then (match headsF rows k with
    | some j => (elsesU rows k).set j (some k)
    | none => elsesU rows k) else elsesU rows k
theorem elsesU_len (rows : List D) : ∀ k, (elsesU rows k).length = rows.length
  | 0 => by simp [elsesU]
  | k + 1 => by
    unfold elsesU
    split
    · split
      · rw [List.length_set]; exact elsesU_len rows k
      · exact elsesU_len rows k
    · exact elsesU_len rows k
@[simp] def p__law_due : D → (W → Sto → Prop) → Prop := fun a Q => match a with
  | .lst rows => (∀ r ∈ rows, ∃ w, wordR r = some w) ∧ rows.length ≤ 1000 ∧ (∀ k, isW rows k "else" = true → ∃ j, headsF rows k = some j) ∧
    Q (.tup [.loc 1, .loc 0, .loc 3, .loc 2]) [.lst (preL (endsF rows) rows.length rows.length), .lst (preL (headsF rows) rows.length rows.length), .lst (preL (homesF rows) rows.length rows.length), .lst ((elsesU rows rows.length).map optD)]
  | _ => False
def roundP (rows : List D) (k : Nat) : D → Bool
  | .int i => match endsF rows i.toNat with
    | some e => decide (k ≤ e)
    | none => false
  | _ => false
theorem rngW_nats (k : Nat) : rngW 0 k = ((List.range k).map fun j => D.int (j : Nat)).map W.d := by
  refine List.ext_getElem? fun i => ?_
  by_cases h : i < k
  · rw [rngW_get 0 k i h]; simp [h]
  · rw [List.getElem?_eq_none (by rw [rngW_len]; omega), List.getElem?_eq_none (by simp; omega)]
theorem seq_R {a b : WS} {V : EV} {rh : Ev} {mu : Sto} (R : Ev → Sto → Prop) (h1 : ∀ K : Ev → Sto → Prop, (∀ rh' mu', R rh' mu' → K rh' mu') → a { V with nx := K } rh mu) (h2 : ∀ rh' mu', R rh' mu' → b V rh' mu') : wSeq a b V rh mu := h1 _ h2
def w__law_due : WS := (wSeq (wAsg (wCall fLen (wCons (wVar 0) wNil)) (wgName 1))
    (wSeq (wAsg (wLc true (wSeqI (wVar 0)) (wgName 3) wYes (wC .non) [3]) (wgName 2))
    (wSeq (wFor (wRng1 (wCons (wVar 1) wNil)) (wgName 4) (wIfS (wTest (wOp (fEq false) (wCallP false sp__law_step [] (wCons (wOp fIx (wVar 0) (wVar 4)) wNil)) (wC (.int 1)))) (wAsg (wCallP false sp__law_end [] (wCons (wVar 0) (wCons (wVar 4) wNil))) (wgSub fSetL (wVar 2) (wVar 4))) wNext))
    (wSeq (wAsg (wLc true (wSeqI (wVar 0)) (wgName 3) wYes (wC .non) [3]) (wgName 5))
    (wSeq (wAsg (wLc true (wSeqI (wVar 0)) (wgName 3) wYes (wC .non) [3]) (wgName 6))
    (wSeq (wAsg (wLc true (wSeqI (wVar 0)) (wgName 3) wYes (wC .non) [3]) (wgName 7))
    (wSeq (wFor (wRng1 (wCons (wVar 1) wNil)) (wgName 4) (wSeq (wAsg (wLc false (wRng1 (wCons (wVar 4) wNil)) (wgName 9) (wAnd (wTest (wOp (fIs true) (wOp fIx (wVar 2) (wVar 9)) (wC .non))) (wTest (wOp (fB0 fun i j => decide (j ≤ i)) (wOp fIx (wVar 2) (wVar 9)) (wVar 4)))) (wVar 9) [9]) (wgName 8))
    (wSeq (wIfS (wTest (wOp (fEq true) (wVar 8) (wLst false wNil))) (wSeq (wAsg (wOp fIx (wVar 8) (wUn (fun i => -i) (wC (.int 1)))) (wgSub fSetL (wVar 5) (wVar 4)))
    (wAsg (wOp fIx (wVar 8) (wC (.int 0))) (wgSub fSetL (wVar 6) (wVar 4)))) wNext)
    (wSeq (wIfS (wTest (wOp (fEq false) (wOp fIx (wOp fIx (wVar 0) (wVar 4)) (wC (.int 0))) (wC (.str "def")))) (wAsg (wVar 4) (wgSub fSetL (wVar 6) (wVar 4))) wNext)
    (wIfS (wTest (wOp (fEq false) (wOp fIx (wOp fIx (wVar 0) (wVar 4)) (wC (.int 0))) (wC (.str "else")))) (wAsg (wVar 4) (wgSub fSetL (wVar 7) (wOp fIx (wVar 5) (wVar 4)))) wNext)))))
    (wRet (wTup (wCons (wVar 5) (wCons (wVar 2) (wCons (wVar 7) (wCons (wVar 6) wNil)))))))))))))
@[simp] def sp__law_due : PSp := sp1 p__law_due
theorem v__law_due : ∀ a Q, p__law_due a Q → w__law_due (evr Q) (startE ["_law_rows", "_law_many", "_law_ends", "_law_row", "_law_k", "_law_heads", "_law_homes", "_law_elses", "_law_round_it", "_law_j"] [.d a]) [] := by
  intro a Q h
  unfold p__law_due at h
  split at h
  · rename_i rows
    obtain ⟨hw, hl, he, h⟩ := h
    have en : rows.map (fun _ => D.non) = List.replicate rows.length .non := List.map_const' ..
    unfold w__law_due
    refine seq_to [some (.d (.lst rows)), some (.d (.int rows.length)), none, none, none, none, none, none, none, none] [] (fun K hK => by simpa using hK) ?_
    refine seq_to [some (.d (.lst rows)), some (.d (.int rows.length)), some (.loc 0), none, none, none, none, none, none, none] [.lst (preL (endsF rows) 0 rows.length)] (fun K hK => ?_) ?_
    · simp
      refine lc_M (fun _ => .non) trivial (fun x hx A q => by simpa using q) ?_
      simp only [asDs_map]
      rw [preL_zero] at hK
      rw [en]
      exact hK
    refine seq_R (fun rh mu => (∃ x, rh = [some (.d (.lst rows)), some (.d (.int rows.length)), some (.loc 0), none, x, none, none, none, none, none]) ∧ mu = [.lst (preL (endsF rows) rows.length rows.length)]) (fun K hK => ?_) ?_
    · simp [sizeLine_eq]
      refine ⟨by omega, forL_rng (fun k rh mu => (∃ x, rh = [some (.d (.lst rows)), some (.d (.int rows.length)), some (.loc 0), none, x, none, none, none, none, none]) ∧ mu = [.lst (preL (endsF rows) k rows.length)]) (fun _ _ _ _ => trivial) (fun rh mu h => hK rh mu h) ?_ ⟨⟨_, rfl⟩, rfl⟩⟩
      rintro k hk _ _ ⟨⟨x, rfl⟩, rfl⟩ N hN
      have at1 : atI rows (k : Int) = some rows[k] := by
        rw [at_nat (by omega) (by omega)]; simp [hk]
      have ix : ixN rows.length (k : Int) = some k := by
        unfold ixN; rw [if_pos (by omega), if_pos (by omega)]; rfl
      have ee : endsF rows k = if stR rows[k] = 1 then endF (rows.drop (k + 1)) (k + 1) 1 else none := by
        unfold endsF; simp [hk]
      simp [at1, hw, hk, ix]
      refine ite_of (fun c => ⟨hw, hl, ?_⟩) (fun c => ?_)
      · rw [if_pos c] at ee
        have := hN _ _ ⟨⟨some (.d (.int k)), rfl⟩, rfl⟩
        rw [← preL_set hk, ee] at this
        exact this
      · rw [if_neg c] at ee
        have := hN _ _ ⟨⟨some (.d (.int k)), rfl⟩, rfl⟩
        rw [← preL_none ee] at this
        exact this
    · rintro _ _ ⟨⟨x, rfl⟩, rfl⟩
      generalize hEnds : preL (endsF rows) rows.length rows.length = eL at *
      refine seq_to [some (.d (.lst rows)), some (.d (.int rows.length)), some (.loc 0), none, x, some (.loc 1), none, none, none, none] [.lst eL, .lst (preL (headsF rows) 0 rows.length)] (fun K hK => ?_) ?_
      · simp
        refine lc_M (fun _ => .non) trivial (fun x hx A q => by simpa using q) ?_
        simp only [asDs_map]
        rw [preL_zero] at hK
        rw [en]
        exact hK
      refine seq_to [some (.d (.lst rows)), some (.d (.int rows.length)), some (.loc 0), none, x, some (.loc 1), some (.loc 2), none, none, none] [.lst eL, .lst (preL (headsF rows) 0 rows.length), .lst (preL (homesF rows) 0 rows.length)] (fun K hK => ?_) ?_
      · simp
        refine lc_M (fun _ => .non) trivial (fun x hx A q => by simpa using q) ?_
        simp only [asDs_map]
        rw [preL_zero, preL_zero] at hK
        rw [en, preL_zero]
        exact hK
      refine seq_to [some (.d (.lst rows)), some (.d (.int rows.length)), some (.loc 0), none, x, some (.loc 1), some (.loc 2), some (.loc 3), none, none] [.lst eL, .lst (preL (headsF rows) 0 rows.length), .lst (preL (homesF rows) 0 rows.length), .lst ((elsesU rows 0).map optD)] (fun K hK => ?_) ?_
      · simp
        refine lc_M (fun _ => .non) trivial (fun x hx A q => by simpa using q) ?_
        simp only [asDs_map]
        have e0 : (elsesU rows 0).map optD = List.replicate rows.length .non := by
          show (List.replicate rows.length none).map optD = _
          rw [List.map_replicate]; rfl
        rw [e0] at hK
        rw [en]
        exact hK
      refine seq_R (fun rh mu => (∃ x y z, rh = [some (.d (.lst rows)), some (.d (.int rows.length)), some (.loc 0), none, x, some (.loc 1), some (.loc 2), some (.loc 3), y, z]) ∧ mu = [.lst eL, .lst (preL (headsF rows) rows.length rows.length), .lst (preL (homesF rows) rows.length rows.length), .lst ((elsesU rows rows.length).map optD)]) (fun K hK => ?_) ?_
      · simp [sizeLine_eq]
        refine ⟨by omega, forL_rng (fun k rh mu => (∃ x y z, rh = [some (.d (.lst rows)), some (.d (.int rows.length)), some (.loc 0), none, x, some (.loc 1), some (.loc 2), some (.loc 3), y, z]) ∧ mu = [.lst eL, .lst (preL (headsF rows) k rows.length), .lst (preL (homesF rows) k rows.length), .lst ((elsesU rows k).map optD)]) (fun _ _ _ _ => trivial) (fun rh mu h => hK rh mu h) ?_ ⟨⟨_, _, _, rfl⟩, rfl⟩⟩
        rintro k hk _ _ ⟨⟨x, y, z, rfl⟩, rfl⟩ N hN
        have ix : ixN rows.length (k : Int) = some k := by
          unfold ixN; rw [if_pos (by omega), if_pos (by omega)]; rfl
        obtain ⟨w, ew⟩ := hw rows[k] (List.getElem_mem _)
        obtain ⟨rest, er⟩ := wordR_tup ew
        have at1 : atI rows (k : Int) = some (.tup (.str w :: rest)) := by
          rw [at_nat (by omega) (by omega)]; simp [hk]; exact er
        have iw : ∀ z : String, isW rows k z = (w == Str.ofString z) := fun z => by
          unfold isW; simp [hk, ew]
        let E : Ev := [some (.d (.lst rows)), some (.d (.int rows.length)), some (.loc 0), none, some (.d (.int k)), some (.loc 1), some (.loc 2), some (.loc 3), some (.d (.lst (natsL (roundF rows k)))), z]
        simp only [wgName]
        refine seq_to E [.lst eL, .lst (preL (headsF rows) k rows.length), .lst (preL (homesF rows) k rows.length), .lst ((elsesU rows k).map optD)] (fun K hK => ?_) ?_
        · simp
          refine ⟨by omega, ?_⟩
          rw [rngW_nats]
          refine lc_F (roundP rows k) trivial (fun d hd A B q => ?_) ?_
          · obtain ⟨j, hj, rfl⟩ := List.mem_map.mp hd
            have hj' := List.mem_range.mp hj
            have aj : atI eL (j : Int) = some (optD (endsF rows j)) := by rw [← hEnds]; exact preL_at (by omega)
            have aj' : atI (eL.map W.d) (j : Int) = some (.d (optD (endsF rows j))) := by
              have := atI_comp (fun d : D => d) eL (j : Int)
              simp only [List.map_id_fun', id, Function.comp_def] at this
              rw [show eL.map W.d = eL.map fun x => W.d x from rfl, this, aj]; rfl
            simp [aj']
            cases ce : endsF rows j with
            | none =>
              have hr : roundP rows k (D.int (j : Nat)) = false := by simp [roundP, ce]
              rw [if_neg (by rw [hr]; decide)] at q
              simpa [optD] using q
            | some e =>
              have hr : roundP rows k (D.int (j : Nat)) = decide (k ≤ e) := by simp [roundP, ce]
              by_cases c : k ≤ e
              · rw [if_pos (by rw [hr]; simpa using c)] at q
                simpa [optD, c] using q
              · rw [if_neg (by rw [hr]; simpa using c)] at q
                simpa [optD, c] using q
          · simp only [asDs_map]
            have ef : ((List.range k).map fun j => D.int (j : Nat)).filter (roundP rows k) = natsL (roundF rows k) := by
              unfold natsL roundF
              rw [List.filter_map]
              rfl
            rw [ef]
            exact hK
        refine seq_to E [.lst eL, .lst (preL (headsF rows) (k + 1) rows.length), .lst (match (roundF rows k).head? with | some i => (preL (homesF rows) k rows.length).set k (.int (i : Nat)) | none => preL (homesF rows) k rows.length), .lst ((elsesU rows k).map optD)] (fun K hK => ?_) ?_
        · rcases List.eq_nil_or_concat (roundF rows k) with e | ⟨s0, j, e⟩
          · have hh : headsF rows k = none := by unfold headsF; rw [e]; rfl
            rw [← preL_none hh, e] at hK
            simp only [E, e] at hK ⊢
            simp [natsL]
            simpa [natsL] using hK
          · rw [List.concat_eq_append] at e
            have hh : headsF rows k = some j := by unfold headsF; rw [e]; simp
            obtain ⟨i, r, hi⟩ : ∃ i r, roundF rows k = i :: r := by
              cases q : roundF rows k with
              | nil => rw [q] at e; simp at e
              | cons i r => exact ⟨i, r, rfl⟩
            have ne : deqvs (natsL (roundF rows k)) [] = false := by rw [hi]; simp [natsL]
            have a0 : atI (natsL (roundF rows k)) 0 = some (.int (i : Nat)) := by rw [hi]; simp [natsL]
            have a1 : atI (natsL (roundF rows k)) (-1) = some (.int (j : Nat)) := by
              rw [e, show natsL (s0 ++ [j]) = natsL s0 ++ [.int (j : Nat)] by simp [natsL]]; exact at_lastS _ _
            have hdp : ddeps (natsL (roundF rows k)) ≤ 63 := ddeps_le fun x hx => by
              obtain ⟨z, _, rfl⟩ := List.mem_map.mp hx; simp
            have p1 := preL_set (f := headsF rows) hk
            rw [hh] at p1
            rw [← p1, hi] at hK
            simp only [List.head?_cons] at hK
            simp only [E] at hK ⊢
            simp [ne, a0, a1, hdp, ix]
            exact hK
        refine seq_to E [.lst eL, .lst (preL (headsF rows) (k + 1) rows.length), .lst (preL (homesF rows) (k + 1) rows.length), .lst ((elsesU rows k).map optD)] (fun K hK => ?_) ?_
        · have p1 := preL_set (f := homesF rows) hk
          by_cases c : w = Str.ofString "def"
          · have hh : homesF rows k = some k := by unfold homesF; rw [iw, c]; simp
            rw [hh] at p1
            rw [← p1] at hK
            subst c
            simp only [E] at hK ⊢
            cases q : (roundF rows k).head? with
            | none => simp [at1, ix]; exact hK
            | some i => simp [at1, ix]; exact hK
          · have hh : homesF rows k = (roundF rows k).head? := by unfold homesF; rw [iw]; simp [c]
            simp only [E] at hK ⊢
            cases q : (roundF rows k).head? with
            | none =>
              rw [q] at hh
              rw [← preL_none hh] at hK
              simp [at1, c]; exact hK
            | some i =>
              rw [hh, q] at p1
              rw [← p1] at hK
              simp [at1, c]; exact hK
        have fin := hN _ _ ⟨⟨some (.d (.int k)), some (.d (.lst (natsL (roundF rows k)))), z, rfl⟩, rfl⟩
        by_cases c : w = Str.ofString "else"
        · obtain ⟨j, hj⟩ := he k (by rw [iw, c]; simp)
          have jk : j < k := by
            unfold headsF at hj
            have := List.mem_of_getLast? hj
            unfold roundF at this
            exact List.mem_range.mp (List.mem_filter.mp this).1
          have ah : atI (preL (headsF rows) (k + 1) rows.length) (k : Int) = some (.int (j : Nat)) := by
            rw [at_nat (by omega) (by simp; exact hk)]
            simp [preL, hk, hj, optD]
          have ixj : ixN rows.length (j : Int) = some j := by
            unfold ixN; rw [if_pos (by omega), if_pos (by omega)]; rfl
          have eU : (elsesU rows (k + 1)).map optD = ((elsesU rows k).map optD).set j (.int (k : Nat)) := by
            show (if isW rows k "else" then _ else _ : List (Option Nat)).map optD = _
            rw [iw, c, hj]; simp [List.map_set]; rfl
          rw [eU] at fin
          subst c
          simp only [E]
          have ah' : atI ((preL (headsF rows) (k + 1) rows.length).map W.d) (k : Int) = some (.d (.int (j : Nat))) := atI_map ah
          simp [at1, ah', elsesU_len, ixj]
          exact fin
        · have eU : elsesU rows (k + 1) = elsesU rows k := by
            show (if isW rows k "else" then _ else _ : List (Option Nat)) = _
            rw [iw]; simp [c]
          rw [eU] at fin
          simp only [E]
          simp [at1, c]
          exact fin
      · rintro _ _ ⟨⟨x, y, z, rfl⟩, rfl⟩
        simp [sizeLine_eq]
        exact h
  · exact h.elim
@[simp] def p__law_same : D → D → (W → Sto → Prop) → Prop := fun a b Q => a = b ∧ (∃ l1 l2 l3 l4 : List (Option Nat), a = .tup [.lst (l1.map optD), .lst (l2.map optD), .lst (l3.map optD), .lst (l4.map optD)] ∧ l1.length ≤ 1000 ∧ l2.length ≤ 1000 ∧ l3.length ≤ 1000 ∧ l4.length ≤ 1000) ∧ Q (.d (.bl true)) []
theorem zip_same : ∀ (l : List (Option Nat)) (x : W), x ∈ zipW ((l.map optD).map W.d) ((l.map optD).map W.d) → ∃ o : Option Nat, x = .d (.tup [optD o, optD o])
  | [], x, h => by simp [zipW] at h
  | o :: l, x, h => by
    simp [zipW] at h
    rcases h with rfl | h
    · exact ⟨o, rfl⟩
    · exact zip_same l x (by simpa using h)
def w__law_same : WS := (wSeq (wIfS (wOr (wNot (wTru (wCall fIsi (wCons (wVar 0) (wCons (wTy "tuple") wNil))))) (wTest (wOp (fEq true) (wCall fLen (wCons (wVar 0) wNil)) (wC (.int 4))))) (wRet (wC (.bl false))) wNext)
    (wSeq (wFor (wZip (wCons (wVar 0) (wCons (wVar 1) wNil))) (wgTup 2 (wgCons (wgName 2) (wgCons (wgName 3) wgNil))) (wSeq (wIfS (wOr (wNot (wTru (wCall fIsi (wCons (wVar 2) (wCons (wTy "list") wNil))))) (wTest (wOp (fEq true) (wCall fLen (wCons (wVar 2) wNil)) (wCall fLen (wCons (wVar 3) wNil))))) (wRet (wC (.bl false))) wNext)
    (wFor (wZip (wCons (wVar 2) (wCons (wVar 3) wNil))) (wgTup 2 (wgCons (wgName 4) (wgCons (wgName 5) wgNil))) (wIfS (wOr (wAnd (wTest (wOp (fIs false) (wVar 4) (wC .non))) (wTest (wOp (fIs true) (wVar 5) (wC .non)))) (wOr (wAnd (wTest (wOp (fIs true) (wVar 4) (wC .non))) (wNot (wTru (wCallP false sp__law_whole [] (wCons (wVar 4) wNil))))) (wTest (wOp (fEq true) (wVar 4) (wVar 5))))) (wRet (wC (.bl false))) wNext))))
    (wRet (wC (.bl true)))))
@[simp] def sp__law_same : PSp := sp2 p__law_same
theorem v__law_same : ∀ a b Q, p__law_same a b Q → w__law_same (evr Q) (startE ["_law_told", "_law_due_here", "_law_some", "_law_rows", "_law_one", "_law_other"] [.d a, .d b]) [] := by
  intro a b Q h
  obtain ⟨rfl, ⟨l1, l2, l3, l4, rfl, h1, h2, h3, h4⟩, h⟩ := h
  simp only [w__law_same]
  refine seq_to [some (.d (.tup [.lst (l1.map optD), .lst (l2.map optD), .lst (l3.map optD), .lst (l4.map optD)])), some (.d (.tup [.lst (l1.map optD), .lst (l2.map optD), .lst (l3.map optD), .lst (l4.map optD)])), none, none, none, none] [] (fun K hK => by simpa using hK) ?_
  refine seq_R (fun rh mu => (∃ x y z u, rh = [some (.d (.tup [.lst (l1.map optD), .lst (l2.map optD), .lst (l3.map optD), .lst (l4.map optD)])), some (.d (.tup [.lst (l1.map optD), .lst (l2.map optD), .lst (l3.map optD), .lst (l4.map optD)])), x, y, z, u]) ∧ mu = []) (fun K hK => ?_) ?_
  · refine And.intro (Or.inr ⟨rfl, rfl⟩) ?_
    refine forL_inv (fun rh mu => (∃ x y z u, rh = [some (.d (.tup [.lst (l1.map optD), .lst (l2.map optD), .lst (l3.map optD), .lst (l4.map optD)])), some (.d (.tup [.lst (l1.map optD), .lst (l2.map optD), .lst (l3.map optD), .lst (l4.map optD)])), x, y, z, u]) ∧ mu = []) (fun _ _ _ => ⟨by simp, by simp⟩) (fun rh mu h => hK rh mu h) ?_ ⟨⟨_, _, _, _, rfl⟩, rfl⟩
    rintro x hx _ _ ⟨⟨x1, x2, x3, x4, rfl⟩, rfl⟩ N hN
    obtain ⟨l, hl, rfl⟩ : ∃ l : List (Option Nat), l.length ≤ 1000 ∧ x = .d (.tup [.lst (l.map optD), .lst (l.map optD)]) := by
      simp [zipW] at hx
      rcases hx with rfl | rfl | rfl | rfl
      · exact ⟨l1, h1, rfl⟩
      · exact ⟨l2, h2, rfl⟩
      · exact ⟨l3, h3, rfl⟩
      · exact ⟨l4, h4, rfl⟩
    have fin := fun a b => hN _ _ ⟨⟨some (.d (.lst (l.map optD))), some (.d (.lst (l.map optD))), a, b, rfl⟩, rfl⟩
    generalize D.tup [.lst (l1.map optD), .lst (l2.map optD), .lst (l3.map optD), .lst (l4.map optD)] = T at *
    simp
    refine forL_inv (fun rh mu => (∃ a b, rh = [some (.d T), some (.d T), some (.d (.lst (l.map optD))), some (.d (.lst (l.map optD))), a, b]) ∧ mu = []) (fun _ mu h => by simp [h.2]) (fun rh mu ⟨⟨a, b, e⟩, e2⟩ => by subst e; subst e2; exact fin a b) ?_ ⟨⟨_, _, rfl⟩, rfl⟩
    rintro x hx _ _ ⟨⟨a, b, rfl⟩, rfl⟩ N' hN'
    obtain ⟨o, rfl⟩ : ∃ o : Option Nat, x = .d (.tup [optD o, optD o]) := zip_same l x (by rw [List.map_map]; exact hx)
    have fin' := hN' _ _ ⟨⟨some (.d (optD o)), some (.d (optD o)), rfl⟩, rfl⟩
    cases o with
    | none => simp [optD]; exact fin'
    | some n => simp [optD]; exact fin'
  · rintro _ _ ⟨⟨x, y, z, u, rfl⟩, rfl⟩
    simpa using h
end VL
namespace VL
open PySem PySem.Spec PyProof.Rows L2 RZ
theorem wordN_R (r : D) : wordN r = wordR r := by
  unfold wordN wordR
  rcases r with _ | _ | _ | _ | xs | _ | _ <;> try rfl
def sumR (rs : List D) : Int := (rs.map stR).sum
theorem sumR_app (xs ys : List D) : sumR (xs ++ ys) = sumR xs + sumR ys := by simp [sumR]
theorem endF_none : ∀ (xs ys : List D) (k : Nat) (d : Int), endF xs k d = none → endF (xs ++ ys) k d = endF ys (k + xs.length) (d + sumR xs)
  | [], ys, k, d, _ => by simp [sumR]
  | x :: xs, ys, k, d, h => by
    unfold endF at h
    split at h
    · cases h
    · rename_i c
      show endF (x :: (xs ++ ys)) k d = _
      rw [endF, if_neg c, endF_none xs ys (k + 1) (d + stR x) h]
      have e1 : k + 1 + xs.length = k + (x :: xs).length := by simp; omega
      have e2 : d + stR x + sumR xs = d + sumR (x :: xs) := by simp [sumR]; omega
      rw [e1, e2]
theorem endF_some : ∀ (xs ys : List D) (k : Nat) (d : Int) (e : Nat), endF xs k d = some e → endF (xs ++ ys) k d = some e
  | [], _, _, _, _, h => by cases h
  | x :: xs, ys, k, d, e, h => by
    unfold endF at h
    show endF (x :: (xs ++ ys)) k d = _
    rw [endF]
    split at h
    · rename_i c; rw [if_pos c]; exact h
    · rename_i c; rw [if_neg c]; exact endF_some xs ys (k + 1) _ e h
theorem endF_lt : ∀ (xs : List D) (k : Nat) (d : Int) (e : Nat), endF xs k d = some e → k ≤ e ∧ e < k + xs.length
  | [], _, _, _, h => by cases h
  | x :: xs, k, d, e, h => by
    unfold endF at h
    split at h
    · injection h with h; subst h; simp
    · have := endF_lt xs (k + 1) _ e h
      simp; omega
/-- j opens a block that is still open -/
def isOpen (rs : List D) (j : Nat) : Bool := match rs[j]? with
  | some r => decide (stR r = 1) && (endF (rs.drop (j + 1)) (j + 1) 1).isNone
  | none => false
def dep (rs : List D) (j : Nat) : Int := 1 + sumR (rs.drop (j + 1))
def openL (rs : List D) : List Nat := (List.range rs.length).filter (isOpen rs)
theorem dep_app {rs : List D} {r : D} {j : Nat} (h : j < rs.length) : dep (rs ++ [r]) j = dep rs j + stR r := by
  unfold dep
  rw [List.drop_append_of_le_length (by omega), sumR_app]
  simp [sumR]; omega
theorem isOpen_app {rs : List D} {r : D} {j : Nat} (h : j < rs.length) : isOpen (rs ++ [r]) j = (isOpen rs j && decide (dep rs j + stR r ≠ 0)) := by
  unfold isOpen
  rw [List.getElem?_append_left h, List.drop_append_of_le_length (by omega)]
  have e : rs[j]? = some rs[j] := List.getElem?_eq_getElem h
  rw [e]
  simp only
  cases q : endF (rs.drop (j + 1)) (j + 1) 1 with
  | some k => rw [endF_some _ _ _ _ _ q]; simp
  | none =>
    rw [endF_none _ _ _ _ q]
    unfold dep
    by_cases c : 1 + sumR (rs.drop (j + 1)) + stR r = 0
    · simp [endF, c]
    · simp [endF, c]
theorem openL_app (rs : List D) (r : D) : openL (rs ++ [r]) = (openL rs).filter (fun j => decide (dep rs j + stR r ≠ 0)) ++ (if stR r = 1 then [rs.length] else []) := by
  unfold openL
  rw [List.length_append, List.length_singleton, List.range_succ, List.filter_append]
  congr 1
  · rw [List.filter_filter]
    refine List.filter_congr fun j hj => ?_
    rw [isOpen_app (List.mem_range.mp hj), Bool.and_comm]
  · have : isOpen (rs ++ [r]) rs.length = decide (stR r = 1) := by
      unfold isOpen
      simp [endF]
    by_cases c : stR r = 1
    · simp [this, c]
    · simp [this, c]
theorem stW_open {w : Str} (h : opensW w) : stW w = 1 := by unfold opensW at h; unfold stW; rw [if_pos h]
theorem stW_close {w : Str} (h : closesW w) : stW w = -1 := by
  unfold stW
  rcases h with rfl | rfl <;> simp
theorem stW_other {w : Str} (h : ¬ opensW w) (h' : ¬ closesW w) : stW w = 0 := by
  unfold opensW at h; unfold closesW at h'; unfold stW
  rw [if_neg h, if_neg h']
theorem stR_of {r : D} {w : Str} (h : wordN r = some w) : stR r = stW w := by
  rw [wordN_R] at h; unfold stR; rw [h]
structure OpenAt (h : Nat) (rs : List D) : Prop where
  len : (openL rs).length = h
  dp : ∀ (m j : Nat), (openL rs)[m]? = some j → dep rs j = (h : Int) - m
  lt : ∀ j ∈ openL rs, j < rs.length
theorem openL_lt {rs : List D} {j : Nat} (h : j ∈ openL rs) : j < rs.length := List.mem_range.mp (List.mem_filter.mp h).1
theorem OpenAt.same {h : Nat} {rs : List D} {r : D} (o : OpenAt h rs) (e : stR r = 0) : openL (rs ++ [r]) = openL rs ∧ OpenAt h (rs ++ [r]) := by
  have e1 : openL (rs ++ [r]) = openL rs := by
    rw [openL_app, e, if_neg (by decide), List.append_nil, List.filter_eq_self]
    intro j hj
    obtain ⟨m, hm⟩ := List.mem_iff_getElem?.mp hj
    have := o.dp m j hm
    have l := (List.getElem?_eq_some_iff.mp hm).1
    rw [o.len] at l
    simp; omega
  refine ⟨e1, by rw [e1]; exact o.len, fun m j hm => ?_, fun j hj => by rw [e1] at hj; have := o.lt j hj; simp; omega⟩
  rw [e1] at hm
  rw [dep_app (o.lt j (List.mem_of_getElem? hm)), e, o.dp m j hm]; omega
theorem OpenAt.opn {h : Nat} {rs : List D} {r : D} (o : OpenAt h rs) (e : stR r = 1) : openL (rs ++ [r]) = openL rs ++ [rs.length] ∧ OpenAt (h + 1) (rs ++ [r]) := by
  have e1 : openL (rs ++ [r]) = openL rs ++ [rs.length] := by
    rw [openL_app, e, if_pos rfl]
    congr 1
    rw [List.filter_eq_self]
    intro j hj
    obtain ⟨m, hm⟩ := List.mem_iff_getElem?.mp hj
    have := o.dp m j hm
    have l := (List.getElem?_eq_some_iff.mp hm).1
    rw [o.len] at l
    simp; omega
  refine ⟨e1, by rw [e1]; simp [o.len], fun m j hm => ?_, fun j hj => openL_lt hj⟩
  rw [e1] at hm
  by_cases q : m < (openL rs).length
  · rw [List.getElem?_append_left q] at hm
    rw [dep_app (o.lt j (List.mem_of_getElem? hm)), e, o.dp m j hm]; omega
  · have l := (List.getElem?_eq_some_iff.mp hm).1
    simp at l
    have : m = (openL rs).length := by omega
    subst this
    simp at hm
    subst hm
    unfold dep
    simp [sumR, o.len]; omega
theorem OpenAt.cls {h : Nat} {rs : List D} {r : D} (o : OpenAt (h + 1) rs) (e : stR r = -1) : openL (rs ++ [r]) = (openL rs).dropLast ∧ OpenAt h (rs ++ [r]) := by
  rcases List.eq_nil_or_concat (openL rs) with q | ⟨L, j, q⟩
  · have := o.len; rw [q] at this; simp at this
  · rw [List.concat_eq_append] at q
    have hl := o.len
    rw [q] at hl
    simp at hl
    have dj : dep rs j = 1 := by
      have := o.dp L.length j (by rw [q]; simp)
      omega
    have dL : ∀ (m i : Nat), L[m]? = some i → dep rs i = (h : Int) + 1 - m := fun m i hm => by
      have l := (List.getElem?_eq_some_iff.mp hm).1
      have := o.dp m i (by rw [q, List.getElem?_append_left l]; exact hm)
      omega
    have e1 : openL (rs ++ [r]) = L := by
      rw [openL_app, e, if_neg (by decide), List.append_nil, q, List.filter_append]
      have f1 : L.filter (fun j => decide (dep rs j + -1 ≠ 0)) = L := by
        rw [List.filter_eq_self]
        intro i hi
        obtain ⟨m, hm⟩ := List.mem_iff_getElem?.mp hi
        have := dL m i hm
        have l := (List.getElem?_eq_some_iff.mp hm).1
        simp; omega
      rw [f1]
      simp [dj]
    refine ⟨by rw [e1, q]; simp, by rw [e1]; exact hl, fun m i hm => ?_, fun j hj => openL_lt hj⟩
    rw [e1] at hm
    have l := (List.getElem?_eq_some_iff.mp hm).1
    have lt : i < rs.length := o.lt i (by rw [q]; exact List.mem_append_left _ (List.mem_of_getElem? hm))
    rw [dep_app lt, e, dL m i hm]; omega
theorem nest_open {h : Nat} {rs : List D} (n : Nest h rs) : OpenAt h rs := by
  induction n with
  | nil => exact ⟨rfl, fun m j hm => by simp [openL] at hm, fun j hj => by simp [openL] at hj⟩
  | pl _ hw h1 h2 _ ih => exact (ih.same (by rw [stR_of hw, stW_other h1 h2])).2
  | op _ hw h1 ih => exact (ih.opn (by rw [stR_of hw, stW_open h1])).2
  | els _ hw ih => exact (ih.same (by rw [stR_of hw]; decide)).2
  | cl _ hw h1 ih => exact (ih.cls (by rw [stR_of hw, stW_close h1])).2
theorem round_open {rows : List D} (hn : openL rows = []) {i : Nat} (hi : i ≤ rows.length) : roundF rows i = openL (rows.take i) := by
  unfold roundF openL
  rw [List.length_take, Nat.min_eq_left hi]
  refine List.filter_congr fun j hj => ?_
  have hj := List.mem_range.mp hj
  have jr : j < rows.length := by omega
  have e1 : rows[j]? = some rows[j] := List.getElem?_eq_getElem jr
  have e2 : (rows.take i)[j]? = some rows[j] := by rw [List.getElem?_take_of_lt hj, e1]
  have e3 : rows.drop (j + 1) = (rows.take i).drop (j + 1) ++ rows.drop i := by
    conv => lhs; rw [← List.take_append_drop i rows]
    rw [List.drop_append_of_le_length (by simp; omega)]
  have nj : isOpen rows j = false := by
    cases q : isOpen rows j with
    | false => rfl
    | true =>
      have : j ∈ openL rows := List.mem_filter.mpr ⟨List.mem_range.mpr jr, q⟩
      rw [hn] at this; cases this
  unfold isOpen at nj ⊢
  unfold endsF
  rw [e1] at nj ⊢
  rw [e2]
  simp only at nj ⊢
  by_cases c : stR rows[j] = 1
  · rw [if_pos c]
    cases q : endF ((rows.take i).drop (j + 1)) (j + 1) 1 with
    | some e =>
      have l := (endF_lt _ _ _ _ q).2
      rw [e3, endF_some _ _ _ _ _ q]
      simp at l ⊢
      omega
    | none =>
      have f := endF_none _ (rows.drop i) _ _ q
      rw [← e3] at f
      cases q2 : endF (rows.drop (j + 1)) (j + 1) 1 with
      | none => rw [q2] at nj; simp [c] at nj
      | some e =>
        rw [q2] at f
        have l := (endF_lt _ _ _ _ f.symm).1
        simp at l ⊢
        exact ⟨fun _ => c, fun _ => by omega⟩
  · rw [if_neg c]; simp [c]
theorem runS_app : ∀ (xs : List D) (r : D) (k : Nat) (s s' : ShS) (w : Str), runS k xs s = some s' → wordR r = some w → runS k (xs ++ [r]) s = stepS (k + xs.length) w s'
  | [], r, k, s, s', w, h, hw => by
    injection h with h; subst h
    show runS k [r] s = _
    unfold runS
    rw [hw]
    simp only [List.length_nil, Nat.add_zero]
    cases stepS k w s with
    | none => rfl
    | some s2 => rfl
  | x :: xs, r, k, s, s', w, h, hw => by
    show runS k (x :: (xs ++ [r])) s = _
    unfold runS at h ⊢
    cases q : wordR x with
    | none => rw [q] at h; cases h
    | some v =>
      rw [q] at h
      simp only at h ⊢
      cases q2 : stepS k v s with
      | none => rw [q2] at h; cases h
      | some s2 =>
        rw [q2] at h
        simp only at h ⊢
        rw [runS_app xs r (k + 1) s2 s' w h hw]
        congr 1
        simp; omega
theorem app_one {A1 : Type} {xs ys : List A1} {x y : A1} (h : xs ++ [x] = ys ++ [y]) : xs = ys ∧ x = y := by
  have := List.append_inj' h rfl
  exact ⟨this.1, by simpa using this.2⟩
/-- the last row of nested rows -/
theorem nest_snoc {h : Nat} {rs : List D} {r : D} (n : Nest h (rs ++ [r])) : ∃ h' w, Nest h' rs ∧ wordN r = some w ∧
    ((h = h' ∧ ¬ opensW w ∧ ¬ closesW w ∧ w ≠ Str.ofString "else") ∨ (h = h' + 1 ∧ opensW w) ∨ (h = h' ∧ 1 ≤ h' ∧ w = Str.ofString "else") ∨ (h' = h + 1 ∧ closesW w)) := by
  generalize e : rs ++ [r] = xs at n
  cases n with
  | nil => simp at e
  | pl m hw h1 h2 h3 => obtain ⟨rfl, rfl⟩ := app_one e; exact ⟨_, _, m, hw, .inl ⟨rfl, h1, h2, h3⟩⟩
  | op m hw h1 => obtain ⟨rfl, rfl⟩ := app_one e; exact ⟨_, _, m, hw, .inr (.inl ⟨rfl, h1⟩)⟩
  | els m hw => obtain ⟨rfl, rfl⟩ := app_one e; exact ⟨_, _, m, hw, .inr (.inr (.inl ⟨rfl, by omega, rfl⟩))⟩
  | cl m hw h1 => obtain ⟨rfl, rfl⟩ := app_one e; exact ⟨_, _, m, hw, .inr (.inr (.inr ⟨rfl, h1⟩))⟩
theorem nest_take {rs : List D} : ∀ (k : Nat) {h : Nat}, Nest h rs → k ≤ rs.length → ∃ h', Nest h' (rs.take (rs.length - k))
  | 0, h, n, _ => ⟨h, by simpa using n⟩
  | k + 1, h, n, hk => by
    obtain ⟨h', m⟩ := nest_take k n (by omega)
    have l : rs.length - (k + 1) < rs.length := by omega
    have e : rs.take (rs.length - k) = rs.take (rs.length - (k + 1)) ++ [rs[rs.length - (k + 1)]] := by
      rw [show rs.length - k = (rs.length - (k + 1)) + 1 by omega, List.take_succ, List.getElem?_eq_getElem l]; rfl
    rw [e] at m
    obtain ⟨h2, _, m2, _⟩ := nest_snoc m
    exact ⟨h2, m2⟩
def mapN (f : Nat → Option Nat) (N : Nat) : List (Option Nat) := (List.range N).map f
theorem mapN_set {f g : Nat → Option Nat} {N j : Nat} {v : Option Nat} (hj : j < N) (h1 : g j = v) (h2 : ∀ i, i ≠ j → g i = f i) : (mapN f N).set j v = mapN g N := by
  refine List.ext_getElem (by simp [mapN]) fun i a b => ?_
  simp only [mapN, List.getElem_set, List.getElem_map, List.getElem_range]
  by_cases e : j = i
  · subst e; rw [if_pos rfl, h1]
  · rw [if_neg e, h2 i (fun z => e z.symm)]
theorem mapN_eq {f g : Nat → Option Nat} {N : Nat} (h : ∀ i, i < N → g i = f i) : mapN f N = mapN g N := List.map_congr_left fun i hi => (h i (List.mem_range.mp hi)).symm
/-- what shape has told after the first k rows -/
structure Told (rows : List D) (k : Nat) (s : ShS) : Prop where
  st : s.stack = openL (rows.take k)
  hd : s.heads = mapN (fun i => if i < k then headsF rows i else none) rows.length
  hm : s.homes = mapN (fun i => if i < k then homesF rows i else none) rows.length
  en : s.ends = mapN (fun j => endsF (rows.take k) j) rows.length
  el : s.elses = elsesU rows k
theorem told_start (rows : List D) : Told rows 0 (.start rows.length) where
  st := by simp [ShS.start, openL]
  hd := by simp [ShS.start, mapN, List.map_const']
  hm := by simp [ShS.start, mapN, List.map_const']
  en := by simp [ShS.start, mapN, endsF, List.map_const']
  el := rfl
theorem top_heads {rows : List D} (ho : openL rows = []) {k : Nat} (hk : k < rows.length) {s : ShS} (t : Told rows k s) : (topS k s).heads = mapN (fun i => if i < k + 1 then headsF rows i else none) rows.length ∧ (topS k s).stack = s.stack ∧ (topS k s).ends = s.ends ∧ (topS k s).elses = s.elses := by
  have hh : headsF rows k = s.stack.getLast? := by unfold headsF; rw [round_open ho (by omega), t.st]
  unfold topS
  cases q : s.stack.getLast? with
  | none =>
    refine ⟨?_, rfl, rfl, rfl⟩
    show s.heads = _
    rw [t.hd]
    refine mapN_eq fun i hi => ?_
    by_cases e : i = k
    · subst e; simp [hh, q]
    · by_cases c : i < k
      · rw [if_pos c, if_pos (by omega)]
      · rw [if_neg c, if_neg (by omega)]
  | some j =>
    cases q2 : s.stack.head? with
    | none => rw [List.head?_eq_none_iff] at q2; rw [q2] at q; cases q
    | some i0 =>
      refine ⟨?_, rfl, rfl, rfl⟩
      show s.heads.set k (some j) = _
      rw [t.hd]
      refine mapN_set hk (by simp [hh, q]) fun i hi => ?_
      by_cases c : i < k
      · rw [if_pos c, if_pos (by omega)]
      · rw [if_neg c, if_neg (by omega)]
theorem def_homes {rows : List D} (ho : openL rows = []) {k : Nat} (hk : k < rows.length) {s : ShS} (t : Told rows k s) {w : Str} (hw : wordR rows[k] = some w) : (defS k w (topS k s)).homes = mapN (fun i => if i < k + 1 then homesF rows i else none) rows.length := by
  have hr : roundF rows k = s.stack := by rw [round_open ho (by omega), t.st]
  have iw : isW rows k "def" = (w == Str.ofString "def") := by unfold isW; simp [hk, hw]
  have other : ∀ i, i ≠ k → (if i < k + 1 then homesF rows i else none) = (if i < k then homesF rows i else none) := fun i hi => by
    by_cases c : i < k
    · rw [if_pos c, if_pos (by omega)]
    · rw [if_neg c, if_neg (by omega)]
  by_cases c : w = Str.ofString "def"
  · have hh : homesF rows k = some k := by unfold homesF; rw [iw, c]; simp
    have e : (defS k w (topS k s)).homes = ((topS k s).homes).set k (some k) := by unfold defS; rw [if_pos c]
    rw [e]
    have e2 : ((topS k s).homes).set k (some k) = s.homes.set k (some k) := by
      unfold topS
      split
      · simp
      · rfl
    rw [e2, t.hm]
    exact mapN_set hk (by simp [hh]) other
  · have hh : homesF rows k = s.stack.head? := by unfold homesF; rw [iw, hr]; simp [c]
    have e : (defS k w (topS k s)).homes = (topS k s).homes := by unfold defS; rw [if_neg c]
    rw [e]
    unfold topS
    cases q2 : s.stack.head? with
    | none =>
      rw [List.head?_eq_none_iff] at q2
      rw [q2]
      show s.homes = _
      rw [t.hm]
      refine mapN_eq fun i hi => ?_
      by_cases e : i = k
      · subst e; simp [hh, q2]
      · exact other i e
    | some i0 =>
      cases q : s.stack.getLast? with
      | none => rw [List.getLast?_eq_none_iff] at q; rw [q] at q2; cases q2
      | some j =>
        show s.homes.set k (some i0) = _
        rw [t.hm]
        exact mapN_set hk (by simp [hh, q2]) other
theorem ends_app {T : List D} {r : D} {j : Nat} : endsF (T ++ [r]) j = if isOpen T j = true ∧ dep T j + stR r = 0 then some T.length else endsF T j := by
  by_cases h : j < T.length
  · have e : T[j]? = some T[j] := List.getElem?_eq_getElem h
    unfold endsF isOpen
    rw [List.getElem?_append_left h, e, List.drop_append_of_le_length (by omega)]
    simp only
    by_cases c : stR T[j] = 1
    · rw [if_pos c, if_pos c]
      cases q : endF (T.drop (j + 1)) (j + 1) 1 with
      | some k => rw [endF_some _ _ _ _ _ q]; simp
      | none =>
        rw [endF_none _ _ _ _ q]
        unfold dep
        by_cases c2 : 1 + sumR (T.drop (j + 1)) + stR r = 0
        · simp [endF, c, c2]; omega
        · simp [endF, c, c2]
    · rw [if_neg c, if_neg c]; simp [c]
  · have e : T[j]? = none := List.getElem?_eq_none (by omega)
    have : isOpen T j = false := by unfold isOpen; rw [e]
    rw [this]
    simp only [Bool.false_eq_true, false_and, if_false]
    unfold endsF
    rw [e]
    by_cases c : j = T.length
    · subst c; simp [endF]
    · have : (T ++ [r])[j]? = none := List.getElem?_eq_none (by simp; omega)
      rw [this]
theorem ends_keep {h : Nat} {T : List D} {r : D} (o : OpenAt h T) (hr : 0 ≤ stR r) (j : Nat) : endsF (T ++ [r]) j = endsF T j := by
  rw [ends_app, if_neg]
  rintro ⟨h1, h2⟩
  have hj : j < T.length := by
    unfold isOpen at h1
    by_cases c : j < T.length
    · exact c
    · rw [List.getElem?_eq_none (by omega)] at h1; cases h1
  have hm : j ∈ openL T := List.mem_filter.mpr ⟨List.mem_range.mpr hj, h1⟩
  obtain ⟨m, hm⟩ := List.mem_iff_getElem?.mp hm
  have := o.dp m j hm
  have l := (List.getElem?_eq_some_iff.mp hm).1
  rw [o.len] at l
  omega
theorem told_step {rows : List D} (n0 : Nest 0 rows) {k : Nat} (hk : k < rows.length) {s : ShS} (t : Told rows k s) : ∃ w s', wordR rows[k] = some w ∧ stepS k w s = some s' ∧ Told rows (k + 1) s' := by
  have ho : openL rows = [] := List.length_eq_zero_iff.mp (nest_open n0).len
  obtain ⟨h, n1⟩ : ∃ h, Nest h (rows.take (k + 1)) := by
    have := nest_take (rows.length - (k + 1)) n0 (by omega)
    rwa [show rows.length - (rows.length - (k + 1)) = k + 1 by omega] at this
  have et : rows.take (k + 1) = rows.take k ++ [rows[k]] := by
    rw [List.take_succ, List.getElem?_eq_getElem hk]; rfl
  rw [et] at n1
  obtain ⟨h', w, n2, hw, hc⟩ := nest_snoc n1
  have o := nest_open n2
  have sr := stR_of hw
  rw [wordN_R] at hw
  have lk : (rows.take k).length = k := by simp; omega
  obtain ⟨t1, t2, t3, t4⟩ := top_heads ho hk t
  have t5 := def_homes ho hk t hw
  have d1 : (defS k w (topS k s)).heads = (topS k s).heads := by unfold defS; split <;> rfl
  have d2 : (defS k w (topS k s)).stack = (topS k s).stack := by unfold defS; split <;> rfl
  have d3 : (defS k w (topS k s)).ends = (topS k s).ends := by unfold defS; split <;> rfl
  have d4 : (defS k w (topS k s)).elses = (topS k s).elses := by unfold defS; split <;> rfl
  rw [t1] at d1; rw [t2, t.st] at d2; rw [t3, t.en] at d3; rw [t4, t.el] at d4
  have iw : isW rows k "else" = (w == Str.ofString "else") := by unfold isW; simp [hk, hw]
  have hh : headsF rows k = (openL (rows.take k)).getLast? := by unfold headsF; rw [round_open ho (by omega)]
  have keepEnds : 0 ≤ stR rows[k] → mapN (fun j => endsF (rows.take k) j) rows.length = mapN (fun j => endsF (rows.take (k + 1)) j) rows.length := fun h0 => mapN_eq fun i _ => by
    rw [et]; exact ends_keep o h0 i
  have keepElses : w ≠ Str.ofString "else" → elsesU rows (k + 1) = elsesU rows k := fun hne => by
    show (if isW rows k "else" then _ else _ : List (Option Nat)) = _
    rw [iw]; simp [hne]
  refine ⟨w, ?_⟩
  unfold stepS
  generalize defS k w (topS k s) = sB at *
  rcases hc with ⟨rfl, c1, c2, c3⟩ | ⟨rfl, c1⟩ | ⟨rfl, c1, c2⟩ | ⟨rfl, c1⟩
  · have e0 : stR rows[k] = 0 := by rw [sr, stW_other c1 c2]
    refine ⟨sB, hw, ?_, ?_⟩
    · unfold opensW at c1; unfold closesW at c2
      simp only [elseS, footS, pushS, if_neg c3, if_neg c2, if_neg c1, Option.bind_some, Option.map_some]
    · exact ⟨by rw [et, (o.same e0).1]; exact d2, d1, t5, by rw [d3]; exact keepEnds (by omega), by rw [keepElses c3]; exact d4⟩
  · have e0 : stR rows[k] = 1 := by rw [sr, stW_open c1]
    have c3 : w ≠ Str.ofString "else" := by rintro rfl; simp [opensW] at c1
    have c2 : ¬ closesW w := by rintro (rfl | rfl) <;> simp [opensW] at c1
    refine ⟨{ sB with stack := sB.stack ++ [k] }, hw, ?_, ?_⟩
    · unfold opensW at c1; unfold closesW at c2
      simp only [elseS, footS, pushS, if_neg c3, if_neg c2, if_pos c1, Option.bind_some, Option.map_some]
    · exact ⟨by rw [et, (o.opn e0).1, lk, ← d2], d1, t5, by show sB.ends = _; rw [d3]; exact keepEnds (by omega), by rw [keepElses c3]; exact d4⟩
  · subst c2
    have e0 : stR rows[k] = 0 := by rw [sr]; decide
    obtain ⟨j, hj⟩ : ∃ j, (openL (rows.take k)).getLast? = some j := by
      cases q : (openL (rows.take k)).getLast? with
      | none => rw [List.getLast?_eq_none_iff] at q; have := o.len; rw [q] at this; simp at this; omega
      | some j => exact ⟨j, rfl⟩
    refine ⟨{ sB with elses := sB.elses.set j (some k) }, hw, ?_, ?_⟩
    · simp [elseS, footS, pushS, d2, hj]
    · refine ⟨by rw [et, (o.same e0).1]; exact d2, d1, t5, by show sB.ends = _; rw [d3]; exact keepEnds (by omega), ?_⟩
      show sB.elses.set j (some k) = (if isW rows k "else" then _ else _ : List (Option Nat))
      rw [iw, hh, hj, d4]; simp
  · have e0 : stR rows[k] = -1 := by rw [sr, stW_close c1]
    have c3 : w ≠ Str.ofString "else" := by rintro rfl; simp [closesW] at c1
    have c2 : ¬ opensW w := by rintro (rfl | rfl | rfl) <;> simp [closesW] at c1
    rcases List.eq_nil_or_concat (openL (rows.take k)) with q | ⟨L, j, q⟩
    · have := o.len; rw [q] at this; simp at this
    · rw [List.concat_eq_append] at q
      have hl := o.len
      rw [q] at hl
      simp at hl
      refine ⟨{ sB with ends := sB.ends.set j (some k), stack := sB.stack.dropLast }, hw, ?_, ?_⟩
      · unfold closesW at c1; unfold opensW at c2
        simp only [elseS, footS, pushS, if_neg c3, if_pos c1, if_neg c2, d2, q, List.getLast?_concat, Option.bind_some, Option.map_some]
      · refine ⟨by rw [et, (o.cls e0).1, ← d2], d1, t5, ?_, by rw [keepElses c3]; exact d4⟩
        show sB.ends.set j (some k) = _
        rw [d3, et]
        have mj : j ∈ openL (rows.take k) := by rw [q]; simp
        have jl := openL_lt mj
        refine mapN_set (by omega) ?_ fun i hi => ?_
        · have dj := o.dp L.length j (by rw [q]; simp)
          rw [ends_app, if_pos ⟨(List.mem_filter.mp mj).2, by omega⟩, lk]
        · rw [ends_app, if_neg]
          rintro ⟨a, b⟩
          have il : i < (rows.take k).length := by
            unfold isOpen at a
            by_cases c : i < (rows.take k).length
            · exact c
            · rw [List.getElem?_eq_none (by omega)] at a; cases a
          have mi : i ∈ openL (rows.take k) := List.mem_filter.mpr ⟨List.mem_range.mpr il, a⟩
          obtain ⟨m, hm⟩ := List.mem_iff_getElem?.mp mi
          have di := o.dp m i hm
          have lm := (List.getElem?_eq_some_iff.mp hm).1
          rw [o.len] at lm
          have : m = L.length := by omega
          subst this
          rw [q] at hm
          simp at hm
          exact hi hm.symm
theorem told_all {rows : List D} (n0 : Nest 0 rows) : ∀ k, k ≤ rows.length → ∃ s, runS 0 (rows.take k) (.start rows.length) = some s ∧ Told rows k s
  | 0, _ => ⟨.start rows.length, by simp [runS], told_start rows⟩
  | k + 1, hk => by
    obtain ⟨s, h1, h2⟩ := told_all n0 k (by omega)
    obtain ⟨w, s', h3, h4, h5⟩ := told_step n0 (by omega) h2
    have et : rows.take (k + 1) = rows.take k ++ [rows[k]] := by
      rw [List.take_succ, List.getElem?_eq_getElem (by omega)]; rfl
    refine ⟨s', ?_, h5⟩
    rw [et, runS_app _ _ _ _ _ w h1 h3]
    rw [show 0 + (rows.take k).length = k by simp; omega]
    exact h4
/-- what shape tells in the end -/
theorem told_end {rows : List D} (n0 : Nest 0 rows) : ∃ s, runS 0 rows (.start rows.length) = some s ∧ s.heads.map optD = preL (headsF rows) rows.length rows.length ∧ s.homes.map optD = preL (homesF rows) rows.length rows.length ∧
    s.ends.map optD = preL (endsF rows) rows.length rows.length ∧ s.elses = elsesU rows rows.length := by
  obtain ⟨s, h1, t⟩ := told_all n0 rows.length (Nat.le_refl _)
  rw [List.take_length] at h1
  refine ⟨s, h1, ?_, ?_, ?_, t.el⟩
  · rw [t.hd]
    simp only [mapN, preL, List.map_map]
    refine List.map_congr_left fun i hi => ?_
    simp [List.mem_range.mp hi]
  · rw [t.hm]
    simp only [mapN, preL, List.map_map]
    refine List.map_congr_left fun i hi => ?_
    simp [List.mem_range.mp hi]
  · rw [t.en, List.take_length]
    simp only [mapN, preL, List.map_map]
    refine List.map_congr_left fun i hi => ?_
    simp [List.mem_range.mp hi]
theorem words_all {rows : List D} (n0 : Nest 0 rows) : ∀ r ∈ rows, ∃ w, wordR r = some w := fun r hr => by
  obtain ⟨k, hk, rfl⟩ := List.mem_iff_getElem.mp hr
  obtain ⟨s, _, t⟩ := told_all n0 k (by omega)
  obtain ⟨w, _, hw, _⟩ := told_step n0 hk t
  exact ⟨w, hw⟩
theorem else_ok {rows : List D} (n0 : Nest 0 rows) (k : Nat) (h : isW rows k "else" = true) : ∃ j, headsF rows k = some j := by
  have ho : openL rows = [] := List.length_eq_zero_iff.mp (nest_open n0).len
  have hk : k < rows.length := by
    unfold isW at h
    by_cases c : k < rows.length
    · exact c
    · rw [List.getElem?_eq_none (by omega)] at h; cases h
  obtain ⟨h1, n1⟩ : ∃ h, Nest h (rows.take (k + 1)) := by
    have := nest_take (rows.length - (k + 1)) n0 (by omega)
    rwa [show rows.length - (rows.length - (k + 1)) = k + 1 by omega] at this
  have et : rows.take (k + 1) = rows.take k ++ [rows[k]] := by
    rw [List.take_succ, List.getElem?_eq_getElem hk]; rfl
  rw [et] at n1
  obtain ⟨h', w, n2, hw, hc⟩ := nest_snoc n1
  have o := nest_open n2
  rw [wordN_R] at hw
  have e : w = Str.ofString "else" := by
    unfold isW at h; simp [hk, hw] at h; exact h
  have hh : headsF rows k = (openL (rows.take k)).getLast? := by unfold headsF; rw [round_open ho (by omega)]
  rw [hh]
  cases q : (openL (rows.take k)).getLast? with
  | some j => exact ⟨j, rfl⟩
  | none =>
    exfalso
    rw [List.getLast?_eq_none_iff] at q
    have hl := o.len
    rw [q] at hl
    simp at hl
    rcases hc with ⟨_, _, _, c⟩ | ⟨_, c⟩ | ⟨_, c, _⟩ | ⟨c, _⟩
    · exact c e
    · rw [e] at c; simp [opensW] at c
    · omega
    · omega
end VL
namespace VL
open PySem PySem.Spec PyProof.Rows L2 RZ
theorem sat {ws : List Str} (i : Nat) (h : i < ws.length) : atI (ws.map D.str) (i : Int) = some (.str ws[i]) := by
  rw [at_nat (by omega) (by simp; omega)]; simp [h]
@[simp] def p__law_deep : D → D → (W → Sto → Prop) → Prop := fun a b Q => match a, b with
  | .int c, .lst ds => ∃ ws : List Str, ds = ws.map D.str ∧ 3 ≤ ws.length ∧ 0 ≤ c ∧ c < 1000000000 ∧ ∀ (rs : List D) mu1 mu2, Nest 0 rs → rs.length ≤ 60 → ddeps rs ≤ 20 → Q (.loc 2) [mu1, mu2, .lst rs]
  | _, _ => False
theorem ddeps_mem : ∀ {xs : List D} {x : D}, x ∈ xs → ddep x ≤ ddeps xs
  | y :: ys, x, h => by
    simp
    rcases List.mem_cons.mp h with rfl | h
    · omega
    · have := ddeps_mem h; omega
theorem ddeps_app {n : Nat} {xs ys : List D} (h : ddeps xs ≤ n) (h' : ddeps ys ≤ n) : ddeps (xs ++ ys) ≤ n := ddeps_le fun x hx => by
  rcases List.mem_append.mp hx with hx | hx
  · exact Nat.le_trans (ddeps_mem hx) h
  · exact Nat.le_trans (ddeps_mem hx) h'
theorem oper_dep {ws : List Str} {d : D} (h : OperD ws d) : ddep d = 0 := by
  rcases h with ⟨x, _, rfl⟩ | ⟨n, _, _, rfl⟩ <;> simp
theorem key_dep {ws : List Str} {d : D} (h : KeyD ws d) : ddep d = 0 := by
  rcases h with ⟨x, _, rfl⟩ | h
  · simp
  · exact oper_dep h
theorem strs_dep (ws : List Str) : ddeps (ws.map D.str) = 0 := Nat.le_zero.mp (ddeps_le fun y hy => by
  obtain ⟨z, _, rfl⟩ := List.mem_map.mp hy; simp)
theorem simple_dep {ws : List Str} {pl : List (Str × List Str)} {r : D} (s : Simple ws pl r) : ddep r ≤ 20 := by
  cases s with
  | put _ h => simp [oper_dep h]
  | doo _ h1 _ h2 => simp [oper_dep h1, oper_dep h2]
  | new _ => simp
  | get _ _ h => simp [key_dep h]
  | set _ h1 h2 => simp [key_dep h1, oper_dep h2]
  | call _ _ _ h =>
    have := ddeps_le (n := 0) fun x hx => Nat.le_of_eq (oper_dep (h x hx))
    simp; omega
  | fail _ => simp
  | skip => simp
theorem part_dep {ws : List Str} {pl : List (Str × List Str)} {st : List String} {body : List D} (p : Part ws pl st body) : ddeps body ≤ 20 := by
  induction p with
  | nil => simp
  | row _ s ih => exact ddeps_app ih (by have := simple_dep s; simp; omega)
  | opIf _ h ih => exact ddeps_app ih (by simp [oper_dep h])
  | opWhile _ h ih => exact ddeps_app ih (by simp [oper_dep h])
  | els _ ih => exact ddeps_app ih (by simp)
  | cls _ ih => exact ddeps_app ih (by simp)
theorem fun_dep {ws : List Str} {p : Str × List Str} {later : List (Str × List Str)} {fr : List D} (f : FunRows ws p later fr) : ddeps fr ≤ 20 := by
  induction f with
  | mk hp ho => exact ddeps_app (ddeps_app (by simp [strs_dep]) (part_dep hp)) (by simp [oper_dep ho])
  | sk _ ih => exact ddeps_app ih (by simp)
theorem funs_dep {ws : List Str} {pl : List (Str × List Str)} {k : Nat} {rs : List D} (f : Funs ws pl k rs) : ddeps rs ≤ 20 := by
  induction f with
  | nil => simp
  | next _ _ hf ih => exact ddeps_app ih (fun_dep hf)
def w__law_deep : WS := (wSeq (wAsg (wLst true wNil) (wgName 2))
    (wSeq (wFor (wRng1 (wCons (wOp (fI CR0 gMod) (wVar 0) (wC (.int 19))) wNil)) (wgName 3) (wDrop (wBM fApp (wVar 2) (wCons (wOp fIx (wLst false (wCons (wC (.str "if")) (wCons (wC (.str "while")) wNil))) (wOp (fI CR0 gMod) (wOp (fI CD gDiv) (wVar 0) (wOp (fAdd false) (wVar 3) (wC (.int 19)))) (wC (.int 2)))) wNil))))
    (wSeq (wAsg (wOp (fAdd true) (wOp (fAdd false) (wLst false (wCons (wTup (wCons (wC (.str "def")) (wCons (wOp fIx (wVar 1) (wC (.int 0))) (wCons (wTup wNil) wNil)))) wNil)) (wLc false (wSeqI (wVar 2)) (wgName 5) wYes (wTup (wCons (wVar 5) (wCons (wOp fIx (wVar 1) (wC (.int 1))) wNil))) [5])) (wLst false (wCons (wTup (wCons (wC (.str "new")) (wCons (wOp fIx (wVar 1) (wC (.int 2))) wNil))) wNil))) (wgName 4))
    (wSeq (wFor (wRng1 (wCons (wCall fLen (wCons (wVar 2) wNil)) wNil)) (wgName 3) (wSeq (wIfS (wAnd (wTest (wOp (fEq false) (wOp fIx (wVar 2) (wOp (fI0 fun i j => i - j) (wUn (fun i => -i) (wC (.int 1))) (wVar 3))) (wC (.str "if")))) (wTest (wOp (fEq false) (wOp (fI CR0 gMod) (wOp (fI CD gDiv) (wVar 0) (wOp (fAdd false) (wVar 3) (wC (.int 7)))) (wC (.int 3))) (wC (.int 1))))) (wDrop (wBM fApp (wVar 4) (wCons (wTup (wCons (wC (.str "else")) wNil)) wNil))) wNext)
    (wDrop (wBM fApp (wVar 4) (wCons (wTup (wCons (wC (.str "end")) wNil)) wNil)))))
    (wRet (wOp (fAdd true) (wVar 4) (wLst false (wCons (wTup (wCons (wC (.str "give")) (wCons (wC (.int 0)) wNil))) wNil))))))))
@[simp] def sp__law_deep : PSp := sp2 p__law_deep
def opS (o : Str) : Prop := o = Str.ofString "if" ∨ o = Str.ofString "while"
theorem nest_ops {x : Str} : ∀ (os : List Str) {n : Nat} {rs : List D}, Nest n rs → (∀ o ∈ os, opS o) → Nest (n + os.length) (rs ++ os.map fun o => .tup [.str o, .str x])
  | [], n, rs, h, _ => by simpa using h
  | o :: os, n, rs, h, ho => by
    have h1 : Nest (n + 1) (rs ++ [.tup [.str o, .str x]]) := .op h rfl (by
      rcases ho o (by simp) with e | e
      · exact .inr (.inl e)
      · exact .inr (.inr e))
    have := nest_ops (x := x) os h1 fun o h => ho o (by simp [h])
    rw [show n + (o :: os).length = n + 1 + os.length by simp; omega]
    simpa using this
theorem v__law_deep : ∀ a b Q, p__law_deep a b Q → w__law_deep (evr Q) (startE ["_law_cell", "_law_words_here", "_law_opened", "_law_k", "_law_rows", "_law_word"] [.d a, .d b]) [] := by
  intro a b Q h
  unfold p__law_deep at h
  split at h
  · rename_i c ds
    obtain ⟨ws, rfl, h3, c0, c1, h⟩ := h
    have a0 := sat (ws := ws) 0 (by omega)
    have a1 := sat (ws := ws) 1 (by omega)
    have a2 := sat (ws := ws) 2 (by omega)
    obtain ⟨n, en, hn⟩ : ∃ n : Nat, c % 19 = (n : Int) ∧ n < 19 := ⟨(c % 19).toNat, by omega, by omega⟩
    have a0 : atI (ws.map D.str) (0 : Int) = _ := a0
    have a1 : atI (ws.map D.str) (1 : Int) = _ := a1
    have a2 : atI (ws.map D.str) (2 : Int) = _ := a2
    simp [w__law_deep, sizeLine_eq, en]
    refine ⟨by omega, forL_rng (fun k rh mu => ∃ (os : List Str) (x : Option W), rh = [some (.d (.int c)), some (.d (.lst (ws.map D.str))), some (.loc 0), x, none, none] ∧ mu = [.lst (os.map D.str)] ∧ os.length = k ∧ ∀ o ∈ os, opS o) (fun _ _ _ _ => trivial) ?_ ?_ ⟨[], _, rfl, rfl, rfl, by simp⟩⟩
    · rintro _ _ ⟨os, x, rfl, rfl, ho, hs⟩
      simp [a0, a1, a2, sizeLine_eq]
      have e : os.map (W.d ∘ D.str) = (os.map D.str).map W.d := by simp
      rw [e]
      refine lc_M (fun o => .tup [o, .str ws[1]]) (by simp) (fun d hd A q => by simpa [a1, sizeLine_eq] using q) ?_
      simp only [asDs_map]
      simp [ho]
      refine ⟨by omega, by omega, ?_⟩
      have n0 : Nest 1 [.tup [.str (Str.ofString "def"), .str ws[0], .tup []]] := .op (rs := []) .nil rfl (.inl rfl)
      have n1 := nest_ops (x := ws[1]) os n0 hs
      have n2 := n1.plain (z := "new") (rest := [.str ws[2]]) (by decide)
      rw [ho] at n2
      have l2 : ([D.tup [.str (Str.ofString "def"), .str ws[0], .tup []]] ++ os.map (fun o => D.tup [.str o, .str ws[1]]) ++ [D.tup [.str (Str.ofString "new"), .str ws[2]]]).length = n + 2 := by simp [ho]
      have dR : ddeps ([D.tup [.str (Str.ofString "def"), .str ws[0], .tup []]] ++ os.map (fun o => D.tup [.str o, .str ws[1]]) ++ [D.tup [.str (Str.ofString "new"), .str ws[2]]]) ≤ 20 := ddeps_le fun x hx => by
        simp at hx
        rcases hx with rfl | ⟨o, _, rfl⟩ | rfl <;> simp
      have ee : [D.tup [.str (Str.ofString "def"), .str ws[0], .tup []]] ++ os.map (fun o => D.tup [.str o, .str ws[1]]) ++ [D.tup [.str (Str.ofString "new"), .str ws[2]]] = D.tup [D.str (Str.ofString "def"), D.str ws[0], D.tup []] :: (List.map ((fun o => D.tup [o, D.str ws[1]]) ∘ D.str) os ++ [D.tup [D.str (Str.ofString "new"), D.str ws[2]]]) := by simp [Function.comp_def]
      rw [ee] at n2 l2 dR
      generalize (D.tup [D.str (Str.ofString "def"), D.str ws[0], D.tup []] :: (List.map ((fun o => D.tup [o, D.str ws[1]]) ∘ D.str) os ++ [D.tup [D.str (Str.ofString "new"), D.str ws[2]]]) : List D) = R0 at *
      refine ⟨by omega, forL_rng (fun k rh mu => ∃ (rs : List D) (x : Option W), rh = [some (.d (.int c)), some (.d (.lst (ws.map D.str))), some (.loc 0), x, some (.loc 1), none] ∧ mu = [.lst (os.map D.str), .lst rs] ∧ Nest (1 + n - k) rs ∧ rs.length ≤ n + 2 + 2 * k ∧ ddeps rs ≤ 20) (fun _ _ _ _ => trivial) ?_ ?_ ⟨R0, _, rfl, rfl, by simpa using n2, by omega, dR⟩⟩
      · rintro _ _ ⟨rs, x, rfl, rfl, hN, hl, hd⟩
        simp [sizeLine_eq]
        refine ⟨by omega, h _ _ _ (.cl (h := 0) (w := Str.ofString "give") (by simpa using hN) rfl (.inl rfl)) (by simp; omega) (ddeps_app hd (by simp))⟩
      · rintro k hk _ _ ⟨rs, x, rfl, rfl, hNs, hl, hd⟩ N hN
        obtain ⟨o, eo, ho'⟩ := at_neg (xs := os) (i := -1 - (k : Int)) (by omega) (by omega)
        have ea : atI (os.map (W.d ∘ D.str)) (-1 - (k : Int)) = some (.d (.str o)) := by rw [atI_comp, atI_map eo]; rfl
        have q0 : (0 : Int) < (k : Int) + 7 := by omega
        have cd : CD c ((k : Int) + 7) := CD_of (by omega) (by omega)
        have e1 : 1 + n - k = 1 + n - (k + 1) + 1 := by omega
        rw [e1] at hNs
        have r1 : rs.length < 16777216 := by omega
        have r2 : rs.length + 1 < 16777216 := by omega
        simp [ea, cd, gDiv_pos q0, sizeLine_eq, r1, r2]
        refine ite_of (fun c1 => ite_of (fun c2 => ?_) (fun c2 => ?_)) (fun c1 => ?_)
        · exact hN _ _ ⟨_, _, rfl, rfl, by simpa using Nest.cl (w := Str.ofString "end") (Nest.els (r := .tup [.str "else"]) hNs rfl) (r := .tup [.str "end"]) rfl (.inr rfl), by simp; omega, ddeps_app hd (by simp)⟩
        · exact hN _ _ ⟨_, _, rfl, rfl, Nest.cl (w := Str.ofString "end") hNs rfl (.inr rfl), by simp; omega, ddeps_app hd (by simp)⟩
        · exact hN _ _ ⟨_, _, rfl, rfl, Nest.cl (w := Str.ofString "end") hNs rfl (.inr rfl), by simp; omega, ddeps_app hd (by simp)⟩
    · rintro k hk _ _ ⟨os, x, rfl, rfl, ho, hs⟩ N hN
      have q0 : (0 : Int) < (k : Int) + 19 := by omega
      have cd : CD c ((k : Int) + 19) := CD_of (by omega) (by omega)
      simp [a0, a1, a2, sizeLine_eq, ho, cd, gDiv_pos q0]
      obtain ⟨d, e1, e2⟩ := at_mem (xs := [D.str (Str.ofString "if"), D.str (Str.ofString "while")]) (i := c / ((k : Int) + 19) % 2) (by omega) (by simp; omega)
      obtain ⟨o, rfl, oo⟩ : ∃ o, d = .str o ∧ opS o := by
        simp at e2
        rcases e2 with rfl | rfl
        · exact ⟨_, rfl, .inl rfl⟩
        · exact ⟨_, rfl, .inr rfl⟩
      refine ⟨_, e1, by omega, hN _ _ ⟨os ++ [o], _, rfl, by simp, by simp [ho], fun z hz => ?_⟩⟩
      rcases List.mem_append.mp hz with hz | hz
      · exact hs z hz
      · rw [List.mem_singleton.mp hz]; exact oo
  · exact h.elim
def w_law : WS := (wSeq (wAsg (wCallP false sp__law_words [] (wCons (wCallP false sp__law_cell_at [] (wCons (wVar 0) (wCons (wC (.int 0)) wNil))) (wCons (wC (.int 6)) wNil))) (wgName 1))
    (wSeq (wAsg (wCallP false sp__law_program [] (wCons (wSl false (wVar 0) (wPart (wC (.int 2))) wNoPart) (wCons (wVar 1) (wCons (wCallP false sp__law_plan [] (wCons (wCallP false sp__law_cell_at [] (wCons (wVar 0) (wCons (wC (.int 1)) wNil))) (wCons (wVar 1) wNil))) wNil)))) (wgName 2))
    (wSeq (wIfS (wTest (wOp (fEq false) (wOp (fI CR0 gMod) (wOp (fI CD gDiv) (wCallP false sp__law_cell_at [] (wCons (wVar 0) (wCons (wC (.int 1)) wNil))) (wC (.int 7))) (wC (.int 9))) (wC (.int 1)))) (wAsg (wLst false wNil) (wgName 2)) wNext)
    (wSeq (wIfS (wTest (wOp (fEq false) (wOp (fI CR0 gMod) (wOp (fI CD gDiv) (wCallP false sp__law_cell_at [] (wCons (wVar 0) (wCons (wC (.int 1)) wNil))) (wC (.int 7))) (wC (.int 9))) (wC (.int 2)))) (wAsg (wCallP false sp__law_deep [] (wCons (wOp (fI CR0 gMod) (wCallP false sp__law_cell_at [] (wCons (wVar 0) (wCons (wC (.int 0)) wNil))) (wOp (fI CPow fun i j => i ^ j.toNat) (wC (.int 10)) (wC (.int 9)))) (wCons (wVar 1) wNil))) (wgName 2)) wNext)
    (wSeq (wAsg (wCall (fList false) (wCons (wVar 2) wNil)) (wgName 3))
    (wSeq (wAsg (wCallP false sp__law_due [] (wCons (wVar 3) wNil)) (wgName 4))
    (wSeq (wAsg (wCallS sp_shape [] (wCons (wVar 2) wNil)) (wgName 5))
    (wSeq (wIfS (wOr (wNot (wTru (wCallP false sp__law_same [] (wCons (wVar 5) (wCons (wVar 4) wNil))))) (wTest (wOp (fEq true) (wVar 2) (wVar 3)))) (wRet (wC (.bl false))) wNext)
    (wSeq (wFor (wSeqI (wVar 5)) (wgName 6) (wSeq (wDrop (wBM fApp (wVar 6) (wCons (wC (.int 0)) wNil)))
    (wDrop (wBM fRev (wVar 6) wNil))))
    (wRet (wCallP true sp__law_same [] (wCons (wCallS sp_shape [] (wCons (wVar 2) wNil)) (wCons (wVar 4) wNil)))))))))))))
def lawT (rows : List D) : D := .tup [.lst (preL (headsF rows) rows.length rows.length), .lst (preL (endsF rows) rows.length rows.length), .lst ((elsesU rows rows.length).map optD), .lst (preL (homesF rows) rows.length rows.length)]
def rowsR (ns : List Int) (rh : Ev) (mu : Sto) : Prop := ∃ (ws : List Str) (rows : List D), rh = [some (.d (.scr ns)), some (.d (.lst (ws.map D.str))), some (.d (.lst rows)), none, none, none, none] ∧ mu = [] ∧ ws.length = 6 ∧ Nest 0 rows ∧ rows.length ≤ 60 ∧ ddeps rows ≤ 20
theorem v_law : ∀ (ns : List Int) (Q : W → Sto → Prop), ns.length ≤ 63 → (∀ mu, Q (.d (.bl true)) mu) → w_law (evr Q) (startE ["_law_script", "_law_words_here", "_law_rows", "_law_held", "_law_due_here", "_law_told", "_law_some"] [.d (.scr ns)]) [] := by
  intro ns Q hn h
  simp only [w_law]
  refine seq_R (fun rh mu => ∃ ws : List Str, rh = [some (.d (.scr ns)), some (.d (.lst (ws.map D.str))), none, none, none, none, none] ∧ mu = [] ∧ ws.length = 6 ∧ (∀ w ∈ ws, goodW w) ∧ ws.Nodup) (fun K hK => ?_) ?_
  · simp
    exact fun ws h1 h2 h3 => hK _ _ ⟨ws, rfl, rfl, h1, h2, h3⟩
  rintro _ _ ⟨ws, rfl, rfl, w1, w2, w3⟩
  refine seq_R (rowsR ns) (fun K hK => ?_) ?_
  · simp
    exact ⟨by omega, w3, fun pl hp => ⟨_, rfl, _, rfl, by have := cutL_len ns (some 2) none; omega, by omega, w2, hp, fun rs hf hl => hK _ _ ⟨_, _, rfl, rfl, w1, funs_nest hf, hl, funs_dep hf⟩⟩⟩
  rintro _ _ ⟨ws, rows, rfl, rfl, w1, n0, l0, d0⟩
  refine seq_R (rowsR ns) (fun K hK => ?_) ?_
  · simp
    refine ite_of (fun _ => hK _ _ ⟨_, _, rfl, rfl, w1, .nil, by simp, by simp⟩) (fun _ => hK _ _ ⟨_, _, rfl, rfl, w1, n0, l0, d0⟩)
  clear n0 l0 d0
  rintro _ _ ⟨ws, rows, rfl, rfl, w1, n0, l0, d0⟩
  refine seq_R (rowsR ns) (fun K hK => ?_) ?_
  · simp
    refine ite_of (fun _ => ?_) (fun _ => hK _ _ ⟨_, _, rfl, rfl, w1, n0, l0, d0⟩)
    exact ⟨by omega, by omega, by omega, fun rs _ _ h1 h2 h3 => hK _ _ ⟨_, _, rfl, rfl, w1, h1, h2, h3⟩⟩
  clear n0 l0 d0
  rintro _ _ ⟨ws, rows, rfl, rfl, w1, n0, l0, d0⟩
  refine seq_to [some (.d (.scr ns)), some (.d (.lst (ws.map D.str))), some (.d (.lst rows)), some (.d (.lst rows)), none, none, none] [] (fun K hK => by simpa using hK) ?_
  refine seq_to [some (.d (.scr ns)), some (.d (.lst (ws.map D.str))), some (.d (.lst rows)), some (.d (.lst rows)), some (.d (lawT rows)), none, none] [] (fun K hK => ?_) ?_
  · simp
    exact ⟨words_all n0, by omega, else_ok n0, hK⟩
  obtain ⟨s, e1, e2, e3, e4, e5⟩ := told_end n0
  have es : shC [] s = [.lst (preL (headsF rows) rows.length rows.length), .lst (preL (endsF rows) rows.length rows.length), .lst ((elsesU rows rows.length).map optD), .lst (preL (homesF rows) rows.length rows.length), .lst (natsL s.stack)] := by
    unfold shC; rw [e2, e3, e4, e5]; rfl
  refine seq_to [some (.d (.scr ns)), some (.d (.lst (ws.map D.str))), some (.d (.lst rows)), some (.d (.lst rows)), some (.d (lawT rows)), some (.tup [.loc 0, .loc 1, .loc 2, .loc 3]), none] (shC [] s) (fun K hK => ?_) ?_
  · simp
    exact ⟨by omega, s, e1, hK⟩
  rw [es]
  have d1 := deqvs_refl rows (by omega)
  have q1 : s.heads.length ≤ 1000 := by have := congrArg List.length e2; simp at this; omega
  have q2 : s.ends.length ≤ 1000 := by have := congrArg List.length e4; simp at this; omega
  have q3 : s.elses.length ≤ 1000 := by rw [e5, elsesU_len]; omega
  have q4 : s.homes.length ≤ 1000 := by have := congrArg List.length e3; simp at this; omega
  have eL := elsesU_len rows rows.length
  refine seq_to [some (.d (.scr ns)), some (.d (.lst (ws.map D.str))), some (.d (.lst rows)), some (.d (.lst rows)), some (.d (lawT rows)), some (.tup [.loc 0, .loc 1, .loc 2, .loc 3]), none] [.lst (preL (headsF rows) rows.length rows.length), .lst (preL (endsF rows) rows.length rows.length), .lst ((elsesU rows rows.length).map optD), .lst (preL (homesF rows) rows.length rows.length), .lst (natsL s.stack)] (fun K hK => ?_) ?_
  · simp
    refine ⟨rfl, ⟨s.heads, s.ends, s.elses, s.homes, ⟨e2.symm, e4.symm, by rw [e5], e3.symm⟩, q1, q2, q3, q4⟩, by omega, ?_⟩
    rw [if_pos d1]; exact hK
  · simp
    refine ⟨by rw [sizeLine_eq]; omega, by rw [sizeLine_eq]; omega, by rw [sizeLine_eq]; omega, by omega, s, e1, ?_⟩
    simp only [shC, List.cons_append, List.nil_append, List.getElem?_cons_succ, List.getElem?_cons_zero, Option.map_some, e2, e3, e4, e5]
    refine ⟨rfl, ⟨s.heads, s.ends, s.elses, s.homes, by rw [e2, e3, e4, e5], q1, q2, q3, q4⟩, h _⟩
end VL
namespace VLD
open PySem PySem.Spec PyProof.Rows L2 RZ VL
def top (i : Nat) : Stmt := PySem.Challenge.pw_slicewise_k05_shapes.main.body.getD i (.Pass ⟨0, 0, 0, 0⟩)
structure Txt (K : PySem.W.Frag) (mg : Str → Option Value) : Prop where
  n_list : mg "list" = none
  n_enumerate : mg "enumerate" = none
  n_len : mg "len" = none
  n_int : mg "int" = none
  n_isinstance : mg "isinstance" = none
  n_bool : mg "bool" = none
  n_range : mg "range" = none
  n_tuple : mg "tuple" = none
  n_sum : mg "sum" = none
  n_zip : mg "zip" = none
section
variable {P : Program} {w : World} {K : PySem.W.Frag} {mg : Str → Option Value} {base : Heap}
abbrev s_shape : Stmt := top 1
theorem sc_shape : FnScope ["program", "nothing", "row", "heads", "ends", "elses", "homes", "stack", "place", "word"] ["program"] (defScope s_shape) := ⟨rfl, rfl, rfl, by decide +kernel, rfl, by decide +kernel, by decide +kernel⟩
theorem d_shape {f : Addr} {fd : FuncData} (F : Fun K "shape" "shape" s_shape f fd) (hm : mg "shape" = some (.ref f)) (T : Txt K mg) : Def P w K mg base "shape" 1 [] sp_shape :=
  def_mk F hm sc_shape (F.binds (ps := ["program"]) fun _ _ _ _ _ _ us hl => match us, hl with | [_], _ => rfl) (fun _ _ _ h => lenS1 h) fun cdv A outer s H E y => ⟨w_shape, (vss_cons (vs_setLc y false 1 (own := [("row", 2)]) (sw_true rfl rfl rfl (by decide +kernel)) (vi_seq y (ve_v y 0)) (blkOk_at (S := defScope s_shape) (by decide +kernel)) (vk_name (YOk.blk y _) 2 [2]) vts_nil ve_non)
    (vss_cons (vs_set y 3 (ve_list y true T.n_list (va_cons (ve_v y 1) va_nil)))
    (vss_cons (vs_set y 4 (ve_list y true T.n_list (va_cons (ve_v y 1) va_nil)))
    (vss_cons (vs_set y 5 (ve_list y true T.n_list (va_cons (ve_v y 1) va_nil)))
    (vss_cons (vs_set y 6 (ve_list y true T.n_list (va_cons (ve_v y 1) va_nil)))
    (vss_cons (vs_set y 7 (ve_lst true va_nil))
    (vss_cons (vs_for PassesOwn.never rfl (vi_enum y T.n_enumerate (va_cons (ve_v y 0) va_nil)) (vk_tup y 2 (vks_cons (vk_name y 8 [8, 2]) (vks_cons (vk_name y 2 [8, 2]) (vks_nil [8, 2])))) (vss_cons (vs_set y 9 (ve_ix y (ve_v y 2) ve_int))
    (vss_cons (vs_if (vt_cmp (c_ne y) (ve_v y 7) (ve_lst false va_nil)) (vss_cons (vs_asg (ve_ix y (ve_v y 7) (ve_neg ve_int)) (vg_subL (ve_v y 3) (ve_v y 8)))
    (vss_one (vs_asg (ve_ix y (ve_v y 7) ve_int) (vg_subL (ve_v y 6) (ve_v y 8))))) vss_nil)
    (vss_cons (vs_if (vt_cmp (c_eq y) (ve_v y 9) ve_str) (vss_one (vs_asg (ve_v y 8) (vg_subL (ve_v y 6) (ve_v y 8)))) vss_nil)
    (vss_cons (vs_if (vt_cmp (c_eq y) (ve_v y 9) ve_str) (vss_one (vs_asg (ve_v y 8) (vg_subL (ve_v y 5) (ve_ix y (ve_v y 7) (ve_neg ve_int))))) vss_nil)
    (vss_cons (vs_if (VW.vt (vw_or (vt_cmp (c_eq y) (ve_v y 9) ve_str) (vw_or1 (vt_cmp (c_eq y) (ve_v y 9) ve_str)))) (vss_one (vs_asg (ve_v y 8) (vg_subL (ve_v y 4) (ve_pop y (ve_v y 7))))) vss_nil)
    (vss_one (vs_if (VW.vt (vw_or (vt_cmp (c_eq y) (ve_v y 9) ve_str) (vw_or (vt_cmp (c_eq y) (ve_v y 9) ve_str) (vw_or1 (vt_cmp (c_eq y) (ve_v y 9) ve_str))))) (vss_one (vs_expr (ve_append y (ve_v y 7) (va_cons (ve_v y 8) va_nil)))) vss_nil))))))))
    (vss_one (vs_ret (ve_tup (va_cons (ve_v y 3) (va_cons (ve_v y 4) (va_cons (ve_v y 5) (va_cons (ve_v y 6) va_nil)))))))))))))), atS1 v_shape⟩
abbrev s__law_cell_at : Stmt := top 3
theorem sc__law_cell_at : FnScope ["_law_script", "_law_k"] ["_law_script", "_law_k"] (defScope s__law_cell_at) := ⟨rfl, rfl, rfl, by decide +kernel, rfl, by decide +kernel, by decide +kernel⟩
theorem d__law_cell_at {f : Addr} {fd : FuncData} (F : Fun K "_law_cell_at" "_law_cell_at" s__law_cell_at f fd) (hm : mg "_law_cell_at" = some (.ref f)) (T : Txt K mg) : Def P w K mg base "_law_cell_at" 1 [] (pSp sp__law_cell_at) :=
  def_mk F hm sc__law_cell_at (F.binds (ps := ["_law_script", "_law_k"]) fun _ _ _ _ _ _ us hl => match us, hl with | [_, _], _ => rfl) (fun _ _ _ h => len2 h) fun cdv A outer s H E y => ⟨w__law_cell_at, (vss_cons (vs_if (vt_cmp (c_lt y) (ve_v y 1) (ve_len y T.n_len (va_cons (ve_v y 0) va_nil))) (vss_one (vs_ret (ve_ix y (ve_v y 0) (ve_v y 1)))) vss_nil)
    (vss_one (vs_ret ve_int))), at2 v__law_cell_at⟩
abbrev s__law_whole : Stmt := top 4
theorem sc__law_whole : FnScope ["_law_found"] ["_law_found"] (defScope s__law_whole) := ⟨rfl, rfl, rfl, by decide +kernel, rfl, by decide +kernel, by decide +kernel⟩
theorem d__law_whole {f : Addr} {fd : FuncData} (F : Fun K "_law_whole" "_law_whole" s__law_whole f fd) (hm : mg "_law_whole" = some (.ref f)) (T : Txt K mg) : Def P w K mg base "_law_whole" 1 [] (pSp sp__law_whole) :=
  def_mk F hm sc__law_whole (F.binds (ps := ["_law_found"]) fun _ _ _ _ _ _ us hl => match us, hl with | [_], _ => rfl) (fun _ _ _ h => len1 h) fun cdv A outer s H E y => ⟨w__law_whole, (vss_one (vs_ret (ve_andV (ve_isi y T.n_isinstance (va_cons (ve_v y 0) (va_cons (ve_ty y T.n_int) va_nil))) (ve_one (ve_not y (ve_isi y T.n_isinstance (va_cons (ve_v y 0) (va_cons (ve_ty y T.n_bool) va_nil)))))))), at1 v__law_whole⟩
abbrev s__law_words : Stmt := top 5
theorem sc__law_words : FnScope ["_law_cell", "_law_many", "_law_letters", "_law_size", "_law_at", "_law_words_here", "_law_k", "_law_word", "_law_j", "_law_number"] ["_law_cell", "_law_many"] (defScope s__law_words) := ⟨rfl, rfl, rfl, by decide +kernel, rfl, by decide +kernel, by decide +kernel⟩
theorem d__law_words {f : Addr} {fd : FuncData} (F : Fun K "_law_words" "_law_words" s__law_words f fd) (hm : mg "_law_words" = some (.ref f)) (T : Txt K mg) : Def P w K mg base "_law_words" 1 [] (pSp sp__law_words) :=
  def_mk F hm sc__law_words (F.binds (ps := ["_law_cell", "_law_many"]) fun _ _ _ _ _ _ us hl => match us, hl with | [_, _], _ => rfl) (fun _ _ _ h => len2 h) fun cdv A outer s H E y => ⟨w__law_words, (vss_cons (vs_set y 2 ve_str)
    (vss_cons (vs_set y 0 (ve_mod (ve_v y 0) (ve_pow ve_int ve_int)))
    (vss_cons (vs_set y 3 (ve_add y false ve_int (ve_mod (ve_v y 0) ve_int)))
    (vss_cons (vs_set y 4 (ve_mod (ve_fdiv (ve_v y 0) ve_int) (ve_v y 3)))
    (vss_cons (vs_set y 5 (ve_lst true va_nil))
    (vss_cons (vs_for PassesOwn.never rfl (vi_rng1 y T.n_range (va_cons (ve_v y 1) va_nil)) (vk_name y 6 [6]) (vss_cons (vs_set y 7 ve_str)
    (vss_cons (vs_for PassesOwn.never rfl (vi_rng1 y T.n_range (va_cons (ve_v y 3) va_nil)) (vk_name y 8 [8]) (vss_cons (vs_set y 9 (ve_add y false (ve_fdiv (ve_fdiv (ve_v y 0) ve_int) (ve_add y false (ve_v y 8) ve_int)) (ve_mul false (ve_v y 8) (ve_v y 8))))
    (vss_cons (vs_if (vt_cmp (c_eq y) (ve_v y 8) (ve_v y 4)) (vss_one (vs_augAdd y 9 (ve_v y 6))) vss_nil)
    (vss_one (vs_set y 7 (ve_add y false (ve_v y 7) (ve_ix y (ve_v y 2) (ve_mod (ve_v y 9) ve_int))))))))
    (vss_one (vs_expr (ve_append y (ve_v y 5) (va_cons (ve_v y 7) va_nil)))))))
    (vss_cons (vs_if (vt_cmp (c_eq y) (ve_mod (ve_fdiv (ve_v y 0) ve_int) ve_int) ve_int) (vss_one (vs_asg (ve_add y false (ve_ix y (ve_v y 5) ve_int) (ve_ix y (ve_v y 2) (ve_mod (ve_fdiv (ve_v y 0) ve_int) ve_int))) (vg_subL (ve_v y 5) ve_int))) vss_nil)
    (vss_one (vs_ret (ve_v y 5)))))))))), at2 v__law_words⟩
abbrev s__law_operand : Stmt := top 6
theorem sc__law_operand : FnScope ["_law_number", "_law_words_here"] ["_law_number", "_law_words_here"] (defScope s__law_operand) := ⟨rfl, rfl, rfl, by decide +kernel, rfl, by decide +kernel, by decide +kernel⟩
theorem d__law_operand {f : Addr} {fd : FuncData} (F : Fun K "_law_operand" "_law_operand" s__law_operand f fd) (hm : mg "_law_operand" = some (.ref f)) (T : Txt K mg) : Def P w K mg base "_law_operand" 1 [] (pSp sp__law_operand) :=
  def_mk F hm sc__law_operand (F.binds (ps := ["_law_number", "_law_words_here"]) fun _ _ _ _ _ _ us hl => match us, hl with | [_, _], _ => rfl) (fun _ _ _ h => len2 h) fun cdv A outer s H E y => ⟨w__law_operand, (vss_cons (vs_if (vt_cmp (c_gt y) (ve_mod (ve_v y 0) ve_int) ve_int) (vss_one (vs_ret (ve_ix y (ve_v y 1) (ve_mod (ve_fdiv (ve_v y 0) ve_int) ve_int)))) vss_nil)
    (vss_cons (vs_if (vt_cmp (c_eq y) (ve_mod (ve_v y 0) ve_int) ve_int) (vss_one (vs_ret (ve_sub (ve_mod (ve_add y false (ve_mul false (ve_mul false (ve_v y 0) ve_int) (ve_pow ve_int ve_int)) (ve_v y 0)) (ve_mul false ve_int (ve_pow ve_int ve_int))) (ve_pow ve_int ve_int)))) vss_nil)
    (vss_one (vs_ret (ve_sub (ve_mod (ve_fdiv (ve_v y 0) ve_int) ve_int) ve_int))))), at2 v__law_operand⟩
abbrev s__law_key : Stmt := top 7
theorem sc__law_key : FnScope ["_law_number", "_law_words_here"] ["_law_number", "_law_words_here"] (defScope s__law_key) := ⟨rfl, rfl, rfl, by decide +kernel, rfl, by decide +kernel, by decide +kernel⟩
theorem d__law_key {f : Addr} {fd : FuncData} (F : Fun K "_law_key" "_law_key" s__law_key f fd) (hm : mg "_law_key" = some (.ref f)) (T : Txt K mg) (d__law_operand : Def P w K mg base "_law_operand" 1 [] (pSp sp__law_operand)) : Def P w K mg base "_law_key" 2 [] (pSp sp__law_key) :=
  def_mk F hm sc__law_key (F.binds (ps := ["_law_number", "_law_words_here"]) fun _ _ _ _ _ _ us hl => match us, hl with | [_, _], _ => rfl) (fun _ _ _ h => len2 h) fun cdv A outer s H E y => ⟨w__law_key, (vss_cons (vs_if (vt_cmp (c_eq y) (ve_mod (ve_v y 0) ve_int) ve_int) (vss_one (vs_ret (ve_add y true ve_str (ve_ix y (ve_v y 1) (ve_mod (ve_fdiv (ve_v y 0) ve_int) ve_int))))) vss_nil)
    (vss_one (vs_ret (ve_callP y true d__law_operand (by decide) (va_cons (ve_fdiv (ve_v y 0) ve_int) (va_cons (ve_v y 1) va_nil)))))), at2 v__law_key⟩
abbrev s__law_call : Stmt := top 8
theorem sc__law_call : FnScope ["_law_number", "_law_name", "_law_words_here", "_law_later", "_law_other", "_law_parameters", "_law_operands", "_law_k"] ["_law_number", "_law_name", "_law_words_here", "_law_later"] (defScope s__law_call) := ⟨rfl, rfl, rfl, by decide +kernel, rfl, by decide +kernel, by decide +kernel⟩
theorem d__law_call {f : Addr} {fd : FuncData} (F : Fun K "_law_call" "_law_call" s__law_call f fd) (hm : mg "_law_call" = some (.ref f)) (T : Txt K mg) (d__law_operand : Def P w K mg base "_law_operand" 1 [] (pSp sp__law_operand)) : Def P w K mg base "_law_call" 2 [] (pSp sp__law_call) :=
  def_mk F hm sc__law_call (F.binds (ps := ["_law_number", "_law_name", "_law_words_here", "_law_later"]) fun _ _ _ _ _ _ us hl => match us, hl with | [_, _, _, _], _ => rfl) (fun _ _ _ h => len4 h) fun cdv A outer s H E y => ⟨w__law_call, (vss_cons (vs_asg (ve_ix y (ve_v y 3) (ve_mod (ve_v y 0) (ve_len y T.n_len (va_cons (ve_v y 3) va_nil)))) (VK.vg (vk_tup y 2 (vks_cons (vk_name y 4 [4, 5]) (vks_cons (vk_name y 5 [4, 5]) (vks_nil [4, 5]))))))
    (vss_cons (vs_set y 6 (ve_lst true va_nil))
    (vss_cons (vs_for PassesOwn.never rfl (vi_rng1 y T.n_range (va_cons (ve_len y T.n_len (va_cons (ve_v y 5) va_nil)) va_nil)) (vk_name y 7 [7]) (vss_one (vs_expr (ve_append y (ve_v y 6) (va_cons (ve_callP y false d__law_operand (by decide) (va_cons (ve_fdiv (ve_v y 0) (ve_add y false (ve_len y T.n_len (va_cons (ve_v y 3) va_nil)) (ve_v y 7))) (va_cons (ve_v y 2) va_nil))) va_nil)))))
    (vss_one (vs_ret (ve_tup (va_cons ve_str (va_cons (ve_v y 1) (va_cons (ve_v y 4) (va_cons (ve_tuple y T.n_tuple (va_cons (ve_v y 6) va_nil)) va_nil)))))))))), at4 v__law_call⟩
abbrev s__law_simple : Stmt := top 9
theorem sc__law_simple : FnScope ["_law_number", "_law_words_here", "_law_later", "_law_kind", "_law_name", "_law_other", "_law_rest", "_law_word"] ["_law_number", "_law_words_here", "_law_later"] (defScope s__law_simple) := ⟨rfl, rfl, rfl, by decide +kernel, rfl, by decide +kernel, by decide +kernel⟩
theorem d__law_simple {f : Addr} {fd : FuncData} (F : Fun K "_law_simple" "_law_simple" s__law_simple f fd) (hm : mg "_law_simple" = some (.ref f)) (T : Txt K mg) (d__law_operand : Def P w K mg base "_law_operand" 1 [] (pSp sp__law_operand)) (d__law_key : Def P w K mg base "_law_key" 2 [] (pSp sp__law_key)) (d__law_call : Def P w K mg base "_law_call" 2 [] (pSp sp__law_call)) : Def P w K mg base "_law_simple" 3 [] (pSp sp__law_simple) :=
  def_mk F hm sc__law_simple (F.binds (ps := ["_law_number", "_law_words_here", "_law_later"]) fun _ _ _ _ _ _ us hl => match us, hl with | [_, _, _], _ => rfl) (fun _ _ _ h => len3 h) fun cdv A outer s H E y => ⟨w__law_simple, (vss_cons (vs_set y 3 (ve_mod (ve_v y 0) ve_int))
    (vss_cons (vs_set y 4 (ve_ix y (ve_v y 1) (ve_mod (ve_fdiv (ve_v y 0) ve_int) ve_int)))
    (vss_cons (vs_set y 5 (ve_ix y (ve_v y 1) (ve_mod (ve_fdiv (ve_v y 0) ve_int) ve_int)))
    (vss_cons (vs_set y 6 (ve_fdiv (ve_v y 0) ve_int))
    (vss_cons (vs_if (vt_cmp (c_lt y) (ve_v y 3) ve_int) (vss_one (vs_ret (ve_tup (va_cons ve_str (va_cons (ve_v y 4) (va_cons (ve_callP y false d__law_operand (by decide) (va_cons (ve_v y 6) (va_cons (ve_v y 1) va_nil))) va_nil)))))) vss_nil)
    (vss_cons (vs_if (vt_cmp (c_lt y) (ve_v y 3) ve_int) (vss_cons (vs_set y 7 (ve_ix y (ve_lst false (va_cons ve_str (va_cons ve_str (va_cons ve_str (va_cons ve_str (va_cons ve_str (va_cons ve_str (va_cons ve_str va_nil)))))))) (ve_mod (ve_v y 6) ve_int)))
    (vss_one (vs_ret (ve_tup (va_cons ve_str (va_cons (ve_v y 4) (va_cons (ve_callP y false d__law_operand (by decide) (va_cons (ve_fdiv (ve_v y 6) ve_int) (va_cons (ve_v y 1) va_nil))) (va_cons (ve_v y 7) (va_cons (ve_callP y false d__law_operand (by decide) (va_cons (ve_fdiv (ve_v y 6) ve_int) (va_cons (ve_v y 1) va_nil))) va_nil))))))))) vss_nil)
    (vss_cons (vs_if (vt_cmp (c_eq y) (ve_v y 3) ve_int) (vss_one (vs_ret (ve_tup (va_cons ve_str (va_cons (ve_v y 4) va_nil))))) vss_nil)
    (vss_cons (vs_if (vt_cmp (c_lt y) (ve_v y 3) ve_int) (vss_one (vs_ret (ve_tup (va_cons ve_str (va_cons (ve_v y 4) (va_cons (ve_v y 5) (va_cons (ve_callP y false d__law_key (by decide) (va_cons (ve_v y 6) (va_cons (ve_v y 1) va_nil))) va_nil))))))) vss_nil)
    (vss_cons (vs_if (vt_cmp (c_lt y) (ve_v y 3) ve_int) (vss_one (vs_ret (ve_tup (va_cons ve_str (va_cons (ve_v y 5) (va_cons (ve_callP y false d__law_key (by decide) (va_cons (ve_v y 6) (va_cons (ve_v y 1) va_nil))) (va_cons (ve_callP y false d__law_operand (by decide) (va_cons (ve_fdiv (ve_v y 6) ve_int) (va_cons (ve_v y 1) va_nil))) va_nil))))))) vss_nil)
    (vss_cons (vs_if (VW.vt (vw_and (vt_cmp (c_eq y) (ve_v y 3) ve_int) (vw_and1 (vt_cmp (c_ne y) (ve_v y 2) (ve_lst false va_nil))))) (vss_one (vs_ret (ve_callP y true d__law_call (by decide) (va_cons (ve_v y 6) (va_cons (ve_v y 4) (va_cons (ve_v y 1) (va_cons (ve_v y 2) va_nil))))))) vss_nil)
    (vss_cons (vs_if (VW.vt (vw_and (vt_cmp (c_eq y) (ve_v y 3) ve_int) (vw_and1 (vt_cmp (c_eq y) (ve_mod (ve_v y 6) ve_int) ve_int)))) (vss_one (vs_ret (ve_tup (va_cons ve_str (va_cons (ve_ix y (ve_v y 1) (ve_add y false ve_int (ve_mod (ve_fdiv (ve_v y 6) ve_int) ve_int))) va_nil))))) vss_nil)
    (vss_cons (vs_if (VW.vt (vw_and (vt_cmp (c_eq y) (ve_v y 3) ve_int) (vw_and1 (vt_cmp (c_eq y) (ve_mod (ve_v y 6) ve_int) ve_int)))) (vss_one (vs_ret (ve_tup (va_cons ve_str va_nil)))) vss_nil)
    (vss_one (vs_ret (ve_tup (va_cons ve_str (va_cons (ve_v y 4) (va_cons (ve_v y 5) va_nil)))))))))))))))))), at3 v__law_simple⟩
abbrev s__law_lay : Stmt := top 10
theorem sc__law_lay : FnScope ["_law_rows", "_law_stack", "_law_cell", "_law_words_here", "_law_later", "_law_number", "_law_move", "_law_name"] ["_law_rows", "_law_stack", "_law_cell", "_law_words_here", "_law_later"] (defScope s__law_lay) := ⟨rfl, rfl, rfl, by decide +kernel, rfl, by decide +kernel, by decide +kernel⟩
theorem d__law_lay {f : Addr} {fd : FuncData} (F : Fun K "_law_lay" "_law_lay" s__law_lay f fd) (hm : mg "_law_lay" = some (.ref f)) (T : Txt K mg) (d__law_operand : Def P w K mg base "_law_operand" 1 [] (pSp sp__law_operand)) (d__law_simple : Def P w K mg base "_law_simple" 3 [] (pSp sp__law_simple)) : Def P w K mg base "_law_lay" 4 [] sp__law_lay :=
  def_mk F hm sc__law_lay (F.binds (ps := ["_law_rows", "_law_stack", "_law_cell", "_law_words_here", "_law_later"]) fun _ _ _ _ _ _ us hl => match us, hl with | [_, _, _, _, _], _ => rfl) (fun _ _ _ h => lenS5 h) fun cdv A outer s H E y => ⟨w__law_lay, (vss_cons (vs_set y 5 (ve_mod (ve_mul false (ve_fdiv (ve_v y 2) ve_int) ve_int) ve_int))
    (vss_cons (vs_set y 6 (ve_mod (ve_v y 2) ve_int))
    (vss_one (vs_if (VW.vt (vw_and (vt_cmp (c_eq y) (ve_v y 6) ve_int) (vw_and1 (vt_cmp (c_lt y) (ve_len y T.n_len (va_cons (ve_v y 1) va_nil)) ve_int)))) (vss_cons (vs_expr (ve_append y (ve_v y 0) (va_cons (ve_tup (va_cons ve_str (va_cons (ve_callP y false d__law_operand (by decide) (va_cons (ve_v y 5) (va_cons (ve_v y 3) va_nil))) va_nil))) va_nil)))
    (vss_one (vs_expr (ve_append y (ve_v y 1) (va_cons ve_str va_nil))))) (vss_one (vs_if (VW.vt (vw_and (vt_cmp (c_eq y) (ve_v y 6) ve_int) (vw_and1 (vt_cmp (c_lt y) (ve_len y T.n_len (va_cons (ve_v y 1) va_nil)) ve_int)))) (vss_cons (vs_expr (ve_append y (ve_v y 1) (va_cons ve_str va_nil)))
    (vss_one (vs_if (vt_cmp (c_eq y) (ve_mod (ve_v y 5) ve_int) ve_int) (vss_one (vs_expr (ve_append y (ve_v y 0) (va_cons (ve_tup (va_cons ve_str (va_cons (ve_callP y false d__law_operand (by decide) (va_cons (ve_fdiv (ve_v y 5) ve_int) (va_cons (ve_v y 3) va_nil))) va_nil))) va_nil)))) (vss_cons (vs_set y 7 (ve_ix y (ve_v y 3) (ve_mod (ve_fdiv (ve_v y 5) ve_int) ve_int)))
    (vss_cons (vs_expr (ve_append y (ve_v y 0) (va_cons (ve_tup (va_cons ve_str (va_cons (ve_v y 7) va_nil))) va_nil)))
    (vss_one (vs_expr (ve_append y (ve_v y 0) (va_cons (ve_tup (va_cons ve_str (va_cons (ve_v y 7) (va_cons (ve_v y 7) (va_cons ve_str (va_cons ve_int va_nil)))))) va_nil))))))))) (vss_one (vs_if (VW.vt (vw_and (vt_cmp (c_eq y) (ve_v y 6) ve_int) (vw_and (vt_cmp (c_ne y) (ve_v y 1) (ve_lst false va_nil)) (vw_and1 (vt_cmp (c_eq y) (ve_ix y (ve_v y 1) (ve_neg ve_int)) ve_str))))) (vss_cons (vs_expr (ve_append y (ve_v y 0) (va_cons (ve_tup (va_cons ve_str va_nil)) va_nil)))
    (vss_one (vs_asg ve_str (vg_subL (ve_v y 1) (ve_neg ve_int))))) (vss_one (vs_if (VW.vt (vw_and (vt_cmp (c_eq y) (ve_v y 6) ve_int) (vw_and1 (vt_cmp (c_ne y) (ve_v y 1) (ve_lst false va_nil))))) (vss_cons (vs_expr (ve_append y (ve_v y 0) (va_cons (ve_tup (va_cons ve_str va_nil)) va_nil)))
    (vss_one (vs_expr (ve_pop y (ve_v y 1))))) (vss_one (vs_expr (ve_append y (ve_v y 0) (va_cons (ve_callP y false d__law_simple (by decide) (va_cons (ve_v y 5) (va_cons (ve_v y 3) (va_cons (ve_v y 4) va_nil)))) va_nil)))))))))))))), atS5 v__law_lay⟩
abbrev s__law_plan : Stmt := top 11
theorem sc__law_plan : FnScope ["_law_cell", "_law_words_here", "_law_number", "_law_plan_here", "_law_k", "_law_parameters", "_law_j"] ["_law_cell", "_law_words_here"] (defScope s__law_plan) := ⟨rfl, rfl, rfl, by decide +kernel, rfl, by decide +kernel, by decide +kernel⟩
theorem d__law_plan {f : Addr} {fd : FuncData} (F : Fun K "_law_plan" "_law_plan" s__law_plan f fd) (hm : mg "_law_plan" = some (.ref f)) (T : Txt K mg) : Def P w K mg base "_law_plan" 1 [] (pSp sp__law_plan) :=
  def_mk F hm sc__law_plan (F.binds (ps := ["_law_cell", "_law_words_here"]) fun _ _ _ _ _ _ us hl => match us, hl with | [_, _], _ => rfl) (fun _ _ _ h => len2 h) fun cdv A outer s H E y => ⟨w__law_plan, (vss_cons (vs_set y 2 (ve_mod (ve_v y 0) (ve_pow ve_int ve_int)))
    (vss_cons (vs_set y 3 (ve_lst true va_nil))
    (vss_cons (vs_for PassesOwn.never rfl (vi_rng1 y T.n_range (va_cons (ve_add y false ve_int (ve_mod (ve_v y 2) ve_int)) va_nil)) (vk_name y 4 [4]) (vss_cons (vs_set y 2 (ve_mod (ve_add y false (ve_add y false (ve_mul false (ve_v y 2) (ve_v y 2)) (ve_mul false ve_int (ve_v y 2))) (ve_v y 4)) ve_int))
    (vss_cons (vs_setLc y false 5 (own := [("_law_j", 6)]) (sw_true rfl rfl rfl (by decide +kernel)) (vi_rng1 y T.n_range (va_cons (ve_mod (ve_v y 2) ve_int) va_nil)) (blkOk_at (S := defScope s__law_plan) (by decide +kernel)) (vk_name (YOk.blk y _) 6 [6]) vts_nil (ve_ix (YOk.blk y _) (ve_v (YOk.blk y _) 1) (ve_mod (ve_add (YOk.blk y _) false (ve_fdiv (ve_v (YOk.blk y _) 2) ve_int) (ve_v (YOk.blk y _) 6)) ve_int)))
    (vss_one (vs_expr (ve_append y (ve_v y 3) (va_cons (ve_tup (va_cons (ve_ix y (ve_v y 1) (ve_v y 4)) (va_cons (ve_tuple y T.n_tuple (va_cons (ve_v y 5) va_nil)) va_nil))) va_nil)))))))
    (vss_one (vs_ret (ve_v y 3)))))), at2 v__law_plan⟩
abbrev s__law_program : Stmt := top 12
theorem sc__law_program : FnScope ["_law_cells", "_law_words_here", "_law_plan_here", "_law_rows", "_law_k", "_law_stack", "_law_start", "_law_stop", "_law_share", "_law_cell", "_law_word"] ["_law_cells", "_law_words_here", "_law_plan_here"] (defScope s__law_program) := ⟨rfl, rfl, rfl, by decide +kernel, rfl, by decide +kernel, by decide +kernel⟩
theorem d__law_program {f : Addr} {fd : FuncData} (F : Fun K "_law_program" "_law_program" s__law_program f fd) (hm : mg "_law_program" = some (.ref f)) (T : Txt K mg) (d__law_lay : Def P w K mg base "_law_lay" 4 [] sp__law_lay) (d__law_operand : Def P w K mg base "_law_operand" 1 [] (pSp sp__law_operand)) : Def P w K mg base "_law_program" 5 [] (pSp sp__law_program) :=
  def_mk F hm sc__law_program (F.binds (ps := ["_law_cells", "_law_words_here", "_law_plan_here"]) fun _ _ _ _ _ _ us hl => match us, hl with | [_, _, _], _ => rfl) (fun _ _ _ h => len3 h) fun cdv A outer s H E y => ⟨w__law_program, (vss_cons (vs_set y 3 (ve_lst true va_nil))
    (vss_cons (vs_for PassesOwn.never rfl (vi_rng1 y T.n_range (va_cons (ve_len y T.n_len (va_cons (ve_v y 2) va_nil)) va_nil)) (vk_name y 4 [4]) (vss_cons (vs_expr (ve_append y (ve_v y 3) (va_cons (ve_tup (va_cons ve_str (va_cons (ve_ix y (ve_ix y (ve_v y 2) (ve_v y 4)) ve_int) (va_cons (ve_ix y (ve_ix y (ve_v y 2) (ve_v y 4)) ve_int) va_nil)))) va_nil)))
    (vss_cons (vs_set y 5 (ve_lst true va_nil))
    (vss_cons (vs_set y 6 (ve_fdiv (ve_mul false (ve_v y 4) (ve_len y T.n_len (va_cons (ve_v y 0) va_nil))) (ve_len y T.n_len (va_cons (ve_v y 2) va_nil))))
    (vss_cons (vs_set y 7 (ve_fdiv (ve_mul false (ve_add y false (ve_v y 4) ve_int) (ve_len y T.n_len (va_cons (ve_v y 0) va_nil))) (ve_len y T.n_len (va_cons (ve_v y 2) va_nil))))
    (vss_cons (vs_set y 8 (ve_slice y false (ve_v y 0) (vo_some (ve_v y 6)) (vo_some (ve_v y 7))))
    (vss_cons (vs_for PassesOwn.never rfl (vi_seq y (ve_v y 8)) (vk_name y 9 [9]) (vss_one (vs_if (vt_cmp (c_lt y) (ve_add y false (ve_len y T.n_len (va_cons (ve_v y 3) va_nil)) (ve_len y T.n_len (va_cons (ve_v y 5) va_nil))) (ve_sub ve_int (ve_mul false ve_int (ve_sub (ve_sub (ve_len y T.n_len (va_cons (ve_v y 2) va_nil)) ve_int) (ve_v y 4))))) (vss_one (vs_expr (ve_callS y d__law_lay (by decide) (va_cons (ve_v y 3) (va_cons (ve_v y 5) (va_cons (ve_v y 9) (va_cons (ve_v y 1) (va_cons (ve_slice y false (ve_v y 2) (vo_some (ve_add y false (ve_v y 4) ve_int)) vo_none) va_nil)))))))) vss_nil)))
    (vss_cons (vs_for PassesOwn.never rfl (vi_seq y (ve_v y 5)) (vk_name y 10 [10]) (vss_one (vs_expr (ve_append y (ve_v y 3) (va_cons (ve_tup (va_cons ve_str va_nil)) va_nil)))))
    (vss_cons (vs_expr (ve_append y (ve_v y 3) (va_cons (ve_tup (va_cons ve_str (va_cons (ve_callP y false d__law_operand (by decide) (va_cons (ve_mod (ve_sum y T.n_sum (va_cons (ve_v y 8) va_nil)) (ve_pow ve_int ve_int)) (va_cons (ve_v y 1) va_nil))) va_nil))) va_nil)))
    (vss_one (vs_if (VW.vt (vw_and (vt_cmp (c_eq y) (ve_mod (ve_v y 4) ve_int) ve_int) (vw_and1 (vt_cmp (c_eq y) (ve_mod (ve_len y T.n_len (va_cons (ve_v y 8) va_nil)) ve_int) ve_int)))) (vss_one (vs_expr (ve_append y (ve_v y 3) (va_cons (ve_tup (va_cons ve_str va_nil)) va_nil)))) vss_nil)))))))))))
    (vss_one (vs_ret (ve_v y 3))))), at3 v__law_program⟩
abbrev s__law_step : Stmt := top 13
theorem sc__law_step : FnScope ["_law_row"] ["_law_row"] (defScope s__law_step) := ⟨rfl, rfl, rfl, by decide +kernel, rfl, by decide +kernel, by decide +kernel⟩
theorem d__law_step {f : Addr} {fd : FuncData} (F : Fun K "_law_step" "_law_step" s__law_step f fd) (hm : mg "_law_step" = some (.ref f)) (T : Txt K mg) : Def P w K mg base "_law_step" 1 [] (pSp sp__law_step) :=
  def_mk F hm sc__law_step (F.binds (ps := ["_law_row"]) fun _ _ _ _ _ _ us hl => match us, hl with | [_], _ => rfl) (fun _ _ _ h => len1 h) fun cdv A outer s H E y => ⟨w__law_step, (vss_cons (vs_if (vt_cmp (c_inT y) (ve_ix y (ve_v y 0) ve_int) (ve_tup (va_cons ve_str (va_cons ve_str (va_cons ve_str va_nil))))) (vss_one (vs_ret ve_int)) vss_nil)
    (vss_cons (vs_if (vt_cmp (c_inT y) (ve_ix y (ve_v y 0) ve_int) (ve_tup (va_cons ve_str (va_cons ve_str va_nil)))) (vss_one (vs_ret (ve_neg ve_int))) vss_nil)
    (vss_one (vs_ret ve_int)))), at1 v__law_step⟩
abbrev s__law_end : Stmt := top 14
theorem sc__law_end : FnScope ["_law_rows", "_law_at", "_law_depth", "_law_k"] ["_law_rows", "_law_at"] (defScope s__law_end) := ⟨rfl, rfl, rfl, by decide +kernel, rfl, by decide +kernel, by decide +kernel⟩
theorem d__law_end {f : Addr} {fd : FuncData} (F : Fun K "_law_end" "_law_end" s__law_end f fd) (hm : mg "_law_end" = some (.ref f)) (T : Txt K mg) (d__law_step : Def P w K mg base "_law_step" 1 [] (pSp sp__law_step)) : Def P w K mg base "_law_end" 2 [] (pSp sp__law_end) :=
  def_mk F hm sc__law_end (F.binds (ps := ["_law_rows", "_law_at"]) fun _ _ _ _ _ _ us hl => match us, hl with | [_, _], _ => rfl) (fun _ _ _ h => len2 h) fun cdv A outer s H E y => ⟨w__law_end, (vss_cons (vs_set y 2 ve_int)
    (vss_cons (vs_for PassesOwn.never rfl (vi_rng2 y T.n_range (va_cons (ve_add y false (ve_v y 1) ve_int) (va_cons (ve_len y T.n_len (va_cons (ve_v y 0) va_nil)) va_nil))) (vk_name y 3 [3]) (vss_cons (vs_augAdd y 2 (ve_callP y false d__law_step (by decide) (va_cons (ve_ix y (ve_v y 0) (ve_v y 3)) va_nil)))
    (vss_one (vs_if (vt_cmp (c_eq y) (ve_v y 2) ve_int) (vss_one (vs_ret (ve_v y 3))) vss_nil))))
    (vss_one (vs_ret ve_non)))), at2 v__law_end⟩
abbrev s__law_due : Stmt := top 15
theorem sc__law_due : FnScope ["_law_rows", "_law_many", "_law_ends", "_law_row", "_law_k", "_law_heads", "_law_homes", "_law_elses", "_law_round_it", "_law_j"] ["_law_rows"] (defScope s__law_due) := ⟨rfl, rfl, rfl, by decide +kernel, rfl, by decide +kernel, by decide +kernel⟩
theorem d__law_due {f : Addr} {fd : FuncData} (F : Fun K "_law_due" "_law_due" s__law_due f fd) (hm : mg "_law_due" = some (.ref f)) (T : Txt K mg) (d__law_step : Def P w K mg base "_law_step" 1 [] (pSp sp__law_step)) (d__law_end : Def P w K mg base "_law_end" 2 [] (pSp sp__law_end)) : Def P w K mg base "_law_due" 3 [] (pSp sp__law_due) :=
  def_mk F hm sc__law_due (F.binds (ps := ["_law_rows"]) fun _ _ _ _ _ _ us hl => match us, hl with | [_], _ => rfl) (fun _ _ _ h => len1 h) fun cdv A outer s H E y => ⟨w__law_due, (vss_cons (vs_set y 1 (ve_len y T.n_len (va_cons (ve_v y 0) va_nil)))
    (vss_cons (vs_set y 2 (ve_lc y true (own := [("_law_row", 3)]) (vi_seq y (ve_v y 0)) (fun _ => (blkOk_at (S := defScope s__law_due) (by decide +kernel))) (vk_name (YOk.blk y _) 3 [3]) vts_nil ve_non) (hs := sw_cell rfl rfl))
    (vss_cons (vs_for PassesOwn.never rfl (vi_rng1 y T.n_range (va_cons (ve_v y 1) va_nil)) (vk_name y 4 [4]) (vss_one (vs_if (vt_cmp (c_eq y) (ve_callP y false d__law_step (by decide) (va_cons (ve_ix y (ve_v y 0) (ve_v y 4)) va_nil)) ve_int) (vss_one (vs_asg (ve_callP y false d__law_end (by decide) (va_cons (ve_v y 0) (va_cons (ve_v y 4) va_nil))) (vg_subL (ve_v y 2) (ve_v y 4)))) vss_nil)))
    (vss_cons (vs_setLc y true 5 (own := [("_law_row", 3)]) (sw_true rfl rfl rfl (by decide +kernel)) (vi_seq y (ve_v y 0)) (blkOk_at (S := defScope s__law_due) (by decide +kernel)) (vk_name (YOk.blk y _) 3 [3]) vts_nil ve_non)
    (vss_cons (vs_setLc y true 6 (own := [("_law_row", 3)]) (sw_true rfl rfl rfl (by decide +kernel)) (vi_seq y (ve_v y 0)) (blkOk_at (S := defScope s__law_due) (by decide +kernel)) (vk_name (YOk.blk y _) 3 [3]) vts_nil ve_non)
    (vss_cons (vs_setLc y true 7 (own := [("_law_row", 3)]) (sw_true rfl rfl rfl (by decide +kernel)) (vi_seq y (ve_v y 0)) (blkOk_at (S := defScope s__law_due) (by decide +kernel)) (vk_name (YOk.blk y _) 3 [3]) vts_nil ve_non)
    (vss_cons (vs_for PassesOwn.never rfl (vi_rng1 y T.n_range (va_cons (ve_v y 1) va_nil)) (vk_name y 4 [4]) (vss_cons (vs_setLc y false 8 (own := [("_law_j", 9)]) (sw_true rfl rfl rfl (by decide +kernel)) (vi_rng1 y T.n_range (va_cons (ve_v y 4) va_nil)) (blkOk_at (S := defScope s__law_due) (by decide +kernel)) (vk_name (YOk.blk y _) 9 [9]) (vts_one (VW.vt (vw_and (vt_cmp (c_isn (YOk.blk y _)) (ve_ix (YOk.blk y _) (ve_v (YOk.blk y _) 2) (ve_v (YOk.blk y _) 9)) ve_non) (vw_and1 (vt_cmp (c_ge (YOk.blk y _)) (ve_ix (YOk.blk y _) (ve_v (YOk.blk y _) 2) (ve_v (YOk.blk y _) 9)) (ve_v (YOk.blk y _) 4)))))) (ve_v (YOk.blk y _) 9))
    (vss_cons (vs_if (vt_cmp (c_ne y) (ve_v y 8) (ve_lst false va_nil)) (vss_cons (vs_asg (ve_ix y (ve_v y 8) (ve_neg ve_int)) (vg_subL (ve_v y 5) (ve_v y 4)))
    (vss_one (vs_asg (ve_ix y (ve_v y 8) ve_int) (vg_subL (ve_v y 6) (ve_v y 4))))) vss_nil)
    (vss_cons (vs_if (vt_cmp (c_eq y) (ve_ix y (ve_ix y (ve_v y 0) (ve_v y 4)) ve_int) ve_str) (vss_one (vs_asg (ve_v y 4) (vg_subL (ve_v y 6) (ve_v y 4)))) vss_nil)
    (vss_one (vs_if (vt_cmp (c_eq y) (ve_ix y (ve_ix y (ve_v y 0) (ve_v y 4)) ve_int) ve_str) (vss_one (vs_asg (ve_v y 4) (vg_subL (ve_v y 7) (ve_ix y (ve_v y 5) (ve_v y 4))))) vss_nil))))))
    (vss_one (vs_ret (ve_tup (va_cons (ve_v y 5) (va_cons (ve_v y 2) (va_cons (ve_v y 7) (va_cons (ve_v y 6) va_nil)))))))))))))), at1 v__law_due⟩
abbrev s__law_same : Stmt := top 16
theorem sc__law_same : FnScope ["_law_told", "_law_due_here", "_law_some", "_law_rows", "_law_one", "_law_other"] ["_law_told", "_law_due_here"] (defScope s__law_same) := ⟨rfl, rfl, rfl, by decide +kernel, rfl, by decide +kernel, by decide +kernel⟩
theorem d__law_same {f : Addr} {fd : FuncData} (F : Fun K "_law_same" "_law_same" s__law_same f fd) (hm : mg "_law_same" = some (.ref f)) (T : Txt K mg) (d__law_whole : Def P w K mg base "_law_whole" 1 [] (pSp sp__law_whole)) : Def P w K mg base "_law_same" 2 [] (pSp sp__law_same) :=
  def_mk F hm sc__law_same (F.binds (ps := ["_law_told", "_law_due_here"]) fun _ _ _ _ _ _ us hl => match us, hl with | [_, _], _ => rfl) (fun _ _ _ h => len2 h) fun cdv A outer s H E y => ⟨w__law_same, (vss_cons (vs_if (VW.vt (vw_or (vt_not (vt_truth y (ve_isi y T.n_isinstance (va_cons (ve_v y 0) (va_cons (ve_ty y T.n_tuple) va_nil))))) (vw_or1 (vt_cmp (c_ne y) (ve_len y T.n_len (va_cons (ve_v y 0) va_nil)) ve_int)))) (vss_one (vs_ret ve_bl)) vss_nil)
    (vss_cons (vs_for PassesOwn.never rfl (vi_zip y T.n_zip (va_cons (ve_v y 0) (va_cons (ve_v y 1) va_nil))) (vk_tup y 2 (vks_cons (vk_name y 2 [2, 3]) (vks_cons (vk_name y 3 [2, 3]) (vks_nil [2, 3])))) (vss_cons (vs_if (VW.vt (vw_or (vt_not (vt_truth y (ve_isi y T.n_isinstance (va_cons (ve_v y 2) (va_cons (ve_ty y T.n_list) va_nil))))) (vw_or1 (vt_cmp (c_ne y) (ve_len y T.n_len (va_cons (ve_v y 2) va_nil)) (ve_len y T.n_len (va_cons (ve_v y 3) va_nil)))))) (vss_one (vs_ret ve_bl)) vss_nil)
    (vss_one (vs_for PassesOwn.never rfl (vi_zip y T.n_zip (va_cons (ve_v y 2) (va_cons (ve_v y 3) va_nil))) (vk_tup y 2 (vks_cons (vk_name y 4 [4, 5]) (vks_cons (vk_name y 5 [4, 5]) (vks_nil [4, 5])))) (vss_one (vs_if (VW.vt (vw_or (VW.vt (vw_and (vt_cmp (c_is y) (ve_v y 4) ve_non) (vw_and1 (vt_cmp (c_isn y) (ve_v y 5) ve_non)))) (vw_or (VW.vt (vw_and (vt_cmp (c_isn y) (ve_v y 4) ve_non) (vw_and1 (vt_not (vt_truth y (ve_callP y false d__law_whole (by decide) (va_cons (ve_v y 4) va_nil))))))) (vw_or1 (vt_cmp (c_ne y) (ve_v y 4) (ve_v y 5)))))) (vss_one (vs_ret ve_bl)) vss_nil))))))
    (vss_one (vs_ret ve_bl)))), at2 v__law_same⟩
abbrev s__law_deep : Stmt := top 17
theorem sc__law_deep : FnScope ["_law_cell", "_law_words_here", "_law_opened", "_law_k", "_law_rows", "_law_word"] ["_law_cell", "_law_words_here"] (defScope s__law_deep) := ⟨rfl, rfl, rfl, by decide +kernel, rfl, by decide +kernel, by decide +kernel⟩
theorem d__law_deep {f : Addr} {fd : FuncData} (F : Fun K "_law_deep" "_law_deep" s__law_deep f fd) (hm : mg "_law_deep" = some (.ref f)) (T : Txt K mg) : Def P w K mg base "_law_deep" 1 [] (pSp sp__law_deep) :=
  def_mk F hm sc__law_deep (F.binds (ps := ["_law_cell", "_law_words_here"]) fun _ _ _ _ _ _ us hl => match us, hl with | [_, _], _ => rfl) (fun _ _ _ h => len2 h) fun cdv A outer s H E y => ⟨w__law_deep, (vss_cons (vs_set y 2 (ve_lst true va_nil))
    (vss_cons (vs_for PassesOwn.never rfl (vi_rng1 y T.n_range (va_cons (ve_mod (ve_v y 0) ve_int) va_nil)) (vk_name y 3 [3]) (vss_one (vs_expr (ve_append y (ve_v y 2) (va_cons (ve_ix y (ve_lst false (va_cons ve_str (va_cons ve_str va_nil))) (ve_mod (ve_fdiv (ve_v y 0) (ve_add y false (ve_v y 3) ve_int)) ve_int)) va_nil)))))
    (vss_cons (vs_set y 4 (ve_add y true (ve_add y false (ve_lst false (va_cons (ve_tup (va_cons ve_str (va_cons (ve_ix y (ve_v y 1) ve_int) (va_cons (ve_tup va_nil) va_nil)))) va_nil)) (ve_lc y false (own := [("_law_word", 5)]) (vi_seq y (ve_v y 2)) (fun _ => (blkOk_at (S := defScope s__law_deep) (by decide +kernel))) (vk_name (YOk.blk y _) 5 [5]) vts_nil (ve_tup (va_cons (ve_v (YOk.blk y _) 5) (va_cons (ve_ix (YOk.blk y _) (ve_v (YOk.blk y _) 1) ve_int) va_nil))))) (ve_lst false (va_cons (ve_tup (va_cons ve_str (va_cons (ve_ix y (ve_v y 1) ve_int) va_nil))) va_nil))))
    (vss_cons (vs_for PassesOwn.never rfl (vi_rng1 y T.n_range (va_cons (ve_len y T.n_len (va_cons (ve_v y 2) va_nil)) va_nil)) (vk_name y 3 [3]) (vss_cons (vs_if (VW.vt (vw_and (vt_cmp (c_eq y) (ve_ix y (ve_v y 2) (ve_sub (ve_neg ve_int) (ve_v y 3))) ve_str) (vw_and1 (vt_cmp (c_eq y) (ve_mod (ve_fdiv (ve_v y 0) (ve_add y false (ve_v y 3) ve_int)) ve_int) ve_int)))) (vss_one (vs_expr (ve_append y (ve_v y 4) (va_cons (ve_tup (va_cons ve_str va_nil)) va_nil)))) vss_nil)
    (vss_one (vs_expr (ve_append y (ve_v y 4) (va_cons (ve_tup (va_cons ve_str va_nil)) va_nil))))))
    (vss_one (vs_ret (ve_add y true (ve_v y 4) (ve_lst false (va_cons (ve_tup (va_cons ve_str (va_cons ve_int va_nil))) va_nil))))))))), at2 v__law_deep⟩
abbrev s_law : Stmt := top 18
theorem sc_law : FnScope ["_law_script", "_law_words_here", "_law_rows", "_law_held", "_law_due_here", "_law_told", "_law_some"] ["_law_script"] (defScope s_law) := ⟨rfl, rfl, rfl, by decide +kernel, rfl, by decide +kernel, by decide +kernel⟩
end
theorem d_law_ok {P : Program} {w : World} {K : PySem.W.Frag} {mg : Str → Option Value} {base : Heap} {f : Addr} {fd : FuncData} (F : Fun K "law" "law" s_law f fd) (T : Txt K mg) (d__law_words : Def P w K mg base "_law_words" 1 [] (pSp sp__law_words)) (d__law_cell_at : Def P w K mg base "_law_cell_at" 1 [] (pSp sp__law_cell_at)) (d__law_program : Def P w K mg base "_law_program" 5 [] (pSp sp__law_program)) (d__law_plan : Def P w K mg base "_law_plan" 1 [] (pSp sp__law_plan)) (d__law_deep : Def P w K mg base "_law_deep" 1 [] (pSp sp__law_deep)) (d__law_due : Def P w K mg base "_law_due" 3 [] (pSp sp__law_due)) (d_shape : Def P w K mg base "shape" 1 [] sp_shape) (d__law_same : Def P w K mg base "_law_same" 2 [] (pSp sp__law_same)) : FnOk P w K mg base CX0 6 f fd ["_law_script"] (toSp K (pSp lawSp)) :=
  fnv_ok F sc_law (fun _ _ _ h => lenL h) fun cdv A outer s H E y => ⟨w_law, (vss_cons (vs_set y 1 (ve_callP y false d__law_words (by decide) (va_cons (ve_callP y false d__law_cell_at (by decide) (va_cons (ve_v y 0) (va_cons ve_int va_nil))) (va_cons ve_int va_nil))))
    (vss_cons (vs_set y 2 (ve_callP y false d__law_program (by decide) (va_cons (ve_slice y false (ve_v y 0) (vo_some ve_int) vo_none) (va_cons (ve_v y 1) (va_cons (ve_callP y false d__law_plan (by decide) (va_cons (ve_callP y false d__law_cell_at (by decide) (va_cons (ve_v y 0) (va_cons ve_int va_nil))) (va_cons (ve_v y 1) va_nil))) va_nil)))))
    (vss_cons (vs_if (vt_cmp (c_eq y) (ve_mod (ve_fdiv (ve_callP y false d__law_cell_at (by decide) (va_cons (ve_v y 0) (va_cons ve_int va_nil))) ve_int) ve_int) ve_int) (vss_one (vs_set y 2 (ve_lst false va_nil))) vss_nil)
    (vss_cons (vs_if (vt_cmp (c_eq y) (ve_mod (ve_fdiv (ve_callP y false d__law_cell_at (by decide) (va_cons (ve_v y 0) (va_cons ve_int va_nil))) ve_int) ve_int) ve_int) (vss_one (vs_set y 2 (ve_callP y false d__law_deep (by decide) (va_cons (ve_mod (ve_callP y false d__law_cell_at (by decide) (va_cons (ve_v y 0) (va_cons ve_int va_nil))) (ve_pow ve_int ve_int)) (va_cons (ve_v y 1) va_nil))))) vss_nil)
    (vss_cons (vs_set y 3 (ve_list y false T.n_list (va_cons (ve_v y 2) va_nil)))
    (vss_cons (vs_set y 4 (ve_callP y false d__law_due (by decide) (va_cons (ve_v y 3) va_nil)))
    (vss_cons (vs_set y 5 (ve_callS y d_shape (by decide) (va_cons (ve_v y 2) va_nil)))
    (vss_cons (vs_if (VW.vt (vw_or (vt_not (vt_truth y (ve_callP y false d__law_same (by decide) (va_cons (ve_v y 5) (va_cons (ve_v y 4) va_nil))))) (vw_or1 (vt_cmp (c_ne y) (ve_v y 2) (ve_v y 3))))) (vss_one (vs_ret ve_bl)) vss_nil)
    (vss_cons (vs_for PassesOwn.never rfl (vi_seq y (ve_v y 5)) (vk_name y 6 [6]) (vss_cons (vs_expr (ve_append y (ve_v y 6) (va_cons ve_int va_nil)))
    (vss_one (vs_expr (ve_reverse y (ve_v y 6))))))
    (vss_one (vs_ret (ve_callP y true d__law_same (by decide) (va_cons (ve_callS y d_shape (by decide) (va_cons (ve_v y 2) va_nil)) (va_cons (ve_v y 4) va_nil)))))))))))))), atL v_law⟩
theorem all_mk {P : Program} {w : World} {K : PySem.W.Frag} {h : Heap} {mg : Str → Option Value} {fa : Addr} (X : K.In h) (G : h.Ns mainGlobals mg) (hfa : mg "law" = some (.ref fa)) {f_shape f__law_cell_at f__law_whole f__law_words f__law_operand f__law_key f__law_call f__law_simple f__law_lay f__law_plan f__law_program f__law_step f__law_end f__law_due f__law_same f__law_deep f_law : Addr}
    {oc_shape kV_shape dc_shape pm_shape cd_shape ct_shape : Value} {od_shape an_shape : Option Addr} {sl_shape : Array (Option Value)}
    {oc__law_cell_at kV__law_cell_at dc__law_cell_at pm__law_cell_at cd__law_cell_at ct__law_cell_at : Value} {od__law_cell_at an__law_cell_at : Option Addr} {sl__law_cell_at : Array (Option Value)}
    {oc__law_whole kV__law_whole dc__law_whole pm__law_whole cd__law_whole ct__law_whole : Value} {od__law_whole an__law_whole : Option Addr} {sl__law_whole : Array (Option Value)}
    {oc__law_words kV__law_words dc__law_words pm__law_words cd__law_words ct__law_words : Value} {od__law_words an__law_words : Option Addr} {sl__law_words : Array (Option Value)}
    {oc__law_operand kV__law_operand dc__law_operand pm__law_operand cd__law_operand ct__law_operand : Value} {od__law_operand an__law_operand : Option Addr} {sl__law_operand : Array (Option Value)}
    {oc__law_key kV__law_key dc__law_key pm__law_key cd__law_key ct__law_key : Value} {od__law_key an__law_key : Option Addr} {sl__law_key : Array (Option Value)}
    {oc__law_call kV__law_call dc__law_call pm__law_call cd__law_call ct__law_call : Value} {od__law_call an__law_call : Option Addr} {sl__law_call : Array (Option Value)}
    {oc__law_simple kV__law_simple dc__law_simple pm__law_simple cd__law_simple ct__law_simple : Value} {od__law_simple an__law_simple : Option Addr} {sl__law_simple : Array (Option Value)}
    {oc__law_lay kV__law_lay dc__law_lay pm__law_lay cd__law_lay ct__law_lay : Value} {od__law_lay an__law_lay : Option Addr} {sl__law_lay : Array (Option Value)}
    {oc__law_plan kV__law_plan dc__law_plan pm__law_plan cd__law_plan ct__law_plan : Value} {od__law_plan an__law_plan : Option Addr} {sl__law_plan : Array (Option Value)}
    {oc__law_program kV__law_program dc__law_program pm__law_program cd__law_program ct__law_program : Value} {od__law_program an__law_program : Option Addr} {sl__law_program : Array (Option Value)}
    {oc__law_step kV__law_step dc__law_step pm__law_step cd__law_step ct__law_step : Value} {od__law_step an__law_step : Option Addr} {sl__law_step : Array (Option Value)}
    {oc__law_end kV__law_end dc__law_end pm__law_end cd__law_end ct__law_end : Value} {od__law_end an__law_end : Option Addr} {sl__law_end : Array (Option Value)}
    {oc__law_due kV__law_due dc__law_due pm__law_due cd__law_due ct__law_due : Value} {od__law_due an__law_due : Option Addr} {sl__law_due : Array (Option Value)}
    {oc__law_same kV__law_same dc__law_same pm__law_same cd__law_same ct__law_same : Value} {od__law_same an__law_same : Option Addr} {sl__law_same : Array (Option Value)}
    {oc__law_deep kV__law_deep dc__law_deep pm__law_deep cd__law_deep ct__law_deep : Value} {od__law_deep an__law_deep : Option Addr} {sl__law_deep : Array (Option Value)}
    {oc_law kV_law dc_law pm_law cd_law ct_law : Value} {od_law an_law : Option Addr} {sl_law : Array (Option Value)}
    (a_shape : PySem.W.nsIn K mainGlobals "shape" = some (some (.ref f_shape))) (l_shape : K.lookup f_shape = some ⟨oc_shape, od_shape, .func (PySem.W.fnOf "shape" "shape" (defArgs s_shape) (defBody s_shape) (defScope s_shape) .none kV_shape dc_shape pm_shape an_shape cd_shape ct_shape), sl_shape⟩) (c_shape : PySem.W.codeIn K cd_shape "shape" = true) (k_shape : PySem.W.keepIn K (.ref f_shape) = true)
    (a__law_cell_at : PySem.W.nsIn K mainGlobals "_law_cell_at" = some (some (.ref f__law_cell_at))) (l__law_cell_at : K.lookup f__law_cell_at = some ⟨oc__law_cell_at, od__law_cell_at, .func (PySem.W.fnOf "_law_cell_at" "_law_cell_at" (defArgs s__law_cell_at) (defBody s__law_cell_at) (defScope s__law_cell_at) .none kV__law_cell_at dc__law_cell_at pm__law_cell_at an__law_cell_at cd__law_cell_at ct__law_cell_at), sl__law_cell_at⟩) (c__law_cell_at : PySem.W.codeIn K cd__law_cell_at "_law_cell_at" = true) (k__law_cell_at : PySem.W.keepIn K (.ref f__law_cell_at) = true)
    (a__law_whole : PySem.W.nsIn K mainGlobals "_law_whole" = some (some (.ref f__law_whole))) (l__law_whole : K.lookup f__law_whole = some ⟨oc__law_whole, od__law_whole, .func (PySem.W.fnOf "_law_whole" "_law_whole" (defArgs s__law_whole) (defBody s__law_whole) (defScope s__law_whole) .none kV__law_whole dc__law_whole pm__law_whole an__law_whole cd__law_whole ct__law_whole), sl__law_whole⟩) (c__law_whole : PySem.W.codeIn K cd__law_whole "_law_whole" = true) (k__law_whole : PySem.W.keepIn K (.ref f__law_whole) = true)
    (a__law_words : PySem.W.nsIn K mainGlobals "_law_words" = some (some (.ref f__law_words))) (l__law_words : K.lookup f__law_words = some ⟨oc__law_words, od__law_words, .func (PySem.W.fnOf "_law_words" "_law_words" (defArgs s__law_words) (defBody s__law_words) (defScope s__law_words) .none kV__law_words dc__law_words pm__law_words an__law_words cd__law_words ct__law_words), sl__law_words⟩) (c__law_words : PySem.W.codeIn K cd__law_words "_law_words" = true) (k__law_words : PySem.W.keepIn K (.ref f__law_words) = true)
    (a__law_operand : PySem.W.nsIn K mainGlobals "_law_operand" = some (some (.ref f__law_operand))) (l__law_operand : K.lookup f__law_operand = some ⟨oc__law_operand, od__law_operand, .func (PySem.W.fnOf "_law_operand" "_law_operand" (defArgs s__law_operand) (defBody s__law_operand) (defScope s__law_operand) .none kV__law_operand dc__law_operand pm__law_operand an__law_operand cd__law_operand ct__law_operand), sl__law_operand⟩) (c__law_operand : PySem.W.codeIn K cd__law_operand "_law_operand" = true) (k__law_operand : PySem.W.keepIn K (.ref f__law_operand) = true)
    (a__law_key : PySem.W.nsIn K mainGlobals "_law_key" = some (some (.ref f__law_key))) (l__law_key : K.lookup f__law_key = some ⟨oc__law_key, od__law_key, .func (PySem.W.fnOf "_law_key" "_law_key" (defArgs s__law_key) (defBody s__law_key) (defScope s__law_key) .none kV__law_key dc__law_key pm__law_key an__law_key cd__law_key ct__law_key), sl__law_key⟩) (c__law_key : PySem.W.codeIn K cd__law_key "_law_key" = true) (k__law_key : PySem.W.keepIn K (.ref f__law_key) = true)
    (a__law_call : PySem.W.nsIn K mainGlobals "_law_call" = some (some (.ref f__law_call))) (l__law_call : K.lookup f__law_call = some ⟨oc__law_call, od__law_call, .func (PySem.W.fnOf "_law_call" "_law_call" (defArgs s__law_call) (defBody s__law_call) (defScope s__law_call) .none kV__law_call dc__law_call pm__law_call an__law_call cd__law_call ct__law_call), sl__law_call⟩) (c__law_call : PySem.W.codeIn K cd__law_call "_law_call" = true) (k__law_call : PySem.W.keepIn K (.ref f__law_call) = true)
    (a__law_simple : PySem.W.nsIn K mainGlobals "_law_simple" = some (some (.ref f__law_simple))) (l__law_simple : K.lookup f__law_simple = some ⟨oc__law_simple, od__law_simple, .func (PySem.W.fnOf "_law_simple" "_law_simple" (defArgs s__law_simple) (defBody s__law_simple) (defScope s__law_simple) .none kV__law_simple dc__law_simple pm__law_simple an__law_simple cd__law_simple ct__law_simple), sl__law_simple⟩) (c__law_simple : PySem.W.codeIn K cd__law_simple "_law_simple" = true) (k__law_simple : PySem.W.keepIn K (.ref f__law_simple) = true)
    (a__law_lay : PySem.W.nsIn K mainGlobals "_law_lay" = some (some (.ref f__law_lay))) (l__law_lay : K.lookup f__law_lay = some ⟨oc__law_lay, od__law_lay, .func (PySem.W.fnOf "_law_lay" "_law_lay" (defArgs s__law_lay) (defBody s__law_lay) (defScope s__law_lay) .none kV__law_lay dc__law_lay pm__law_lay an__law_lay cd__law_lay ct__law_lay), sl__law_lay⟩) (c__law_lay : PySem.W.codeIn K cd__law_lay "_law_lay" = true) (k__law_lay : PySem.W.keepIn K (.ref f__law_lay) = true)
    (a__law_plan : PySem.W.nsIn K mainGlobals "_law_plan" = some (some (.ref f__law_plan))) (l__law_plan : K.lookup f__law_plan = some ⟨oc__law_plan, od__law_plan, .func (PySem.W.fnOf "_law_plan" "_law_plan" (defArgs s__law_plan) (defBody s__law_plan) (defScope s__law_plan) .none kV__law_plan dc__law_plan pm__law_plan an__law_plan cd__law_plan ct__law_plan), sl__law_plan⟩) (c__law_plan : PySem.W.codeIn K cd__law_plan "_law_plan" = true) (k__law_plan : PySem.W.keepIn K (.ref f__law_plan) = true)
    (a__law_program : PySem.W.nsIn K mainGlobals "_law_program" = some (some (.ref f__law_program))) (l__law_program : K.lookup f__law_program = some ⟨oc__law_program, od__law_program, .func (PySem.W.fnOf "_law_program" "_law_program" (defArgs s__law_program) (defBody s__law_program) (defScope s__law_program) .none kV__law_program dc__law_program pm__law_program an__law_program cd__law_program ct__law_program), sl__law_program⟩) (c__law_program : PySem.W.codeIn K cd__law_program "_law_program" = true) (k__law_program : PySem.W.keepIn K (.ref f__law_program) = true)
    (a__law_step : PySem.W.nsIn K mainGlobals "_law_step" = some (some (.ref f__law_step))) (l__law_step : K.lookup f__law_step = some ⟨oc__law_step, od__law_step, .func (PySem.W.fnOf "_law_step" "_law_step" (defArgs s__law_step) (defBody s__law_step) (defScope s__law_step) .none kV__law_step dc__law_step pm__law_step an__law_step cd__law_step ct__law_step), sl__law_step⟩) (c__law_step : PySem.W.codeIn K cd__law_step "_law_step" = true) (k__law_step : PySem.W.keepIn K (.ref f__law_step) = true)
    (a__law_end : PySem.W.nsIn K mainGlobals "_law_end" = some (some (.ref f__law_end))) (l__law_end : K.lookup f__law_end = some ⟨oc__law_end, od__law_end, .func (PySem.W.fnOf "_law_end" "_law_end" (defArgs s__law_end) (defBody s__law_end) (defScope s__law_end) .none kV__law_end dc__law_end pm__law_end an__law_end cd__law_end ct__law_end), sl__law_end⟩) (c__law_end : PySem.W.codeIn K cd__law_end "_law_end" = true) (k__law_end : PySem.W.keepIn K (.ref f__law_end) = true)
    (a__law_due : PySem.W.nsIn K mainGlobals "_law_due" = some (some (.ref f__law_due))) (l__law_due : K.lookup f__law_due = some ⟨oc__law_due, od__law_due, .func (PySem.W.fnOf "_law_due" "_law_due" (defArgs s__law_due) (defBody s__law_due) (defScope s__law_due) .none kV__law_due dc__law_due pm__law_due an__law_due cd__law_due ct__law_due), sl__law_due⟩) (c__law_due : PySem.W.codeIn K cd__law_due "_law_due" = true) (k__law_due : PySem.W.keepIn K (.ref f__law_due) = true)
    (a__law_same : PySem.W.nsIn K mainGlobals "_law_same" = some (some (.ref f__law_same))) (l__law_same : K.lookup f__law_same = some ⟨oc__law_same, od__law_same, .func (PySem.W.fnOf "_law_same" "_law_same" (defArgs s__law_same) (defBody s__law_same) (defScope s__law_same) .none kV__law_same dc__law_same pm__law_same an__law_same cd__law_same ct__law_same), sl__law_same⟩) (c__law_same : PySem.W.codeIn K cd__law_same "_law_same" = true) (k__law_same : PySem.W.keepIn K (.ref f__law_same) = true)
    (a__law_deep : PySem.W.nsIn K mainGlobals "_law_deep" = some (some (.ref f__law_deep))) (l__law_deep : K.lookup f__law_deep = some ⟨oc__law_deep, od__law_deep, .func (PySem.W.fnOf "_law_deep" "_law_deep" (defArgs s__law_deep) (defBody s__law_deep) (defScope s__law_deep) .none kV__law_deep dc__law_deep pm__law_deep an__law_deep cd__law_deep ct__law_deep), sl__law_deep⟩) (c__law_deep : PySem.W.codeIn K cd__law_deep "_law_deep" = true) (k__law_deep : PySem.W.keepIn K (.ref f__law_deep) = true)
    (a_law : PySem.W.nsIn K mainGlobals "law" = some (some (.ref f_law))) (l_law : K.lookup f_law = some ⟨oc_law, od_law, .func (PySem.W.fnOf "law" "law" (defArgs s_law) (defBody s_law) (defScope s_law) .none kV_law dc_law pm_law an_law cd_law ct_law), sl_law⟩) (c_law : PySem.W.codeIn K cd_law "law" = true) (k_law : PySem.W.keepIn K (.ref f_law) = true)
    (n_list : PySem.W.nsIn K mainGlobals "list" = some none)
    (n_enumerate : PySem.W.nsIn K mainGlobals "enumerate" = some none)
    (n_len : PySem.W.nsIn K mainGlobals "len" = some none)
    (n_int : PySem.W.nsIn K mainGlobals "int" = some none)
    (n_isinstance : PySem.W.nsIn K mainGlobals "isinstance" = some none)
    (n_bool : PySem.W.nsIn K mainGlobals "bool" = some none)
    (n_range : PySem.W.nsIn K mainGlobals "range" = some none)
    (n_tuple : PySem.W.nsIn K mainGlobals "tuple" = some none)
    (n_sum : PySem.W.nsIn K mainGlobals "sum" = some none)
    (n_zip : PySem.W.nsIn K mainGlobals "zip" = some none)
    : ∃ fd : FuncData, (∀ (s : Shared) (u : Value), BindsTo s fd ⟨[u], []⟩ [("_law_script", u)]) ∧ ∀ base : Heap, K.In base → base.Ns mainGlobals mg → FnOk P w K mg base CX0 6 fa fd ["_law_script"] (toSp K (pSp lawSp)) := by
  have e := hfa.symm.trans (PySem.W.mg_of X G a_law)
  cases e
  have T : Txt K mg := ⟨PySem.W.mg_none_of X G n_list, PySem.W.mg_none_of X G n_enumerate, PySem.W.mg_none_of X G n_len, PySem.W.mg_none_of X G n_int, PySem.W.mg_none_of X G n_isinstance, PySem.W.mg_none_of X G n_bool, PySem.W.mg_none_of X G n_range, PySem.W.mg_none_of X G n_tuple, PySem.W.mg_none_of X G n_sum, PySem.W.mg_none_of X G n_zip⟩
  refine ⟨PySem.W.fnOf "law" "law" (defArgs s_law) (defBody s_law) (defScope s_law) .none kV_law dc_law pm_law an_law cd_law ct_law, fun s v => .of_eq rfl, fun base _ _ => ?_⟩
  have D_shape := d_shape (P := P) (w := w) (base := base) (fun_mk (st := s_shape) l_shape c_shape k_shape) (PySem.W.mg_of X G a_shape) T
  have D__law_cell_at := d__law_cell_at (P := P) (w := w) (base := base) (fun_mk (st := s__law_cell_at) l__law_cell_at c__law_cell_at k__law_cell_at) (PySem.W.mg_of X G a__law_cell_at) T
  have D__law_whole := d__law_whole (P := P) (w := w) (base := base) (fun_mk (st := s__law_whole) l__law_whole c__law_whole k__law_whole) (PySem.W.mg_of X G a__law_whole) T
  have D__law_words := d__law_words (P := P) (w := w) (base := base) (fun_mk (st := s__law_words) l__law_words c__law_words k__law_words) (PySem.W.mg_of X G a__law_words) T
  have D__law_operand := d__law_operand (P := P) (w := w) (base := base) (fun_mk (st := s__law_operand) l__law_operand c__law_operand k__law_operand) (PySem.W.mg_of X G a__law_operand) T
  have D__law_key := d__law_key (P := P) (w := w) (base := base) (fun_mk (st := s__law_key) l__law_key c__law_key k__law_key) (PySem.W.mg_of X G a__law_key) T D__law_operand
  have D__law_call := d__law_call (P := P) (w := w) (base := base) (fun_mk (st := s__law_call) l__law_call c__law_call k__law_call) (PySem.W.mg_of X G a__law_call) T D__law_operand
  have D__law_simple := d__law_simple (P := P) (w := w) (base := base) (fun_mk (st := s__law_simple) l__law_simple c__law_simple k__law_simple) (PySem.W.mg_of X G a__law_simple) T D__law_operand D__law_key D__law_call
  have D__law_lay := d__law_lay (P := P) (w := w) (base := base) (fun_mk (st := s__law_lay) l__law_lay c__law_lay k__law_lay) (PySem.W.mg_of X G a__law_lay) T D__law_operand D__law_simple
  have D__law_plan := d__law_plan (P := P) (w := w) (base := base) (fun_mk (st := s__law_plan) l__law_plan c__law_plan k__law_plan) (PySem.W.mg_of X G a__law_plan) T
  have D__law_program := d__law_program (P := P) (w := w) (base := base) (fun_mk (st := s__law_program) l__law_program c__law_program k__law_program) (PySem.W.mg_of X G a__law_program) T D__law_lay D__law_operand
  have D__law_step := d__law_step (P := P) (w := w) (base := base) (fun_mk (st := s__law_step) l__law_step c__law_step k__law_step) (PySem.W.mg_of X G a__law_step) T
  have D__law_end := d__law_end (P := P) (w := w) (base := base) (fun_mk (st := s__law_end) l__law_end c__law_end k__law_end) (PySem.W.mg_of X G a__law_end) T D__law_step
  have D__law_due := d__law_due (P := P) (w := w) (base := base) (fun_mk (st := s__law_due) l__law_due c__law_due k__law_due) (PySem.W.mg_of X G a__law_due) T D__law_step D__law_end
  have D__law_same := d__law_same (P := P) (w := w) (base := base) (fun_mk (st := s__law_same) l__law_same c__law_same k__law_same) (PySem.W.mg_of X G a__law_same) T D__law_whole
  have D__law_deep := d__law_deep (P := P) (w := w) (base := base) (fun_mk (st := s__law_deep) l__law_deep c__law_deep k__law_deep) (PySem.W.mg_of X G a__law_deep) T
  exact d_law_ok (fun_mk (st := s_law) l_law c_law k_law) T D__law_words D__law_cell_at D__law_program D__law_plan D__law_deep D__law_due D_shape D__law_same
end VLD

open PySem PySem.W PyProof.Rows in
set_option maxRecDepth 100000 in
set_option maxHeartbeats 0 in
theorem PySem.Challenge.cw_slicewise_k05_shapes_holds : PySem.Challenge.rw_slicewise_k05_shapes.Holds := by
  w_on; o_law; k_head; (case hw => w_witness2)
  k_fill
  refine VL.law_walk (l := PySem.Challenge.rw_slicewise_k05_shapes) (k := 6) (x := "_law_script") rfl rfl ⟨rfl, by decide, by decide⟩ (fun w h Y => PySem.W.kIn_of Y) ?F
  case F =>
    intro w mg fa h KX G hmg
    refine' VLD.all_mk KX G hmg ?a_shape ?l_shape ?c_shape ?k_shape ?a__law_cell_at ?l__law_cell_at ?c__law_cell_at ?k__law_cell_at ?a__law_whole ?l__law_whole ?c__law_whole ?k__law_whole ?a__law_words ?l__law_words ?c__law_words ?k__law_words ?a__law_operand ?l__law_operand ?c__law_operand ?k__law_operand ?a__law_key ?l__law_key ?c__law_key ?k__law_key ?a__law_call ?l__law_call ?c__law_call ?k__law_call ?a__law_simple ?l__law_simple ?c__law_simple ?k__law_simple ?a__law_lay ?l__law_lay ?c__law_lay ?k__law_lay ?a__law_plan ?l__law_plan ?c__law_plan ?k__law_plan ?a__law_program ?l__law_program ?c__law_program ?k__law_program ?a__law_step ?l__law_step ?c__law_step ?k__law_step ?a__law_end ?l__law_end ?c__law_end ?k__law_end ?a__law_due ?l__law_due ?c__law_due ?k__law_due ?a__law_same ?l__law_same ?c__law_same ?k__law_same ?a__law_deep ?l__law_deep ?c__law_deep ?k__law_deep ?a_law ?l_law ?c_law ?k_law ?n_list ?n_enumerate ?n_len ?n_int ?n_isinstance ?n_bool ?n_range ?n_tuple ?n_sum ?n_zip
    (case a_shape => k_is)
    (case l_shape => k_is)
    (case c_shape => k_is)
    (case k_shape => k_is)
    (case a__law_cell_at => k_is)
    (case l__law_cell_at => k_is)
    (case c__law_cell_at => k_is)
    (case k__law_cell_at => k_is)
    (case a__law_whole => k_is)
    (case l__law_whole => k_is)
    (case c__law_whole => k_is)
    (case k__law_whole => k_is)
    (case a__law_words => k_is)
    (case l__law_words => k_is)
    (case c__law_words => k_is)
    (case k__law_words => k_is)
    (case a__law_operand => k_is)
    (case l__law_operand => k_is)
    (case c__law_operand => k_is)
    (case k__law_operand => k_is)
    (case a__law_key => k_is)
    (case l__law_key => k_is)
    (case c__law_key => k_is)
    (case k__law_key => k_is)
    (case a__law_call => k_is)
    (case l__law_call => k_is)
    (case c__law_call => k_is)
    (case k__law_call => k_is)
    (case a__law_simple => k_is)
    (case l__law_simple => k_is)
    (case c__law_simple => k_is)
    (case k__law_simple => k_is)
    (case a__law_lay => k_is)
    (case l__law_lay => k_is)
    (case c__law_lay => k_is)
    (case k__law_lay => k_is)
    (case a__law_plan => k_is)
    (case l__law_plan => k_is)
    (case c__law_plan => k_is)
    (case k__law_plan => k_is)
    (case a__law_program => k_is)
    (case l__law_program => k_is)
    (case c__law_program => k_is)
    (case k__law_program => k_is)
    (case a__law_step => k_is)
    (case l__law_step => k_is)
    (case c__law_step => k_is)
    (case k__law_step => k_is)
    (case a__law_end => k_is)
    (case l__law_end => k_is)
    (case c__law_end => k_is)
    (case k__law_end => k_is)
    (case a__law_due => k_is)
    (case l__law_due => k_is)
    (case c__law_due => k_is)
    (case k__law_due => k_is)
    (case a__law_same => k_is)
    (case l__law_same => k_is)
    (case c__law_same => k_is)
    (case k__law_same => k_is)
    (case a__law_deep => k_is)
    (case l__law_deep => k_is)
    (case c__law_deep => k_is)
    (case k__law_deep => k_is)
    (case a_law => k_is)
    (case l_law => k_is)
    (case c_law => k_is)
    (case k_law => k_is)
    (case n_list => k_is)
    (case n_enumerate => k_is)
    (case n_len => k_is)
    (case n_int => k_is)
    (case n_isinstance => k_is)
    (case n_bool => k_is)
    (case n_range => k_is)
    (case n_tuple => k_is)
    (case n_sum => k_is)
    (case n_zip => k_is)
