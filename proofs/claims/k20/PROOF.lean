import PyProof.Rows.All
import Wide.All
import OpenK.AllK
import Wide.FinOn
import HandS.ForMost
import HandS.Wide
import HandS.Flow
import HandS.AnyAll
import HandS.IsInst
import HandS.Conv
import KE.KDictKeyed
import KE.KDictWalk
import HandS.Deep
import HandS.WideBits
import HandS.Zip
import PyProof.StrLawsIn
import HandS.SetFor
import HandS.Strs
import HandS.SetKeys
import HandS.Rev
import HandS.RevTup
import HandS.SortRule
import HandS.Iter
import HandS.More
import KE.OsArith
import PySem.Challenge.RW_slicewise_k20_holds_and_keeps
set_option Elab.async false
set_option linter.all false
set_option maxHeartbeats 4000000
set_option maxRecDepth 100000
namespace VL
open PySem PySem.Spec PyProof.Rows L2

/-- what stands of the module, and the world -/
structure KW where
  k : PySem.W.Frag
  w : World
instance : CoeOut KW PySem.W.Frag := ⟨KW.k⟩

/-! ### data -/
inductive D where
  | non | bl (b : Bool) | int (i : Int) | str (x : Str)
  | tup (xs : List D) | lst (xs : List D) | scr (ns : List Int)
inductive W where
  | d (x : D) | loc (k : Nat) | tup (ws : List W) | ty (n : String) | raw (a : Addr)
inductive C where
  | lst (xs : List D) | lstW (ws : List W) | ins (n : Str) (fs : List (Str × W)) | dk (kvs : List (Key × D)) | dn (lk : Option (Obj × List (NestedKey × Addr × V))) (kvs : List (D × W))
abbrev Sto := List C
abbrev Ev := List (Option W)

/-! ### pairs of lists -/
section
variable {A1 B1 : Type} {R S : A1 → B1 → Prop}
theorem pGetL : ∀ {xs : List A1} {ys : List B1}, Paired R xs ys → ∀ {i : Nat} {x : A1}, xs[i]? = some x → ∃ y, ys[i]? = some y ∧ R x y
  | _, _, .nil, i, x, e => by simp at e
  | _, _, .cons r t, 0, x, e => by simp at e; subst e; exact ⟨_, rfl, r⟩
  | _, _, .cons r t, i + 1, x, e => by
    obtain ⟨y, h1, h2⟩ := pGetL t (i := i) (x := x) (by simpa using e)
    exact ⟨y, by simpa using h1, h2⟩
theorem pGetR : ∀ {xs : List A1} {ys : List B1}, Paired R xs ys → ∀ {i : Nat} {y : B1}, ys[i]? = some y → ∃ x, xs[i]? = some x ∧ R x y
  | _, _, .nil, i, x, e => by simp at e
  | _, _, .cons r t, 0, x, e => by simp at e; subst e; exact ⟨_, rfl, r⟩
  | _, _, .cons r t, i + 1, x, e => by
    obtain ⟨y, h1, h2⟩ := pGetR t (i := i) (y := x) (by simpa using e)
    exact ⟨y, by simpa using h1, h2⟩
theorem pApp : ∀ {xs xs' : List A1} {ys ys' : List B1}, Paired R xs ys → Paired R xs' ys' → Paired R (xs ++ xs') (ys ++ ys')
  | _, _, _, _, .nil, h => h
  | _, _, _, _, .cons r t, h => .cons r (pApp t h)
theorem pOne {x : A1} {y : B1} (h : R x y) : Paired R [x] [y] := .cons h .nil
theorem pSet {x : A1} {y : B1} (h : R x y) : ∀ {xs : List A1} {ys : List B1} (i : Nat), Paired R xs ys → Paired R (xs.set i x) (ys.set i y)
  | _, _, _, .nil => .nil
  | _, _, 0, .cons _ t => .cons h t
  | _, _, i + 1, .cons q t => .cons q (pSet h i t)
theorem pTake : ∀ {xs : List A1} {ys : List B1} (n : Nat), Paired R xs ys → Paired R (xs.take n) (ys.take n)
  | _, _, 0, _ => by simp; exact .nil
  | _, _, _ + 1, .nil => .nil
  | _, _, n + 1, .cons r t => .cons r (pTake n t)
theorem pDrop : ∀ {xs : List A1} {ys : List B1} (n : Nat), Paired R xs ys → Paired R (xs.drop n) (ys.drop n)
  | _, _, 0, r => r
  | _, _, _ + 1, .nil => .nil
  | _, _, n + 1, .cons _ t => pDrop n t
theorem pRev : ∀ {xs : List A1} {ys : List B1}, Paired R xs ys → Paired R xs.reverse ys.reverse
  | _, _, .nil => .nil
  | _, _, .cons r t => by rw [List.reverse_cons, List.reverse_cons]; exact pApp (pRev t) (pOne r)
theorem pDropLast {xs : List A1} {ys : List B1} (h : Paired R xs ys) : Paired R xs.dropLast ys.dropLast := by
  rw [List.dropLast_eq_take, List.dropLast_eq_take, ← Paired.length h]
  exact pTake _ h
theorem pErase : ∀ {xs : List A1} {ys : List B1} (i : Nat), Paired R xs ys → Paired R (xs.eraseIdx i) (ys.eraseIdx i)
  | _, _, _, .nil => .nil
  | _, _, 0, .cons _ t => t
  | _, _, i + 1, .cons q t => .cons q (pErase i t)
theorem pRep {xs : List A1} {ys : List B1} (h : Paired R xs ys) : ∀ k : Nat, Paired R (List.replicate k xs).flatten (List.replicate k ys).flatten
  | 0 => .nil
  | k + 1 => by
    rw [List.replicate_succ, List.replicate_succ, List.flatten_cons, List.flatten_cons]
    exact pApp h (pRep h k)
theorem pCut {xs : List A1} {ys : List B1} (h : Paired R xs ys) (i j : Nat) : Paired R ((xs.drop i).take j) ((ys.drop i).take j) := pTake j (pDrop i h)
end

/-! ### how data lie in the heap -/
def StrOk (x : Str) : Prop := PyData.strOk x = true ∧ x.length ≤ sizeLine
mutual
inductive RepD (K : KW) (F : Hp) : D → V → Prop
  | non : RepD K F .non .non
  | bl (b : Bool) : RepD K F (.bl b) (.bl b)
  | int (i : Int) : RepD K F (.int i) (.int i)
  | str (x : Str) : StrOk x → RepD K F (.str x) (.str x)
  | tup {xs : List D} {vs : List V} {a : Addr} : SqT K F a vs → vs.length ≤ sizeLine → RepDs K F xs vs → RepD K F (.tup xs) (.ref a)
  | lst {xs : List D} {vs : List V} {a : Addr} : Rd F a (.lst vs) → vs.length ≤ sizeLine → RepDs K F xs vs → RepD K F (.lst xs) (.ref a)
  | scr {ns : List Int} {a : Addr} : SqL K F a (ns.map V.int) → ns.length ≤ sizeLine → RepD K F (.scr ns) (.ref a)
inductive RepDs (K : KW) (F : Hp) : List D → List V → Prop
  | nil : RepDs K F [] []
  | cons {x : D} {v : V} {xs : List D} {vs : List V} : RepD K F x v → RepDs K F xs vs → RepDs K F (x :: xs) (v :: vs)
end
mutual
inductive RepW (K : KW) (F : Hp) (al : List Addr) : W → V → Prop
  | d {x : D} {v : V} : RepD K F x v → RepW K F al (.d x) v
  | loc {k : Nat} {a : Addr} : al[k]? = some a → RepW K F al (.loc k) (.ref a)
  | ty (n : String) : RepW K F al (.ty n) (.ty n)
  | raw (a : Addr) : RepW K F al (.raw a) (.ref a)
  | tup {ws : List W} {vs : List V} {a : Addr} : SqT K F a vs → vs.length ≤ sizeLine → RepWs K F al ws vs → RepW K F al (.tup ws) (.ref a)
inductive RepWs (K : KW) (F : Hp) (al : List Addr) : List W → List V → Prop
  | nil : RepWs K F al [] []
  | cons {x : W} {v : V} {xs : List W} {vs : List V} : RepW K F al x v → RepWs K F al xs vs → RepWs K F al (x :: xs) (v :: vs)
end
section
variable {K : KW} {F F' H H' G B : Hp} {al al' : List Addr} {mu mu' : Sto}
theorem RepDs.p : ∀ {xs : List D} {vs : List V}, RepDs K F xs vs → Paired (RepD K F) xs vs
  | [], _, .nil => .nil
  | _ :: _, _, .cons r t => .cons r (RepDs.p t)
theorem RepDs.of : ∀ {xs : List D} {vs : List V}, Paired (RepD K F) xs vs → RepDs K F xs vs
  | [], _, .nil => .nil
  | _ :: _, _, .cons r t => .cons r (RepDs.of t)
theorem RepWs.p : ∀ {xs : List W} {vs : List V}, RepWs K F al xs vs → Paired (RepW K F al) xs vs
  | [], _, .nil => .nil
  | _ :: _, _, .cons r t => .cons r (RepWs.p t)
theorem RepWs.of : ∀ {xs : List W} {vs : List V}, Paired (RepW K F al) xs vs → RepWs K F al xs vs
  | [], _, .nil => .nil
  | _ :: _, _, .cons r t => .cons r (RepWs.of t)
theorem rdMono {o : HO} {a : Addr} (h : Same F F') (r : Rd F a o) : Rd F' a o := by
  rcases r with r | ⟨u, r⟩
  · exact .inl (h _ _ r)
  · exact .inr ⟨u, h _ _ r⟩
theorem sqtMono {a : Addr} {vs : List V} (h : Same F F') (r : SqT K F a vs) : SqT K F' a vs := by
  rcases r with r | r
  · exact .inl (rdMono h r)
  · exact .inr r
theorem sqlMono {a : Addr} {vs : List V} (h : Same F F') (r : SqL K F a vs) : SqL K F' a vs := by
  rcases r with r | r
  · exact .inl (rdMono h r)
  · exact .inr r
mutual
theorem RepD.mono (h : Same F F') : ∀ {d : D} {v : V}, RepD K F d v → RepD K F' d v
  | _, _, .non => .non
  | _, _, .bl b => .bl b
  | _, _, .int i => .int i
  | _, _, .str x q => .str x q
  | _, _, .tup s z r => .tup (sqtMono h s) z (RepDs.mono h r)
  | _, _, .lst s z r => .lst (rdMono h s) z (RepDs.mono h r)
  | _, _, .scr s z => .scr (sqlMono h s) z
theorem RepDs.mono (h : Same F F') : ∀ {d : List D} {v : List V}, RepDs K F d v → RepDs K F' d v
  | _, _, .nil => .nil
  | _, _, .cons r t => .cons (RepD.mono h r) (RepDs.mono h t)
end
/-- the frozen part grows, new locations come behind -/
def Ext (F : Hp) (al : List Addr) (F' : Hp) (al' : List Addr) : Prop := Same F F' ∧ ∃ be, al' = al ++ be
theorem Ext.refl (F : Hp) (al : List Addr) : Ext F al F al := ⟨Same.refl F, [], by simp⟩
theorem Ext.trans {F1 F2 F3 : Hp} {a1 a2 a3 : List Addr} (h : Ext F1 a1 F2 a2) (g : Ext F2 a2 F3 a3) : Ext F1 a1 F3 a3 := by
  obtain ⟨s, b, rfl⟩ := h
  obtain ⟨s', b', rfl⟩ := g
  exact ⟨s.trans s', b ++ b', by simp⟩
theorem Ext.at {k : Nat} {a : Addr} (h : Ext F al F' al') (e : al[k]? = some a) : al'[k]? = some a := by
  obtain ⟨_, b, rfl⟩ := h
  rw [List.getElem?_append_left (by
    have := (List.getElem?_eq_some_iff.mp e).1
    exact this)]
  exact e
mutual
theorem RepW.mono (h : Ext F al F' al') : ∀ {d : W} {v : V}, RepW K F al d v → RepW K F' al' d v
  | _, _, .d r => .d (r.mono h.1)
  | _, _, .loc e => .loc (h.at e)
  | _, _, .ty n => .ty n
  | _, _, .raw a => .raw a
  | _, _, .tup s z r => .tup (sqtMono h.1 s) z (RepWs.mono h r)
theorem RepWs.mono (h : Ext F al F' al') : ∀ {d : List W} {v : List V}, RepWs K F al d v → RepWs K F' al' d v
  | _, _, .nil => .nil
  | _, _, .cons r t => .cons (RepW.mono h r) (RepWs.mono h t)
end

def tupO : HO → Bool
  | .tup _ => true
  | .frz _ (.tup _) => true
  | _ => false
/-- the class of this name stands at c -/
def clsAt (K : KW) (n : Str) (c : Addr) : Prop := PySem.W.nsIn K mainGlobals n = some (some (.ref c))
/-! ### dicts with tuples as keys -/
mutual
@[simp] def nkey : D → Option NestedKey
  | .int i => some (.num i)
  | .str x => some (.text x)
  | .tup xs => (nkeys xs).map .tup
  | .non | .bl _ | .lst _ | .scr _ => none
@[simp] def nkeys : List D → Option (List NestedKey)
  | [] => some []
  | x :: xs => match nkey x, nkeys xs with
    | some k, some ks => some (k :: ks)
    | _, _ => none
end
abbrev NL := List (NestedKey × Addr × V)
def entN (w : World) (x : NestedKey × Addr × Value) : DictEntry := ⟨x.1.hash w, .ref x.2.1, x.2.2⟩
abbrev NRel (p : NestedKey × Addr × V) (q : NestedKey × Addr × Value) : Prop := p.1 = q.1 ∧ p.2.1 = q.2.1 ∧ RelV p.2.2 q.2.2
/-- a dict with tuples as keys: the keys, where they stand, the values -/
def NdO (w : World) (d : Addr) (L : NL) : HO := .ext fun h => ((d == sysModules) = false ∧ L.length ≤ sizeLine ∧ (L.map (·.1)).Nodup) ∧ ∃ xs : List (NestedKey × Addr × Value), Paired NRel L xs ∧
  ∃ o es ep, h.get? d = some o ∧ o.ExactDict ∧ o.data = .dict es ep ∧ es.toList = xs.map (entN w)
/-- the lock's object, and its entries -/
abbrev Lk := Option (Obj × NL)
def lockO (w : World) (a : Addr) (lk : Lk) (L : NL) : HO := match lk with
  | some (ob, L') => .frz ob (NdO w a L')
  | none => NdO w a L
def lockL (lk : Lk) (L : NL) : NL := match lk with
  | some (_, L') => L'
  | none => L
/-- what a container is, at its address -/
inductive CRep (K : KW) (F : Hp) (al : List Addr) (a : Addr) : C → HO → Prop
  | lst {xs : List D} {vs : List V} : vs.length ≤ sizeLine → Paired (RepD K F) xs vs → CRep K F al a (.lst xs) (.lst vs)
  | lstW {ws : List W} {vs : List V} : vs.length ≤ sizeLine → Paired (RepW K F al) ws vs → CRep K F al a (.lstW ws) (.lst vs)
  | ins {n : Str} {c dx : Addr} {fs : List (Str × W)} {gs : List (Str × V)} : clsAt K n c → Paired (fun p q => p.1 = q.1 ∧ RepW K F al p.2 q.2) fs gs → CRep K F al a (.ins n fs) (.ins c dx gs)
  | dk {kvs : List (Key × D)} {gs : List (Key × V)} : Paired (fun p q => p.1 = q.1 ∧ RepD K F p.2 q.2) kvs gs → (∀ k ∈ kvs, ∀ x, k.1 = .inr x → StrOk x) → CRep K F al a (.dk kvs) (.dK gs)
  | dn {lk : Lk} {kvs : List (D × W)} {L : NL} : Paired (fun (p : D × W) (q : NestedKey × Addr × V) => (nkey p.1 = some q.1 ∧ q.1.depth ≤ 8) ∧ RepD K F p.1 (.ref q.2.1) ∧ RepW K F al p.2 q.2.2) kvs (lockL lk L) → CRep K F al a (.dn lk kvs) (lockO K.w a lk L)
theorem CRep.mono {a : Addr} (h : Ext F al F' al') {c : C} {o : HO} (r : CRep K F al a c o) : CRep K F' al' a c o := by
  cases r with
  | lst z r => exact .lst z (Paired.mapP r fun _ _ q => q.mono h.1)
  | lstW z r => exact .lstW z (Paired.mapP r fun _ _ q => q.mono h)
  | ins z r => exact .ins z (Paired.mapP r fun _ _ q => ⟨q.1, q.2.mono h⟩)
  | dk r q => exact .dk (Paired.mapP r fun _ _ q => ⟨q.1, q.2.mono h.1⟩) q
  | dn r => exact .dn (Paired.mapP r fun _ _ q => ⟨q.1, q.2.1.mono h.1, q.2.2.mono h⟩)
/-- a container's object may be written -/
theorem CRep.notTup {a : Addr} {c : C} {o : HO} (r : CRep K F al a c o) : tupO o = false := by
  cases r with
  | dn r => rename_i lk _ _; cases lk <;> rfl
  | _ => rfl

/-- the state: G what was frozen at the start, B what must stay, F what is frozen, H the heap, al the addresses of the containers mu -/
structure SRS (K : KW) (G B F H : Hp) (al : List Addr) (mu : Sto) : Prop where
  fz : Same F H
  bs : Same B H
  gf : Same G F
  fr : ∀ a o, F a = some o → G a = some o ∨ B a = none ∨ tupO o = true
  nd : al.Nodup
  len : al.length = mu.length
  st : ∀ (k : Nat) (c : C), mu[k]? = some c → ∃ a o, al[k]? = some a ∧ F a = none ∧ B a = none ∧ H a = some o ∧ CRep K F al a c o
theorem SRS.at {k : Nat} {c : C} {a : Addr} (s : SRS K G B F H al mu) (e : mu[k]? = some c) (ea : al[k]? = some a) : ∃ o, F a = none ∧ B a = none ∧ H a = some o ∧ CRep K F al a c o := by
  obtain ⟨a', o, e1, e2, e3, e4, e5⟩ := s.st k c e
  rw [ea] at e1; cases e1
  exact ⟨o, e2, e3, e4, e5⟩
theorem SRS.has {k : Nat} {a : Addr} (s : SRS K G B F H al mu) (ea : al[k]? = some a) : ∃ c, mu[k]? = some c := by
  have h1 := (List.getElem?_eq_some_iff.mp ea).1
  rw [s.len] at h1
  exact ⟨mu[k], by simp [h1]⟩
theorem sameN {H : Hp} {p : Addr} {o : HO} (h : H p = none) : Same H (upd H p o) := fun b u e => by
  rw [upd_ne (ne_of_none e h)]; exact e
theorem sameU {p : Addr} {o : HO} (h : Same F H) : Same (upd F p o) (upd H p o) := fun b u e => by
  by_cases q : b = p
  · subst q; rw [upd_same] at e ⊢; exact e
  · rw [upd_ne q] at e ⊢; exact h _ _ e
theorem sameNone {a : Addr} (h : Same F H) (e : H a = none) : F a = none := by
  cases q : F a with
  | none => rfl
  | some o => rw [h _ _ q] at e; cases e
/-- a new frozen object -/
theorem SRS.froz {p : Addr} {o : HO} (s : SRS K G B F H al mu) (hp : H p = none) : SRS K G B (upd F p o) (upd H p o) al mu where
  fz := sameU s.fz
  bs := s.bs.trans (sameN hp)
  gf := s.gf.trans (sameN (sameNone s.fz hp))
  fr := fun a u e => by
    by_cases q : a = p
    · subst q; exact .inr (.inl (sameNone s.bs hp))
    · rw [upd_ne q] at e; exact s.fr a u e
  nd := s.nd
  len := s.len
  st := fun k c e => by
    obtain ⟨a, u, e1, e2, e3, e4, e5⟩ := s.st k c e
    have ne : a ≠ p := ne_of_none e4 hp
    exact ⟨a, u, e1, by rw [upd_ne ne]; exact e2, e3, by rw [upd_ne ne]; exact e4, e5.mono ⟨sameN (sameNone s.fz hp), [], by simp⟩⟩
theorem SRS.frozX {p : Addr} {o : HO} (s : SRS K G B F H al mu) (hp : H p = none) : Ext F al (upd F p o) al := ⟨sameN (sameNone s.fz hp), [], by simp⟩
/-- a new container -/
theorem SRS.own {p : Addr} {o : HO} {c : C} (s : SRS K G B F H al mu) (hp : H p = none) (r : CRep K F al p c o) : SRS K G B F (upd H p o) (al ++ [p]) (mu ++ [c]) where
  fz := s.fz.trans (sameN hp)
  bs := s.bs.trans (sameN hp)
  gf := s.gf
  fr := s.fr
  nd := by
    refine List.nodup_append.mpr ⟨s.nd, by simp, fun a ha b hb e => ?_⟩
    subst e
    have e : a = p := by simpa using hb
    subst e
    obtain ⟨k, hk⟩ := List.mem_iff_getElem?.mp ha
    obtain ⟨c, hc⟩ := s.has hk
    obtain ⟨u, _, _, q, _⟩ := s.at hc hk
    rw [hp] at q; cases q
  len := by simp [s.len]
  st := fun k c' e => by
    by_cases hk : k < mu.length
    · rw [List.getElem?_append_left hk] at e
      obtain ⟨a, u, e1, e2, e3, e4, e5⟩ := s.st k c' e
      exact ⟨a, u, by rw [List.getElem?_append_left (by rw [s.len]; exact hk)]; exact e1, e2, e3, by rw [upd_ne (ne_of_none e4 hp)]; exact e4, e5.mono ⟨Same.refl F, [p], rfl⟩⟩
    · rw [List.getElem?_append_right (by omega)] at e
      have hz : k - mu.length = 0 := by
        have := (List.getElem?_eq_some_iff.mp e).1
        simp at this; omega
      rw [hz] at e
      have e' : c = c' := by simpa using e
      subst e'
      exact ⟨p, o, by rw [List.getElem?_append_right (by rw [s.len]; omega), s.len, hz]; rfl, sameNone s.fz hp, sameNone s.bs hp, upd_same, r.mono ⟨Same.refl F, [p], rfl⟩⟩
theorem SRS.ownX {p : Addr} : Ext F al F (al ++ [p]) := ⟨Same.refl F, [p], rfl⟩
theorem SRS.atNew {p : Addr} (s : SRS K G B F H al mu) : (al ++ [p])[mu.length]? = some p := by
  rw [List.getElem?_append_right (by rw [s.len]; omega), s.len]; simp
theorem nodup_ixs {l : List Addr} (h : l.Nodup) {i j : Nat} {a : Addr} (e1 : l[i]? = some a) (e2 : l[j]? = some a) : i = j := by
  obtain ⟨h1, q1⟩ := List.getElem?_eq_some_iff.mp e1
  obtain ⟨h2, q2⟩ := List.getElem?_eq_some_iff.mp e2
  rcases Nat.lt_trichotomy i j with q | q | q
  · exact absurd (q1.trans q2.symm) ((List.pairwise_iff_getElem.mp h) i j h1 h2 q)
  · exact q
  · exact absurd (q2.trans q1.symm) ((List.pairwise_iff_getElem.mp h) j i h2 h1 q)
/-- a container written -/
theorem SRS.put {k : Nat} {a : Addr} {o : HO} {c : C} (s : SRS K G B F H al mu) (ea : al[k]? = some a) (r : CRep K F al a c o) : SRS K G B F (upd H a o) al (mu.set k c) where
  fz := fun b u e => by
    obtain ⟨c0, hc⟩ := s.has ea
    obtain ⟨_, q, _, _, _⟩ := s.at hc ea
    rw [upd_ne (ne_of_none e q)]; exact s.fz _ _ e
  bs := fun b u e => by
    obtain ⟨c0, hc⟩ := s.has ea
    obtain ⟨_, _, q, _, _⟩ := s.at hc ea
    rw [upd_ne (ne_of_none e q)]; exact s.bs _ _ e
  gf := s.gf
  fr := s.fr
  nd := s.nd
  len := by simp [s.len]
  st := fun j c' e => by
    by_cases hj : j = k
    · subst hj
      obtain ⟨c0, hc⟩ := s.has ea
      have hl := (List.getElem?_eq_some_iff.mp hc).1
      rw [List.getElem?_set_self hl] at e
      cases e
      obtain ⟨_, q1, q2, _, _⟩ := s.at hc ea
      exact ⟨a, o, ea, q1, q2, upd_same, r⟩
    · rw [List.getElem?_set_ne (Ne.symm hj)] at e
      obtain ⟨b, u, e1, e2, e3, e4, e5⟩ := s.st j c' e
      have ne : b ≠ a := fun q => hj (nodup_ixs s.nd e1 (q ▸ ea))
      exact ⟨b, u, e1, e2, e3, by rw [upd_ne ne]; exact e4, e5⟩

/-- with the names -/
structure SR (K : KW) (G B F H : Hp) (al : List Addr) (rh : Ev) (si : L2.St) (mu : Sto) : Prop where
  s : SRS K G B F H al mu
  ln : rh.length = si.length
  env : ∀ (i : Nat) (w : W), rh[i]? = some (some w) → ∃ v, si[i]? = some (some v) ∧ RepW K F al w v
theorem SR.step {rh : Ev} {si : L2.St} (r : SR K G B F H al rh si mu) (x : Ext F al F' al') (s : SRS K G B F' H' al' mu') : SR K G B F' H' al' rh si mu' :=
  ⟨s, r.ln, fun i w e => by
    obtain ⟨v, e1, e2⟩ := r.env i w e
    exact ⟨v, e1, e2.mono x⟩⟩
theorem SR.set {rh : Ev} {si : L2.St} {i : Nat} {w : W} {v : V} (r : SR K G B F H al rh si mu) (h : RepW K F al w v) : SR K G B F H al (rh.set i (some w)) (si.set i (some v)) mu :=
  ⟨r.s, by simp [r.ln], fun j u e => by
    by_cases hj : j = i
    · subst hj
      by_cases hl : j < rh.length
      · rw [List.getElem?_set_self hl] at e
        cases e
        exact ⟨v, by rw [List.getElem?_set_self (by rw [← r.ln]; exact hl)], h⟩
      · rw [List.getElem?_eq_none (by simpa using hl)] at e; cases e
    · rw [List.getElem?_set_ne (Ne.symm hj)] at e ⊢
      exact r.env j u e⟩
@[simp] def wipeE (rh : Ev) : List Nat → Ev
  | [] => rh
  | v :: vs => (wipeE rh vs).set v none
theorem SR.wipe {rh : Ev} {si : L2.St} (r : SR K G B F H al rh si mu) : ∀ vs : List Nat, SR K G B F H al (wipeE rh vs) (wipe si vs) mu
  | [] => r
  | x :: vs => by
    have q := SR.wipe r vs
    refine ⟨q.s, by unfold wipeE L2.wipe; simp [q.ln], fun j u e => ?_⟩
    unfold wipeE at e
    unfold L2.wipe
    by_cases hj : j = x
    · subst hj
      by_cases hl : j < (wipeE rh vs).length
      · rw [List.getElem?_set_self hl] at e; cases e
      · rw [List.getElem?_eq_none (by simpa using hl)] at e; cases e
    · rw [List.getElem?_set_ne (Ne.symm hj)] at e ⊢
      exact q.env j u e
end

/-! ### the judgements -/
abbrev WE := Ev → Sto → (W → Sto → Prop) → Prop
abbrev WT := Ev → Sto → (Bool → Sto → Prop) → Prop
abbrev WA := Ev → Sto → (List W → Sto → Prop) → Prop
structure EV where
  nx : Ev → Sto → Prop
  rt : W → Sto → Prop
  bk : Ev → Sto → Prop := fun _ _ => False
  ct : Ev → Sto → Prop := fun _ _ => False
abbrev WS := EV → Ev → Sto → Prop
def Den (K : KW) (t : TE) (f : WE) : Prop := ∀ (G B F H : Hp) (al : List Addr) (rh : Ev) (si : L2.St) (mu : Sto) (Qd : W → Sto → Prop) (Q : VK), SR K G B F H al rh si mu → f rh mu Qd →
  (∀ F' H' al' mu' w v, Ext F al F' al' → SR K G B F' H' al' rh si mu' → RepW K F' al' w v → Qd w mu' → Q v H') → t si H Q
def DenT (K : KW) (t : TT) (f : WT) : Prop := ∀ (G B F H : Hp) (al : List Addr) (rh : Ev) (si : L2.St) (mu : Sto) (Qd : Bool → Sto → Prop) (Q : Bool → Hp → Prop), SR K G B F H al rh si mu → f rh mu Qd →
  (∀ F' H' al' mu' b, Ext F al F' al' → SR K G B F' H' al' rh si mu' → Qd b mu' → Q b H') → t si H Q
def DenA (K : KW) (t : TA) (f : WA) : Prop := ∀ (G B F H : Hp) (al : List Addr) (rh : Ev) (si : L2.St) (mu : Sto) (Qd : List W → Sto → Prop) (Q : List V → Hp → Prop), SR K G B F H al rh si mu → f rh mu Qd →
  (∀ F' H' al' mu' ws vs, Ext F al F' al' → SR K G B F' H' al' rh si mu' → Paired (RepW K F' al') ws vs → Qd ws mu' → Q vs H') → t si H Q
/-- what stands behind a statement -/
structure Beh (K : KW) (G B F : Hp) (al : List Addr) (V1 : EV) (D1 : Ends) : Prop where
  nx : ∀ F' H' al' rh si mu, Ext F al F' al' → SR K G B F' H' al' rh si mu → V1.nx rh mu → D1.nx si H'
  rt : ∀ F' H' al' mu w v, Ext F al F' al' → SRS K G B F' H' al' mu → RepW K F' al' w v → V1.rt w mu → D1.rt v H'
  bk : ∀ F' H' al' rh si mu, Ext F al F' al' → SR K G B F' H' al' rh si mu → V1.bk rh mu → D1.bk si H'
  ct : ∀ F' H' al' rh si mu, Ext F al F' al' → SR K G B F' H' al' rh si mu → V1.ct rh mu → D1.ct si H'
theorem Beh.mono {K : KW} {G B F F' : Hp} {al al' : List Addr} {V1 : EV} {D1 : Ends} (b : Beh K G B F al V1 D1) (x : Ext F al F' al') : Beh K G B F' al' V1 D1 :=
  ⟨fun _ _ _ _ _ _ y => b.nx _ _ _ _ _ _ (x.trans y), fun _ _ _ _ _ _ y => b.rt _ _ _ _ _ _ (x.trans y), fun _ _ _ _ _ _ y => b.bk _ _ _ _ _ _ (x.trans y), fun _ _ _ _ _ _ y => b.ct _ _ _ _ _ _ (x.trans y)⟩
def DenS (K : KW) (t : TS) (f : WS) : Prop := ∀ (G B F H : Hp) (al : List Addr) (rh : Ev) (si : L2.St) (mu : Sto) (V1 : EV) (D1 : Ends), SR K G B F H al rh si mu → f V1 rh mu → Beh K G B F al V1 D1 → t D1 si H
end VL
namespace VL
open PySem PySem.Spec PyProof.Rows L2

/-! ### a family of contexts -/
structure YOk {io : Type} (Y : io → Cx) (P : Program) (w : World) (K : KW) (mg : Str → Option Value) (base : Heap) (N : List Str) (k : Nat) : Prop where
  hP : ∀ i, (Y i).prog = P
  hw : ∀ i, (Y i).w = w
  hK : ∀ i, (Y i).K = K
  hmg : ∀ i, (Y i).mg = mg
  hbase : ∀ i, (Y i).base = base
  hN : ∀ i, (Y i).N = N
  nd : N.Nodup
  calm : ∀ i, (Y i).calm = true
  room : ∀ i, Room k (Y i).A
def VE {io : Type} (Y : io → Cx) (K : KW) (e : Expr) (f : WE) : Prop := ∃ t, (∀ i, PE (Y i) e t) ∧ Den K t f
def VT {io : Type} (Y : io → Cx) (K : KW) (e : Expr) (f : WT) : Prop := ∃ t, (∀ i, PT (Y i) e t) ∧ DenT K t f
def VW {io : Type} (Y : io → Cx) (K : KW) (e : Expr) (f : WT) : Prop := ∃ t, (∀ i, PW (Y i) e t) ∧ DenT K t f
def VA {io : Type} (Y : io → Cx) (K : KW) (es : List Expr) (f : WA) : Prop := ∃ t, (∀ i, PA (Y i) es t) ∧ DenA K t f

/-! ### plain data from a value, snapshots -/
mutual
@[simp] def asD : W → Option D
  | .d x => some x
  | .tup ws => (asDs ws).map .tup
  | _ => none
@[simp] def asDs : List W → Option (List D)
  | [] => some []
  | w :: ws => match asD w, asDs ws with
    | some x, some xs => some (x :: xs)
    | _, _ => none
end
mutual
@[simp] def snap (mu : Sto) : W → Option D
  | .d x => some x
  | .tup ws => (snaps mu ws).map .tup
  | .loc k => match mu[k]? with
    | some (.lst xs) => some (.lst xs)
    | some (.lstW ws) => (asDs ws).map .lst
    | _ => none
  | _ => none
@[simp] def snaps (mu : Sto) : List W → Option (List D)
  | [] => some []
  | w :: ws => match snap mu w, snaps mu ws with
    | some x, some xs => some (x :: xs)
    | _, _ => none
end
@[simp] def mkTup (ws : List W) : W := match asDs ws with
  | some xs => .d (.tup xs)
  | none => .tup ws
section
variable {K : KW} {G B F F' H H' : Hp} {al al' : List Addr} {mu mu' : Sto}
theorem RepDs.len {xs : List D} {vs : List V} (h : RepDs K F xs vs) : xs.length = vs.length := Paired.length h.p
mutual
theorem asD_rep : ∀ {w : W} {v : V} {x : D}, RepW K F al w v → asD w = some x → RepD K F x v
  | .d x, _, _, .d r, e => by cases e; exact r
  | .tup ws, _, _, .tup s z r, e => by
    unfold asD at e
    cases q : asDs ws with
    | none => rw [q] at e; cases e
    | some xs => rw [q] at e; cases e; exact .tup s z (asDs_rep r q)
  | .loc _, _, _, _, e => by cases e
  | .ty _, _, _, _, e => by cases e
  | .raw _, _, _, _, e => by cases e
theorem asDs_rep : ∀ {ws : List W} {vs : List V} {xs : List D}, RepWs K F al ws vs → asDs ws = some xs → RepDs K F xs vs
  | [], _, _, .nil, e => by cases e; exact .nil
  | w :: ws, _, _, .cons r t, e => by
    unfold asDs at e
    cases q : asD w with
    | none => rw [q] at e; cases e
    | some x =>
      cases q2 : asDs ws with
      | none => rw [q, q2] at e; cases e
      | some xs => rw [q, q2] at e; cases e; exact .cons (asD_rep r q) (asDs_rep t q2)
end
theorem SRS.lstAt {k : Nat} {a : Addr} {xs : List D} (s : SRS K G B F H al mu) (e : mu[k]? = some (.lst xs)) (ea : al[k]? = some a) : ∃ vs, H a = some (.lst vs) ∧ vs.length ≤ sizeLine ∧ Paired (RepD K F) xs vs := by
  obtain ⟨o, _, _, h, r⟩ := s.at e ea
  cases r with
  | lst z p => exact ⟨_, h, z, p⟩
theorem SRS.lstWAt {k : Nat} {a : Addr} {xs : List W} (s : SRS K G B F H al mu) (e : mu[k]? = some (.lstW xs)) (ea : al[k]? = some a) : ∃ vs, H a = some (.lst vs) ∧ vs.length ≤ sizeLine ∧ Paired (RepW K F al) xs vs := by
  obtain ⟨o, _, _, h, r⟩ := s.at e ea
  cases r with
  | lstW z p => exact ⟨_, h, z, p⟩
mutual
/-- a snapshot is read in the whole heap -/
theorem snap_rep (s : SRS K G B F H al mu) : ∀ {w : W} {v : V} {x : D}, RepW K F al w v → snap mu w = some x → RepD K H x v
  | .d x, _, _, .d r, e => by cases e; exact r.mono s.fz
  | .tup ws, _, _, .tup q z r, e => by
    unfold snap at e
    cases q1 : snaps mu ws with
    | none => rw [q1] at e; cases e
    | some xs => rw [q1] at e; cases e; exact .tup (sqtMono s.fz q) z (snaps_rep s r q1)
  | .loc k, _, _, .loc ea, e => by
    unfold snap at e
    cases q : mu[k]? with
    | none => rw [q] at e; cases e
    | some c =>
      cases c with
      | lst xs =>
        rw [q] at e; cases e
        obtain ⟨vs, h, z, p⟩ := s.lstAt q ea
        exact .lst (Rd.of h) z (.of (Paired.mapP p fun _ _ r => r.mono s.fz))
      | lstW ws =>
        rw [q] at e
        cases q2 : asDs ws with
        | none => simp only [q2] at e; cases e
        | some xs =>
          simp only [q2] at e; cases e
          obtain ⟨vs, h, z, p⟩ := s.lstWAt q ea
          exact .lst (Rd.of h) z ((asDs_rep (.of p) q2).mono s.fz)
      | _ => rw [q] at e; cases e
  | .ty _, _, _, _, e => by cases e
  | .raw _, _, _, _, e => by cases e
theorem snaps_rep (s : SRS K G B F H al mu) : ∀ {ws : List W} {vs : List V} {xs : List D}, RepWs K F al ws vs → snaps mu ws = some xs → RepDs K H xs vs
  | [], _, _, .nil, e => by cases e; exact .nil
  | w :: ws, _, _, .cons r t, e => by
    unfold snaps at e
    cases q : snap mu w with
    | none => rw [q] at e; cases e
    | some x =>
      cases q2 : snaps mu ws with
      | none => rw [q, q2] at e; cases e
      | some xs => rw [q, q2] at e; cases e; exact .cons (snap_rep s r q) (snaps_rep s t q2)
end

/-! ### new objects -/
/-- a new list: a container of its own, or frozen -/
@[simp] def newL (o : Bool) (xs : List D) (mu : Sto) (Q : W → Sto → Prop) : Prop := if o then Q (.loc mu.length) (mu ++ [.lst xs]) else Q (.d (.lst xs)) mu
theorem newL_ok {o : Bool} {xs : List D} {vs : List V} {Qd : W → Sto → Prop} {Q : VK} {rh : Ev} {si : L2.St} (s : SR K G B F H al rh si mu) (p : Paired (RepD K F) xs vs) (z : vs.length ≤ sizeLine) (h : newL o xs mu Qd)
    (k : ∀ F' H' al' mu' w v, Ext F al F' al' → SR K G B F' H' al' rh si mu' → RepW K F' al' w v → Qd w mu' → Q v H') : ∀ p, H p = none → Q (.ref p) (upd H p (.lst vs)) := fun b hb => by
  cases o with
  | true =>
    have x := SRS.ownX (F := F) (al := al) (p := b)
    exact k _ _ _ _ _ _ x (s.step x (s.s.own hb (.lst z p))) (.loc s.s.atNew) h
  | false =>
    have x := s.s.frozX (o := .lst vs) hb
    exact k _ _ _ _ _ _ x (s.step x (s.s.froz hb)) (.d (.lst (Rd.of upd_same) z ((RepDs.of p).mono x.1))) h
theorem newT_ok {ws : List W} {vs : List V} {Qd : W → Sto → Prop} {Q : VK} {rh : Ev} {si : L2.St} (s : SR K G B F H al rh si mu) (p : Paired (RepW K F al) ws vs) (z : vs.length ≤ sizeLine) (h : Qd (mkTup ws) mu)
    (k : ∀ F' H' al' mu' w v, Ext F al F' al' → SR K G B F' H' al' rh si mu' → RepW K F' al' w v → Qd w mu' → Q v H') : ∀ p, H p = none → Q (.ref p) (upd H p (.tup vs)) := fun b hb => by
  have x := s.s.frozX (o := .tup vs) hb
  refine k _ _ _ _ _ _ x (s.step x (s.s.froz hb)) ?_ h
  unfold mkTup
  cases q : asDs ws with
  | none => exact .tup (SqT.of upd_same) z ((RepWs.of p).mono x)
  | some xs => exact .d (.tup (SqT.of upd_same) z ((asDs_rep (.of p) q).mono x.1))
/-- a new list of values, some of them containers -/
@[simp] def newLW (o : Bool) (ws : List W) (mu : Sto) (Q : W → Sto → Prop) : Prop := match asDs ws with
  | some xs => newL o xs mu Q
  | none => Q (.loc mu.length) (mu ++ [.lstW ws])
theorem newLW_ok {o : Bool} {ws : List W} {vs : List V} {Qd : W → Sto → Prop} {Q : VK} {rh : Ev} {si : L2.St} (s : SR K G B F H al rh si mu) (p : Paired (RepW K F al) ws vs) (z : vs.length ≤ sizeLine) (h : newLW o ws mu Qd)
    (k : ∀ F' H' al' mu' w v, Ext F al F' al' → SR K G B F' H' al' rh si mu' → RepW K F' al' w v → Qd w mu' → Q v H') : ∀ p, H p = none → Q (.ref p) (upd H p (.lst vs)) := by
  unfold newLW at h
  cases q : asDs ws with
  | some xs => rw [q] at h; exact newL_ok s (asDs_rep (.of p) q).p z h k
  | none =>
    rw [q] at h
    intro b hb
    have x := SRS.ownX (F := F) (al := al) (p := b)
    exact k _ _ _ _ _ _ x (s.step x (s.s.own hb (.lstW z p))) (.loc s.s.atNew) h
end

/-! ### names and constants -/
@[simp] def wVar (i : Nat) : WE := fun rh mu Q => match rh[i]? with
  | some (some w) => Q w mu
  | _ => False
@[simp] def wC (x : D) : WE := fun _ mu Q => Q (.d x) mu
section
variable {io : Type} {Y : io → Cx} {P : Program} {w : World} {K : KW} {mg : Str → Option Value} {base : Heap} {N : List Str} {k : Nat} {pos : Pos}
theorem den_var {K : KW} (i : Nat) : Den K (tVar i) (wVar i) := fun G B F H al rh si mu Qd Q s h q => by
  unfold wVar at h
  split at h
  · rename_i w e
    obtain ⟨v, e1, r⟩ := s.env i w e
    exact ⟨v, e1, q F H al mu w v (Ext.refl _ _) s r h⟩
  · exact h.elim
theorem ve_v (y : YOk Y P w K mg base N k) (i : Nat) {x : Str} (hN : N[i]? = some x := by rfl) (hv : ∀ j, Vis (Y j).env.scope x := by first | exact fun _ => Or.inl rfl | exact fun _ => Or.inr (Or.inl rfl) | exact fun _ => Or.inr (Or.inr rfl))
    (hd : (x == ("__debug__" : Str)) = false := by decide) (hcd : (x == ("__classdict__" : Str)) = false := by decide) : VE Y K (.Name x pos) (wVar i) :=
  ⟨tVar i, fun j => pe_var (by rw [y.hN j]; exact hN) (hv j) hd hcd, den_var i⟩
theorem den_c {K : KW} {x : D} {v : V} (h : ∀ F, RepD K F x v) : Den K (tC v) (wC x) := fun G B F H al rh si mu Qd Q s hq q => q F H al mu _ v (Ext.refl _ _) s (.d (h F)) hq
theorem ve_int {i : Int} {j} : VE Y K (.Constant (.int i) j pos) (wC (.int i)) := ⟨_, fun _ => pe_int, den_c fun _ => .int i⟩
theorem ve_bl {b : Bool} {j} : VE Y K (.Constant (.bool b) j pos) (wC (.bl b)) := ⟨_, fun _ => pe_bl, den_c fun _ => .bl b⟩
theorem ve_non {j} : VE Y K (.Constant .none j pos) (wC .non) := ⟨_, fun _ => pe_non, den_c fun _ => .non⟩
theorem ve_str {x : Str} {j} (h : StrOk x := by exact ⟨by decide +kernel, by decide +kernel⟩) : VE Y K (.Constant (.str x) j pos) (wC (.str x)) := ⟨_, fun _ => pe_str, den_c fun _ => .str x h⟩
/-- a module's constant -/
theorem ve_globC (y : YOk Y P w K mg base N k) {x : Str} {d : D} {v : V} {u : Value} (hm : mg x = some u) (r : RelV v u) (h : ∀ F, RepD K F d v) (hg : ∀ j, Gl (Y j) x := by exact fun _ => rfl) (hd : (x == ("__debug__" : Str)) = false := by decide) : VE Y K (.Name x pos) (wC d) :=
  ⟨tC v, fun j => pe_glob (hg j) (by rw [y.hmg j]; exact hm) r hd, den_c h⟩
theorem ve_glob (y : YOk Y P w K mg base N k) {x : Str} {d : D} (h : ∃ v u, mg x = some u ∧ L2.RelV v u ∧ ∀ F, RepD K F d v) (hg : ∀ j, Gl (Y j) x := by exact fun _ => rfl) (hd : (x == ("__debug__" : Str)) = false := by decide) : VE Y K (.Name x pos) (wC d) := by
  obtain ⟨v, u, h1, h2, h3⟩ := h
  exact ve_globC y h1 h2 h3 hg hd
/-- a built-in type as a value -/
@[simp] def wTy (n : String) : WE := fun _ mu Q => Q (.ty n) mu
theorem ve_ty (y : YOk Y P w K mg base N k) {x : Str} {n : String} (hm : mg x = none) (hv : bootBuiltins x = some (.type n) := by decide +kernel) (hg : ∀ j, Gl (Y j) x := by exact fun _ => rfl) (hn : x ≠ "__name__" := by decide) (hd : (x == ("__debug__" : Str)) = false := by decide) : VE Y K (.Name x pos) (wTy n) :=
  ⟨tC (.ty n), fun j => pe_bltn (hg j) (by rw [y.hmg j]; exact hm) hv rfl hn hd, fun G B F H al rh si mu Qd Q s hq q => q F H al mu _ _ (Ext.refl _ _) s (.ty n) hq⟩
end

/-! ### operators -/
abbrev F2 := Sto → W → W → (W → Sto → Prop) → Prop
@[simp] def wOp (f : F2) (a b : WE) : WE := fun rh mu Q => a rh mu fun x mu1 => b rh mu1 fun y mu2 => f mu2 x y Q
def OpD (K : KW) (r : R2) (f : F2) : Prop := ∀ (G B F H : Hp) (al : List Addr) (rh : Ev) (si : L2.St) (mu : Sto) (x y : W) (vx vy : V) (Qd : W → Sto → Prop) (Q : VK), SR K G B F H al rh si mu → RepW K F al x vx → RepW K F al y vy → f mu x y Qd →
  (∀ F' H' al' mu' w v, Ext F al F' al' → SR K G B F' H' al' rh si mu' → RepW K F' al' w v → Qd w mu' → Q v H') → r vx vy H Q
section
variable {io : Type} {Y : io → Cx} {P : Program} {w : World} {K : KW} {mg : Str → Option Value} {base : Heap} {N : List Str} {k : Nat} {pos : Pos} {a b : Expr} {wa wb : WE}
theorem den_op {ta tb : TE} {r : R2} {f : F2} (hd : OpD K r f) (ha : Den K ta wa) (hb : Den K tb wb) : Den K (tOp r ta tb) (wOp f wa wb) := fun G B F H al rh si mu Qd Q s h q => by
  refine ha G B F H al rh si mu _ _ s h fun F1 H1 al1 mu1 x vx e1 s1 r1 h1 => ?_
  refine hb G B F1 H1 al1 rh si mu1 _ _ s1 h1 fun F2 H2 al2 mu2 y vy e2 s2 r2 h2 => ?_
  exact hd G B F2 H2 al2 rh si mu2 x y vx vy Qd Q s2 (r1.mono e2) r2 h2 fun F3 H3 al3 mu3 z vz e3 s3 r3 h3 => q F3 H3 al3 mu3 z vz ((e1.trans e2).trans e3) s3 r3 h3
theorem ve_op {op : Operator} {r : R2} {f : F2} (ho : ∀ i, OpR (Y i) (binaryOp op) r) (hd : OpD K r f) (ha : VE Y K a wa) (hb : VE Y K b wb) : VE Y K (.BinOp a op b pos) (wOp f wa wb) := by
  obtain ⟨ta, p1, d1⟩ := ha
  obtain ⟨tb, p2, d2⟩ := hb
  exact ⟨_, fun i => pe_op (ho i) (p1 i) (p2 i), den_op hd d1 d2⟩

/-- two ints -/
@[simp] def fI (C : Int → Int → Prop) (g : Int → Int → Int) : F2 := fun mu x y Q => match x, y with
  | .d (.int i), .d (.int j) => C i j ∧ Q (.d (.int (g i j))) mu
  | _, _ => False
@[simp] def fI0 (g : Int → Int → Int) : F2 := fun mu x y Q => match x, y with
  | .d (.int i), .d (.int j) => Q (.d (.int (g i j))) mu
  | _, _ => False
@[simp] def fB0 (g : Int → Int → Bool) : F2 := fun mu x y Q => match x, y with
  | .d (.int i), .d (.int j) => Q (.d (.bl (g i j))) mu
  | _, _ => False
theorem repInt {F : Hp} {al : List Addr} {i : Int} {v : V} (r : RepW K F al (.d (.int i)) v) : v = .int i := by
  cases r with
  | d r => cases r; rfl
theorem repStr {F : Hp} {al : List Addr} {x : Str} {v : V} (r : RepW K F al (.d (.str x)) v) : v = .str x ∧ StrOk x := by
  cases r with
  | d r => cases r with
    | str _ h => exact ⟨rfl, h⟩
theorem repBl {F : Hp} {al : List Addr} {x : Bool} {v : V} (r : RepW K F al (.d (.bl x)) v) : v = .bl x := by
  cases r with
  | d r => cases r; rfl
theorem repNon {F : Hp} {al : List Addr} {v : V} (r : RepW K F al (.d .non) v) : v = .non := by
  cases r with
  | d r => cases r; rfl
theorem opd_I {C : Int → Int → Prop} {g : Int → Int → Int} : OpD K (rI C fun i j => .int (g i j)) (fI C g) := fun G B F H al rh si mu x y vx vy Qd Q s r1 r2 h q => by
  unfold fI at h
  split at h
  · rename_i i j
    cases repInt r1
    cases repInt r2
    exact ⟨i, j, rfl, rfl, h.1, q F H al mu _ _ (Ext.refl _ _) s (.d (.int _)) h.2⟩
  · exact h.elim
theorem opd_I0 {g : Int → Int → Int} : OpD K (rI0 fun i j => .int (g i j)) (fI0 g) := fun G B F H al rh si mu x y vx vy Qd Q s r1 r2 h q => by
  unfold fI0 at h
  split at h
  · rename_i i j
    cases repInt r1
    cases repInt r2
    exact ⟨i, j, rfl, rfl, q F H al mu _ _ (Ext.refl _ _) s (.d (.int _)) h⟩
  · exact h.elim
theorem opd_B0 {g : Int → Int → Bool} : OpD K (rI0 fun i j => .bl (g i j)) (fB0 g) := fun G B F H al rh si mu x y vx vy Qd Q s r1 r2 h q => by
  unfold fB0 at h
  split at h
  · rename_i i j
    cases repInt r1
    cases repInt r2
    exact ⟨i, j, rfl, rfl, q F H al mu _ _ (Ext.refl _ _) s (.d (.bl _)) h⟩
  · exact h.elim
end
/-! ints of any size -/
def CM (i j : Int) : Prop := CMul i j ∨ CMulW i j
theorem CM.ok {i j : Int} (h : CM i j) : IntMulOk i j := h.elim CMul.ok CMulW.ok
def CD (_ j : Int) : Prop := j ≠ 0 ∧ j.natAbs.log2 < 9000
@[simp] def CR0 (_ j : Int) : Prop := j ≠ 0
def gDiv (i j : Int) : Int := if 0 < j then i / j else i.fdiv j
def gMod (i j : Int) : Int := if 0 < j then i % j else i.fmod j
theorem gDiv_eq (i j : Int) : gDiv i j = i.fdiv j := by
  unfold gDiv
  split
  · rw [Int.fdiv_eq_ediv_of_nonneg i (by omega)]
  · rfl
theorem gMod_eq (i j : Int) : gMod i j = i.fmod j := by
  unfold gMod
  split
  · rw [Int.fmod_eq_emod_of_nonneg i (by omega)]
  · rfl
section
variable {X : Cx}
theorem opr_mul : OpR X (binaryOp .Mult) (rI CM fun i j => .int (i * j)) := opI fun _ _ _ _ _ _ _ hc q => mul_int q hc.ok
theorem opr_div : OpR X (binaryOp .FloorDiv) (rI CD fun i j => .int (gDiv i j)) := opI fun i j _ _ _ _ _ hc q => by
  exact floordiv_int hc.1 (by rw [← gDiv_eq]; exact q) (.inl (PyProof.noPylong_of_log2 hc.2))
theorem opr_mod : OpR X (binaryOp .Mod) (rI CR0 fun i j => .int (gMod i j)) := opI fun i j _ _ _ _ _ hc q => by
  exact mod_int' hc (by rw [← gMod_eq]; exact q)
end
end VL
namespace VL
open PySem PySem.Spec PyProof.Rows L2

/-! ### lists that are read, by their ways -/
section
variable {X : Cx} {pins : List (Addr × Obj)} {si : L2.St} {H : Hp} {s : Shared} {l : Addr} {xs : List V}
theorem Inv_lstR (I : Inv X pins si H s) (h : Rd H l (.lst xs)) : xs.length ≤ sizeLine ∧ ∃ (its : List Value) (n : Nat), Vals xs its ∧ xs.length = its.length ∧ s.heap.get? l = some { cls := .type "list", data := .seq its.toArray n } := by
  obtain ⟨z, its, n, r, e⟩ := h.ok I.hok
  exact ⟨z, its, n, r, r.length, e⟩
end
theorem Vals_of_paired {K : KW} {F : Hp} {xs : List D} {vs : List V} : Paired (RepD K F) xs vs → xs.length = vs.length := Paired.length
section
variable {X : Cx}
def rCat2 : R2 := fun x y H Q => ∃ l b xs zs, x = .ref l ∧ y = .ref b ∧ Rd H l (.lst xs) ∧ Rd H b (.lst zs) ∧ xs.length + zs.length ≤ sizeLine ∧ ∀ p, H p = none → Q (.ref p) (upd H p (.lst (xs ++ zs)))
theorem opr_cat : OpR X (binaryOp .Add) rCat2 := by
  intro pins s σ H x y v u Q I rx ry h
  obtain ⟨l, b, xs, zs, rfl, rfl, hH, hB, hz, q⟩ := h
  cases rx
  cases ry
  obtain ⟨z, its, n, r, hl, e⟩ := Inv_lstR I hH
  obtain ⟨z2, its2, n2, r2, hl2, e2⟩ := Inv_lstR I hB
  refine PySem.P.add_list e e2 ?_ (by rw [List.size_toArray, List.size_toArray]; omega)
  have ea : its.toArray ++ its2.toArray = (its ++ its2).toArray := by simp
  rw [ea]
  exact ⟨.ref _, _, I.lnew (t' := s.toks) (r.append r2) (by rw [List.length_append]; omega), rfl, q _ I.fresh⟩
def rRep2 : R2 := fun x y H Q => ∃ l k xs, x = .ref l ∧ y = .int k ∧ Rd H l (.lst xs) ∧ -(2 ^ 63) ≤ k ∧ k < 2 ^ 63 ∧ xs.length * k.toNat ≤ sizeLine ∧
  ∀ p, H p = none → Q (.ref p) (upd H p (.lst (List.replicate k.toNat xs).flatten))
theorem opr_rep : OpR X (binaryOp .Mult) rRep2 := by
  intro pins s σ H x y v u Q I rx ry h
  obtain ⟨l, k, xs, rfl, rfl, hH, h1, h2, hz, q⟩ := h
  cases rx
  obtain ⟨t, rfl⟩ := ry
  obtain ⟨z, its, n, r, hl, e⟩ := Inv_lstR I hH
  have hlen : its.toArray.size * k.toNat ≤ sizeLine := by rw [List.size_toArray, ← hl]; exact hz
  have hcap : ¬ its.toArray.size * k.toNat > (2 ^ 63 - 1) / 8 := by
    have : (sizeLine : Nat) ≤ (2 ^ 63 - 1) / 8 := by decide
    omega
  have hfit : ¬ (!Builtin.List.listFitsIndex k) = true := by
    rw [fitsIndex_both h1 h2]
    exact Bool.false_ne_true
  have hlong : ¬ Builtin.List.listTooLong (its.toArray.size * k.toNat) = true := by
    rw [notLongL hlen]
    exact Bool.false_ne_true
  have hnew : List.foldl (fun x1 x2 => x1 ++ x2) #[] (List.replicate (if its.toArray.isEmpty = true then 0 else k.toNat) its.toArray) = (List.replicate k.toNat its).flatten.toArray := by
    have f0 : ∀ m : Nat, List.foldl (fun x1 x2 => x1 ++ x2) #[] (List.replicate m its.toArray) = (List.replicate m its).flatten.toArray := fun m => by
      have := foldl_rep its m []
      rw [List.nil_append] at this
      exact this
    rw [f0]
    cases its with
    | nil => simp
    | cons a r' => rw [if_neg (by simp)]
  refine wpAny_binaryOp_repeat_ref (T := "list") (U := "int") (by decide) ⟨_, e, rfl⟩ (fun s' => typeIs_int s' k t) noFill_list_mul F.fills_int_mul F.slot_int_rmul repeat_list F.slot_int_index.lookup
    (call_meets F.slot_int_rmul (typeIs_int s k t) F.entry_int_rmul (F.args_int_rmul_2 _ _) (int___rmul___int_list k t l its.toArray n)
      ⟨e, rfl, ⟨_, e, rfl⟩, call_meets F.slot_list_mul ⟨_, e, rfl⟩ F.entry_list_mul (F.args_list_mul_2 _ _) (AutoListH.list___mul___list_int_3 l its.toArray n k t hfit hcap hlong) ⟨e, ?_⟩⟩)
  rw [hnew]
  exact ⟨.ref _, _, I.lnew (t' := s.toks) (r.rep k.toNat) (by rw [PyProof.Rows.lm_len_rep_flat, Nat.mul_comm]; exact hz), rfl, q _ I.fresh⟩
theorem opr_add : OpR X (binaryOp .Add) (fun x y H Q => (∃ i j, x = .int i ∧ y = .int j ∧ Q (.int (i + j)) H) ∨ (∃ i j, x = .str i ∧ y = .str j ∧ i.length + j.length ≤ sizeLine ∧ Q (.str (i ++ j)) H) ∨ rCat2 x y H Q ∨ rCatT X.K x y H Q) :=
  op_add.or (op_add_str.or (opr_cat.or op_catT))
theorem opr_mulA : OpR X (binaryOp .Mult) (fun x y H Q => rI CM (fun i j => .int (i * j)) x y H Q ∨ rRep2 x y H Q) := opr_mul.or opr_rep
end

/-- the items of a list -/
@[simp] def lsD (mu : Sto) : W → Option (List D)
  | .d (.lst xs) => some xs
  | .loc k => match mu[k]? with
    | some (.lst xs) => some xs
    | _ => none
  | _ => none
section
variable {K : KW} {G B F F' H H' : Hp} {al al' : List Addr} {mu mu' : Sto} {rh : Ev} {si : L2.St}
theorem lsD_rep {w : W} {v : V} {xs : List D} (s : SRS K G B F H al mu) (r : RepW K F al w v) (e : lsD mu w = some xs) : ∃ a vs, v = .ref a ∧ Rd H a (.lst vs) ∧ vs.length ≤ sizeLine ∧ Paired (RepD K F) xs vs := by
  unfold lsD at e
  split at e
  · cases e
    cases r with
    | d r => cases r with
      | lst q z p => exact ⟨_, _, rfl, rdMono s.fz q, z, p.p⟩
  · rename_i k
    split at e
    · rename_i q
      cases e
      cases r with
      | loc ea =>
        obtain ⟨vs, h, z, p⟩ := s.lstAt q ea
        exact ⟨_, vs, rfl, Rd.of h, z, p⟩
    · cases e
  · cases e
theorem repTup {xs : List D} {v : V} (r : RepW K F al (.d (.tup xs)) v) : ∃ a vs, v = .ref a ∧ SqT K F a vs ∧ vs.length ≤ sizeLine ∧ Paired (RepD K F) xs vs := by
  cases r with
  | d r => cases r with
    | tup q z p => exact ⟨_, _, rfl, q, z, p.p⟩
theorem strOk_app {x y : Str} (hx : StrOk x) (hy : StrOk y) (h : x.length + y.length ≤ sizeLine) : StrOk (x ++ y) := by
  have e : (x ++ y).cps = x.cps ++ y.cps := rfl
  refine ⟨?_, ?_⟩
  · have h1 := hx.1
    have h2 := hy.1
    unfold PyData.strOk at h1 h2 ⊢
    rw [e, Array.all_append, h1, h2]; rfl
  · show (x ++ y).cps.size ≤ _
    rw [e, Array.size_append]; exact h
@[simp] def fAdd (o : Bool) : F2 := fun mu x y Q => match x, y with
  | .d (.int i), .d (.int j) => Q (.d (.int (i + j))) mu
  | .d (.str a), .d (.str b) => a.length + b.length ≤ sizeLine ∧ Q (.d (.str (a ++ b))) mu
  | .d (.tup xs), .d (.tup ys) => xs ≠ [] ∧ xs.length + ys.length ≤ sizeLine ∧ Q (.d (.tup (xs ++ ys))) mu
  | x, y => match lsD mu x, lsD mu y with
    | some xs, some ys => xs.length + ys.length ≤ sizeLine ∧ newL o (xs ++ ys) mu Q
    | _, _ => False
theorem opd_add (o : Bool) : OpD K (fun x y H Q => (∃ i j, x = .int i ∧ y = .int j ∧ Q (.int (i + j)) H) ∨ (∃ i j, x = .str i ∧ y = .str j ∧ i.length + j.length ≤ sizeLine ∧ Q (.str (i ++ j)) H) ∨ rCat2 x y H Q ∨ rCatT K x y H Q) (fAdd o) :=
  fun G B F H al rh si mu x y vx vy Qd Q s r1 r2 h q => by
  unfold fAdd at h
  split at h
  · cases repInt r1
    cases repInt r2
    exact .inl ⟨_, _, rfl, rfl, q F H al mu _ _ (Ext.refl _ _) s (.d (.int _)) h⟩
  · obtain ⟨rfl, h1⟩ := repStr r1
    obtain ⟨rfl, h2⟩ := repStr r2
    exact .inr (.inl ⟨_, _, rfl, rfl, h.1, q F H al mu _ _ (Ext.refl _ _) s (.d (.str _ (strOk_app h1 h2 h.1))) h.2⟩)
  · rename_i xs ys
    obtain ⟨a, vs, rfl, q1, z1, p1⟩ := repTup r1
    obtain ⟨b, us, rfl, q2, z2, p2⟩ := repTup r2
    obtain ⟨hn, hl, hq⟩ := h
    have e1 := Paired.length p1
    have e2 := Paired.length p2
    refine .inr (.inr (.inr ⟨a, b, vs, us, rfl, rfl, sqtMono s.s.fz q1, sqtMono s.s.fz q2, fun e => hn ?_, by omega, fun e => ?_, fun _ => ?_⟩))
    · subst e; cases p1; rfl
    · subst e
      cases p2
      rw [List.append_nil] at hq
      exact q F H al mu _ _ (Ext.refl _ _) s r1 hq
    · have hx := newT_ok (ws := (xs ++ ys).map W.d) (vs := vs ++ us) (Qd := fun _ mu => Qd (.d (.tup (xs ++ ys))) mu) (Q := Q) s
      intro p hp
      have x := s.s.frozX (o := .tup (vs ++ us)) hp
      exact q _ _ _ _ _ _ x (s.step x (s.s.froz hp)) (.d (.tup (SqT.of upd_same) (by rw [List.length_append]; omega) ((RepDs.of (pApp p1 p2)).mono x.1))) hq
  · split at h
    · rename_i e1 e2
      obtain ⟨a, vs, rfl, q1, z1, p1⟩ := lsD_rep s.s r1 e1
      obtain ⟨b, us, rfl, q2, z2, p2⟩ := lsD_rep s.s r2 e2
      have l1 := Paired.length p1
      have l2 := Paired.length p2
      exact .inr (.inr (.inl ⟨a, b, vs, us, rfl, rfl, q1, q2, by have := h.1; omega, newL_ok s (pApp p1 p2) (by rw [List.length_append]; have := h.1; omega) h.2 q⟩))
    · exact h.elim
@[simp] def fMul (o : Bool) : F2 := fun mu x y Q => match x, y with
  | .d (.int i), .d (.int j) => CM i j ∧ Q (.d (.int (i * j))) mu
  | x, .d (.int k) => match lsD mu x with
    | some xs => -(2 ^ 63) ≤ k ∧ k < 2 ^ 63 ∧ xs.length * k.toNat ≤ sizeLine ∧ newL o (List.replicate k.toNat xs).flatten mu Q
    | _ => False
  | _, _ => False
theorem opd_mul (o : Bool) : OpD K (fun x y H Q => rI CM (fun i j => .int (i * j)) x y H Q ∨ rRep2 x y H Q) (fMul o) := fun G B F H al rh si mu x y vx vy Qd Q s r1 r2 h q => by
  unfold fMul at h
  split at h
  · cases repInt r1
    cases repInt r2
    exact .inl ⟨_, _, rfl, rfl, h.1, q F H al mu _ _ (Ext.refl _ _) s (.d (.int _)) h.2⟩
  · cases repInt r2
    split at h
    · rename_i e1
      obtain ⟨a, vs, rfl, q1, z1, p1⟩ := lsD_rep s.s r1 e1
      have l1 := Paired.length p1
      obtain ⟨h1, h2, h3, h4⟩ := h
      exact .inr ⟨a, _, vs, rfl, rfl, q1, h1, h2, by rw [← l1]; exact h3, newL_ok s (pRep p1 _) (by rw [PyProof.Rows.lm_len_rep_flat, Nat.mul_comm, ← l1]; exact h3) h4 q⟩
    · exact h.elim
  · exact h.elim
end

/-! ### the operators, ready -/
section
variable {io : Type} {Y : io → Cx} {P : Program} {w : World} {K : KW} {mg : Str → Option Value} {base : Heap} {N : List Str} {k : Nat} {pos : Pos} {a b : Expr} {wa wb : WE}
theorem ve_add (y : YOk Y P w K mg base N k) (o : Bool) (ha : VE Y K a wa) (hb : VE Y K b wb) : VE Y K (.BinOp a .Add b pos) (wOp (fAdd o) wa wb) := ve_op (fun i => by rw [← y.hK i]; exact opr_add) (opd_add o) ha hb
theorem ve_sub (ha : VE Y K a wa) (hb : VE Y K b wb) : VE Y K (.BinOp a .Sub b pos) (wOp (fI0 fun i j => i - j) wa wb) := ve_op (fun i => op_sub) opd_I0 ha hb
theorem ve_mul (o : Bool) (ha : VE Y K a wa) (hb : VE Y K b wb) : VE Y K (.BinOp a .Mult b pos) (wOp (fMul o) wa wb) := ve_op (fun i => opr_mulA) (opd_mul o) ha hb
theorem ve_fdiv (ha : VE Y K a wa) (hb : VE Y K b wb) : VE Y K (.BinOp a .FloorDiv b pos) (wOp (fI CD gDiv) wa wb) := ve_op (fun i => opr_div) opd_I ha hb
theorem ve_mod (ha : VE Y K a wa) (hb : VE Y K b wb) : VE Y K (.BinOp a .Mod b pos) (wOp (fI CR0 gMod) wa wb) := ve_op (fun i => opr_mod) opd_I ha hb
theorem ve_pow (ha : VE Y K a wa) (hb : VE Y K b wb) : VE Y K (.BinOp a .Pow b pos) (wOp (fI CPow fun i j => i ^ j.toNat) wa wb) := ve_op (fun i => op_pow) opd_I ha hb
theorem ve_shl (ha : VE Y K a wa) (hb : VE Y K b wb) : VE Y K (.BinOp a .LShift b pos) (wOp (fI CShl fun i j => i * 2 ^ j.toNat) wa wb) := ve_op (fun i => op_shlW) opd_I ha hb
theorem ve_shr (ha : VE Y K a wa) (hb : VE Y K b wb) : VE Y K (.BinOp a .RShift b pos) (wOp (fI (fun _ j => 0 ≤ j) fun i j => i / 2 ^ j.toNat) wa wb) := ve_op (fun i => op_shr) opd_I ha hb
theorem ve_and (ha : VE Y K a wa) (hb : VE Y K b wb) : VE Y K (.BinOp a .BitAnd b pos) (wOp (fI0 Builtin.bitAnd) wa wb) := ve_op (fun i => op_and) opd_I0 ha hb
theorem ve_or (ha : VE Y K a wa) (hb : VE Y K b wb) : VE Y K (.BinOp a .BitOr b pos) (wOp (fI0 Builtin.bitOr) wa wb) := ve_op (fun i => op_or) opd_I0 ha hb
theorem ve_xor (ha : VE Y K a wa) (hb : VE Y K b wb) : VE Y K (.BinOp a .BitXor b pos) (wOp (fI0 Builtin.bitXor) wa wb) := ve_op (fun i => op_xor) opd_I0 ha hb
@[simp] def wUn (g : Int → Int) (a : WE) : WE := fun rh mu Q => a rh mu fun x mu1 => match x with
  | .d (.int i) => Q (.d (.int (g i))) mu1
  | _ => False
theorem ve_un {op : UnaryOp} {g : Int → Int} (ho : ∀ i, UnR (Y i) (unaryOp op) (rU fun i => .int (g i))) (ha : VE Y K a wa) : VE Y K (.UnaryOp op a pos) (wUn g wa) := by
  obtain ⟨ta, p1, d1⟩ := ha
  refine ⟨_, fun i => pe_un (ho i) (p1 i), fun G B F H al rh si mu Qd Q s h q => ?_⟩
  refine d1 G B F H al rh si mu _ _ s h fun F1 H1 al1 mu1 x vx e1 s1 r1 h1 => ?_
  split at h1
  · cases repInt r1
    exact ⟨_, rfl, q F1 H1 al1 mu1 _ _ e1 s1 (.d (.int _)) h1⟩
  · exact h1.elim
theorem ve_neg (ha : VE Y K a wa) : VE Y K (.UnaryOp .USub a pos) (wUn (fun i => -i) wa) := ve_un (fun _ => un_neg) ha
end

/-! ### equality of data -/
mutual
def deqv : D → D → Bool
  | .non, .non => true
  | .bl a, .bl b => a == b
  | .bl a, .int j => (if a then 1 else 0) == j
  | .int i, .bl b => i == (if b then 1 else 0)
  | .int i, .int j => i == j
  | .str x, .str y => x == y
  | .lst xs, .lst ys => deqvs xs ys
  | .tup xs, .tup ys => deqvs xs ys
  | .non, .bl _ | .non, .int _ | .non, .str _ | .non, .lst _ | .non, .tup _ => false
  | .bl _, .non | .bl _, .str _ | .bl _, .lst _ | .bl _, .tup _ => false
  | .int _, .non | .int _, .str _ | .int _, .lst _ | .int _, .tup _ => false
  | .str _, .non | .str _, .bl _ | .str _, .int _ | .str _, .lst _ | .str _, .tup _ => false
  | .lst _, .non | .lst _, .bl _ | .lst _, .int _ | .lst _, .str _ | .lst _, .tup _ => false
  | .tup _, .non | .tup _, .bl _ | .tup _, .int _ | .tup _, .str _ | .tup _, .lst _ => false
  | .scr _, _ => false
  | .non, .scr _ | .bl _, .scr _ | .int _, .scr _ | .str _, .scr _ | .lst _, .scr _ | .tup _, .scr _ => false
def deqvs : List D → List D → Bool
  | [], [] => true
  | x :: xs, y :: ys => deqv x y && deqvs xs ys
  | [], _ :: _ => false
  | _ :: _, [] => false
end
mutual
def toP : D → PyData
  | .non => .none
  | .bl b => .bool b
  | .int i => .int i
  | .str x => .str x
  | .lst xs => .list (toPs xs)
  | .tup xs => .tuple (toPs xs)
  | .scr _ => .dict []
def toPs : List D → List PyData
  | [] => []
  | x :: xs => toP x :: toPs xs
end
mutual
@[simp] def ddep : D → Nat
  | .lst xs | .tup xs => ddeps xs + 1
  | .non | .bl _ | .int _ | .str _ => 0
  | .scr _ => 1000
@[simp] def ddeps : List D → Nat
  | [] => 0
  | x :: xs => max (ddep x) (ddeps xs)
end
@[simp] theorem deqv_non_non : deqv .non .non = true := by simp only [deqv]
@[simp] theorem deqv_non_bl {b2 : Bool} : deqv .non (.bl b2) = false := by simp only [deqv]
@[simp] theorem deqv_non_int {i2 : Int} : deqv .non (.int i2) = false := by simp only [deqv]
@[simp] theorem deqv_non_str {x2 : Str} : deqv .non (.str x2) = false := by simp only [deqv]
@[simp] theorem deqv_non_lst {xs2 : List D} : deqv .non (.lst xs2) = false := by simp only [deqv]
@[simp] theorem deqv_non_tup {xs2 : List D} : deqv .non (.tup xs2) = false := by simp only [deqv]
@[simp] theorem deqv_bl_non {b1 : Bool} : deqv (.bl b1) .non = false := by simp only [deqv]
@[simp] theorem deqv_bl_bl {b1 : Bool} {b2 : Bool} : deqv (.bl b1) (.bl b2) = (b1 == b2) := by simp only [deqv]
@[simp] theorem deqv_bl_int {b1 : Bool} {i2 : Int} : deqv (.bl b1) (.int i2) = ((if b1 then 1 else 0) == i2) := by simp only [deqv]
@[simp] theorem deqv_bl_str {b1 : Bool} {x2 : Str} : deqv (.bl b1) (.str x2) = false := by simp only [deqv]
@[simp] theorem deqv_bl_lst {b1 : Bool} {xs2 : List D} : deqv (.bl b1) (.lst xs2) = false := by simp only [deqv]
@[simp] theorem deqv_bl_tup {b1 : Bool} {xs2 : List D} : deqv (.bl b1) (.tup xs2) = false := by simp only [deqv]
@[simp] theorem deqv_int_non {i1 : Int} : deqv (.int i1) .non = false := by simp only [deqv]
@[simp] theorem deqv_int_bl {i1 : Int} {b2 : Bool} : deqv (.int i1) (.bl b2) = (i1 == (if b2 then 1 else 0)) := by simp only [deqv]
@[simp] theorem deqv_int_int {i1 : Int} {i2 : Int} : deqv (.int i1) (.int i2) = (i1 == i2) := by simp only [deqv]
@[simp] theorem deqv_int_str {i1 : Int} {x2 : Str} : deqv (.int i1) (.str x2) = false := by simp only [deqv]
@[simp] theorem deqv_int_lst {i1 : Int} {xs2 : List D} : deqv (.int i1) (.lst xs2) = false := by simp only [deqv]
@[simp] theorem deqv_int_tup {i1 : Int} {xs2 : List D} : deqv (.int i1) (.tup xs2) = false := by simp only [deqv]
@[simp] theorem deqv_str_non {x1 : Str} : deqv (.str x1) .non = false := by simp only [deqv]
@[simp] theorem deqv_str_bl {x1 : Str} {b2 : Bool} : deqv (.str x1) (.bl b2) = false := by simp only [deqv]
@[simp] theorem deqv_str_int {x1 : Str} {i2 : Int} : deqv (.str x1) (.int i2) = false := by simp only [deqv]
@[simp] theorem deqv_str_str {x1 : Str} {x2 : Str} : deqv (.str x1) (.str x2) = (x1 == x2) := by simp only [deqv]
@[simp] theorem deqv_str_lst {x1 : Str} {xs2 : List D} : deqv (.str x1) (.lst xs2) = false := by simp only [deqv]
@[simp] theorem deqv_str_tup {x1 : Str} {xs2 : List D} : deqv (.str x1) (.tup xs2) = false := by simp only [deqv]
@[simp] theorem deqv_lst_non {xs1 : List D} : deqv (.lst xs1) .non = false := by simp only [deqv]
@[simp] theorem deqv_lst_bl {xs1 : List D} {b2 : Bool} : deqv (.lst xs1) (.bl b2) = false := by simp only [deqv]
@[simp] theorem deqv_lst_int {xs1 : List D} {i2 : Int} : deqv (.lst xs1) (.int i2) = false := by simp only [deqv]
@[simp] theorem deqv_lst_str {xs1 : List D} {x2 : Str} : deqv (.lst xs1) (.str x2) = false := by simp only [deqv]
@[simp] theorem deqv_lst_lst {xs1 : List D} {xs2 : List D} : deqv (.lst xs1) (.lst xs2) = deqvs xs1 xs2 := by simp only [deqv]
@[simp] theorem deqv_lst_tup {xs1 : List D} {xs2 : List D} : deqv (.lst xs1) (.tup xs2) = false := by simp only [deqv]
@[simp] theorem deqv_tup_non {xs1 : List D} : deqv (.tup xs1) .non = false := by simp only [deqv]
@[simp] theorem deqv_tup_bl {xs1 : List D} {b2 : Bool} : deqv (.tup xs1) (.bl b2) = false := by simp only [deqv]
@[simp] theorem deqv_tup_int {xs1 : List D} {i2 : Int} : deqv (.tup xs1) (.int i2) = false := by simp only [deqv]
@[simp] theorem deqv_tup_str {xs1 : List D} {x2 : Str} : deqv (.tup xs1) (.str x2) = false := by simp only [deqv]
@[simp] theorem deqv_tup_lst {xs1 : List D} {xs2 : List D} : deqv (.tup xs1) (.lst xs2) = false := by simp only [deqv]
@[simp] theorem deqv_tup_tup {xs1 : List D} {xs2 : List D} : deqv (.tup xs1) (.tup xs2) = deqvs xs1 xs2 := by simp only [deqv]
@[simp] theorem deqvs_nil : deqvs [] [] = true := by simp only [deqvs]
@[simp] theorem deqvs_cons {x y : D} {xs ys : List D} : deqvs (x :: xs) (y :: ys) = (deqv x y && deqvs xs ys) := by simp only [deqvs]
@[simp] theorem deqvs_nc {y : D} {ys : List D} : deqvs [] (y :: ys) = false := by simp only [deqvs]
@[simp] theorem deqvs_cn {y : D} {ys : List D} : deqvs (y :: ys) [] = false := by simp only [deqvs]
def noscr : D → Prop := fun d => ddep d < 1000
mutual
theorem deqv_refl : ∀ (d : D), ddep d < 1000 → deqv d d = true
  | .non, _ => by simp
  | .bl _, _ => by simp
  | .int _, _ => by simp
  | .str _, _ => by simp
  | .lst xs, h => by rw [deqv_lst_lst]; exact deqvs_refl xs (by simp only [ddep] at h; omega)
  | .tup xs, h => by rw [deqv_tup_tup]; exact deqvs_refl xs (by simp only [ddep] at h; omega)
  | .scr _, h => by simp at h
theorem deqvs_refl : ∀ (xs : List D), ddeps xs < 1000 → deqvs xs xs = true
  | [], _ => by simp
  | x :: xs, h => by
    simp only [ddeps] at h
    rw [deqvs_cons, deqv_refl x (by omega), deqvs_refl xs (by omega)]; rfl
end
mutual
theorem toP_eqv : ∀ x y : D, PyData.eqv (toP x) (toP y) = deqv x y
  | .non, y => by cases y <;> simp only [toP, PyData.eqv, deqv]
  | .bl _, y => by cases y <;> simp only [toP, PyData.eqv, deqv]
  | .int _, y => by cases y <;> simp only [toP, PyData.eqv, deqv]
  | .str _, y => by cases y <;> simp only [toP, PyData.eqv, deqv]
  | .lst xs, y => by cases y with
    | lst ys => simp only [toP, PyData.eqv, deqv]; exact toPs_eqv xs ys
    | _ => simp only [toP, PyData.eqv, deqv]
  | .tup xs, y => by cases y with
    | tup ys => simp only [toP, PyData.eqv, deqv]; exact toPs_eqv xs ys
    | _ => simp only [toP, PyData.eqv, deqv]
  | .scr _, y => by cases y <;> simp only [toP, PyData.eqv, deqv]
theorem toPs_eqv : ∀ xs ys : List D, PyData.eqvAll (toPs xs) (toPs ys) = deqvs xs ys
  | [], [] => by simp only [toPs, PyData.eqvAll, deqvs]
  | [], _ :: _ => by simp only [toPs, PyData.eqvAll, deqvs]
  | _ :: _, [] => by simp only [toPs, PyData.eqvAll, deqvs]
  | x :: xs, y :: ys => by simp only [toPs, PyData.eqvAll, deqvs, toP_eqv x y, toPs_eqv xs ys]
end
mutual
theorem toP_dep : ∀ x : D, (toP x).depth ≤ ddep x
  | .non => by simp only [toP, PyData.depth, ddep, Nat.le_refl]
  | .bl _ => by simp only [toP, PyData.depth, ddep, Nat.le_refl]
  | .int _ => by simp only [toP, PyData.depth, ddep, Nat.le_refl]
  | .str _ => by simp only [toP, PyData.depth, ddep, Nat.le_refl]
  | .lst xs => by simp only [toP, PyData.depth, ddep]; exact Nat.succ_le_succ (toPs_dep xs)
  | .tup xs => by simp only [toP, PyData.depth, ddep]; exact Nat.succ_le_succ (toPs_dep xs)
  | .scr _ => by simp only [toP, PyData.depth, PyData.depthKv, ddep]; omega
theorem toPs_dep : ∀ xs : List D, PyData.depthAll (toPs xs) ≤ ddeps xs
  | [] => by simp only [toPs, PyData.depthAll, ddeps, Nat.le_refl]
  | x :: xs => by
    simp only [toPs, PyData.depthAll, ddeps]
    have h1 := toP_dep x
    have h2 := toPs_dep xs
    omega
end
section
variable {K : KW} {G B F F' H H' : Hp} {al al' : List Addr} {mu mu' : Sto} {rh : Ev} {si : L2.St}
mutual
theorem rep_dp : ∀ {x : D} {v : V}, RepD K H x v → ddep x < 1000 → Dp K H v (toP x)
  | _, _, .non, _ => by unfold toP; exact .non
  | _, _, .bl b, _ => by unfold toP; exact .bl b
  | _, _, .int i, _ => by unfold toP; exact .int i
  | _, _, .str x _, _ => by unfold toP; exact .str x
  | _, _, .tup q _ r, h => by unfold toP; exact .tup q (reps_dp r (by unfold ddep at h; omega))
  | _, _, .lst q _ r, h => by unfold toP; exact .lst (.inl q) (reps_dp r (by unfold ddep at h; omega))
  | _, _, .scr _ _, h => by unfold ddep at h; omega
theorem reps_dp : ∀ {xs : List D} {vs : List V}, RepDs K H xs vs → ddeps xs < 1000 → DpAll K H vs (toPs xs)
  | _, _, .nil, _ => by unfold toPs; exact .nil
  | _, _, .cons r t, h => by unfold toPs; exact .cons (rep_dp r (by unfold ddeps at h; omega)) (reps_dp t (by unfold ddeps at h; omega))
end
mutual
theorem rep_lay : ∀ {x : D} {v : V}, RepD K H x v → ddep x < 1000 → (toP x).canLay0 = true
  | _, _, .non, _ => by simp only [toP, PyData.canLay0]
  | _, _, .bl b, _ => by simp only [toP, PyData.canLay0]
  | _, _, .int i, _ => by simp only [toP, PyData.canLay0]
  | _, _, .str x h, _ => by simp only [toP, PyData.canLay0]; exact h.1
  | _, _, .tup q _ r, h => by simp only [toP, PyData.canLay0]; exact reps_lay r (by unfold ddep at h; omega)
  | _, _, .lst q _ r, h => by simp only [toP, PyData.canLay0]; exact reps_lay r (by unfold ddep at h; omega)
  | _, _, .scr _ _, h => by unfold ddep at h; omega
theorem reps_lay : ∀ {xs : List D} {vs : List V}, RepDs K H xs vs → ddeps xs < 1000 → PyData.canLayAll0 (toPs xs) = true
  | _, _, .nil, _ => by simp only [toPs, PyData.canLayAll0]
  | _, _, .cons r t, h => by
    simp only [toPs, PyData.canLayAll0]
    rw [rep_lay r (by unfold ddeps at h; omega), reps_lay t (by unfold ddeps at h; omega)]; rfl
end
theorem rep_shaped {x : D} {v : V} (r : RepD K H x v) (h : ddep x ≤ 64) : SeqAt.shaped (toP x) = true := by
  unfold SeqAt.shaped
  rw [rep_lay r (by omega)]
  have := toP_dep x
  simp only [Bool.true_and, decide_eq_true_eq]
  omega
@[simp] def fEq (neg : Bool) : F2 := fun mu x y Q => match snap mu x, snap mu y with
  | some a, some b => ddep a ≤ 64 ∧ ddep b ≤ 64 ∧ Q (.d (.bl (if neg then !deqv a b else deqv a b))) mu
  | _, _ => False
theorem opd_eq : OpD K (rEqD K) (fEq false) := fun G B F H al rh si mu x y vx vy Qd Q s r1 r2 h q => by
  unfold fEq at h
  split at h
  · rename_i a b e1 e2
    have p1 := snap_rep s.s r1 e1
    have p2 := snap_rep s.s r2 e2
    exact ⟨_, _, rep_dp p1 (by have := h.1; omega), rep_dp p2 (by have := h.2.1; omega), rep_shaped p1 h.1, rep_shaped p2 h.2.1, by rw [toP_eqv]; exact q F H al mu _ _ (Ext.refl _ _) s (.d (.bl _)) h.2.2⟩
  · exact h.elim
theorem opd_ne : OpD K (rNeD K) (fEq true) := fun G B F H al rh si mu x y vx vy Qd Q s r1 r2 h q => by
  unfold fEq at h
  split at h
  · rename_i a b e1 e2
    have p1 := snap_rep s.s r1 e1
    have p2 := snap_rep s.s r2 e2
    exact ⟨_, _, rep_dp p1 (by have := h.1; omega), rep_dp p2 (by have := h.2.1; omega), rep_shaped p1 h.1, rep_shaped p2 h.2.1, by rw [toP_eqv]; exact q F H al mu _ _ (Ext.refl _ _) s (.d (.bl _)) h.2.2⟩
  · exact h.elim
/-- is None -/
@[simp] def fIs (neg : Bool) : F2 := fun mu x y Q => match y with
  | .d .non => Q (.d (.bl (match x with | .d .non => !neg | _ => neg))) mu
  | _ => False
theorem opd_is : OpD K (fun x y H Q => y = .non ∧ Q (.bl (decide (x = .non))) H) (fIs false) := fun G B F H al rh si mu x y vx vy Qd Q s r1 r2 h q => by
  unfold fIs at h
  split at h
  · cases repNon r2
    refine ⟨rfl, q F H al mu _ _ (Ext.refl _ _) s (.d ?_) h⟩
    cases r1 with
    | d r1 => cases r1 <;> exact .bl _
    | _ => exact .bl _
  · exact h.elim
theorem opd_isn : OpD K (fun x y H Q => y = .non ∧ Q (.bl (!decide (x = .non))) H) (fIs true) := fun G B F H al rh si mu x y vx vy Qd Q s r1 r2 h q => by
  unfold fIs at h
  split at h
  · cases repNon r2
    refine ⟨rfl, q F H al mu _ _ (Ext.refl _ _) s (.d ?_) h⟩
    cases r1 with
    | d r1 => cases r1 <;> exact .bl _
    | _ => exact .bl _
  · exact h.elim
end
end VL
namespace VL
open PySem PySem.Spec PyProof.Rows L2

section
variable {io : Type} {Y : io → Cx} {P : Program} {w : World} {K : KW} {mg : Str → Option Value} {base : Heap} {N : List Str} {k : Nat} {pos : Pos} {a b c : Expr} {wa wb wc : WE} {rest : List Expr}

/-! ### comparisons as values, as tests -/
@[simp] def wTest (f : WE) : WT := fun rh mu Q => f rh mu fun x mu1 => match x with
  | .d (.bl b) => Q b mu1
  | _ => False
theorem ve_cmpR {op : CmpOp} {r : R2} {f : F2} (ho : ∀ i, OpR (Y i) (compareOp op) r) (hd : OpD K r f) (ha : VE Y K a wa) (hb : VE Y K b wb) (hm : behindInMarks op b = false) : VE Y K (.Compare a [op] [b] pos) (wOp f wa wb) := by
  obtain ⟨ta, p1, d1⟩ := ha
  obtain ⟨tb, p2, d2⟩ := hb
  exact ⟨_, fun i => pe_cmpR (ho i) (p1 i) (p2 i) hm, den_op hd d1 d2⟩
theorem den_test {t : TE} {f : WE} (d : Den K t f) : DenT K (tTest t) (wTest f) := fun G B F H al rh si mu Qd Q s h q => by
  refine d G B F H al rh si mu _ _ s h fun F1 H1 al1 mu1 x vx e1 s1 r1 h1 => ?_
  split at h1
  · cases repBl r1
    exact ⟨_, rfl, q F1 H1 al1 mu1 _ e1 s1 h1⟩
  · exact h1.elim
theorem vt_cmpR {op : CmpOp} {r : R2} {f : F2} (ho : ∀ i, OpR (Y i) (compareOp op) r) (hd : OpD K r f) (ha : VE Y K a wa) (hb : VE Y K b wb) (hm : behindInMarks op b = false) : VT Y K (.Compare a [op] [b] pos) (wTest (wOp f wa wb)) := by
  obtain ⟨ta, p1, d1⟩ := ha
  obtain ⟨tb, p2, d2⟩ := hb
  exact ⟨_, fun i => pt_cmpR (ho i) (p1 i) (p2 i) hm, den_test (den_op hd d1 d2)⟩
/-- which comparison it is -/
inductive CmpK (Y : io → Cx) (K : KW) : CmpOp → F2 → Prop
  | mk {op : CmpOp} {r : R2} {f : F2} : (∀ i, OpR (Y i) (compareOp op) r) → OpD K r f → CmpK Y K op f
theorem c_eq (y : YOk Y P w K mg base N k) : CmpK Y K .Eq (fEq false) := .mk (fun i => by rw [← y.hK i]; exact op_eqD (y.room i).units) opd_eq
theorem c_ne (y : YOk Y P w K mg base N k) : CmpK Y K .NotEq (fEq true) := .mk (fun i => by rw [← y.hK i]; exact op_neD (y.room i).units) opd_ne
theorem c_lt (y : YOk Y P w K mg base N k) : CmpK Y K .Lt (fB0 fun i j => decide (i < j)) := .mk (fun i => op_lt) opd_B0
theorem c_le (y : YOk Y P w K mg base N k) : CmpK Y K .LtE (fB0 fun i j => decide (i ≤ j)) := .mk (fun i => op_le) opd_B0
theorem c_gt (y : YOk Y P w K mg base N k) : CmpK Y K .Gt (fB0 fun i j => decide (j < i)) := .mk (fun i => op_gt) opd_B0
theorem c_ge (y : YOk Y P w K mg base N k) : CmpK Y K .GtE (fB0 fun i j => decide (j ≤ i)) := .mk (fun i => op_ge) opd_B0
theorem c_is (y : YOk Y P w K mg base N k) : CmpK Y K .Is (fIs false) := .mk (fun i => op_isN) opd_is
theorem c_isn (y : YOk Y P w K mg base N k) : CmpK Y K .IsNot (fIs true) := .mk (fun i => op_notN) opd_isn
theorem ve_cmp {op : CmpOp} {f : F2} (c : CmpK Y K op f) (ha : VE Y K a wa) (hb : VE Y K b wb) (hm : behindInMarks op b = false := by first | exact nomark _ | with_unfolding_all rfl) : VE Y K (.Compare a [op] [b] pos) (wOp f wa wb) := by
  obtain ⟨o, d⟩ := c
  exact ve_cmpR o d ha hb hm
theorem vt_cmp {op : CmpOp} {f : F2} (c : CmpK Y K op f) (ha : VE Y K a wa) (hb : VE Y K b wb) (hm : behindInMarks op b = false := by first | exact nomark _ | with_unfolding_all rfl) : VT Y K (.Compare a [op] [b] pos) (wTest (wOp f wa wb)) := by
  obtain ⟨o, d⟩ := c
  exact vt_cmpR o d ha hb hm
/-- by a truth value -/
def onBl (z : W) (A B : Prop) : Prop := match z with
  | .d (.bl true) => A
  | .d (.bl false) => B
  | _ => False
@[simp] theorem onBl_bl (c : Bool) (A B : Prop) : onBl (.d (.bl c)) A B = if c = true then A else B := by cases c <;> rfl
/-- a op1 b op2 c -/
@[simp] def wChain (f g : F2) (a b c : WE) : WE := fun rh mu Q => a rh mu fun x mu1 => b rh mu1 fun y mu2 => f mu2 x y fun z mu3 => onBl z (c rh mu3 fun u mu4 => g mu4 y u Q) (Q (.d (.bl false)) mu3)
theorem den_chain {r r' : R2} {f g : F2} {ta tb tc : TE} (hd : OpD K r f) (hd' : OpD K r' g) (ha : Den K ta wa) (hb : Den K tb wb) (hc : Den K tc wc) : Den K (tChain r r' ta tb tc) (wChain f g wa wb wc) := fun G B F H al rh si mu Qd Q s h q => by
  refine ha G B F H al rh si mu _ _ s h fun F1 H1 al1 mu1 x vx e1 s1 r1 h1 => ?_
  refine hb G B F1 H1 al1 rh si mu1 _ _ s1 h1 fun F2 H2 al2 mu2 y vy e2 s2 r2 h2 => ?_
  refine hd G B F2 H2 al2 rh si mu2 x y vx vy _ _ s2 (r1.mono e2) r2 h2 fun F3 H3 al3 mu3 z vz e3 s3 r3 h3 => ?_
  unfold onBl at h3
  split at h3
  · cases repBl r3
    refine ⟨true, rfl, iteT (hc G B F3 H3 al3 rh si mu3 _ _ s3 h3 fun F4 H4 al4 mu4 u vu e4 s4 r4 h4 => ?_)⟩
    exact hd' G B F4 H4 al4 rh si mu4 y u vy vu Qd Q s4 (r2.mono (e3.trans e4)) r4 h4 fun F5 H5 al5 mu5 v vv e5 s5 r5 h5 => q F5 H5 al5 mu5 v vv ((((e1.trans e2).trans e3).trans e4).trans e5) s5 r5 h5
  · cases repBl r3
    exact ⟨false, rfl, iteF (q F3 H3 al3 mu3 _ _ ((e1.trans e2).trans e3) s3 r3 h3)⟩
  · exact h3.elim
theorem ve_chain {op op' : CmpOp} {f g : F2} (c1 : CmpK Y K op f) (c2 : CmpK Y K op' g) (ha : VE Y K a wa) (hb : VE Y K b wb) (hc : VE Y K c wc) (hm : lastMarks [op, op'] [b, c] = false := by with_unfolding_all rfl) : VE Y K (.Compare a [op, op'] [b, c] pos) (wChain f g wa wb wc) := by
  obtain ⟨o1, d1⟩ := c1
  obtain ⟨o2, d2⟩ := c2
  obtain ⟨ta, p1, e1⟩ := ha
  obtain ⟨tb, p2, e2⟩ := hb
  obtain ⟨tc, p3, e3⟩ := hc
  exact ⟨_, fun i => pe_chain (o1 i) (o2 i) (p1 i) (p2 i) (p3 i) hm, den_chain d1 d2 e1 e2 e3⟩
theorem vt_chain {op op' : CmpOp} {f g : F2} (c1 : CmpK Y K op f) (c2 : CmpK Y K op' g) (ha : VE Y K a wa) (hb : VE Y K b wb) (hc : VE Y K c wc) (hm : lastMarks [op, op'] [b, c] = false := by with_unfolding_all rfl) : VT Y K (.Compare a [op, op'] [b, c] pos) (wTest (wChain f g wa wb wc)) := by
  obtain ⟨o1, d1⟩ := c1
  obtain ⟨o2, d2⟩ := c2
  obtain ⟨ta, p1, e1⟩ := ha
  obtain ⟨tb, p2, e2⟩ := hb
  obtain ⟨tc, p3, e3⟩ := hc
  exact ⟨_, fun i => pt_chain (o1 i) (o2 i) (p1 i) (p2 i) (p3 i) hm, den_test (den_chain d1 d2 e1 e2 e3)⟩

/-! ### truth -/
@[simp] def truW (mu : Sto) : W → Option Bool
  | .d .non => some false
  | .d (.bl b) => some b
  | .d (.int i) => some (i != 0)
  | .d (.str x) => some ((x.length : Int) != 0)
  | .d (.lst xs) => some (!xs.isEmpty)
  | .d (.tup xs) => some (!xs.isEmpty)
  | .d (.scr ns) => some (!ns.isEmpty)
  | .tup ws => some (!ws.isEmpty)
  | .loc k => match mu[k]? with
    | some (.lst xs) => some (!xs.isEmpty)
    | some (.lstW xs) => some (!xs.isEmpty)
    | _ => none
  | _ => none
theorem isEmpty_len {A1 B1 : Type} {xs : List A1} {ys : List B1} (h : xs.length = ys.length) : xs.isEmpty = ys.isEmpty := by
  cases xs <;> cases ys <;> simp at h ⊢
theorem truW_ok {G B F H : Hp} {al : List Addr} {mu : Sto} {x : W} {v : V} {q : Bool} (s : SRS K G B F H al mu) (r : RepW K F al x v) (e : truW mu x = some q) : TruV K v H q := by
  unfold truW at e
  split at e
  · cases e; cases repNon r; rfl
  · cases e; cases repBl r; rfl
  · cases e; cases repInt r; rfl
  · cases e; obtain ⟨rfl, h⟩ := repStr r; exact ⟨h.2, rfl⟩
  · cases e
    cases r with
    | d r => cases r with
      | lst q z p => exact .inl ⟨_, .inl (rdMono s.fz q), by rw [isEmpty_len p.len]⟩
  · cases e
    obtain ⟨a, vs, rfl, q, z, p⟩ := repTup r
    exact .inr (.inl ⟨_, sqtMono s.fz q, by rw [isEmpty_len (Paired.length p)]⟩)
  · cases e
    cases r with
    | d r => cases r with
      | scr q z => exact .inl ⟨_, sqlMono s.fz q, by rw [isEmpty_len (List.length_map (as := _) V.int)]⟩
  · cases e
    cases r with
    | tup q z p => exact .inr (.inl ⟨_, sqtMono s.fz q, by rw [isEmpty_len (Paired.length p.p)]⟩)
  · split at e
    · rename_i q
      cases e
      cases r with
      | loc ea =>
        obtain ⟨vs, h, z, p⟩ := s.lstAt q ea
        exact .inl ⟨vs, SqL.of h, by rw [isEmpty_len (Paired.length p)]⟩
    · rename_i q
      cases e
      cases r with
      | loc ea =>
        obtain ⟨vs, h, z, p⟩ := s.lstWAt q ea
        exact .inl ⟨vs, SqL.of h, by rw [isEmpty_len (Paired.length p)]⟩
    · cases e
  · cases e
@[simp] def wTru (f : WE) : WT := fun rh mu Q => f rh mu fun x mu1 => match truW mu1 x with
  | some b => Q b mu1
  | none => False
theorem vt_truth (y : YOk Y P w K mg base N k) (ha : VE Y K a wa) (he : ∀ i whole, isTrue a (Y i).env whole = (do let v ← whole; standAt a.pos; holding [v] (truthy v)) := by exact fun _ _ => rfl) : VT Y K a (wTru wa) := by
  obtain ⟨ta, p1, d1⟩ := ha
  refine ⟨fun σ H Q => ta σ H fun x H' => ∃ k, TruV K x H' k ∧ Q k H', fun i => by rw [← y.hK i]; exact pt_truth (p1 i) (he i), fun G B F H al rh si mu Qd Q s h q => ?_⟩
  refine d1 G B F H al rh si mu _ _ s h fun F1 H1 al1 mu1 x vx e1 s1 r1 h1 => ?_
  split at h1
  · rename_i b e
    exact ⟨b, truW_ok s1.s r1 e, q F1 H1 al1 mu1 b e1 s1 h1⟩
  · exact h1.elim

/-! ### and, or, not -/
@[simp] def wAnd (f g : WT) : WT := fun rh mu Q => f rh mu fun c mu1 => if c = true then g rh mu1 Q else Q false mu1
@[simp] def wOr (f g : WT) : WT := fun rh mu Q => f rh mu fun c mu1 => if c = true then Q true mu1 else g rh mu1 Q
@[simp] def wNot (f : WT) : WT := fun rh mu Q => f rh mu fun c mu1 => Q (!c) mu1
variable {fa fb : WT}
theorem VW.vt (h : VW Y K a fa) : VT Y K a fa := by
  obtain ⟨t, p, d⟩ := h
  exact ⟨t, fun i => (p i).pt, d⟩
theorem vw_and1 (ha : VT Y K a fa) : VW Y K (.BoolOp .And [a] pos) fa := by
  obtain ⟨t, p, d⟩ := ha
  exact ⟨t, fun i => pw_and1 (p i), d⟩
theorem vw_or1 (ha : VT Y K a fa) : VW Y K (.BoolOp .Or [a] pos) fa := by
  obtain ⟨t, p, d⟩ := ha
  exact ⟨t, fun i => pw_or1 (p i), d⟩
theorem vw_and (ha : VT Y K a fa) (hb : VW Y K (.BoolOp .And (b :: rest) pos) fb) : VW Y K (.BoolOp .And (a :: b :: rest) pos) (wAnd fa fb) := by
  obtain ⟨t, p, d⟩ := ha
  obtain ⟨u, p', d'⟩ := hb
  refine ⟨_, fun i => pw_and (p i) (p' i), fun G B F H al rh si mu Qd Q s h q => ?_⟩
  refine d G B F H al rh si mu _ _ s h fun F1 H1 al1 mu1 x e1 s1 h1 => ?_
  cases x with
  | true => exact iteT (d' G B F1 H1 al1 rh si mu1 Qd Q s1 (by simpa using h1) fun F2 H2 al2 mu2 z e2 => q F2 H2 al2 mu2 z (e1.trans e2))
  | false => exact iteF (q F1 H1 al1 mu1 false e1 s1 (by simpa using h1))
theorem vw_or (ha : VT Y K a fa) (hb : VW Y K (.BoolOp .Or (b :: rest) pos) fb) : VW Y K (.BoolOp .Or (a :: b :: rest) pos) (wOr fa fb) := by
  obtain ⟨t, p, d⟩ := ha
  obtain ⟨u, p', d'⟩ := hb
  refine ⟨_, fun i => pw_or (p i) (p' i), fun G B F H al rh si mu Qd Q s h q => ?_⟩
  refine d G B F H al rh si mu _ _ s h fun F1 H1 al1 mu1 x e1 s1 h1 => ?_
  cases x with
  | true => exact iteT (q F1 H1 al1 mu1 true e1 s1 (by simpa using h1))
  | false => exact iteF (d' G B F1 H1 al1 rh si mu1 Qd Q s1 (by simpa using h1) fun F2 H2 al2 mu2 z e2 => q F2 H2 al2 mu2 z (e1.trans e2))
theorem vt_not (ha : VT Y K a fa) : VT Y K (.UnaryOp .Not a pos) (wNot fa) := by
  obtain ⟨t, p, d⟩ := ha
  refine ⟨_, fun i => pt_not (p i), fun G B F H al rh si mu Qd Q s h q => ?_⟩
  exact d G B F H al rh si mu _ _ s h fun F1 H1 al1 mu1 x e1 s1 h1 => q F1 H1 al1 mu1 _ e1 s1 h1
/-- as values -/
@[simp] def wAndV (f g : WE) : WE := fun rh mu Q => f rh mu fun x mu1 => onBl x (g rh mu1 Q) (Q (.d (.bl false)) mu1)
@[simp] def wOrV (f g : WE) : WE := fun rh mu Q => f rh mu fun x mu1 => onBl x (Q (.d (.bl true)) mu1) (g rh mu1 Q)
theorem ve_one {op} (h : VE Y K a wa) : VE Y K (.BoolOp op [a] pos) wa := by
  obtain ⟨t, p, d⟩ := h
  exact ⟨t, fun i => pe_one (p i), d⟩
theorem ve_andV (ha : VE Y K a wa) (hb : VE Y K (.BoolOp .And (b :: rest) pos) wb) : VE Y K (.BoolOp .And (a :: b :: rest) pos) (wAndV wa wb) := by
  obtain ⟨t, p, d⟩ := ha
  obtain ⟨u, p', d'⟩ := hb
  refine ⟨_, fun i => pe_and (p i) (p' i), fun G B F H al rh si mu Qd Q s h q => ?_⟩
  refine d G B F H al rh si mu _ _ s h fun F1 H1 al1 mu1 x vx e1 s1 r1 h1 => ?_
  unfold onBl at h1
  split at h1
  · cases repBl r1
    exact ⟨true, rfl, iteT (d' G B F1 H1 al1 rh si mu1 Qd Q s1 h1 fun F2 H2 al2 mu2 z vz e2 => q F2 H2 al2 mu2 z vz (e1.trans e2))⟩
  · cases repBl r1
    exact ⟨false, rfl, iteF (q F1 H1 al1 mu1 _ _ e1 s1 r1 h1)⟩
  · exact h1.elim
theorem ve_orV (ha : VE Y K a wa) (hb : VE Y K (.BoolOp .Or (b :: rest) pos) wb) : VE Y K (.BoolOp .Or (a :: b :: rest) pos) (wOrV wa wb) := by
  obtain ⟨t, p, d⟩ := ha
  obtain ⟨u, p', d'⟩ := hb
  refine ⟨_, fun i => pe_or (p i) (p' i), fun G B F H al rh si mu Qd Q s h q => ?_⟩
  refine d G B F H al rh si mu _ _ s h fun F1 H1 al1 mu1 x vx e1 s1 r1 h1 => ?_
  unfold onBl at h1
  split at h1
  · cases repBl r1
    exact ⟨true, rfl, iteT (q F1 H1 al1 mu1 _ _ e1 s1 r1 h1)⟩
  · cases repBl r1
    exact ⟨false, rfl, iteF (d' G B F1 H1 al1 rh si mu1 Qd Q s1 h1 fun F2 H2 al2 mu2 z vz e2 => q F2 H2 al2 mu2 z vz (e1.trans e2))⟩
  · exact h1.elim
@[simp] def wNotV (f : WE) : WE := fun rh mu Q => f rh mu fun x mu1 => match truW mu1 x with
  | some b => Q (.d (.bl (!b))) mu1
  | none => False
theorem ve_not (y : YOk Y P w K mg base N k) (ha : VE Y K a wa) : VE Y K (.UnaryOp .Not a pos) (wNotV wa) := by
  obtain ⟨t, p, d⟩ := ha
  refine ⟨tNotT K t, fun i => by rw [← y.hK i]; exact pe_notT (p i), fun G B F H al rh si mu Qd Q s h q => ?_⟩
  refine d G B F H al rh si mu _ _ s h fun F1 H1 al1 mu1 x vx e1 s1 r1 h1 => ?_
  split at h1
  · rename_i b e
    exact ⟨b, truW_ok s1.s r1 e, q F1 H1 al1 mu1 _ _ e1 s1 (.d (.bl _)) h1⟩
  · exact h1.elim
/-- a if t else b -/
@[simp] def wIf (t : WT) (f g : WE) : WE := fun rh mu Q => t rh mu fun c mu1 => if c = true then f rh mu1 Q else g rh mu1 Q
theorem ve_if (hc : VT Y K c fa) (ha : VE Y K a wa) (hb : VE Y K b wb) : VE Y K (.IfExp c a b pos) (wIf fa wa wb) := by
  obtain ⟨t, p, d⟩ := hc
  obtain ⟨t1, p1, d1⟩ := ha
  obtain ⟨t2, p2, d2⟩ := hb
  refine ⟨_, fun i => pe_ifExp (p i) (p1 i) (p2 i), fun G B F H al rh si mu Qd Q s h q => ?_⟩
  refine d G B F H al rh si mu _ _ s h fun F1 H1 al1 mu1 x e1 s1 h1 => ?_
  cases x with
  | true => exact iteT (d1 G B F1 H1 al1 rh si mu1 Qd Q s1 (by simpa using h1) fun F2 H2 al2 mu2 z vz e2 => q F2 H2 al2 mu2 z vz (e1.trans e2))
  | false => exact iteF (d2 G B F1 H1 al1 rh si mu1 Qd Q s1 (by simpa using h1) fun F2 H2 al2 mu2 z vz e2 => q F2 H2 al2 mu2 z vz (e1.trans e2))

/-! ### argument lists, displays -/
@[simp] def wNil : WA := fun _ mu Q => Q [] mu
@[simp] def wCons (f : WE) (g : WA) : WA := fun rh mu Q => f rh mu fun x mu1 => g rh mu1 fun xs mu2 => Q (x :: xs) mu2
variable {es : List Expr} {ga : WA}
theorem va_nil : VA Y K [] wNil := ⟨_, fun _ => pa_nil, fun G B F H al rh si mu Qd Q s h q => q F H al mu [] [] (Ext.refl _ _) s .nil h⟩
theorem va_cons (ha : VE Y K a wa) (hr : VA Y K es ga) (hs : ∀ i, starEach (a :: es) (Y i).env = (false, eval a (Y i).env) :: starEach es (Y i).env := by exact fun _ => rfl) : VA Y K (a :: es) (wCons wa ga) := by
  obtain ⟨t, p, d⟩ := ha
  obtain ⟨u, p', d'⟩ := hr
  refine ⟨_, fun i => pa_cons (p i) (p' i) (hs i), fun G B F H al rh si mu Qd Q s h q => ?_⟩
  refine d G B F H al rh si mu _ _ s h fun F1 H1 al1 mu1 x vx e1 s1 r1 h1 => ?_
  exact d' G B F1 H1 al1 rh si mu1 _ _ s1 h1 fun F2 H2 al2 mu2 ws vs e2 s2 r2 h2 => q F2 H2 al2 mu2 _ _ (e1.trans e2) s2 (.cons (r1.mono e2) r2) h2
@[simp] def wTup (g : WA) : WE := fun rh mu Q => g rh mu fun ws mu1 => ws.length ≤ sizeLine ∧ Q (mkTup ws) mu1
@[simp] def wLst (o : Bool) (g : WA) : WE := fun rh mu Q => g rh mu fun ws mu1 => ws.length ≤ sizeLine ∧ newLW o ws mu1 Q
theorem ve_tup {x1} (h : VA Y K es ga) : VE Y K (.Tuple es x1 pos) (wTup ga) := by
  obtain ⟨t, p, d⟩ := h
  refine ⟨_, fun i => pe_tup (p i), fun G B F H al rh si mu Qd Q s h q => ?_⟩
  refine d G B F H al rh si mu _ _ s h fun F1 H1 al1 mu1 ws vs e1 s1 r1 h1 => ?_
  have l := Paired.length r1
  exact ⟨by have := h1.1; omega, newT_ok s1 r1 (by have := h1.1; omega) h1.2 fun F2 H2 al2 mu2 z vz e2 => q F2 H2 al2 mu2 z vz (e1.trans e2)⟩
theorem ve_lst (o : Bool) (h : VA Y K es ga) : VE Y K (.List es pos) (wLst o ga) := by
  obtain ⟨t, p, d⟩ := h
  refine ⟨_, fun i => pe_lst (p i), fun G B F H al rh si mu Qd Q s h q => ?_⟩
  refine d G B F H al rh si mu _ _ s h fun F1 H1 al1 mu1 ws vs e1 s1 r1 h1 => ?_
  have l := Paired.length r1
  exact ⟨by have := h1.1; omega, newLW_ok s1 r1 (by have := h1.1; omega) h1.2 fun F2 H2 al2 mu2 z vz e2 => q F2 H2 al2 mu2 z vz (e1.trans e2)⟩
end

/-! ### subscripts -/
/-- the items of a list, a tuple -/
@[simp] def seqW (mu : Sto) : W → Option (List W)
  | .d (.lst xs) => some (xs.map .d)
  | .d (.tup xs) => some (xs.map .d)
  | .d (.scr ns) => some (ns.map fun n => .d (.int n))
  | .tup ws => some ws
  | .loc k => match mu[k]? with
    | some (.lst xs) => some (xs.map .d)
    | some (.lstW ws) => some ws
    | _ => none
  | _ => none
section
variable {K : KW} {G B F F' H H' : Hp} {al al' : List Addr} {mu mu' : Sto} {rh : Ev} {si : L2.St}
theorem pMapD {xs : List D} {vs : List V} (p : Paired (RepD K F) xs vs) : Paired (RepW K F al) (xs.map .d) vs := by
  induction p with
  | nil => exact .nil
  | cons r t ih => exact .cons (.d r) ih
theorem pScr : ∀ ns : List Int, Paired (RepW K F al) (ns.map fun n => .d (.int n)) (ns.map V.int)
  | [] => .nil
  | n :: ns => .cons (.d (.int n)) (pScr ns)
theorem pScrD : ∀ ns : List Int, Paired (RepD K F) (ns.map D.int) (ns.map V.int)
  | [] => .nil
  | n :: ns => .cons (.int n) (pScrD ns)
/-- what is read of a sequence -/
theorem seqW_rep {x : W} {v : V} {ws : List W} (s : SRS K G B F H al mu) (r : RepW K F al x v) (e : seqW mu x = some ws) : ∃ a vs, v = .ref a ∧ (SqL K H a vs ∨ SqT K H a vs) ∧ vs.length ≤ sizeLine ∧ Paired (RepW K F al) ws vs := by
  unfold seqW at e
  split at e
  · cases e
    cases r with
    | d r => cases r with
      | lst q z p => exact ⟨_, _, rfl, .inl (.inl (rdMono s.fz q)), z, pMapD p.p⟩
  · cases e
    obtain ⟨a, vs, rfl, q, z, p⟩ := repTup r
    exact ⟨_, _, rfl, .inr (sqtMono s.fz q), z, pMapD p⟩
  · cases e
    cases r with
    | d r => cases r with
      | scr q z => exact ⟨_, _, rfl, .inl (sqlMono s.fz q), by rw [List.length_map]; exact z, pScr _⟩
  · cases e
    cases r with
    | tup q z p => exact ⟨_, _, rfl, .inr (sqtMono s.fz q), z, p.p⟩
  · split at e
    · rename_i q
      cases e
      cases r with
      | loc ea =>
        obtain ⟨vs, h, z, p⟩ := s.lstAt q ea
        exact ⟨_, vs, rfl, .inl (SqL.of h), z, pMapD p⟩
    · rename_i q
      cases e
      cases r with
      | loc ea =>
        obtain ⟨vs, h, z, p⟩ := s.lstWAt q ea
        exact ⟨_, vs, rfl, .inl (SqL.of h), z, p⟩
    · cases e
  · cases e
theorem ixN_len {A1 B1 : Type} {R : A1 → B1 → Prop} {xs : List A1} {ys : List B1} (p : Paired R xs ys) {i : Int} {x : A1} (h : atI xs i = some x) : ∃ y, atI ys i = some y ∧ R x y := by
  unfold atI at h ⊢
  rw [← Paired.length p]
  cases q : ixN xs.length i with
  | none => rw [q] at h; cases h
  | some j =>
    rw [q] at h
    exact pGetL p h
@[simp] def fIx : F2 := fun mu x y Q => match x, y with
  | .d (.str z), .d (.int i) => ∃ c, atI z.cps.toList i = some c ∧ Q (.d (.str ⟨#[c]⟩)) mu
  | .d (.lst xs), .d (.int i) => ∃ d, atI xs i = some d ∧ Q (.d d) mu
  | .d (.tup xs), .d (.int i) => ∃ d, atI xs i = some d ∧ Q (.d d) mu
  | x, .d (.int i) => match seqW mu x with
    | some ws => ∃ u, atI ws i = some u ∧ Q u mu
    | none => False
  | _, _ => False
theorem strOk_at {z : Str} {i : Int} {c : Nat} (h : StrOk z) (e : atI z.cps.toList i = some c) : StrOk ⟨#[c]⟩ := by
  unfold atI at e
  cases q : ixN z.cps.toList.length i with
  | none => rw [q] at e; cases e
  | some j =>
    rw [q] at e
    have e' : z.cps.toList[j]? = some c := e
    have hm := List.mem_of_getElem? e'
    have h1 := h.1
    unfold PyData.strOk at h1
    rw [Array.all_eq_true'] at h1
    have h2 := h1 c (by simpa using hm)
    exact ⟨by unfold PyData.strOk; simpa using h2, by show 1 ≤ sizeLine; decide⟩
theorem fIx_seq {x : W} {vx : V} {i : Int} {ws : List W} {u : W} {Q : VK} {Qd : W → Sto → Prop} (s : SR K G B F H al rh si mu) (r : RepW K F al x vx) (e : seqW mu x = some ws) (a : atI ws i = some u) (h : Qd u mu)
    (q : ∀ F' H' al' mu' w v, Ext F al F' al' → SR K G B F' H' al' rh si mu' → RepW K F' al' w v → Qd w mu' → Q v H') : rIx K vx (.int i) H Q := by
  obtain ⟨p, vs, rfl, hs, z, pr⟩ := seqW_rep s.s r e
  obtain ⟨v, e2, rv⟩ := ixN_len pr a
  have fin := q F H al mu u v (Ext.refl _ _) s rv h
  rcases hs with hs | hs
  · exact .inl ⟨p, vs, i, v, rfl, rfl, hs, e2, fin⟩
  · exact .inr (.inl ⟨p, vs, i, v, rfl, rfl, hs, e2, fin⟩)
theorem atI_map {A1 B1 : Type} {xs : List A1} {f : A1 → B1} {i : Int} {x : A1} (h : atI xs i = some x) : atI (xs.map f) i = some (f x) := by
  unfold atI at h ⊢
  rw [List.length_map]
  cases q : ixN xs.length i with
  | none => rw [q] at h; cases h
  | some j =>
    rw [q] at h
    have h' : xs[j]? = some x := h
    show (xs.map f)[j]? = some (f x)
    rw [List.getElem?_map, h']; rfl
theorem opd_ix : OpD K (rIx K) fIx := fun G B F H al rh si mu x y vx vy Qd Q s r1 r2 h q => by
  unfold fIx at h
  split at h
  · obtain ⟨rfl, hz⟩ := repStr r1
    cases repInt r2
    obtain ⟨c, e, h⟩ := h
    exact .inr (.inr ⟨_, _, c, rfl, rfl, hz.2, e, q F H al mu _ _ (Ext.refl _ _) s (.d (.str _ (strOk_at hz e))) h⟩)
  · cases repInt r2
    obtain ⟨d, e, h⟩ := h
    exact fIx_seq s r1 rfl (atI_map (f := W.d) e) h q
  · cases repInt r2
    obtain ⟨d, e, h⟩ := h
    exact fIx_seq s r1 rfl (atI_map (f := W.d) e) h q
  · cases repInt r2
    split at h
    · rename_i e
      obtain ⟨u, a, h⟩ := h
      exact fIx_seq s r1 e a h q
    · exact h.elim
  · exact h.elim
end
section
variable {io : Type} {Y : io → Cx} {P : Program} {w : World} {K : KW} {mg : Str → Option Value} {base : Heap} {N : List Str} {k : Nat} {pos : Pos} {a b c : Expr} {wa wb wc : WE}
theorem ve_ix (y : YOk Y P w K mg base N k) (ha : VE Y K a wa) (hb : VE Y K b wb) (hs : PlainIx b := by exact fun _ _ => rfl) : VE Y K (.Subscript a b pos) (wOp fIx wa wb) := by
  obtain ⟨ta, p1, d1⟩ := ha
  obtain ⟨tb, p2, d2⟩ := hb
  exact ⟨tOp (rIx K) ta tb, fun i => by rw [← y.hK i]; exact pe_ix ix_seq (p1 i) (p2 i) hs, den_op opd_ix d1 d2⟩

/-! ### slices -/
abbrev WO := Ev → Sto → (Option Int → Sto → Prop) → Prop
def DenO (K : KW) (t : TO) (f : WO) : Prop := ∀ (G B F H : Hp) (al : List Addr) (rh : Ev) (si : L2.St) (mu : Sto) (Qd : Option Int → Sto → Prop) (Q : Option Int → Hp → Prop), SR K G B F H al rh si mu → f rh mu Qd →
  (∀ F' H' al' mu' o, Ext F al F' al' → SR K G B F' H' al' rh si mu' → Qd o mu' → Q o H') → t si H Q
def VO (Y : io → Cx) (K : KW) (e : Option Expr) (f : WO) : Prop := ∃ t, (∀ i, PO (Y i) e t) ∧ DenO K t f
@[simp] def wNoPart : WO := fun _ mu Q => Q none mu
@[simp] def wPart (f : WE) : WO := fun rh mu Q => f rh mu fun x mu1 => match x with
  | .d (.int i) => Q (some i) mu1
  | _ => False
theorem vo_none : VO Y K none wNoPart := ⟨_, fun _ => po_none, fun G B F H al rh si mu Qd Q s h q => q F H al mu none (Ext.refl _ _) s h⟩
theorem vo_some (h : VE Y K a wa) : VO Y K (some a) (wPart wa) := by
  obtain ⟨t, p, d⟩ := h
  refine ⟨_, fun i => po_some (p i), fun G B F H al rh si mu Qd Q s h q => ?_⟩
  refine d G B F H al rh si mu _ _ s h fun F1 H1 al1 mu1 x vx e1 s1 r1 h1 => ?_
  split at h1
  · cases repInt r1
    exact ⟨_, rfl, q F1 H1 al1 mu1 _ e1 s1 h1⟩
  · exact h1.elim
/-- the items of xs[lo:hi] -/
def cutL {A1 : Type} (xs : List A1) (lo hi : Option Int) : List A1 := (xs.drop (HT.sIx xs.length 0 lo)).take (HT.sIx xs.length xs.length hi - HT.sIx xs.length 0 lo)
@[simp] def wSl (o : Bool) (f : WE) (l h : WO) : WE := fun rh mu Q => f rh mu fun x mu1 => l rh mu1 fun lo mu2 => h rh mu2 fun hi mu3 => match x with
  | .d (.str z) => Q (.d (.str (cutS z lo hi))) mu3
  | .d (.tup xs) => ¬ (HT.sIx xs.length 0 lo = 0 ∧ HT.sIx xs.length xs.length hi = xs.length) ∧ Q (.d (.tup (cutL xs lo hi))) mu3
  | .d (.scr ns) => newL o (cutL (ns.map D.int) lo hi) mu3 Q
  | x => match lsD mu3 x with
    | some xs => newL o (cutL xs lo hi) mu3 Q
    | none => False
theorem strOk_cut {z : Str} {lo hi : Option Int} (h : StrOk z) : StrOk (cutS z lo hi) := by
  refine ⟨?_, Nat.le_trans (cutS_length z lo hi) h.2⟩
  have h1 := h.1
  unfold PyData.strOk at h1 ⊢
  rw [Array.all_eq_true'] at h1 ⊢
  intro x hx
  refine h1 x ?_
  unfold cutS at hx
  have := List.mem_of_mem_drop (List.mem_of_mem_take (by simpa using hx))
  simpa using this
theorem cutP {A1 B1 : Type} {R : A1 → B1 → Prop} {xs : List A1} {ys : List B1} (p : Paired R xs ys) (lo hi : Option Int) : Paired R (cutL xs lo hi) (cutL ys lo hi) := by
  unfold cutL
  rw [← Paired.length p]
  exact pCut p _ _
theorem ve_slice (y : YOk Y P w K mg base N k) (o : Bool) {lo hi : Option Expr} {p2 : Pos} {fl fh : WO} (ha : VE Y K a wa) (hl : VO Y K lo fl) (hh : VO Y K hi fh) : VE Y K (.Subscript a (.Slice lo hi none p2) pos) (wSl o wa fl fh) := by
  obtain ⟨ta, p1, d1⟩ := ha
  obtain ⟨tl, p2, d2⟩ := hl
  obtain ⟨th, p3, d3⟩ := hh
  refine ⟨tSl (fun x lo hi H Q => rSlS x lo hi H Q ∨ rSlT K x lo hi H Q ∨ rSlL K x lo hi H Q) ta tl th, fun i => by rw [← y.hK i]; exact pe_slice (sl_str.or (sl_tup.or sl_list)) (p1 i) (p2 i) (p3 i), fun G B F H al rh si mu Qd Q s h q => ?_⟩
  refine d1 G B F H al rh si mu _ _ s h fun F1 H1 al1 mu1 x vx e1 s1 r1 h1 => ?_
  refine d2 G B F1 H1 al1 rh si mu1 _ _ s1 h1 fun F2 H2 al2 mu2 l e2 s2 h2 => ?_
  refine d3 G B F2 H2 al2 rh si mu2 _ _ s2 h2 fun F3 H3 al3 mu3 u e3 s3 h3 => ?_
  have r3 := r1.mono (e2.trans e3)
  have q3 := fun F' H' al' mu' w v (x : Ext F3 al3 F' al') => q F' H' al' mu' w v (((e1.trans e2).trans e3).trans x)
  split at h3
  · obtain ⟨rfl, hz⟩ := repStr r3
    exact .inl ⟨_, rfl, hz.2, q3 F3 H3 al3 mu3 _ _ (Ext.refl _ _) s3 (.d (.str _ (strOk_cut hz))) h3⟩
  · obtain ⟨b, vs, rfl, qt, z, pr⟩ := repTup r3
    have le := Paired.length pr
    refine .inr (.inl ⟨b, vs, rfl, sqtMono s3.s.fz qt, by rw [← le]; exact h3.1, fun p hp => ?_⟩)
    have x := s3.s.frozX (o := .tup (cutV vs l u)) hp
    refine q3 _ _ _ _ _ _ x (s3.step x (s3.s.froz hp)) (.d (.tup (SqT.of upd_same) ?_ ((RepDs.of (cutP pr l u)).mono x.1))) h3.2
    exact Nat.le_trans (cutV_length vs l u) z
  · cases r3 with
    | d r3 => cases r3 with
      | scr qt z => exact .inr (.inr ⟨_, _, rfl, sqlMono s3.s.fz qt, newL_ok s3 (cutP (pScrD _) l u) (Nat.le_trans (cutV_length _ l u) (by rw [List.length_map]; exact z)) h3 q3⟩)
  · split at h3
    · rename_i e4
      obtain ⟨b, vs, rfl, qt, z, pr⟩ := lsD_rep s3.s r3 e4
      exact .inr (.inr ⟨b, vs, rfl, .inl qt, newL_ok s3 (cutP pr l u) (Nat.le_trans (cutV_length vs l u) z) h3 q3⟩)
    · exact h3.elim
end
end VL
namespace VL
open PySem PySem.Spec PyProof.Rows L2

/-! ### built-in functions -/
abbrev FC := Sto → List W → (W → Sto → Prop) → Prop
@[simp] def wCall (f : FC) (g : WA) : WE := fun rh mu Q => g rh mu fun ws mu1 => f mu1 ws Q
def CallD (K : KW) (r : List V → Hp → VK → Prop) (f : FC) : Prop := ∀ (G B F H : Hp) (al : List Addr) (rh : Ev) (si : L2.St) (mu : Sto) (ws : List W) (vs : List V) (Qd : W → Sto → Prop) (Q : VK), SR K G B F H al rh si mu → Paired (RepW K F al) ws vs → f mu ws Qd →
  (∀ F' H' al' mu' w v, Ext F al F' al' → SR K G B F' H' al' rh si mu' → RepW K F' al' w v → Qd w mu' → Q v H') → r vs H Q
section
variable {io : Type} {Y : io → Cx} {P : Program} {w : World} {K : KW} {mg : Str → Option Value} {base : Heap} {N : List Str} {k : Nat} {pos p : Pos} {a b c e : Expr} {es : List Expr} {wa wb wc : WE} {ga : WA} {x : Str} {id T : String} {r : List V → Hp → VK → Prop} {f : FC}
theorem den_call {t : TA} (hd : CallD K r f) (ha : DenA K t ga) : Den K (tCB r t) (wCall f ga) := fun G B F H al rh si mu Qd Q s h q => by
  refine ha G B F H al rh si mu _ _ s h fun F1 H1 al1 mu1 ws vs e1 s1 r1 h1 => ?_
  exact hd G B F1 H1 al1 rh si mu1 ws vs Qd Q s1 r1 h1 fun F2 H2 al2 mu2 z vz e2 => q F2 H2 al2 mu2 z vz (e1.trans e2)
theorem ve_callB (y : YOk Y P w K mg base N k) (hc : ∀ i, CallR (Y i) (.builtin id) r) (hd : CallD K r f) (hm : mg x = none) (hv : bootBuiltins x = some (.builtin id)) (ha : VA Y K (e :: es) ga) (hg : ∀ j, Gl (Y j) x := by exact fun _ => rfl) (hn : x ≠ "__name__" := by decide) (hdb : (x == ("__debug__" : Str)) = false := by decide)
    (he : ∀ i, starEach (e :: es) (Y i).env = (false, eval e (Y i).env) :: starEach es (Y i).env := by exact fun _ => rfl) (hpl : ∀ i, (backTo pos (starEach es (Y i).env)).any (·.1) = false := by exact fun _ => rfl) : VE Y K (.Call (.Name x p) (e :: es) [] pos) (wCall f ga) := by
  obtain ⟨t, p1, d1⟩ := ha
  exact ⟨_, fun i => pe_callB (hc i) (hg i) (by rw [y.hmg i]; exact hm) hv (p1 i) hn hdb (he i) (hpl i), den_call hd d1⟩
theorem ve_callTy (y : YOk Y P w K mg base N k) (hc : ∀ i, CallR (Y i) (.type T) r) (hd : CallD K r f) (hm : mg x = none) (hv : bootBuiltins x = some (.type T)) (ha : VA Y K (e :: es) ga) (hg : ∀ j, Gl (Y j) x := by exact fun _ => rfl) (hn : x ≠ "__name__" := by decide) (hdb : (x == ("__debug__" : Str)) = false := by decide)
    (he : ∀ i, starEach (e :: es) (Y i).env = (false, eval e (Y i).env) :: starEach es (Y i).env := by exact fun _ => rfl) (hpl : ∀ i, (backTo pos (starEach es (Y i).env)).any (·.1) = false := by exact fun _ => rfl) : VE Y K (.Call (.Name x p) (e :: es) [] pos) (wCall f ga) := by
  obtain ⟨t, p1, d1⟩ := ha
  exact ⟨_, fun i => pe_callTy (hc i) (hg i) (by rw [y.hmg i]; exact hm) hv (p1 i) hn hdb (he i) (hpl i), den_call hd d1⟩
end

section
variable {K : KW} {G B F F' H H' : Hp} {al al' : List Addr} {mu mu' : Sto} {rh : Ev} {si : L2.St}
theorem pair1 {A1 B1 : Type} {R : A1 → B1 → Prop} {x : A1} {ys : List B1} (p : Paired R [x] ys) : ∃ y, ys = [y] ∧ R x y := by
  cases p with
  | cons r t => cases t; exact ⟨_, rfl, r⟩
theorem pair2 {A1 B1 : Type} {R : A1 → B1 → Prop} {x x' : A1} {ys : List B1} (p : Paired R [x, x'] ys) : ∃ y y', ys = [y, y'] ∧ R x y ∧ R x' y' := by
  cases p with
  | cons r t => obtain ⟨y', rfl, r'⟩ := pair1 t; exact ⟨_, _, rfl, r, r'⟩
/-- len -/
@[simp] def fLen : FC := fun mu ws Q => match ws with
  | [.d (.str z)] => Q (.d (.int z.length)) mu
  | [x] => match seqW mu x with
    | some us => Q (.d (.int us.length)) mu
    | none => False
  | _ => False
theorem cd_len : CallD K (fun xs H Q => ∃ x n, xs = [x] ∧ LenV K x H n ∧ Q (.int n) H) fLen := fun G B F H al rh si mu ws vs Qd Q s r0 h q => by
  unfold fLen at h
  split at h
  · obtain ⟨v, rfl, r⟩ := pair1 r0
    obtain ⟨rfl, hz⟩ := repStr r
    exact ⟨_, _, rfl, ⟨hz.2, rfl⟩, q F H al mu _ _ (Ext.refl _ _) s (.d (.int _)) h⟩
  · obtain ⟨v, rfl, r⟩ := pair1 r0
    split at h
    · rename_i us e
      obtain ⟨b, vs, rfl, hs, z, p⟩ := seqW_rep s.s r e
      have l := Paired.length p
      refine ⟨.ref b, vs.length, rfl, ?_, q F H al mu _ _ (Ext.refl _ _) s (.d ?_) h⟩
      · rcases hs with hs | hs
        · exact .inl ⟨vs, hs, rfl⟩
        · exact .inr ⟨vs, hs, rfl⟩
      · rw [l]; exact .int _
    · exact h.elim
  · exact h.elim
/-- list(x), tuple(x) -/
@[simp] def fList (o : Bool) : FC := fun mu ws Q => match ws with
  | [x] => match seqW mu x with
    | some us => newLW o us mu Q
    | none => False
  | _ => False
theorem cd_list (o : Bool) : CallD K (fun xs H Q => ∃ p ys, xs = [.ref p] ∧ (SqL K H p ys ∨ SqT K H p ys) ∧ ∀ l, H l = none → Q (.ref l) (upd H l (.lst ys))) (fList o) := fun G B F H al rh si mu ws vs Qd Q s r0 h q => by
  unfold fList at h
  split at h
  · obtain ⟨v, rfl, r⟩ := pair1 r0
    split at h
    · rename_i us e
      obtain ⟨b, vs, rfl, hs, z, p⟩ := seqW_rep s.s r e
      exact ⟨b, vs, rfl, hs, newLW_ok s p z h q⟩
    · exact h.elim
  · exact h.elim
@[simp] def fTuple : FC := fun mu ws Q => match ws with
  | [.d (.tup xs)] => Q (.d (.tup xs)) mu
  | [.tup us] => Q (.tup us) mu
  | [x] => match seqW mu x with
    | some us => Q (mkTup us) mu
    | none => False
  | _ => False
theorem cd_tuple : CallD K (fun xs H Q => ∃ p ys, xs = [.ref p] ∧ ((SqL K H p ys ∧ ∀ l, H l = none → Q (.ref l) (upd H l (.tup ys))) ∨ (SqT K H p ys ∧ Q (.ref p) H))) fTuple := fun G B F H al rh si mu ws vs Qd Q s r0 h q => by
  unfold fTuple at h
  split at h
  · obtain ⟨v, rfl, r⟩ := pair1 r0
    obtain ⟨b, vs, rfl, hs, z, p⟩ := repTup r
    exact ⟨b, vs, rfl, .inr ⟨sqtMono s.s.fz hs, q F H al mu _ _ (Ext.refl _ _) s r h⟩⟩
  · obtain ⟨v, rfl, r⟩ := pair1 r0
    cases r with
    | tup hs z p => exact ⟨_, _, rfl, .inr ⟨sqtMono s.s.fz hs, q F H al mu _ _ (Ext.refl _ _) s (.tup hs z p) h⟩⟩
  · rename_i x n1 n2
    obtain ⟨v, rfl, r⟩ := pair1 r0
    split at h
    · rename_i us e
      have nt : ∃ a vs, v = .ref a ∧ SqL K H a vs ∧ vs.length ≤ sizeLine ∧ Paired (RepW K F al) us vs := by
        unfold seqW at e
        split at e
        · cases e
          cases r with
          | d r => cases r with
            | lst q z p => exact ⟨_, _, rfl, .inl (rdMono s.s.fz q), z, pMapD p.p⟩
        · exact (n1 _ rfl).elim
        · cases e
          cases r with
          | d r => cases r with
            | scr q z => exact ⟨_, _, rfl, sqlMono s.s.fz q, by rw [List.length_map]; exact z, pScr _⟩
        · exact (n2 _ rfl).elim
        · split at e
          · rename_i q
            cases e
            cases r with
            | loc ea =>
              obtain ⟨vs, h, z, p⟩ := s.s.lstAt q ea
              exact ⟨_, vs, rfl, SqL.of h, z, pMapD p⟩
          · rename_i q
            cases e
            cases r with
            | loc ea =>
              obtain ⟨vs, h, z, p⟩ := s.s.lstWAt q ea
              exact ⟨_, vs, rfl, SqL.of h, z, p⟩
          · cases e
        · cases e
      obtain ⟨b, vs, rfl, hs, z, p⟩ := nt
      exact ⟨b, vs, rfl, .inl ⟨hs, newT_ok s p z h q⟩⟩
    · exact h.elim
  · exact h.elim
/-- int(x) of an int, a bool -/
@[simp] def fInt : FC := fun mu ws Q => match ws with
  | [.d (.int i)] => Q (.d (.int i)) mu
  | [.d (.bl b)] => Q (.d (.int (if b then 1 else 0))) mu
  | _ => False
theorem cd_int : CallD K (fun xs H Q => (∃ i, xs = [.int i] ∧ Q (.int i) H) ∨ ∃ k, xs = [.bl k] ∧ Q (.int (if k then 1 else 0)) H) fInt := fun G B F H al rh si mu ws vs Qd Q s r0 h q => by
  unfold fInt at h
  split at h
  · obtain ⟨v, rfl, r⟩ := pair1 r0
    cases repInt r
    exact .inl ⟨_, rfl, q F H al mu _ _ (Ext.refl _ _) s (.d (.int _)) h⟩
  · obtain ⟨v, rfl, r⟩ := pair1 r0
    cases repBl r
    exact .inr ⟨_, rfl, q F H al mu _ _ (Ext.refl _ _) s (.d (.int _)) h⟩
  · exact h.elim
/-- min, max of two -/
@[simp] def fMin2 : FC := fun mu ws Q => match ws with
  | [.d (.int i), .d (.int j)] => Q (.d (.int (if j < i then j else i))) mu
  | _ => False
@[simp] def fMax2 : FC := fun mu ws Q => match ws with
  | [.d (.int i), .d (.int j)] => Q (.d (.int (if j > i then j else i))) mu
  | _ => False
theorem cd_min2 : CallD K (fun xs H Q => ∃ i j, xs = [.int i, .int j] ∧ Q (.int (if j < i then j else i)) H) fMin2 := fun G B F H al rh si mu ws vs Qd Q s r0 h q => by
  unfold fMin2 at h
  split at h
  · obtain ⟨v, u, rfl, r, r'⟩ := pair2 r0
    cases repInt r
    cases repInt r'
    exact ⟨_, _, rfl, q F H al mu _ _ (Ext.refl _ _) s (.d (.int _)) h⟩
  · exact h.elim
theorem cd_max2 : CallD K (fun xs H Q => ∃ i j, xs = [.int i, .int j] ∧ Q (.int (if j > i then j else i)) H) fMax2 := fun G B F H al rh si mu ws vs Qd Q s r0 h q => by
  unfold fMax2 at h
  split at h
  · obtain ⟨v, u, rfl, r, r'⟩ := pair2 r0
    cases repInt r
    cases repInt r'
    exact ⟨_, _, rfl, q F H al mu _ _ (Ext.refl _ _) s (.d (.int _)) h⟩
  · exact h.elim
/-- sum, any, all, min of a list -/
theorem ints_rep {ns : List Int} {vs : List V} (p : Paired (RepD K F) (ns.map D.int) vs) : vs = ns.map V.int := by
  induction ns generalizing vs with
  | nil => cases p; rfl
  | cons n ns ih => cases p with
    | cons r t => cases r; rw [ih t]; rfl
theorem bls_rep {ns : List Bool} {vs : List V} (p : Paired (RepD K F) (ns.map D.bl) vs) : vs = ns.map V.bl := by
  induction ns generalizing vs with
  | nil => cases p; rfl
  | cons n ns ih => cases p with
    | cons r t => cases r; rw [ih t]; rfl
def fSum : FC := fun mu ws Q => match ws with
  | [.d (.scr ns)] => Q (.d (.int ns.sum)) mu
  | [x] => match lsD mu x with
    | some xs => ∃ ns, xs = List.map D.int ns ∧ Q (.d (.int ns.sum)) mu
    | none => False
  | _ => False
theorem cd_sum : CallD K (rSum K) fSum := fun G B F H al rh si mu ws vs Qd Q s r0 h q => by
  unfold fSum at h
  split at h
  · obtain ⟨v, rfl, r⟩ := pair1 r0
    cases r with
    | d r => cases r with
      | scr hs z => exact ⟨_, _, rfl, sqlMono s.s.fz hs, q F H al mu _ _ (Ext.refl _ _) s (.d (.int _)) h⟩
  · obtain ⟨v, rfl, r⟩ := pair1 r0
    split at h
    · rename_i xs e
      obtain ⟨ns, rfl, h⟩ := h
      obtain ⟨a, vs, rfl, hs, z, p⟩ := lsD_rep s.s r e
      cases ints_rep p
      exact ⟨a, ns, rfl, .inl hs, q F H al mu _ _ (Ext.refl _ _) s (.d (.int _)) h⟩
    · exact h.elim
  · exact h.elim
def fMin : FC := fun mu ws Q => match ws with
  | [x] => match lsD mu x with
    | some xs => ∃ ns, xs = List.map D.int ns ∧ 0 < ns.length ∧ ∀ m, m ∈ ns → (∀ y, y ∈ ns → m ≤ y) → Q (.d (.int m)) mu
    | none => False
  | _ => False
theorem cd_min : CallD K (rMin K) fMin := fun G B F H al rh si mu ws vs Qd Q s r0 h q => by
  unfold fMin at h
  split at h
  · obtain ⟨v, rfl, r⟩ := pair1 r0
    split at h
    · rename_i xs e
      obtain ⟨ns, rfl, h0, h⟩ := h
      obtain ⟨a, vs, rfl, hs, z, p⟩ := lsD_rep s.s r e
      cases ints_rep p
      exact ⟨a, ns, rfl, .inl hs, h0, fun m h1 h2 => q F H al mu _ _ (Ext.refl _ _) s (.d (.int _)) (h m h1 h2)⟩
    · exact h.elim
  · exact h.elim
def fAny (neg : Bool) : FC := fun mu ws Q => match ws with
  | [x] => match lsD mu x with
    | some xs => ∃ bs, xs = List.map D.bl bs ∧ Q (.d (.bl (if neg then bs.all id else bs.any id))) mu
    | none => False
  | _ => False
theorem cd_any : CallD K (rAny K) (fAny false) := fun G B F H al rh si mu ws vs Qd Q s r0 h q => by
  unfold fAny at h
  split at h
  · obtain ⟨v, rfl, r⟩ := pair1 r0
    split at h
    · rename_i xs e
      obtain ⟨ns, rfl, h⟩ := h
      obtain ⟨a, vs, rfl, hs, z, p⟩ := lsD_rep s.s r e
      cases bls_rep p
      exact ⟨a, ns, rfl, .inl hs, q F H al mu _ _ (Ext.refl _ _) s (.d (.bl _)) h⟩
    · exact h.elim
  · exact h.elim
theorem cd_all : CallD K (rAll K) (fAny true) := fun G B F H al rh si mu ws vs Qd Q s r0 h q => by
  unfold fAny at h
  split at h
  · obtain ⟨v, rfl, r⟩ := pair1 r0
    split at h
    · rename_i xs e
      obtain ⟨ns, rfl, h⟩ := h
      obtain ⟨a, vs, rfl, hs, z, p⟩ := lsD_rep s.s r e
      cases bls_rep p
      exact ⟨a, ns, rfl, .inl hs, q F H al mu _ _ (Ext.refl _ _) s (.d (.bl _)) h⟩
    · exact h.elim
  · exact h.elim
/-- divmod -/
@[simp] def fDivmod : FC := fun mu ws Q => match ws with
  | [.d (.int i), .d (.int j)] => CD i j ∧ Q (.d (.tup [.int (gDiv i j), .int (gMod i j)])) mu
  | _ => False
theorem cr_divmod {X : Cx} : CallR X (.builtin "divmod") (fun xs H Q => ∃ i j, xs = [.int i, .int j] ∧ CD i j ∧ ∀ p, H p = none → Q (.ref p) (upd H p (.tup [.int (gDiv i j), .int (gMod i j)]))) := by
  intro pins s σ H xs us Q I r h
  obtain ⟨i, j, rfl, ⟨h1, h2⟩, q⟩ := h
  obtain ⟨u, w', rfl, ⟨t, rfl⟩, ⟨t', rfl⟩⟩ := vals2 r
  refine divmod_int h1 ?_ (.inl (PyProof.noPylong_of_log2 h2))
  rw [← gDiv_eq, ← gMod_eq]
  have hn : H s.heap.objs.size = none := I.hok.fresh (Nat.le_refl _)
  refine ⟨.ref s.heap.objs.size, _, ?_, rfl, q _ hn⟩
  refine I.laid (fun b o e => Heap.get?_push_of_some _ e) (Nat.le_refl _) ⟨by simp only [List.length_cons, List.length_nil]; rw [sizeLine_eq]; decide, [.int (gDiv i j) s.toks, .int (gMod i j) (s.toks + 1)], .cons ⟨_, rfl⟩ (.cons ⟨_, rfl⟩ .nil), ?_⟩
  exact ⟨_, Heap.get?_push_size s.heap rfl, rfl, 0, rfl⟩
theorem cd_divmod : CallD K (fun xs H Q => ∃ i j, xs = [.int i, .int j] ∧ CD i j ∧ ∀ p, H p = none → Q (.ref p) (upd H p (.tup [.int (gDiv i j), .int (gMod i j)]))) fDivmod := fun G B F H al rh si mu ws vs Qd Q s r0 h q => by
  unfold fDivmod at h
  split at h
  · rename_i i j
    obtain ⟨v, u, rfl, r, r'⟩ := pair2 r0
    cases repInt r
    cases repInt r'
    exact ⟨_, _, rfl, h.1, newT_ok (ws := [.d (.int (gDiv i j)), .d (.int (gMod i j))]) s (.cons (.d (.int _)) (.cons (.d (.int _)) .nil)) (by show 2 ≤ sizeLine; decide) h.2 q⟩
  · exact h.elim
/-- isinstance -/
@[simp] def isi (t n : String) : Bool := t == n || (t == "bool" && n == "int")
theorem isi_kit : ∀ t ∈ ["NoneType", "bool", "int", "str", "list", "tuple", "dict"], ∀ n ∈ ["int", "bool", "str", "tuple", "list"], kitB t n = some (isi t n) := by decide +kernel
@[simp] def tyName (mu : Sto) : W → Option String
  | .d .non => some "NoneType"
  | .d (.bl _) => some "bool"
  | .d (.int _) => some "int"
  | .d (.str _) => some "str"
  | .d (.lst _) => some "list"
  | .d (.tup _) => some "tuple"
  | .d (.scr _) => some "list"
  | .tup _ => some "tuple"
  | .loc k => match mu[k]? with
    | some (.lst _) => some "list"
    | some (.lstW _) => some "list"
    | some (.dk _) => some "dict"
    | _ => none
  | _ => none
@[simp] def fIsi : FC := fun mu ws Q => match ws with
  | [x, .ty n] => match tyName mu x with
    | some t => n ∈ ["int", "bool", "str", "tuple", "list"] ∧ Q (.d (.bl (isi t n))) mu
    | none => False
  | _ => False
theorem tyx_list {a : Addr} {vs : List V} (h : Rd H a (.lst vs)) : TyX K H (.ref a) (.type "list") := by
  rcases h with h | ⟨o, h⟩
  · exact .base (.lst h)
  · exact .base (.frz h)
theorem tyx_sql {a : Addr} {vs : List V} (h : SqL K H a vs) : TyX K H (.ref a) (.type "list") := by
  rcases h with h | ⟨o, its, n, h, h1, _⟩
  · exact tyx_list h
  · exact .kList h h1
theorem tyx_tup {a : Addr} {vs : List V} (h : SqT K H a vs) : TyX K H (.ref a) (.type "tuple") := by
  rcases h with (h | ⟨o, h⟩) | ⟨o, its, n, h, h1, _⟩
  · exact .base (.tup h)
  · exact .fTuple h
  · exact .kTuple h h1
theorem tyName_ok {x : W} {v : V} {t : String} (s : SRS K G B F H al mu) (r : RepW K F al x v) (e : tyName mu x = some t) : TyX K H v (.type t) ∧ t ∈ ["NoneType", "bool", "int", "str", "list", "tuple", "dict"] := by
  unfold tyName at e
  split at e
  · cases e; cases repNon r; exact ⟨.base .non, by decide⟩
  · cases e; cases repBl r; exact ⟨.base (.bl _), by decide⟩
  · cases e; cases repInt r; exact ⟨.base (.int _), by decide⟩
  · cases e; obtain ⟨rfl, _⟩ := repStr r; exact ⟨.base (.str _), by decide⟩
  · cases e
    cases r with
    | d r => cases r with
      | lst q z p => exact ⟨tyx_list (rdMono s.fz q), by decide⟩
  · cases e
    obtain ⟨a, vs, rfl, q, z, p⟩ := repTup r
    exact ⟨tyx_tup (sqtMono s.fz q), by decide⟩
  · cases e
    cases r with
    | d r => cases r with
      | scr q z => exact ⟨tyx_sql (sqlMono s.fz q), by decide⟩
  · cases e
    cases r with
    | tup q z p => exact ⟨tyx_tup (sqtMono s.fz q), by decide⟩
  · split at e
    · rename_i q
      cases e
      cases r with
      | loc ea =>
        obtain ⟨vs, h, z, p⟩ := s.lstAt q ea
        exact ⟨tyx_list (Rd.of h), by decide⟩
    · rename_i q
      cases e
      cases r with
      | loc ea =>
        obtain ⟨vs, h, z, p⟩ := s.lstWAt q ea
        exact ⟨tyx_list (Rd.of h), by decide⟩
    · rename_i q
      cases e
      cases r with
      | loc ea =>
        obtain ⟨o, _, _, h, c⟩ := s.at q ea
        cases c with
        | dk _ _ => exact ⟨.base (.dK h), by decide⟩
    · cases e
  · cases e
theorem cd_isi : CallD K (rIsi K) fIsi := fun G B F H al rh si mu ws vs Qd Q s r0 h q => by
  unfold fIsi at h
  split at h
  · rename_i n
    obtain ⟨v, u, rfl, r, r'⟩ := pair2 r0
    cases r' with
    | ty =>
      split at h
      · rename_i t e
        obtain ⟨ty, hm⟩ := tyName_ok s.s r e
        exact ⟨v, .ty n, .type t, .type n, _, rfl, .ty n, ty, kit_ty (isi_kit t hm n h.1), q F H al mu _ _ (Ext.refl _ _) s (.d (.bl _)) h.2⟩
      · exact h.elim
  · exact h.elim
end
section
variable {io : Type} {Y : io → Cx} {P : Program} {w : World} {K : KW} {mg : Str → Option Value} {base : Heap} {N : List Str} {k : Nat} {pos p : Pos} {a b c e e2 : Expr} {es : List Expr} {wa wb wc : WE} {ga : WA}
theorem ve_len (y : YOk Y P w K mg base N k) (hm : mg "len" = none) (ha : VA Y K [e] ga) (hg : ∀ j, Gl (Y j) "len" := by exact fun _ => rfl) (he : ∀ i, starEach [e] (Y i).env = (false, eval e (Y i).env) :: starEach [] (Y i).env := by exact fun _ => rfl) : VE Y K (.Call (.Name "len" p) [e] [] pos) (wCall fLen ga) :=
  ve_callB y (fun i => by rw [← y.hK i]; exact call_len) cd_len hm PySem.boot_len ha hg (by decide) (by decide) he
theorem ve_list (y : YOk Y P w K mg base N k) (o : Bool) (hm : mg "list" = none) (ha : VA Y K [e] ga) (hg : ∀ j, Gl (Y j) "list" := by exact fun _ => rfl) (he : ∀ i, starEach [e] (Y i).env = (false, eval e (Y i).env) :: starEach [] (Y i).env := by exact fun _ => rfl) : VE Y K (.Call (.Name "list" p) [e] [] pos) (wCall (fList o) ga) :=
  ve_callTy y (fun i => by rw [← y.hK i]; exact call_list_of) (cd_list o) hm (by decide +kernel) ha hg (by decide) (by decide) he
theorem ve_tuple (y : YOk Y P w K mg base N k) (hm : mg "tuple" = none) (ha : VA Y K [e] ga) (hg : ∀ j, Gl (Y j) "tuple" := by exact fun _ => rfl) (he : ∀ i, starEach [e] (Y i).env = (false, eval e (Y i).env) :: starEach [] (Y i).env := by exact fun _ => rfl) : VE Y K (.Call (.Name "tuple" p) [e] [] pos) (wCall fTuple ga) :=
  ve_callTy y (fun i => by rw [← y.hK i]; exact call_tuple_of) cd_tuple hm (by decide +kernel) ha hg (by decide) (by decide) he
theorem ve_toInt (y : YOk Y P w K mg base N k) (hm : mg "int" = none) (ha : VA Y K [e] ga) (hg : ∀ j, Gl (Y j) "int" := by exact fun _ => rfl) (he : ∀ i, starEach [e] (Y i).env = (false, eval e (Y i).env) :: starEach [] (Y i).env := by exact fun _ => rfl) : VE Y K (.Call (.Name "int" p) [e] [] pos) (wCall fInt ga) :=
  ve_callTy y (fun i => call_int1) cd_int hm (by decide +kernel) ha hg (by decide) (by decide) he
theorem ve_sum (y : YOk Y P w K mg base N k) (hm : mg "sum" = none) (ha : VA Y K [e] ga) (hg : ∀ j, Gl (Y j) "sum" := by exact fun _ => rfl) (he : ∀ i, starEach [e] (Y i).env = (false, eval e (Y i).env) :: starEach [] (Y i).env := by exact fun _ => rfl) : VE Y K (.Call (.Name "sum" p) [e] [] pos) (wCall fSum ga) :=
  ve_callB y (fun i => by rw [← y.hK i]; exact cr_sum (y.calm i)) cd_sum hm (by decide +kernel) ha hg (by decide) (by decide) he
theorem ve_min (y : YOk Y P w K mg base N k) (hm : mg "min" = none) (ha : VA Y K [e] ga) (hg : ∀ j, Gl (Y j) "min" := by exact fun _ => rfl) (he : ∀ i, starEach [e] (Y i).env = (false, eval e (Y i).env) :: starEach [] (Y i).env := by exact fun _ => rfl) : VE Y K (.Call (.Name "min" p) [e] [] pos) (wCall fMin ga) :=
  ve_callB y (fun i => by rw [← y.hK i]; exact L2.cr_min (y.calm i)) cd_min hm (by decide +kernel) ha hg (by decide) (by decide) he
theorem ve_any (y : YOk Y P w K mg base N k) (hm : mg "any" = none) (ha : VA Y K [e] ga) (hg : ∀ j, Gl (Y j) "any" := by exact fun _ => rfl) (he : ∀ i, starEach [e] (Y i).env = (false, eval e (Y i).env) :: starEach [] (Y i).env := by exact fun _ => rfl) : VE Y K (.Call (.Name "any" p) [e] [] pos) (wCall (fAny false) ga) :=
  ve_callB y (fun i => by rw [← y.hK i]; exact cr_any (y.calm i)) cd_any hm (by decide +kernel) ha hg (by decide) (by decide) he
theorem ve_all (y : YOk Y P w K mg base N k) (hm : mg "all" = none) (ha : VA Y K [e] ga) (hg : ∀ j, Gl (Y j) "all" := by exact fun _ => rfl) (he : ∀ i, starEach [e] (Y i).env = (false, eval e (Y i).env) :: starEach [] (Y i).env := by exact fun _ => rfl) : VE Y K (.Call (.Name "all" p) [e] [] pos) (wCall (fAny true) ga) :=
  ve_callB y (fun i => by rw [← y.hK i]; exact cr_all (y.calm i)) cd_all hm (by decide +kernel) ha hg (by decide) (by decide) he
theorem ve_min2 (y : YOk Y P w K mg base N k) (hm : mg "min" = none) (ha : VA Y K [e, e2] ga) (hg : ∀ j, Gl (Y j) "min" := by exact fun _ => rfl) (he : ∀ i, starEach [e, e2] (Y i).env = (false, eval e (Y i).env) :: starEach [e2] (Y i).env := by exact fun _ => rfl) (hpl : ∀ i, (backTo pos (starEach [e2] (Y i).env)).any (·.1) = false := by exact fun _ => rfl) : VE Y K (.Call (.Name "min" p) [e, e2] [] pos) (wCall fMin2 ga) :=
  ve_callB y (fun i => call_min2 (y.calm i)) cd_min2 hm (by decide +kernel) ha hg (by decide) (by decide) he hpl
theorem ve_max2 (y : YOk Y P w K mg base N k) (hm : mg "max" = none) (ha : VA Y K [e, e2] ga) (hg : ∀ j, Gl (Y j) "max" := by exact fun _ => rfl) (he : ∀ i, starEach [e, e2] (Y i).env = (false, eval e (Y i).env) :: starEach [e2] (Y i).env := by exact fun _ => rfl) (hpl : ∀ i, (backTo pos (starEach [e2] (Y i).env)).any (·.1) = false := by exact fun _ => rfl) : VE Y K (.Call (.Name "max" p) [e, e2] [] pos) (wCall fMax2 ga) :=
  ve_callB y (fun i => call_max2 (y.calm i)) cd_max2 hm (by decide +kernel) ha hg (by decide) (by decide) he hpl
theorem ve_divmod (y : YOk Y P w K mg base N k) (hm : mg "divmod" = none) (ha : VA Y K [e, e2] ga) (hg : ∀ j, Gl (Y j) "divmod" := by exact fun _ => rfl) (he : ∀ i, starEach [e, e2] (Y i).env = (false, eval e (Y i).env) :: starEach [e2] (Y i).env := by exact fun _ => rfl) (hpl : ∀ i, (backTo pos (starEach [e2] (Y i).env)).any (·.1) = false := by exact fun _ => rfl) : VE Y K (.Call (.Name "divmod" p) [e, e2] [] pos) (wCall fDivmod ga) :=
  ve_callB y (fun i => cr_divmod) cd_divmod hm (by decide +kernel) ha hg (by decide) (by decide) he hpl
theorem ve_isi (y : YOk Y P w K mg base N k) (hm : mg "isinstance" = none) (ha : VA Y K [e, e2] ga) (hg : ∀ j, Gl (Y j) "isinstance" := by exact fun _ => rfl) (he : ∀ i, starEach [e, e2] (Y i).env = (false, eval e (Y i).env) :: starEach [e2] (Y i).env := by exact fun _ => rfl) (hpl : ∀ i, (backTo pos (starEach [e2] (Y i).env)).any (·.1) = false := by exact fun _ => rfl) : VE Y K (.Call (.Name "isinstance" p) [e, e2] [] pos) (wCall fIsi ga) :=
  ve_callB y (fun i => by rw [← y.hK i]; exact call_isi) cd_isi hm (by decide +kernel) ha hg (by decide) (by decide) he hpl
end

/-! ### methods of lists -/
@[simp] def isL (mu : Sto) : W → Bool
  | .d (.lst _) => true
  | .loc k => match mu[k]? with
    | some (.lst _) => true
    | some (.lstW _) => true
    | _ => false
  | _ => false
abbrev FM := Sto → W → List W → (W → Sto → Prop) → Prop
@[simp] def wBM (f : FM) (o : WE) (g : WA) : WE := fun rh mu Q => o rh mu fun x mu1 => isL mu1 x = true ∧ g rh mu1 fun ws mu2 => f mu2 x ws Q
def MtD (K : KW) (r : V → List V → Hp → VK → Prop) (f : FM) : Prop := ∀ (G B F H : Hp) (al : List Addr) (rh : Ev) (si : L2.St) (mu : Sto) (x : W) (vx : V) (ws : List W) (vs : List V) (Qd : W → Sto → Prop) (Q : VK), SR K G B F H al rh si mu → RepW K F al x vx → Paired (RepW K F al) ws vs → f mu x ws Qd →
  (∀ F' H' al' mu' w v, Ext F al F' al' → SR K G B F' H' al' rh si mu' → RepW K F' al' w v → Qd w mu' → Q v H') → r vx vs H Q
section
variable {K : KW} {G B F F' H H' : Hp} {al al' : List Addr} {mu mu' : Sto} {rh : Ev} {si : L2.St}
theorem isL_ok {x : W} {v : V} (s : SRS K G B F H al mu) (r : RepW K F al x v) (e : isL mu x = true) : tyV K "list" v H := by
  unfold isL at e
  split at e
  · cases r with
    | d r => cases r with
      | lst q z p => exact .inl ⟨rfl, _, .inl (rdMono s.fz q)⟩
  · split at e
    · rename_i q
      cases r with
      | loc ea =>
        obtain ⟨vs, h, z, p⟩ := s.lstAt q ea
        exact .inl ⟨rfl, _, SqL.of h⟩
    · rename_i q
      cases r with
      | loc ea =>
        obtain ⟨vs, h, z, p⟩ := s.lstWAt q ea
        exact .inl ⟨rfl, _, SqL.of h⟩
    · cases e
  · cases e
/-- a container's items, whatever they are -/
@[simp] def itsC : C → Option (List W)
  | .lst xs => some (xs.map .d)
  | .lstW ws => some ws
  | _ => none
/-- a list again -/
@[simp] def mkL (ws : List W) : C := match asDs ws with
  | some xs => .lst xs
  | none => .lstW ws
theorem mkL_rep {ws : List W} {vs : List V} (z : vs.length ≤ sizeLine) (p : Paired (RepW K F al) ws vs) {a : Addr} : CRep K F al a (mkL ws) (.lst vs) := by
  unfold mkL
  cases q : asDs ws with
  | none => exact .lstW z p
  | some xs => exact .lst z (asDs_rep (.of p) q).p
theorem itsC_rep {k : Nat} {a : Addr} {c : C} {ws : List W} (s : SRS K G B F H al mu) (e : mu[k]? = some c) (ea : al[k]? = some a) (h : itsC c = some ws) : ∃ vs, H a = some (.lst vs) ∧ vs.length ≤ sizeLine ∧ Paired (RepW K F al) ws vs := by
  cases c with
  | lst xs =>
    cases h
    obtain ⟨vs, h, z, p⟩ := s.lstAt e ea
    exact ⟨vs, h, z, pMapD p⟩
  | lstW us =>
    cases h
    exact s.lstWAt e ea
  | _ => cases h
/-- xs.append(y) -/
@[simp] def fApp : FM := fun mu x ws Q => match x, ws with
  | .loc k, [y] => match mu[k]? with
    | some (.lst xs) => match y with
      | .d d => xs.length < sizeLine ∧ Q (.d .non) (mu.set k (.lst (xs ++ [d])))
      | y => xs.length < sizeLine ∧ Q (.d .non) (mu.set k (mkL (xs.map .d ++ [y])))
    | some (.lstW us) => us.length < sizeLine ∧ Q (.d .non) (mu.set k (.lstW (us ++ [y])))
    | _ => False
  | _, _ => False
theorem md_app : MtD K rAppend fApp := fun G B F H al rh si mu x vx ws vs Qd Q s r rw_ h q => by
  unfold fApp at h
  split at h
  · rename_i k y
    obtain ⟨v, rfl, r'⟩ := pair1 rw_
    cases r with
    | loc ea =>
      rename_i a
      split at h
      · rename_i xs e
        obtain ⟨vs, hH, z, p⟩ := s.s.lstAt e ea
        have l := Paired.length p
        split at h
        · rename_i d
          refine ⟨a, vs, v, rfl, rfl, hH, by have := h.1; omega, q F _ al _ _ _ (Ext.refl _ _) (s.step (Ext.refl _ _) (s.s.put ea (.lst ?_ (pApp p (pOne ?_))))) (.d .non) h.2⟩
          · rw [List.length_append, List.length_singleton]; have := h.1; omega
          · cases r' with
            | d r' => exact r'
        · refine ⟨a, vs, v, rfl, rfl, hH, by have := h.1; omega, q F _ al _ _ _ (Ext.refl _ _) (s.step (Ext.refl _ _) (s.s.put ea (mkL_rep ?_ (pApp (pMapD p) (pOne r'))))) (.d .non) h.2⟩
          rw [List.length_append, List.length_singleton]; have := h.1; omega
      · rename_i us e
        obtain ⟨vs, hH, z, p⟩ := s.s.lstWAt e ea
        have l := Paired.length p
        refine ⟨a, vs, v, rfl, rfl, hH, by have := h.1; omega, q F _ al _ _ _ (Ext.refl _ _) (s.step (Ext.refl _ _) (s.s.put ea (.lstW ?_ (pApp p (pOne r'))))) (.d .non) h.2⟩
        rw [List.length_append, List.length_singleton]; have := h.1; omega
      · exact h.elim
  · exact h.elim
/-- xs.pop() -/
@[simp] def fPop : FM := fun mu x ws Q => match x, ws with
  | .loc k, [] => match mu[k]? with
    | some (.lst xs) => ∃ d, xs.getLast? = some d ∧ Q (.d d) (mu.set k (.lst xs.dropLast))
    | some (.lstW us) => ∃ u, us.getLast? = some u ∧ Q u (mu.set k (.lstW us.dropLast))
    | _ => False
  | _, _ => False
theorem md_pop : MtD K rPop fPop := fun G B F H al rh si mu x vx ws vs Qd Q s r rw_ h q => by
  unfold fPop at h
  split at h
  · rename_i k
    cases rw_
    cases r with
    | loc ea =>
      rename_i a
      split at h
      · rename_i xs e
        obtain ⟨d, e1, h⟩ := h
        obtain ⟨vs, hH, z, p⟩ := s.s.lstAt e ea
        rw [List.getLast?_eq_getElem?] at e1
        obtain ⟨v, e2, rv⟩ := pGetL p e1
        have l := Paired.length p
        refine ⟨a, vs, v, rfl, rfl, hH, by rw [← l]; exact e2, q F _ al _ _ _ (Ext.refl _ _) (s.step (Ext.refl _ _) (s.s.put ea (.lst ?_ (pDropLast p)))) (.d rv) h⟩
        rw [List.length_dropLast]; omega
      · rename_i us e
        obtain ⟨d, e1, h⟩ := h
        obtain ⟨vs, hH, z, p⟩ := s.s.lstWAt e ea
        rw [List.getLast?_eq_getElem?] at e1
        obtain ⟨v, e2, rv⟩ := pGetL p e1
        have l := Paired.length p
        refine ⟨a, vs, v, rfl, rfl, hH, by rw [← l]; exact e2, q F _ al _ _ _ (Ext.refl _ _) (s.step (Ext.refl _ _) (s.s.put ea (.lstW ?_ (pDropLast p)))) rv h⟩
        rw [List.length_dropLast]; omega
      · exact h.elim
  · exact h.elim
/-- xs.extend(ys) -/
def rExtend2 : V → List V → Hp → VK → Prop := fun x vs H Q => ∃ l b xs zs, x = .ref l ∧ vs = [.ref b] ∧ H l = some (.lst xs) ∧ Rd H b (.lst zs) ∧ xs.length + zs.length ≤ sizeLine ∧ Q .non (upd H l (.lst (xs ++ zs)))
theorem mt_extend2 {X : Cx} : MtM X "list.extend" rExtend2 := by
  intro pins s σ H x vs v us Q I rx rv h
  obtain ⟨l, b, xs, zs, rfl, rfl, hH, hB, hz, q⟩ := h
  cases rx
  obtain ⟨u, rfl, ru⟩ := rv.one
  cases ru
  obtain ⟨z, its, n, r, hl, e⟩ := I.lstM hH
  obtain ⟨z2, its2, n2, r2, hl2, e2⟩ := Inv_lstR I hB
  have hsz : its.toArray.size + its2.toArray.size ≤ sizeLine := by rw [List.size_toArray, List.size_toArray]; omega
  have hlong : ¬ (!its.toArray.isEmpty && Builtin.List.listTooLong (its.toArray.size + its2.toArray.size)) = true := by
    rw [notLongL hsz, Bool.and_false]
    exact Bool.false_ne_true
  refine call_meets F.slot_list_extend ⟨_, e, rfl⟩ F.entry_list_extend (F.args_list_extend_2 _ _)
    (AutoSeq1.list_extend_list_list_0 l its.toArray n b its2.toArray n2 hlong (by rw [List.size_toArray]; omega) (by omega)) ⟨e, e2, ?_⟩
  refine ⟨.non, _, I.lset (its' := its ++ its2) hH e (by simp) (r.append r2) ?_, rfl, q⟩
  rw [List.length_append]
  omega
@[simp] def fExt : FM := fun mu x ws Q => match x, ws with
  | .loc k, [y] => match mu[k]?, lsD mu y with
    | some (.lst xs), some ys => xs.length + ys.length ≤ sizeLine ∧ Q (.d .non) (mu.set k (.lst (xs ++ ys)))
    | _, _ => False
  | _, _ => False
theorem md_ext : MtD K rExtend2 fExt := fun G B F H al rh si mu x vx ws vs Qd Q s r rw_ h q => by
  unfold fExt at h
  split at h
  · rename_i k y
    obtain ⟨v, rfl, r'⟩ := pair1 rw_
    cases r with
    | loc ea =>
      rename_i a
      split at h
      · rename_i xs ys e e'
        obtain ⟨vs, hH, z, p⟩ := s.s.lstAt e ea
        obtain ⟨b, us, rfl, hB, z', p'⟩ := lsD_rep s.s r' e'
        have l := Paired.length p
        have l' := Paired.length p'
        refine ⟨a, b, vs, us, rfl, rfl, hH, hB, by have := h.1; omega, q F _ al _ _ _ (Ext.refl _ _) (s.step (Ext.refl _ _) (s.s.put ea (.lst ?_ (pApp p p')))) (.d .non) h.2⟩
        rw [List.length_append]; have := h.1; omega
      · exact h.elim
  · exact h.elim
/-- xs.reverse(), xs.clear() -/
@[simp] def fRev : FM := fun mu x ws Q => match x, ws with
  | .loc k, [] => match mu[k]? with
    | some (.lst xs) => Q (.d .non) (mu.set k (.lst xs.reverse))
    | some (.lstW xs) => Q (.d .non) (mu.set k (.lstW xs.reverse))
    | _ => False
  | _, _ => False
theorem md_rev : MtD K rReverse fRev := fun G B F H al rh si mu x vx ws vs Qd Q s r rw_ h q => by
  unfold fRev at h
  split at h
  · rename_i k
    cases rw_
    cases r with
    | loc ea =>
      rename_i a
      split at h
      · rename_i xs e
        obtain ⟨vs, hH, z, p⟩ := s.s.lstAt e ea
        exact ⟨a, vs, rfl, rfl, hH, q F _ al _ _ _ (Ext.refl _ _) (s.step (Ext.refl _ _) (s.s.put ea (.lst (by rw [List.length_reverse]; exact z) (pRev p)))) (.d .non) h⟩
      · rename_i xs e
        obtain ⟨vs, hH, z, p⟩ := s.s.lstWAt e ea
        exact ⟨a, vs, rfl, rfl, hH, q F _ al _ _ _ (Ext.refl _ _) (s.step (Ext.refl _ _) (s.s.put ea (.lstW (by rw [List.length_reverse]; exact z) (pRev p)))) (.d .non) h⟩
      · exact h.elim
  · exact h.elim
@[simp] def fClear : FM := fun mu x ws Q => match x, ws with
  | .loc k, [] => match (mu[k]?).bind itsC with
    | some _ => Q (.d .non) (mu.set k (.lst []))
    | _ => False
  | _, _ => False
theorem md_clear : MtD K rClear fClear := fun G B F H al rh si mu x vx ws vs Qd Q s r rw_ h q => by
  unfold fClear at h
  split at h
  · rename_i k
    cases rw_
    cases r with
    | loc ea =>
      rename_i a
      split at h
      · rename_i us e
        cases e1 : mu[k]? with
        | none => rw [e1] at e; cases e
        | some c =>
          rw [e1] at e
          obtain ⟨vs, hH, z, p⟩ := itsC_rep s.s e1 ea e
          exact ⟨a, vs, rfl, rfl, hH, q F _ al _ _ _ (Ext.refl _ _) (s.step (Ext.refl _ _) (s.s.put ea (.lst (Nat.zero_le _) .nil))) (.d .non) h⟩
      · exact h.elim
  · exact h.elim
end
section
variable {io : Type} {Y : io → Cx} {P : Program} {w : World} {K : KW} {mg : Str → Option Value} {base : Heap} {N : List Str} {k : Nat} {cpos apos : Pos} {o e : Expr} {es : List Expr} {wo : WE} {ga : WA} {id : String} {name : Str} {r : V → List V → Hp → VK → Prop} {f : FM}
theorem ve_bm (y : YOk Y P w K mg base N k) (pa : PlainAttrs "list") (slot : Slot "list" name id) (hty : typeOf (.builtin id) = pure (.type "method_descriptor")) (hm : ∀ i, MtR (Y i) id r) (hd : MtD K r f) (ho : VE Y K o wo) (ha : VA Y K (e :: es) ga)
    (hbase : ∀ i, attributeBase o name (Y i).env (eval o (Y i).env) = eval o (Y i).env := by exact fun _ => rfl)
    (hfew : ∀ i, ((backTo cpos (starEach (e :: es) (Y i).env)).all (fun x => !x.1) && (backToKw cpos (keywordEach [] (Y i).env)).all (fun x => x.1.isSome)
      && decide ((e :: es).length + ([] : List Keyword).length + (if ([] : List Keyword).isEmpty then 0 else 1) < 30)) = true := by exact fun _ => rfl)
    (hline : (apos.endLine == cpos.line) = true := by rfl) (hs : ∀ i, starEach (e :: es) (Y i).env = (false, eval e (Y i).env) :: starEach es (Y i).env := by exact fun _ => rfl) (hplain : ∀ i, (backTo cpos (starEach es (Y i).env)).any (·.1) = false := by exact fun _ => rfl) :
    VE Y K (.Call (.Attribute o name apos) (e :: es) [] cpos) (wBM f wo ga) := by
  obtain ⟨t, p, d⟩ := ho
  obtain ⟨t2, p2, d2⟩ := ha
  refine ⟨tBM K "list" r t t2, fun i => by rw [← y.hK i]; exact pe_bm pa slot hty (hm i) (p i) (p2 i) (hbase i) (hfew i) hline (hs i) (hplain i), fun G B F H al rh si mu Qd Q s h q => ?_⟩
  refine d G B F H al rh si mu _ _ s h fun F1 H1 al1 mu1 x vx e1 s1 r1 h1 => ⟨isL_ok s1.s r1 h1.1, ?_⟩
  refine d2 G B F1 H1 al1 rh si mu1 _ _ s1 h1.2 fun F2 H2 al2 mu2 ws vs e2 s2 r2 h2 => ?_
  exact hd G B F2 H2 al2 rh si mu2 x vx ws vs Qd Q s2 (r1.mono e2) r2 h2 fun F3 H3 al3 mu3 z vz e3 => q F3 H3 al3 mu3 z vz ((e1.trans e2).trans e3)
theorem ve_bm0 (y : YOk Y P w K mg base N k) (pa : PlainAttrs "list") (slot : Slot "list" name id) (hty : typeOf (.builtin id) = pure (.type "method_descriptor")) (hm : ∀ i, MtR (Y i) id r) (hd : MtD K r f) (ho : VE Y K o wo)
    (hbase : ∀ i, attributeBase o name (Y i).env (eval o (Y i).env) = eval o (Y i).env := by exact fun _ => rfl) (hline : (apos.endLine == cpos.line) = true := by rfl) : VE Y K (.Call (.Attribute o name apos) [] [] cpos) (wBM f wo wNil) := by
  obtain ⟨t, p, d⟩ := ho
  refine ⟨tBM0 K "list" r t, fun i => by rw [← y.hK i]; exact pe_bm0 pa slot hty (hm i) (p i) (hbase i) hline, fun G B F H al rh si mu Qd Q s h q => ?_⟩
  refine d G B F H al rh si mu _ _ s h fun F1 H1 al1 mu1 x vx e1 s1 r1 h1 => ⟨isL_ok s1.s r1 h1.1, ?_⟩
  exact hd G B F1 H1 al1 rh si mu1 x vx [] [] Qd Q s1 r1 .nil h1.2 fun F3 H3 al3 mu3 z vz e3 => q F3 H3 al3 mu3 z vz (e1.trans e3)
theorem ve_append (y : YOk Y P w K mg base N k) (ho : VE Y K o wo) (ha : VA Y K [e] ga)
    (hbase : ∀ i, attributeBase o "append" (Y i).env (eval o (Y i).env) = eval o (Y i).env := by exact fun _ => rfl)
    (hfew : ∀ i, ((backTo cpos (starEach [e] (Y i).env)).all (fun x => !x.1) && (backToKw cpos (keywordEach [] (Y i).env)).all (fun x => x.1.isSome)
      && decide ([e].length + ([] : List Keyword).length + (if ([] : List Keyword).isEmpty then 0 else 1) < 30)) = true := by exact fun _ => rfl)
    (hline : (apos.endLine == cpos.line) = true := by rfl) (hs : ∀ i, starEach [e] (Y i).env = (false, eval e (Y i).env) :: starEach [] (Y i).env := by exact fun _ => rfl) :
    VE Y K (.Call (.Attribute o "append" apos) [e] [] cpos) (wBM fApp wo ga) := ve_bm y PySem.F.plainAttrs_list PySem.F.slot_list_append PySem.F.type_list_append (fun _ => mt_append) md_app ho ha hbase hfew hline hs
theorem ve_extend (y : YOk Y P w K mg base N k) (ho : VE Y K o wo) (ha : VA Y K [e] ga)
    (hbase : ∀ i, attributeBase o "extend" (Y i).env (eval o (Y i).env) = eval o (Y i).env := by exact fun _ => rfl)
    (hfew : ∀ i, ((backTo cpos (starEach [e] (Y i).env)).all (fun x => !x.1) && (backToKw cpos (keywordEach [] (Y i).env)).all (fun x => x.1.isSome)
      && decide ([e].length + ([] : List Keyword).length + (if ([] : List Keyword).isEmpty then 0 else 1) < 30)) = true := by exact fun _ => rfl)
    (hline : (apos.endLine == cpos.line) = true := by rfl) (hs : ∀ i, starEach [e] (Y i).env = (false, eval e (Y i).env) :: starEach [] (Y i).env := by exact fun _ => rfl) :
    VE Y K (.Call (.Attribute o "extend" apos) [e] [] cpos) (wBM fExt wo ga) := ve_bm y PySem.F.plainAttrs_list PySem.F.slot_list_extend PySem.F.type_list_extend (fun _ => mt_extend2) md_ext ho ha hbase hfew hline hs
theorem ve_pop (y : YOk Y P w K mg base N k) (ho : VE Y K o wo) (hbase : ∀ i, attributeBase o "pop" (Y i).env (eval o (Y i).env) = eval o (Y i).env := by exact fun _ => rfl) (hline : (apos.endLine == cpos.line) = true := by rfl) :
    VE Y K (.Call (.Attribute o "pop" apos) [] [] cpos) (wBM fPop wo wNil) := ve_bm0 y PySem.F.plainAttrs_list PySem.F.slot_list_pop PySem.F.type_list_pop (fun _ => mt_pop) md_pop ho hbase hline
theorem ve_reverse (y : YOk Y P w K mg base N k) (ho : VE Y K o wo) (hbase : ∀ i, attributeBase o "reverse" (Y i).env (eval o (Y i).env) = eval o (Y i).env := by exact fun _ => rfl) (hline : (apos.endLine == cpos.line) = true := by rfl) :
    VE Y K (.Call (.Attribute o "reverse" apos) [] [] cpos) (wBM fRev wo wNil) := ve_bm0 y PySem.F.plainAttrs_list PySem.F.slot_list_reverse PySem.F.type_list_reverse (fun _ => mt_reverse) md_rev ho hbase hline
theorem ve_clear (y : YOk Y P w K mg base N k) (ho : VE Y K o wo) (hbase : ∀ i, attributeBase o "clear" (Y i).env (eval o (Y i).env) = eval o (Y i).env := by exact fun _ => rfl) (hline : (apos.endLine == cpos.line) = true := by rfl) :
    VE Y K (.Call (.Attribute o "clear" apos) [] [] cpos) (wBM fClear wo wNil) := ve_bm0 y PySem.F.plainAttrs_list PySem.F.slot_list_clear PySem.F.type_list_clear (fun _ => mt_clear) md_clear ho hbase hline
end
end VL
namespace VL
open PySem PySem.Spec PyProof.Rows L2

abbrev un (X : Cx) : Unit → Cx := fun _ => X
def VS (X : Cx) (K : KW) (st : Stmt) (f : WS) : Prop := ∃ t, PS X st t ∧ DenS K t f
def VSs (X : Cx) (K : KW) (sts : List Stmt) (f : WS) : Prop := ∃ t, PSs X sts t ∧ DenS K t f

section
variable {X : Cx} {P : Program} {w : World} {K : KW} {mg : Str → Option Value} {base : Heap} {N : List Str} {k : Nat} {st : Stmt} {rest : List Stmt} {f g : WS} {e : Expr} {we : WE} {pos : Pos}
/-! ### blocks -/
@[simp] def wNext : WS := fun V rh mu => V.nx rh mu
@[simp] def wSeq (f g : WS) : WS := fun V rh mu => f { V with nx := g V } rh mu
theorem dens_next : DenS K tNext wNext := fun G B F H al rh si mu V1 D1 s h b => b.nx F H al rh si mu (Ext.refl _ _) s h
theorem vss_nil : VSs X K [] wNext := ⟨_, pss_nil, dens_next⟩
theorem vss_one (h : VS X K st f) : VSs X K [st] f := by
  obtain ⟨t, p, d⟩ := h
  exact ⟨t, pss_one p, d⟩
theorem vss_cons (h : VS X K st f) (hr : VSs X K rest g) : VSs X K (st :: rest) (wSeq f g) := by
  obtain ⟨t, p, d⟩ := h
  obtain ⟨u, p', d'⟩ := hr
  refine ⟨_, pss_cons p p', fun G B F H al rh si mu V1 D1 s h b => ?_⟩
  refine d G B F H al rh si mu _ _ s h ⟨fun F' H' al' rh' si' mu' x s' h' => ?_, b.rt, b.bk, b.ct⟩
  exact d' G B F' H' al' rh' si' mu' V1 D1 s' h' (b.mono x)
theorem vs_pass : VS X K (.Pass pos) wNext := ⟨_, ps_pass, dens_next⟩
theorem vs_doc {x j pos pos'} : VS X K (.Expr (.Constant (.str x) j pos) pos') wNext := ⟨_, ps_doc, dens_next⟩
@[simp] def wNever : WS := fun _ _ _ => False
theorem vs_never : VS X K st wNever := ⟨_, ps_never, fun G B F H al rh si mu V1 D1 s h b => h.elim⟩
theorem vss_never {sts : List Stmt} : VSs X K sts wNever := ⟨_, pss_never, fun G B F H al rh si mu V1 D1 s h b => h.elim⟩
@[simp] def wDrop (a : WE) : WS := fun V rh mu => a rh mu fun _ mu1 => V.nx rh mu1
theorem vs_expr (he : VE (un X) K e we) (hs : swapsWith e none pos.line X.env = pure false := by rfl) : VS X K (.Expr e pos) (wDrop we) := by
  obtain ⟨t, p, d⟩ := he
  refine ⟨_, ps_expr (p ()) hs, fun G B F H al rh si mu V1 D1 s h b => ?_⟩
  exact d G B F H al rh si mu _ _ s h fun F1 H1 al1 mu1 x vx e1 s1 r1 h1 => b.nx F1 H1 al1 rh si mu1 e1 s1 h1
@[simp] def wRet (a : WE) : WS := fun V rh mu => a rh mu V.rt
theorem vs_ret (he : VE (un X) K e we) : VS X K (.Return (some e) pos) (wRet we) := by
  obtain ⟨t, p, d⟩ := he
  refine ⟨_, ps_ret (p ()), fun G B F H al rh si mu V1 D1 s h b => ?_⟩
  exact d G B F H al rh si mu _ _ s h fun F1 H1 al1 mu1 x vx e1 s1 r1 h1 => b.rt F1 H1 al1 mu1 x vx e1 s1.s r1 h1
@[simp] def wRetN : WS := fun V _ mu => V.rt (.d .non) mu
theorem vs_retN : VS X K (.Return none pos) wRetN := ⟨_, ps_retN, fun G B F H al rh si mu V1 D1 s h b => b.rt F H al mu _ _ (Ext.refl _ _) s.s (.d .non) h⟩
@[simp] def wIfS (c : WT) (f g : WS) : WS := fun V rh mu => c rh mu fun b mu1 => if b = true then f V rh mu1 else g V rh mu1
theorem vs_if {c : Expr} {a b : List Stmt} {fc : WT} (hc : VT (un X) K c fc) (ha : VSs X K a f) (hb : VSs X K b g) : VS X K (.If c a b pos) (wIfS fc f g) := by
  obtain ⟨t, p, d⟩ := hc
  obtain ⟨t1, p1, d1⟩ := ha
  obtain ⟨t2, p2, d2⟩ := hb
  refine ⟨_, ps_if (p ()) p1 p2, fun G B F H al rh si mu V1 D1 s h b => ?_⟩
  refine d G B F H al rh si mu _ _ s h fun F1 H1 al1 mu1 x e1 s1 h1 => ?_
  cases x with
  | true => exact iteT (d1 G B F1 H1 al1 rh si mu1 V1 D1 s1 (by simpa using h1) (b.mono e1))
  | false => exact iteF (d2 G B F1 H1 al1 rh si mu1 V1 D1 s1 (by simpa using h1) (b.mono e1))

/-! ### targets -/
abbrev WG := W → Ev → Sto → (Ev → Sto → Prop) → Prop
abbrev WGs := List W → Ev → Sto → (Ev → Sto → Prop) → Prop
def DenG (K : KW) (t : TG) (f : WG) : Prop := ∀ (G B F H : Hp) (al : List Addr) (rh : Ev) (si : L2.St) (mu : Sto) (x : W) (v : V) (Qd : Ev → Sto → Prop) (Q : L2.St → Hp → Prop), SR K G B F H al rh si mu → RepW K F al x v → f x rh mu Qd →
  (∀ F' H' al' rh' si' mu', Ext F al F' al' → SR K G B F' H' al' rh' si' mu' → Qd rh' mu' → Q si' H') → t v si H Q
def DenGs (K : KW) (t : TGs) (f : WGs) : Prop := ∀ (G B F H : Hp) (al : List Addr) (rh : Ev) (si : L2.St) (mu : Sto) (x : List W) (v : List V) (Qd : Ev → Sto → Prop) (Q : L2.St → Hp → Prop), SR K G B F H al rh si mu → Paired (RepW K F al) x v → f x rh mu Qd →
  (∀ F' H' al' rh' si' mu', Ext F al F' al' → SR K G B F' H' al' rh' si' mu' → Qd rh' mu' → Q si' H') → t v si H Q
/-- it stores to the slots vs alone -/
def GKeep (vs : List Nat) (t : TG) : Prop := ∀ v σ H Q Q', (∀ σ' H', wipe σ' vs = wipe σ vs → Q σ' H' → Q' σ' H') → t v σ H Q → t v σ H Q'
def GKeeps (vs : List Nat) (t : TGs) : Prop := ∀ v σ H Q Q', (∀ σ' H', wipe σ' vs = wipe σ vs → Q σ' H' → Q' σ' H') → t v σ H Q → t v σ H Q'
def VG {io : Type} (Y : io → Cx) (K : KW) (tg : Expr) (f : WG) : Prop := ∃ t, (∀ i, PG (Y i) tg t) ∧ DenG K t f
def VGs {io : Type} (Y : io → Cx) (K : KW) (tg : List Expr) (f : WGs) : Prop := ∃ t, (∀ i, PGs (Y i) tg t) ∧ DenGs K t f
def VK {io : Type} (Y : io → Cx) (K : KW) (tg : Expr) (f : WG) (vs : List Nat) : Prop := ∃ t, (∀ i, PG (Y i) tg t) ∧ DenG K t f ∧ GKeep vs t
def VKs {io : Type} (Y : io → Cx) (K : KW) (tg : List Expr) (f : WGs) (vs : List Nat) : Prop := ∃ t, (∀ i, PGs (Y i) tg t) ∧ DenGs K t f ∧ GKeeps vs t
theorem VK.vg {io : Type} {Y : io → Cx} {K : KW} {tg : Expr} {f : WG} {vs : List Nat} (h : VK Y K tg f vs) : VG Y K tg f := by
  obtain ⟨t, a, b, _⟩ := h
  exact ⟨t, a, b⟩
@[simp] def wgName (i : Nat) : WG := fun x rh mu Q => Q (rh.set i (some x)) mu
theorem wipe_set (σ : L2.St) (i : Nat) (x : Option V) : ∀ vs : List Nat, i ∈ vs → wipe (σ.set i x) vs = wipe σ vs
  | [], h => by cases h
  | v :: vs, h => by
    unfold wipe
    by_cases q : i = v
    · subst q
      have : ∀ us : List Nat, (wipe (σ.set i x) us).set i none = (wipe σ us).set i none := fun us => by
        induction us with
        | nil => show (σ.set i x).set i none = σ.set i none; rw [List.set_set]
        | cons u us ih =>
          unfold wipe
          by_cases z : u = i
          · subst z; rw [List.set_set, List.set_set, ih]
          · rw [List.set_comm _ _ z, List.set_comm _ _ z, ih]
      exact this vs
    · rw [wipe_set σ i x vs (by rcases List.mem_cons.mp h with z | z; exact absurd z q; exact z)]
section
variable {io : Type} {Y : io → Cx}
theorem den_gName (i : Nat) : DenG K (gName i) (wgName i) := fun G B F H al rh si mu x v Qd Q s r h q => q F H al _ _ mu (Ext.refl _ _) (s.set r) h
theorem vk_name (y : YOk Y P w K mg base N k) (i : Nat) {x : Str} (vs : List Nat) (hi : N[i]? = some x := by rfl) (hx : ∀ j, Loc (Y j).env.scope x := by first | exact fun _ => Or.inl rfl | exact fun _ => Or.inr rfl) (hf : ∀ j, (Y j).fn x = true ∨ (Y j).env.scope.names.lookup x = some .local := by first | exact fun _ => Or.inl rfl | exact fun _ => Or.inr rfl) (hv : i ∈ vs := by decide) :
    VK Y K (.Name x pos) (wgName i) vs :=
  ⟨_, fun j => pg_name (by rw [y.hN j]; exact y.nd) (by rw [y.hN j]; exact hi) (hx j) (hf j), den_gName i, fun v σ H Q Q' k h => k _ _ (wipe_set σ i _ vs hv) h⟩
@[simp] def wgNil : WGs := fun xs rh mu Q => match xs with
  | [] => Q rh mu
  | _ :: _ => False
@[simp] def wgCons (f : WG) (g : WGs) : WGs := fun xs rh mu Q => match xs with
  | x :: r => f x rh mu fun rh' mu' => g r rh' mu' Q
  | [] => False
theorem den_gNil : DenGs K gNil wgNil := fun G B F H al rh si mu x v Qd Q s r h q => by
  cases r with
  | nil => exact ⟨rfl, q F H al rh si mu (Ext.refl _ _) s h⟩
  | cons _ _ => exact h.elim
theorem den_gCons {t : TG} {u : TGs} {f : WG} {g : WGs} (d : DenG K t f) (d2 : DenGs K u g) : DenGs K (gCons t u) (wgCons f g) := fun G B F H al rh si mu x v Qd Q s r h q => by
  unfold wgCons at h
  split at h
  · cases r with
    | cons r rr =>
      refine ⟨_, _, rfl, d G B F H al rh si mu _ _ _ _ s r h fun F1 H1 al1 rh1 si1 mu1 e1 s1 h1 => ?_⟩
      exact d2 G B F1 H1 al1 rh1 si1 mu1 _ _ _ _ s1 (Paired.mapP rr fun _ _ z => z.mono e1) h1 fun F2 H2 al2 rh2 si2 mu2 e2 => q F2 H2 al2 rh2 si2 mu2 (e1.trans e2)
  · exact h.elim
theorem vks_nil (vs : List Nat) : VKs Y K [] wgNil vs := ⟨_, fun _ => pgs_nil, den_gNil, fun v σ H Q Q' k h => ⟨h.1, k _ _ rfl h.2⟩⟩
theorem vks_cons {es : List Expr} {fg : WG} {fgs : WGs} {vs : List Nat} (h1 : VK Y K e fg vs) (h2 : VKs Y K es fgs vs) (hs : ∀ i, (assignEach (e :: es) (Y i).env).map (·.2) = assign e (Y i).env :: (assignEach es (Y i).env).map (·.2) := by exact fun _ => rfl) : VKs Y K (e :: es) (wgCons fg fgs) vs := by
  obtain ⟨t, p, d, kp⟩ := h1
  obtain ⟨t2, p2, d2, kp2⟩ := h2
  refine ⟨_, fun i => pgs_cons (p i) (p2 i) (hs i), den_gCons d d2, fun v σ H Q Q' k h => ?_⟩
  obtain ⟨x, r, rfl, h⟩ := h
  exact ⟨x, r, rfl, kp x σ H _ _ (fun σ1 H1 w1 h1 => kp2 r σ1 H1 Q Q' (fun σ' H' w2 q => k σ' H' (w2.trans w1) q) h1) h⟩
theorem vgs_nil : VGs Y K [] wgNil := ⟨_, fun _ => pgs_nil, den_gNil⟩
theorem vgs_cons {es : List Expr} {fg : WG} {fgs : WGs} (h1 : VG Y K e fg) (h2 : VGs Y K es fgs) (hs : ∀ i, (assignEach (e :: es) (Y i).env).map (·.2) = assign e (Y i).env :: (assignEach es (Y i).env).map (·.2) := by exact fun _ => rfl) : VGs Y K (e :: es) (wgCons fg fgs) := by
  obtain ⟨t, p, d⟩ := h1
  obtain ⟨t2, p2, d2⟩ := h2
  exact ⟨_, fun i => pgs_cons (p i) (p2 i) (hs i), den_gCons d d2⟩
/-- (a, b, ..) = a tuple -/
@[simp] def wgTup (n : Nat) (g : WGs) : WG := fun x rh mu Q => match x with
  | .d (.tup xs) => xs.length = n ∧ g (xs.map .d) rh mu Q
  | .tup ws => ws.length = n ∧ g ws rh mu Q
  | _ => False
theorem den_gTup {t : TGs} {g : WGs} (n : Nat) (d : DenGs K t g) : DenG K (gTup K n t) (wgTup n g) := fun G B F H al rh si mu x v Qd Q s r h q => by
  unfold wgTup at h
  split at h
  · obtain ⟨a, vs, rfl, hs, z, p⟩ := repTup r
    exact ⟨a, vs, rfl, sqtMono s.s.fz hs, by rw [← Paired.length p]; exact h.1, d G B F H al rh si mu _ _ _ _ s (pMapD p) h.2 q⟩
  · cases r with
    | tup hs z p => exact ⟨_, _, rfl, sqtMono s.s.fz hs, by rw [← Paired.length p.p]; exact h.1, d G B F H al rh si mu _ _ _ _ s p.p h.2 q⟩
  · exact h.elim
theorem vk_tup (y : YOk Y P w K mg base N k) {es : List Expr} {kk : Nat} {g : WGs} (n : Nat) {vs : List Nat} (h : VKs Y K es g vs) (hn : ∀ i, (assignEach es (Y i).env).length = n := by exact fun _ => rfl) (hst : ∀ i, (assignEach es (Y i).env).findIdx? (·.1) = none := by exact fun _ => rfl) : VK Y K (.Tuple es kk pos) (wgTup n g) vs := by
  obtain ⟨t, p, d, kp⟩ := h
  refine ⟨gTup K n t, fun i => by rw [← y.hK i]; exact pg_tup (y.calm i) (p i) (hn i) (hst i), den_gTup n d, fun v σ H Q Q' k h => ?_⟩
  obtain ⟨a, xs, e, hs, l, h⟩ := h
  exact ⟨a, xs, e, hs, l, kp xs σ H Q Q' k h⟩
theorem vg_tup (y : YOk Y P w K mg base N k) {es : List Expr} {kk : Nat} {g : WGs} (n : Nat) (h : VGs Y K es g) (hn : ∀ i, (assignEach es (Y i).env).length = n := by exact fun _ => rfl) (hst : ∀ i, (assignEach es (Y i).env).findIdx? (·.1) = none := by exact fun _ => rfl) : VG Y K (.Tuple es kk pos) (wgTup n g) := by
  obtain ⟨t, p, d⟩ := h
  exact ⟨gTup K n t, fun i => by rw [← y.hK i]; exact pg_tup (y.calm i) (p i) (hn i) (hst i), den_gTup n d⟩
/-- o[i] = .. of a list -/
abbrev FSet := Sto → W → W → W → (Sto → Prop) → Prop
def SetD (K : KW) (t : TSet) (f : FSet) : Prop := ∀ (G B F H : Hp) (al : List Addr) (rh : Ev) (si : L2.St) (mu : Sto) (o i x : W) (vo vi v : V) (Qd : Sto → Prop) (Q : Hp → Prop), SR K G B F H al rh si mu → RepW K F al o vo → RepW K F al i vi → RepW K F al x v → f mu o i x Qd →
  (∀ F' H' al' mu', Ext F al F' al' → SR K G B F' H' al' rh si mu' → Qd mu' → Q H') → t vo vi v H Q
@[simp] def fSetL : FSet := fun mu o i x Q => match o, i with
  | .loc k, .d (.int n) => match mu[k]? with
    | some (.lst xs) => ∃ j, ixN xs.length n = some j ∧ match x with
      | .d d => Q (mu.set k (.lst (xs.set j d)))
      | x => Q (mu.set k (mkL ((xs.map .d).set j x)))
    | some (.lstW ws) => ∃ j, ixN ws.length n = some j ∧ Q (mu.set k (.lstW (ws.set j x)))
    | _ => False
  | _, _ => False
theorem sd_list : SetD K rSetL fSetL := fun G B F H al rh si mu o i x vo vi v Qd Q s ro ri rx h q => by
  unfold fSetL at h
  split at h
  · rename_i k n
    cases repInt ri
    cases ro with
    | loc ea =>
      rename_i a
      split at h
      · rename_i xs e
        obtain ⟨j, e1, h⟩ := h
        obtain ⟨vs, hH, z, p⟩ := s.s.lstAt e ea
        have l := Paired.length p
        split at h
        · rename_i d
          have rd : RepD K F d v := by cases rx with | d r => exact r
          exact ⟨a, vs, n, j, rfl, rfl, hH, by rw [← l]; exact e1, q F _ al _ (Ext.refl _ _) (s.step (Ext.refl _ _) (s.s.put ea (.lst (by rw [List.length_set]; exact z) (pSet rd j p)))) h⟩
        · exact ⟨a, vs, n, j, rfl, rfl, hH, by rw [← l]; exact e1, q F _ al _ (Ext.refl _ _) (s.step (Ext.refl _ _) (s.s.put ea (mkL_rep (by rw [List.length_set]; exact z) (pSet rx j (pMapD p))))) h⟩
      · rename_i ws e
        obtain ⟨j, e1, h⟩ := h
        obtain ⟨vs, hH, z, p⟩ := s.s.lstWAt e ea
        have l := Paired.length p
        exact ⟨a, vs, n, j, rfl, rfl, hH, by rw [← l]; exact e1, q F _ al _ (Ext.refl _ _) (s.step (Ext.refl _ _) (s.s.put ea (.lstW (by rw [List.length_set]; exact z) (pSet rx j p)))) h⟩
      · exact h.elim
  · exact h.elim
@[simp] def wgSub (f : FSet) (o i : WE) : WG := fun x rh mu Q => o rh mu fun ov mu1 => i rh mu1 fun iv mu2 => f mu2 ov iv x fun mu3 => Q rh mu3
theorem vg_sub {o i : Expr} {wo wi : WE} {t : TSet} {f : FSet} (ho : VE Y K o wo) (hi : VE Y K i wi) (hs : ∀ j, PSet (Y j) t) (hd : SetD K t f)
    (ha : ∀ j v, assign (.Subscript o i pos) (Y j).env v = (do
      let ov ← holding [v] (eval o (Y j).env)
      let iv ← holding [v, ov] (eval i (Y j).env)
      standAt pos
      holding [v, ov, iv] (setItem ov iv v)
      release [v, ov, iv] []) := by exact fun _ _ => rfl) : VG Y K (.Subscript o i pos) (wgSub f wo wi) := by
  obtain ⟨t1, p1, d1⟩ := ho
  obtain ⟨t2, p2, d2⟩ := hi
  refine ⟨_, fun j => pg_sub (p1 j) (p2 j) (hs j) (ha j), fun G B F H al rh si mu x v Qd Q s r h q => ?_⟩
  refine d1 G B F H al rh si mu _ _ s h fun F1 H1 al1 mu1 ov vo e1 s1 r1 h1 => ?_
  refine d2 G B F1 H1 al1 rh si mu1 _ _ s1 h1 fun F2 H2 al2 mu2 iv vi e2 s2 r2 h2 => ?_
  exact hd G B F2 H2 al2 rh si mu2 ov iv x vo vi v _ _ s2 (r1.mono e2) r2 (r.mono (e1.trans e2)) h2 fun F3 H3 al3 mu3 e3 s3 h3 => q F3 H3 al3 rh si mu3 ((e1.trans e2).trans e3) s3 h3
theorem vg_subL {o i : Expr} {wo wi : WE} (ho : VE Y K o wo) (hi : VE Y K i wi)
    (ha : ∀ j v, assign (.Subscript o i pos) (Y j).env v = (do
      let ov ← holding [v] (eval o (Y j).env)
      let iv ← holding [v, ov] (eval i (Y j).env)
      standAt pos
      holding [v, ov, iv] (setItem ov iv v)
      release [v, ov, iv] []) := by exact fun _ _ => rfl) : VG Y K (.Subscript o i pos) (wgSub fSetL wo wi) := vg_sub ho hi (fun _ => set_list) sd_list ha
end

/-! ### assignments -/
@[simp] def wAsg (a : WE) (g : WG) : WS := fun V rh mu => a rh mu fun x mu1 => g x rh mu1 V.nx
theorem den_asg {te : TE} {g : TG} {fg : WG} (d : Den K te we) (d2 : DenG K g fg) : DenS K (tAsg te g) (wAsg we fg) := fun G B F H al rh si mu V1 D1 s h b => by
  refine d G B F H al rh si mu _ _ s h fun F1 H1 al1 mu1 x vx e1 s1 r1 h1 => ?_
  exact d2 G B F1 H1 al1 rh si mu1 x vx _ _ s1 r1 h1 fun F2 H2 al2 rh2 si2 mu2 e2 s2 h2 => b.nx F2 H2 al2 rh2 si2 mu2 (e1.trans e2) s2 h2
theorem vs_set (y : YOk (un X) P w K mg base N k) (i : Nat) {x : Str} {pos' : Pos} (he : VE (un X) K e we) (hi : N[i]? = some x := by rfl) (hx : Loc X.env.scope x := by first | exact Or.inl rfl | exact Or.inr rfl) (hs : swapsWith e (some (.Name x pos')) pos.line X.env = pure false := by rfl)
    (hf : X.fn x = true ∨ X.env.scope.names.lookup x = some .local := by first | exact .inl rfl | exact .inr rfl) : VS X K (.Assign [.Name x pos'] e pos) (wAsg we (wgName i)) := by
  obtain ⟨t, p, d⟩ := he
  exact ⟨_, ps_set (by have q := y.hN (); show X.N.Nodup; rw [show X.N = N from q]; exact y.nd) (by have q := y.hN (); rw [show X.N = N from q]; exact hi) hx (p ()) hs hf, den_asg d (den_gName i)⟩
theorem vs_asg {tg : Expr} {fg : WG} (he : VE (un X) K e we) (hg : VG (un X) K tg fg) (hs : swapsWithSole [tg] e pos.line X.env = pure false := by rfl) (hw : swappedStores [tg] e X.env = pure none := by rfl)
    (h1 : (assignEach [tg] X.env).map (·.2) = [assign tg X.env] := by rfl) : VS X K (.Assign [tg] e pos) (wAsg we fg) := by
  obtain ⟨t, p, d⟩ := he
  obtain ⟨t2, p2, d2⟩ := hg
  exact ⟨_, ps_asg (p ()) (p2 ()) hs hw h1, den_asg d d2⟩
/-- x op= e -/
@[simp] def wAug (f : F2) (i : Nat) (a : WE) : WS := fun V rh mu => wVar i rh mu fun x _ => a rh mu fun y mu1 => f mu1 x y fun z mu2 => V.nx (rh.set i (some z)) mu2
def IpD (K : KW) (t : TIp) (f : F2) : Prop := OpD K t f
theorem vs_aug (y : YOk (un X) P w K mg base N k) (i : Nat) {x : Str} {op : Operator} {ti : TIp} {f : F2} {pos' : Pos} (he : VE (un X) K e we) (ho : PIp X op ti) (hd : OpD K ti f) (hi : N[i]? = some x := by rfl) (hx : Loc X.env.scope x := by first | exact Or.inl rfl | exact Or.inr rfl)
    (hf : X.fn x = true ∨ X.env.scope.names.lookup x = some .local := by first | exact .inl rfl | exact .inr rfl) : VS X K (.AugAssign (.Name x pos') op e pos) (wAug f i we) := by
  obtain ⟨t, p, d⟩ := he
  have q := y.hN ()
  refine ⟨_, ps_aug (by rw [show X.N = N from q]; exact y.nd) (by rw [show X.N = N from q]; exact hi) hx (p ()) ho hf, fun G B F H al rh si mu V1 D1 s h b => ?_⟩
  unfold wAug wVar at h
  split at h
  · rename_i w0 e0
    obtain ⟨v, e1, r⟩ := s.env i w0 e0
    refine ⟨v, e1, d G B F H al rh si mu _ _ s h fun F1 H1 al1 mu1 z vz x1 s1 r1 h1 => ?_⟩
    exact hd G B F1 H1 al1 rh si mu1 w0 z v vz _ _ s1 (r.mono x1) r1 h1 fun F2 H2 al2 mu2 u vu x2 s2 r2 h2 => b.nx F2 H2 al2 _ _ mu2 (x1.trans x2) (s2.set r2) h2
  · exact h.elim
theorem vs_augAdd (y : YOk (un X) P w K mg base N k) (i : Nat) {x : Str} {pos' : Pos} (he : VE (un X) K e we) (hi : N[i]? = some x := by rfl) (hx : Loc X.env.scope x := by first | exact Or.inl rfl | exact Or.inr rfl)
    (hf : X.fn x = true ∨ X.env.scope.names.lookup x = some .local := by first | exact .inl rfl | exact .inr rfl) : VS X K (.AugAssign (.Name x pos') .Add e pos) (wAug (fI0 fun a b => a + b) i we) := vs_aug y i he ip_add opd_I0 hi hx hf
theorem vs_augSub (y : YOk (un X) P w K mg base N k) (i : Nat) {x : Str} {pos' : Pos} (he : VE (un X) K e we) (hi : N[i]? = some x := by rfl) (hx : Loc X.env.scope x := by first | exact Or.inl rfl | exact Or.inr rfl)
    (hf : X.fn x = true ∨ X.env.scope.names.lookup x = some .local := by first | exact .inl rfl | exact .inr rfl) : VS X K (.AugAssign (.Name x pos') .Sub e pos) (wAug (fI0 fun a b => a - b) i we) := vs_aug y i he ip_sub opd_I0 hi hx hf

/-! ### while -/
def wWhile (c : WT) (b : WS) : WS := fun V rh mu => ∃ I : Nat → Ev → Sto → Prop, (∃ m, I m rh mu) ∧ ∀ m rh mu, I m rh mu → c rh mu fun t mu1 =>
  if t = true then b { V with nx := fun rh' mu' => ∃ m', m' < m ∧ I m' rh' mu', ct := fun rh' mu' => ∃ m', m' < m ∧ I m' rh' mu', bk := V.nx } rh mu1 else V.nx rh mu1
theorem vs_while {c : Expr} {body : List Stmt} {fc : WT} (hp : PassesOwn (model X.prog X.w) X.A X.env X.xe) (hc : VT (un X) K c fc) (hb : VSs X K body f) : VS X K (.While c body [] pos) (wWhile fc f) := by
  obtain ⟨t, p, d⟩ := hc
  obtain ⟨u, p', d'⟩ := hb
  refine ⟨_, ps_while hp (p ()) p', fun G B F H al rh si mu V1 D1 s h b => ?_⟩
  obtain ⟨I, ⟨m0, i0⟩, turn⟩ := h
  refine ⟨fun m σ H1 => ∃ F1 al1 rh1 mu1, Ext F al F1 al1 ∧ SR K G B F1 H1 al1 rh1 σ mu1 ∧ I m rh1 mu1, ⟨m0, F, al, rh, mu, Ext.refl _ _, s, i0⟩, ?_⟩
  rintro m σ H1 ⟨F1, al1, rh1, mu1, e1, s1, i1⟩
  refine d G B F1 H1 al1 rh1 σ mu1 _ _ s1 (turn m rh1 mu1 i1) fun F2 H2 al2 mu2 x e2 s2 h2 => ?_
  cases x with
  | false => exact iteF (b.nx F2 H2 al2 rh1 σ mu2 (e1.trans e2) s2 (by simpa using h2))
  | true =>
    refine iteT ⟨fun σ' H' => ∃ m', m' < m ∧ ∃ F1 al1 rh1 mu1, Ext F al F1 al1 ∧ SR K G B F1 H' al1 rh1 σ' mu1 ∧ I m' rh1 mu1, fun _ _ z => z, ?_⟩
    have again : ∀ F' H' al' rh' si' mu', Ext F2 al2 F' al' → SR K G B F' H' al' rh' si' mu' → (∃ m', m' < m ∧ I m' rh' mu') → ∃ m', m' < m ∧ ∃ F1 al1 rh1 mu1, Ext F al F1 al1 ∧ SR K G B F1 H' al1 rh1 si' mu1 ∧ I m' rh1 mu1 := by
      rintro F' H' al' rh' si' mu' x s' ⟨m', hm, i'⟩
      exact ⟨m', hm, F', al', rh', mu', (e1.trans e2).trans x, s', i'⟩
    refine d' G B F2 H2 al2 rh1 σ mu2 _ _ s2 (by simpa using h2) ⟨again, ?_, ?_, again⟩
    · exact fun F' H' al' mu' w v x => b.rt F' H' al' mu' w v ((e1.trans e2).trans x)
    · exact fun F' H' al' rh' si' mu' x => b.nx F' H' al' rh' si' mu' ((e1.trans e2).trans x)

/-! ### what a loop walks: its items, and what must hold at each turn -/
abbrev WI := Ev → Sto → (List W → (Sto → Prop) → Sto → Prop) → Prop
structure ItD (K : KW) (F : Hp) (al : List Addr) (J : It) (items : List W) (chk : Sto → Prop) : Prop where
  sz : items.length ≤ sizeLine
  go : ∀ (i : Nat) (x : W) G B F' H al' mu, Ext F al F' al' → SRS K G B F' H al' mu → chk mu → items[i]? = some x → J.go i H
  yld : ∀ (i : Nat) (x : W) G B F' H al' mu v H', Ext F al F' al' → SRS K G B F' H al' mu → chk mu → items[i]? = some x → J.yld i H v H' → ∃ F2, Ext F' al' F2 al' ∧ SRS K G B F2 H' al' mu ∧ RepW K F2 al' x v
  stop : ∀ G B F' H al' mu, Ext F al F' al' → SRS K G B F' H al' mu → chk mu → J.stop items.length H
def DenI (K : KW) (t : TI) (f : WI) : Prop := ∀ (G B F H : Hp) (al : List Addr) (rh : Ev) (si : L2.St) (mu : Sto) (Qd : List W → (Sto → Prop) → Sto → Prop) (R : It → Hp → Prop), SR K G B F H al rh si mu → f rh mu Qd →
  (∀ F' H' al' mu' J items chk, Ext F al F' al' → SR K G B F' H' al' rh si mu' → ItD K F' al' J items chk → Qd items chk mu' → R J H') → t si H R
def VI {io : Type} (Y : io → Cx) (K : KW) (tg e : Expr) (f : WI) : Prop := ∃ t, (∀ i, PI (Y i) tg e t) ∧ DenI K t f
/-- the turns -/
@[simp] def forL (chk : Sto → Prop) (g : WG) (b : WS) (V : EV) : List W → Ev → Sto → Prop
  | [], rh, mu => chk mu ∧ V.nx rh mu
  | x :: xs, rh, mu => chk mu ∧ g x rh mu fun rh' mu' => b { V with nx := forL chk g b V xs, ct := forL chk g b V xs, bk := V.nx } rh' mu'
@[simp] def wFor (it : WI) (g : WG) (b : WS) : WS := fun V rh mu => it rh mu fun items chk mu1 => forL chk g b V items rh mu1
theorem vs_for {tg iter : Expr} {body : List Stmt} {fi : WI} {fg : WG} {vs : List Nat} (hp : PassesOwn (model X.prog X.w) X.A X.env X.xe) (hc : X.calm = true) (hi : VI (un X) K tg iter fi) (hg : VK (un X) K tg fg vs) (hb : VSs X K body f)
    (hs : ∀ x, foldedSetIterable iter X.env x = pure x := by intro _; rfl) : VS X K (.For tg iter body [] pos) (wFor fi fg f) := by
  obtain ⟨t, p, d⟩ := hi
  obtain ⟨t2, p2, d2, _⟩ := hg
  obtain ⟨u, p', d'⟩ := hb
  refine ⟨_, ps_for hp hc (p ()) (p2 ()) p' hs, fun G B F H al rh si mu V1 D1 s h b => ?_⟩
  refine d G B F H al rh si mu _ _ s h fun F0 H0 al0 mu0 J items chk e0 s0 it h0 => ?_
  refine ⟨fun i m σ H1 => m = items.length - i ∧ i ≤ items.length ∧ ∃ F1 al1 rh1 mu1, Ext F0 al0 F1 al1 ∧ SR K G B F1 H1 al1 rh1 σ mu1 ∧ forL chk fg f V1 (items.drop i) rh1 mu1, ⟨_, rfl, Nat.zero_le _, F0, al0, rh, mu0, Ext.refl _ _, s0, h0⟩, ?_⟩
  rintro i m σ H1 ⟨rfl, hi, F1, al1, rh1, mu1, e1, s1, h1⟩
  by_cases hlt : i < items.length
  · have ed : items.drop i = items[i] :: items.drop (i + 1) := List.drop_eq_getElem_cons hlt
    rw [ed] at h1
    have ei : items[i]? = some items[i] := by simp [hlt]
    obtain ⟨hchk, h1⟩ := h1
    refine .inr ⟨it.go i _ G B F1 H1 al1 mu1 e1 s1.s hchk ei, fun σ' H' => i + 1 ≤ items.length ∧ ∃ F1 al1 rh1 mu1, Ext F0 al0 F1 al1 ∧ SR K G B F1 H' al1 rh1 σ' mu1 ∧ forL chk fg f V1 (items.drop (i + 1)) rh1 mu1, fun σ' H' z => ⟨items.length - (i + 1), by omega, rfl, z.1, z.2⟩, fun x H' y => ?_⟩
    obtain ⟨F2, e2, s2, r2⟩ := it.yld i _ G B F1 H1 al1 mu1 x H' e1 s1.s hchk ei y
    refine d2 G B F2 H' al1 rh1 σ mu1 _ _ _ _ (s1.step e2 s2) r2 h1 fun F3 H3 al3 rh3 si3 mu3 e3 s3 h3 => ?_
    have ex := (e1.trans e2).trans e3
    have again : ∀ F' H' al' rh' si' mu', Ext F3 al3 F' al' → SR K G B F' H' al' rh' si' mu' → forL chk fg f V1 (items.drop (i + 1)) rh' mu' → i + 1 ≤ items.length ∧ ∃ F1 al1 rh1 mu1, Ext F0 al0 F1 al1 ∧ SR K G B F1 H' al1 rh1 si' mu1 ∧ forL chk fg f V1 (items.drop (i + 1)) rh1 mu1 :=
      fun F' H' al' rh' si' mu' x s' h' => ⟨hlt, F', al', rh', mu', ex.trans x, s', h'⟩
    exact d' G B F3 H3 al3 rh3 si3 mu3 _ _ s3 h3 ⟨again, fun F' H' al' mu' w v x => b.rt F' H' al' mu' w v ((e0.trans ex).trans x), fun F' H' al' rh' si' mu' x => b.nx F' H' al' rh' si' mu' ((e0.trans ex).trans x), again⟩
  · have e : i = items.length := by omega
    subst e
    rw [List.drop_length] at h1
    exact .inl ⟨it.stop G B F1 H1 al1 mu1 e1 s1.s h1.1, b.nx F1 H1 al1 rh1 σ mu1 (e0.trans e1) s1 h1.2⟩
end
end VL
namespace VL
open PySem PySem.Spec PyProof.Rows L2 RZ

/-! ### what is walked -/
section
variable {X : Cx} {tg : Expr}
/-- a list, a tuple, a text -/
def iAny (K : PySem.W.Frag) (tl : TE) : TI := fun σ H R => tl σ H fun x H1 => (∃ a, x = .ref a ∧ (∃ xs, SqL K H1 a xs) ∧ R (Itl K a) H1) ∨ (∃ a, x = .ref a ∧ (∃ xs, SqT K H1 a xs) ∧ R (Itt K a) H1)
theorem pi_any {l : Expr} {tl : TE} (hl : PE X l tl) : PI X tg l (iAny X.K tl) := by
  refine ⟨fun pins s σ H R I h => ?_⟩
  refine thn (hl.run pins s σ H _ I h) fun v s1 ⟨x, H1, I1, r1, q1⟩ => ?_
  rcases q1 with q1 | q1
  · obtain ⟨a, e, ⟨xs, hq⟩, q⟩ := q1
    subst e
    cases r1
    obtain ⟨its, rv, p, hz⟩ := I1.list hq
    refine wpAny_pyIter_list p.isList ?_
    refine ⟨s1.heap.objs.size, [s1.heap.objs.size], _, _, H1, rfl, I1.kept (t' := s1.toks) fun b o e => Heap.get?_push_of_some _ e, turn_list a _, ⟨_, Heap.get?_push_size _ rfl, rfl, rfl⟩, fun b hb => ?_, q⟩
    have e : b = s1.heap.objs.size := by simpa using hb
    subst e
    exact I1.fpOk (Nat.le_refl _) (I1.hok.fresh (Nat.le_refl _))
  · obtain ⟨a, e, ⟨xs, hq⟩, q⟩ := q1
    subst e
    cases r1
    obtain ⟨its, rv, p, hz⟩ := I1.tuple hq
    refine wpAny_pyIter_tuple (show s1.heap.IsTuple a its.toArray from p) ?_
    refine ⟨s1.heap.objs.size, [s1.heap.objs.size], _, _, H1, rfl, I1.kept (t' := s1.toks) fun b o e => Heap.get?_push_of_some _ e, turn_tuple a _, ⟨_, Heap.get?_push_size _ rfl, rfl, rfl⟩, fun b hb => ?_, q⟩
    have e : b = s1.heap.objs.size := by simpa using hb
    subst e
    exact I1.fpOk (Nat.le_refl _) (I1.hok.fresh (Nat.le_refl _))
end
/-- the sequence stays while it is walked -/
@[simp] def chkW (x : W) (ws : List W) : Sto → Prop := match x with
  | .loc _ => fun mu => seqW mu x = some ws
  | _ => fun _ => True
@[simp] def wSeqI (a : WE) : WI := fun rh mu Q => a rh mu fun x mu1 => match seqW mu1 x with
  | some ws => Q ws (chkW x ws) mu1
  | none => False
theorem seqW_any {mu mu' : Sto} {x : W} {ws : List W} (h : seqW mu x = some ws) (c : chkW x ws mu') : seqW mu' x = some ws := by
  cases x with
  | loc k => exact c
  | d x => cases x <;> first | exact h | (unfold seqW at h ⊢; exact h)
  | tup us => unfold seqW at h ⊢; exact h
  | ty n => cases h
  | raw a => cases h
section
variable {io : Type} {Y : io → Cx} {P : Program} {w : World} {K : KW} {mg : Str → Option Value} {base : Heap} {N : List Str} {k : Nat} {pos p tpos : Pos} {a b e e2 tg : Expr} {wa wb : WE} {ga : WA} {elts : List Expr} {kk : Nat}
theorem seqW_kind {x : W} {v : V} {ws : List W} {G B F H : Hp} {al : List Addr} {mu : Sto} (s : SRS K G B F H al mu) (r : RepW K F al x v) (e : seqW mu x = some ws) : ∃ (b : Addr) (vs : List V), v = .ref b ∧ vs.length = ws.length ∧ vs.length ≤ sizeLine ∧
    ((∀ G' B' F' H' al' mu', Ext F al F' al' → SRS K G' B' F' H' al' mu' → chkW x ws mu' → ∃ us, SqL K H' b us ∧ Paired (RepW K F' al') ws us) ∨ (∀ G' B' F' H' al' mu', Ext F al F' al' → SRS K G' B' F' H' al' mu' → chkW x ws mu' → ∃ us, SqT K H' b us ∧ Paired (RepW K F' al') ws us)) := by
  cases x with
  | loc k =>
    cases r with
    | loc ea =>
      rename_i a
      obtain ⟨b, vs, e1, hs, z, p⟩ := seqW_rep s (.loc ea) e
      cases e1
      refine ⟨a, vs, rfl, (Paired.length p).symm, z, .inl fun G' B' F' H' al' mu' x s' c => ?_⟩
      have c' : seqW mu' (.loc k) = some ws := c
      unfold seqW at c'
      simp only at c'
      split at c'
      · rename_i q
        cases c'
        obtain ⟨us, h, z, p⟩ := s'.lstAt q (x.at ea)
        exact ⟨us, SqL.of h, pMapD p⟩
      · rename_i q
        cases c'
        obtain ⟨us, h, z, p⟩ := s'.lstWAt q (x.at ea)
        exact ⟨us, SqL.of h, p⟩
      · cases c'
  | d x =>
    cases x with
    | lst xs =>
      cases e
      cases r with
      | d r => cases r with
        | lst q z p => exact ⟨_, _, rfl, by rw [List.length_map, p.len], z, .inl fun G' B' F' H' al' mu' x s' c => ⟨_, .inl (rdMono (x.1.trans s'.fz) q), pMapD (Paired.mapP p.p fun _ _ z => z.mono x.1)⟩⟩
    | tup xs =>
      cases e
      obtain ⟨b, vs, rfl, q, z, p⟩ := repTup r
      exact ⟨b, vs, rfl, by rw [List.length_map, Paired.length p], z, .inr fun G' B' F' H' al' mu' x s' c => ⟨_, sqtMono (x.1.trans s'.fz) q, pMapD (Paired.mapP p fun _ _ z => z.mono x.1)⟩⟩
    | scr ns =>
      cases e
      cases r with
      | d r => cases r with
        | scr q z => exact ⟨_, ns.map V.int, rfl, by simp, by simpa using z, .inl fun G' B' F' H' al' mu' x s' c => ⟨_, sqlMono (x.1.trans s'.fz) q, pScr _⟩⟩
    | _ => cases e
  | tup us =>
    cases e
    cases r with
    | tup q z p => exact ⟨_, _, rfl, (Paired.length p.p).symm, z, .inr fun G' B' F' H' al' mu' x s' c => ⟨_, sqtMono (x.1.trans s'.fz) q, Paired.mapP p.p fun _ _ z => z.mono x⟩⟩
  | ty n => cases e
  | raw a => cases e
theorem vi_seq (y : YOk Y P w K mg base N k) (ha : VE Y K a wa) : VI Y K tg a (wSeqI wa) := by
  obtain ⟨t, p1, d1⟩ := ha
  refine ⟨iAny K t, fun i => by rw [← y.hK i]; exact pi_any (p1 i), fun G B F H al rh si mu Qd R s h q => ?_⟩
  refine d1 G B F H al rh si mu _ _ s h fun F1 H1 al1 mu1 x vx e1 s1 r1 h1 => ?_
  split at h1
  · rename_i ws e
    obtain ⟨b, vs, rfl, hl, z, hk⟩ := seqW_kind s1.s r1 e
    have c0 : chkW x ws mu1 := by
      unfold chkW
      split
      · exact e
      · trivial
    rcases hk with hk | hk
    · obtain ⟨us0, hs0, p0⟩ := hk G B F1 H1 al1 mu1 (Ext.refl _ _) s1.s c0
      refine .inl ⟨b, rfl, ⟨us0, hs0⟩, q F1 H1 al1 mu1 _ ws _ e1 s1 ⟨by omega, ?_, ?_, ?_⟩ h1⟩
      · intro i x G' B' F' H' al' mu' ex s' c ei
        obtain ⟨us, hs, p⟩ := hk G' B' F' H' al' mu' ex s' c
        obtain ⟨v, ev, rv⟩ := pGetL p ei
        exact ⟨us, v, hs, ev⟩
      · intro i x G' B' F' H' al' mu' v H'' ex s' c ei yl
        obtain ⟨us, hs, p⟩ := hk G' B' F' H' al' mu' ex s' c
        obtain ⟨v', ev, rv⟩ := pGetL p ei
        obtain ⟨rfl, yl⟩ := yl
        have := yl us hs
        rw [ev] at this
        cases this
        exact ⟨F', Ext.refl _ _, s', rv⟩
      · intro G' B' F' H' al' mu' ex s' c
        obtain ⟨us, hs, p⟩ := hk G' B' F' H' al' mu' ex s' c
        exact ⟨us, hs, by rw [← Paired.length p]; exact Nat.le_refl _⟩
    · obtain ⟨us0, hs0, p0⟩ := hk G B F1 H1 al1 mu1 (Ext.refl _ _) s1.s c0
      refine .inr ⟨b, rfl, ⟨us0, hs0⟩, q F1 H1 al1 mu1 _ ws _ e1 s1 ⟨by omega, ?_, ?_, ?_⟩ h1⟩
      · intro i x G' B' F' H' al' mu' ex s' c ei
        obtain ⟨us, hs, p⟩ := hk G' B' F' H' al' mu' ex s' c
        obtain ⟨v, ev, rv⟩ := pGetL p ei
        exact ⟨us, v, hs, ev⟩
      · intro i x G' B' F' H' al' mu' v H'' ex s' c ei yl
        obtain ⟨us, hs, p⟩ := hk G' B' F' H' al' mu' ex s' c
        obtain ⟨v', ev, rv⟩ := pGetL p ei
        obtain ⟨rfl, yl⟩ := yl
        have := yl us hs
        rw [ev] at this
        cases this
        exact ⟨F', Ext.refl _ _, s', rv⟩
      · intro G' B' F' H' al' mu' ex s' c
        obtain ⟨us, hs, p⟩ := hk G' B' F' H' al' mu' ex s' c
        exact ⟨us, hs, by rw [← Paired.length p]; exact Nat.le_refl _⟩
  · exact h1.elim

/-- a range -/
def rngW : Int → Nat → List W
  | _, 0 => []
  | lo, n + 1 => .d (.int lo) :: rngW (lo + 1) n
theorem rngW_len : ∀ (lo : Int) (n : Nat), (rngW lo n).length = n
  | _, 0 => rfl
  | lo, n + 1 => by rw [rngW, List.length_cons, rngW_len]
theorem rngW_get : ∀ (lo : Int) (n i : Nat), i < n → (rngW lo n)[i]? = some (.d (.int (lo + i)))
  | _, 0, _, h => by omega
  | lo, n + 1, 0, _ => by simp [rngW]
  | lo, n + 1, i + 1, h => by
    rw [rngW, List.getElem?_cons_succ, rngW_get (lo + 1) n i (by omega)]
    congr 3; omega
theorem it_rng {F : Hp} {al : List Addr} {lo : Int} {n : Nat} (h : n ≤ sizeLine) : ItD K F al (Itr lo n) (rngW lo n) fun _ => True where
  sz := by rw [rngW_len]; exact h
  go := fun i x G B F' H al' mu _ _ _ e => by
    have := (List.getElem?_eq_some_iff.mp e).1
    rw [rngW_len] at this; exact this
  yld := fun i x G B F' H al' mu v H' _ s _ e yl => by
    have l := (List.getElem?_eq_some_iff.mp e).1
    rw [rngW_len] at l
    rw [rngW_get lo n i l] at e
    cases e
    obtain ⟨rfl, rfl⟩ := yl
    exact ⟨F', Ext.refl _ _, s, .d (.int _)⟩
  stop := fun G B F' H al' mu _ _ _ => by
    show n ≤ (rngW lo n).length
    rw [rngW_len]; exact Nat.le_refl _
@[simp] def wRng1 (g : WA) : WI := fun rh mu Q => g rh mu fun ws mu1 => match ws with
  | [.d (.int j)] => j ≤ 1000000 ∧ -(2 ^ 62) ≤ j ∧ Q (rngW 0 j.toNat) (fun _ => True) mu1
  | _ => False
@[simp] def wRng2 (g : WA) : WI := fun rh mu Q => g rh mu fun ws mu1 => match ws with
  | [.d (.int i), .d (.int j)] => (j - i ≤ 1000000 ∧ -(2 ^ 62) ≤ i ∧ i < 2 ^ 62 ∧ -(2 ^ 62) ≤ j ∧ j < 2 ^ 62) ∧ Q (rngW i (j - i).toNat) (fun _ => True) mu1
  | _ => False
theorem vi_rng1 (y : YOk Y P w K mg base N k) (hm : mg "range" = none) (ha : VA Y K [a] ga) (hg : ∀ j, Gl (Y j) "range" := by exact fun _ => rfl) (hs : ∀ i, starEach [a] (Y i).env = [(false, eval a (Y i).env)] := by exact fun _ => rfl) : VI Y K tg (.Call (.Name "range" p) [a] [] pos) (wRng1 ga) := by
  obtain ⟨t, p1, d1⟩ := ha
  refine ⟨_, fun i => pi_range1 (hg i) (by rw [y.hmg i]; exact hm) (p1 i) (hs i), fun G B F H al rh si mu Qd R s h q => ?_⟩
  refine d1 G B F H al rh si mu _ _ s h fun F1 H1 al1 mu1 ws vs e1 s1 r1 h1 => ?_
  split at h1
  · obtain ⟨v, rfl, r⟩ := pair1 r1
    cases repInt r
    have l : sizeLine = 16777216 := sizeLine_eq
    exact ⟨_, rfl, h1.2.1, by have := h1.1; omega, q F1 H1 al1 mu1 _ _ _ e1 s1 (it_rng (by have := h1.1; omega)) h1.2.2⟩
  · exact h1.elim
theorem vi_rng2 (y : YOk Y P w K mg base N k) (hm : mg "range" = none) (ha : VA Y K [a, b] ga) (hg : ∀ j, Gl (Y j) "range" := by exact fun _ => rfl) (hs : ∀ i, starEach [a, b] (Y i).env = [(false, eval a (Y i).env), (false, eval b (Y i).env)] := by exact fun _ => rfl) (hs2 : ∀ i, starEach [b] (Y i).env = [(false, eval b (Y i).env)] := by exact fun _ => rfl) : VI Y K tg (.Call (.Name "range" p) [a, b] [] pos) (wRng2 ga) := by
  obtain ⟨t, p1, d1⟩ := ha
  refine ⟨_, fun i => pi_range2 (hg i) (by rw [y.hmg i]; exact hm) (p1 i) (hs i) (hs2 i), fun G B F H al rh si mu Qd R s h q => ?_⟩
  refine d1 G B F H al rh si mu _ _ s h fun F1 H1 al1 mu1 ws vs e1 s1 r1 h1 => ?_
  split at h1
  · obtain ⟨v, u, rfl, r, r'⟩ := pair2 r1
    cases repInt r
    cases repInt r'
    have l : sizeLine = 16777216 := sizeLine_eq
    obtain ⟨⟨h2, h3⟩, h4⟩ := h1
    exact ⟨_, _, rfl, h3, q F1 H1 al1 mu1 _ _ _ e1 s1 (it_rng (by omega)) h4⟩
  · exact h1.elim

/-- enumerate, zip: each turn's tuple is a new one -/
theorem tup2_new {G B F H : Hp} {al : List Addr} {mu : Sto} {x x' : W} {v v' : V} {T : Addr} (s : SRS K G B F H al mu) (r : RepW K F al x v) (r' : RepW K F al x' v') (hT : H T = none) : ∃ F2, Ext F al F2 al ∧ SRS K G B F2 (upd H T (.tup [v, v'])) al mu ∧ RepW K F2 al (mkTup [x, x']) (.ref T) := by
  have e := s.frozX (o := .tup [v, v']) hT
  refine ⟨_, e, s.froz hT, ?_⟩
  have z : ([v, v'] : List V).length ≤ sizeLine := by show 2 ≤ sizeLine; decide
  have p : Paired (RepW K F al) [x, x'] [v, v'] := .cons r (.cons r' .nil)
  unfold mkTup
  cases q : asDs [x, x'] with
  | none => exact .tup (SqT.of upd_same) z ((RepWs.of p).mono e)
  | some xs => exact .d (.tup (SqT.of upd_same) z ((asDs_rep (.of p) q).mono e.1))
@[simp] def enumW : Nat → List W → List W
  | _, [] => []
  | n, x :: xs => mkTup [.d (.int n), x] :: enumW (n + 1) xs
theorem enumW_len : ∀ (n : Nat) (xs : List W), (enumW n xs).length = xs.length
  | _, [] => rfl
  | n, x :: xs => by rw [enumW, List.length_cons, enumW_len, List.length_cons]
theorem enumW_get : ∀ (n : Nat) (xs : List W) (i : Nat) (z : W), (enumW n xs)[i]? = some z → ∃ x, xs[i]? = some x ∧ z = mkTup [.d (.int ((n + i : Nat) : Int)), x]
  | _, [], i, z, h => by simp [enumW] at h
  | n, x :: xs, 0, z, h => by simp [enumW] at h; exact ⟨x, by simp, by rw [← h]; rfl⟩
  | n, x :: xs, i + 1, z, h => by
    rw [enumW, List.getElem?_cons_succ] at h
    obtain ⟨y, h1, h2⟩ := enumW_get (n + 1) xs i z h
    exact ⟨y, by simpa using h1, by rw [h2]; congr 5; omega⟩
@[simp] def wEnum (g : WA) : WI := fun rh mu Q => g rh mu fun ws mu1 => match ws with
  | [x] => isL mu1 x = true ∧ match seqW mu1 x with
    | some us => Q (enumW 0 us) (chkW x us) mu1
    | none => False
  | _ => False
theorem isL_sqL {G B F H : Hp} {al : List Addr} {mu : Sto} {x : W} {v : V} {ws : List W} (s : SRS K G B F H al mu) (r : RepW K F al x v) (e : seqW mu x = some ws) (l : isL mu x = true) : ∃ (b : Addr) (vs : List V), v = .ref b ∧ vs.length = ws.length ∧ vs.length ≤ sizeLine ∧ SqL K H b vs ∧
    (∀ G' B' F' H' al' mu', Ext F al F' al' → SRS K G' B' F' H' al' mu' → chkW x ws mu' → ∃ us, SqL K H' b us ∧ Paired (RepW K F' al') ws us) := by
  cases x with
  | loc k =>
    cases r with
    | loc ea =>
      rename_i a
      obtain ⟨b, vs, e1, hs, z, p⟩ := seqW_rep s (.loc ea) e
      cases e1
      have main : ∀ G' B' F' H' al' mu', Ext F al F' al' → SRS K G' B' F' H' al' mu' → chkW (.loc k) ws mu' → ∃ us, SqL K H' a us ∧ Paired (RepW K F' al') ws us := fun G' B' F' H' al' mu' x s' c => by
        have c' : seqW mu' (.loc k) = some ws := c
        unfold seqW at c'
        simp only at c'
        split at c'
        · rename_i q
          cases c'
          obtain ⟨us, h, z, p⟩ := s'.lstAt q (x.at ea)
          exact ⟨us, SqL.of h, pMapD p⟩
        · rename_i q
          cases c'
          obtain ⟨us, h, z, p⟩ := s'.lstWAt q (x.at ea)
          exact ⟨us, SqL.of h, p⟩
        · cases c'
      obtain ⟨us, h1, h2⟩ := main G B F H al mu (Ext.refl _ _) s e
      have le := Paired.length h2
      refine ⟨a, us, rfl, le.symm, ?_, h1, main⟩
      rw [← le, Paired.length p]; exact z
  | d x =>
    cases x with
    | lst xs =>
      cases e
      cases r with
      | d r => cases r with
        | lst q z p => exact ⟨_, _, rfl, by rw [List.length_map, p.len], z, .inl (rdMono s.fz q), fun G' B' F' H' al' mu' x s' c => ⟨_, .inl (rdMono (x.1.trans s'.fz) q), pMapD (Paired.mapP p.p fun _ _ z => z.mono x.1)⟩⟩
    | _ => first | (cases l; done) | (cases e; done)
  | tup us => cases l
  | ty n => cases e
  | raw a => cases e
theorem vi_enum (y : YOk Y P w K mg base N k) (hm : mg "enumerate" = none) (ha : VA Y K [e] ga) (hg : ∀ j, Gl (Y j) "enumerate" := by exact fun _ => rfl) (hs : ∀ i, starEach [e] (Y i).env = [(false, eval e (Y i).env)] := by exact fun _ => rfl) : VI Y K (.Tuple elts kk tpos) (.Call (.Name "enumerate" p) [e] [] pos) (wEnum ga) := by
  obtain ⟨t, p1, d1⟩ := ha
  refine ⟨iEnum K t, fun i => by rw [← y.hK i]; exact pi_enum (hg i) (by rw [y.hmg i]; exact hm) (p1 i) (hs i), fun G B F H al rh si mu Qd R s h q => ?_⟩
  refine d1 G B F H al rh si mu _ _ s h fun F1 H1 al1 mu1 ws vs e1 s1 r1 h1 => ?_
  split at h1
  · rename_i x
    obtain ⟨v, rfl, r⟩ := pair1 r1
    obtain ⟨hl, h1⟩ := h1
    split at h1
    · rename_i us e
      obtain ⟨b, vs, rfl, hle, z, hq, main⟩ := isL_sqL s1.s r e hl
      refine ⟨b, vs, rfl, hq, q F1 H1 al1 mu1 _ _ (chkW x us) e1 s1 ⟨by rw [enumW_len]; omega, ?_, ?_, ?_⟩ h1⟩
      · intro i x G' B' F' H' al' mu' ex s' c ei
        obtain ⟨ys, hs, p⟩ := main G' B' F' H' al' mu' ex s' c
        obtain ⟨x0, h2, rfl⟩ := enumW_get _ _ _ _ ei
        obtain ⟨v, ev, rv⟩ := pGetL p h2
        exact ⟨ys, v, hs, ev⟩
      · intro i x G' B' F' H' al' mu' v H'' ex s' c ei yl
        obtain ⟨ys, hs, p⟩ := main G' B' F' H' al' mu' ex s' c
        obtain ⟨x0, h2, rfl⟩ := enumW_get _ _ _ _ ei
        obtain ⟨v', ev, rv⟩ := pGetL p h2
        obtain ⟨T, x1, rfl, hT, rfl, yl⟩ := yl
        have := yl ys hs
        rw [ev] at this
        cases this
        rw [Nat.zero_add]
        exact tup2_new s' (.d (.int _)) rv hT
      · intro G' B' F' H' al' mu' ex s' c
        obtain ⟨ys, hs, p⟩ := main G' B' F' H' al' mu' ex s' c
        exact ⟨ys, hs, by rw [enumW_len, ← Paired.length p]; exact Nat.le_refl _⟩
    · exact h1.elim
  · exact h1.elim
@[simp] def zipW : List W → List W → List W
  | x :: xs, y :: ys => mkTup [x, y] :: zipW xs ys
  | _, _ => []
theorem zipW_len : ∀ xs ys : List W, (zipW xs ys).length = min xs.length ys.length
  | [], ys => by simp [zipW]
  | _ :: _, [] => by simp [zipW]
  | x :: xs, y :: ys => by rw [zipW, List.length_cons, zipW_len, List.length_cons, List.length_cons]; omega
theorem zipW_get : ∀ (xs ys : List W) (i : Nat) (z : W), (zipW xs ys)[i]? = some z → ∃ x y, xs[i]? = some x ∧ ys[i]? = some y ∧ z = mkTup [x, y]
  | [], ys, i, z, h => by simp [zipW] at h
  | _ :: _, [], i, z, h => by simp [zipW] at h
  | x :: xs, y :: ys, 0, z, h => by simp [zipW] at h; exact ⟨x, y, by simp, by simp, h.symm⟩
  | x :: xs, y :: ys, i + 1, z, h => by
    rw [zipW, List.getElem?_cons_succ] at h
    obtain ⟨a, b, h1, h2, h3⟩ := zipW_get xs ys i z h
    exact ⟨a, b, by simpa using h1, by simpa using h2, h3⟩
/-- both lists, or both tuples -/
@[simp] def isT : W → Bool
  | .d (.tup _) => true
  | .tup _ => true
  | _ => false
@[simp] def wZip (g : WA) : WI := fun rh mu Q => g rh mu fun ws mu1 => match ws with
  | [x, x'] => ((isL mu1 x = true ∧ isL mu1 x' = true) ∨ (isT x = true ∧ isT x' = true)) ∧ match seqW mu1 x, seqW mu1 x' with
    | some us, some us' => Q (zipW us us') (fun mu => chkW x us mu ∧ chkW x' us' mu) mu1
    | _, _ => False
  | _ => False
theorem isT_sqT {G B F H : Hp} {al : List Addr} {mu : Sto} {x : W} {v : V} {ws : List W} (s : SRS K G B F H al mu) (r : RepW K F al x v) (e : seqW mu x = some ws) (l : isT x = true) : ∃ (b : Addr) (vs : List V), v = .ref b ∧ vs.length = ws.length ∧ vs.length ≤ sizeLine ∧ SqT K H b vs ∧
    (∀ G' B' F' H' al' mu', Ext F al F' al' → SRS K G' B' F' H' al' mu' → ∃ us, SqT K H' b us ∧ Paired (RepW K F' al') ws us) := by
  cases x with
  | loc k => cases l
  | d x =>
    cases x with
    | tup xs =>
      cases e
      obtain ⟨b, vs, rfl, q, z, p⟩ := repTup r
      exact ⟨b, vs, rfl, by rw [List.length_map, Paired.length p], z, sqtMono s.fz q, fun G' B' F' H' al' mu' x s' => ⟨_, sqtMono (x.1.trans s'.fz) q, pMapD (Paired.mapP p fun _ _ z => z.mono x.1)⟩⟩
    | _ => cases l
  | tup us =>
    cases e
    cases r with
    | tup q z p => exact ⟨_, _, rfl, (Paired.length p.p).symm, z, sqtMono s.fz q, fun G' B' F' H' al' mu' x s' => ⟨_, sqtMono (x.1.trans s'.fz) q, Paired.mapP p.p fun _ _ z => z.mono x⟩⟩
  | ty n => cases e
  | raw a => cases e
theorem vi_zip (y : YOk Y P w K mg base N k) (hm : mg "zip" = none) (ha : VA Y K [e, e2] ga) (hg : ∀ j, Gl (Y j) "zip" := by exact fun _ => rfl)
    (hs : ∀ i, starEach [e, e2] (Y i).env = (false, eval e (Y i).env) :: starEach [e2] (Y i).env := by exact fun _ => rfl) (hpl : ∀ i, (backTo pos (starEach [e2] (Y i).env)).any (·.1) = false := by exact fun _ => rfl) : VI Y K (.Tuple elts kk tpos) (.Call (.Name "zip" p) [e, e2] [] pos) (wZip ga) := by
  obtain ⟨t, p1, d1⟩ := ha
  refine ⟨iZipA K t, fun i => by rw [← y.hK i]; exact pi_zipA (hg i) (by rw [y.hmg i]; exact hm) (p1 i) (hs i) (hpl i), fun G B F H al rh si mu Qd R s h q => ?_⟩
  refine d1 G B F H al rh si mu _ _ s h fun F1 H1 al1 mu1 ws vs e1 s1 r1 h1 => ?_
  split at h1
  · rename_i x x'
    obtain ⟨v, v', rfl, r, r'⟩ := pair2 r1
    obtain ⟨hl, h1⟩ := h1
    split at h1
    · rename_i us us' e e'
      rcases hl with ⟨l1, l2⟩ | ⟨l1, l2⟩
      · obtain ⟨b, vs, rfl, hle, z, hq, main⟩ := isL_sqL s1.s r e l1
        obtain ⟨b', vs', rfl, hle', z', hq', main'⟩ := isL_sqL s1.s r' e' l2
        refine ⟨b, b', vs, vs', rfl, .inl ⟨hq, hq', q F1 H1 al1 mu1 _ _ _ e1 s1 ⟨by rw [zipW_len]; omega, ?_, ?_, ?_⟩ h1⟩⟩
        · intro i x0 G' B' F' H' al' mu' ex s' c ei
          obtain ⟨ys, hs, p⟩ := main G' B' F' H' al' mu' ex s' c.1
          obtain ⟨ys', hs', p'⟩ := main' G' B' F' H' al' mu' ex s' c.2
          obtain ⟨a1, a2, h2, h3, rfl⟩ := zipW_get _ _ _ _ ei
          obtain ⟨v, ev, rv⟩ := pGetL p h2
          obtain ⟨v', ev', rv'⟩ := pGetL p' h3
          exact ⟨ys, ys', v, v', hs, hs', ev, ev'⟩
        · intro i x0 G' B' F' H' al' mu' v H'' ex s' c ei yl
          obtain ⟨ys, hs, p⟩ := main G' B' F' H' al' mu' ex s' c.1
          obtain ⟨ys', hs', p'⟩ := main' G' B' F' H' al' mu' ex s' c.2
          obtain ⟨a1, a2, h2, h3, rfl⟩ := zipW_get _ _ _ _ ei
          obtain ⟨v, ev, rv⟩ := pGetL p h2
          obtain ⟨v', ev', rv'⟩ := pGetL p' h3
          obtain ⟨T, w1, w2, rfl, hT, rfl, yl1, yl2⟩ := yl
          have q1 := yl1 ys hs
          have q2 := yl2 ys' hs'
          rw [ev] at q1; rw [ev'] at q2
          cases q1; cases q2
          exact tup2_new s' rv rv' hT
        · intro G' B' F' H' al' mu' ex s' c
          obtain ⟨ys, hs, p⟩ := main G' B' F' H' al' mu' ex s' c.1
          obtain ⟨ys', hs', p'⟩ := main' G' B' F' H' al' mu' ex s' c.2
          exact ⟨ys, ys', hs, hs', by rw [zipW_len, ← Paired.length p, ← Paired.length p']; omega⟩
      · obtain ⟨b, vs, rfl, hle, z, hq, main⟩ := isT_sqT s1.s r e l1
        obtain ⟨b', vs', rfl, hle', z', hq', main'⟩ := isT_sqT s1.s r' e' l2
        refine ⟨b, b', vs, vs', rfl, .inr ⟨hq, hq', q F1 H1 al1 mu1 _ _ _ e1 s1 ⟨by rw [zipW_len]; omega, ?_, ?_, ?_⟩ h1⟩⟩
        · intro i x0 G' B' F' H' al' mu' ex s' c ei
          obtain ⟨ys, hs, p⟩ := main G' B' F' H' al' mu' ex s'
          obtain ⟨ys', hs', p'⟩ := main' G' B' F' H' al' mu' ex s'
          obtain ⟨a1, a2, h2, h3, rfl⟩ := zipW_get _ _ _ _ ei
          obtain ⟨v, ev, rv⟩ := pGetL p h2
          obtain ⟨v', ev', rv'⟩ := pGetL p' h3
          exact ⟨ys, ys', v, v', hs, hs', ev, ev'⟩
        · intro i x0 G' B' F' H' al' mu' v H'' ex s' c ei yl
          obtain ⟨ys, hs, p⟩ := main G' B' F' H' al' mu' ex s'
          obtain ⟨ys', hs', p'⟩ := main' G' B' F' H' al' mu' ex s'
          obtain ⟨a1, a2, h2, h3, rfl⟩ := zipW_get _ _ _ _ ei
          obtain ⟨v, ev, rv⟩ := pGetL p h2
          obtain ⟨v', ev', rv'⟩ := pGetL p' h3
          obtain ⟨T, w1, w2, rfl, hT, rfl, yl1, yl2⟩ := yl
          have q1 := yl1 ys hs
          have q2 := yl2 ys' hs'
          rw [ev] at q1; rw [ev'] at q2
          cases q1; cases q2
          exact tup2_new s' rv rv' hT
        · intro G' B' F' H' al' mu' ex s' c
          obtain ⟨ys, hs, p⟩ := main G' B' F' H' al' mu' ex s'
          obtain ⟨ys', hs', p'⟩ := main' G' B' F' H' al' mu' ex s'
          exact ⟨ys, ys', hs, hs', by rw [zipW_len, ← Paired.length p, ← Paired.length p']; omega⟩
    · exact h1.elim
  · exact h1.elim
/-- a text, sign by sign -/
@[simp] def sgnW (z : Str) : List W := z.cps.toList.map fun c => .d (.str ⟨#[c]⟩)
@[simp] def wStrI (a : WE) : WI := fun rh mu Q => a rh mu fun x mu1 => match x with
  | .d (.str z) => Q (sgnW z) (fun _ => True) mu1
  | _ => False
theorem vi_str (ha : VE Y K a wa) : VI Y K tg a (wStrI wa) := by
  obtain ⟨t, p1, d1⟩ := ha
  refine ⟨_, fun i => pi_str (p1 i), fun G B F H al rh si mu Qd R s h q => ?_⟩
  refine d1 G B F H al rh si mu _ _ s h fun F1 H1 al1 mu1 x vx e1 s1 r1 h1 => ?_
  split at h1
  · rename_i z
    obtain ⟨rfl, hz⟩ := repStr r1
    have hlen : (sgnW z).length = z.cps.size := by simp [sgnW]
    refine ⟨z, rfl, q F1 H1 al1 mu1 _ _ _ e1 s1 ⟨by rw [hlen]; exact hz.2, ?_, ?_, ?_⟩ h1⟩
    · intro i x G' B' F' H' al' mu' _ _ _ ei
      have := (List.getElem?_eq_some_iff.mp ei).1
      rw [hlen] at this; exact this
    · intro i x G' B' F' H' al' mu' v H'' _ s' _ ei yl
      obtain ⟨rfl, c, hc, rfl⟩ := yl
      unfold sgnW at ei
      rw [List.getElem?_map, Array.getElem?_toList, hc] at ei
      cases ei
      refine ⟨F', Ext.refl _ _, s', .d (.str _ ?_)⟩
      refine strOk_at (z := z) (i := (i : Int)) hz (atI_nat (by rw [Array.getElem?_toList]; exact hc))
    · intro G' B' F' H' al' mu' _ _ _
      show z.cps.size ≤ _
      rw [hlen]; exact Nat.le_refl _
  · exact h1.elim
end
end VL
namespace VL
open PySem PySem.Spec PyProof.Rows L2 RZ

/-! ### an object beside: kept by what must stay -/
section
variable {K : KW} {G B F F' H H' : Hp} {al al' : List Addr} {mu mu' : Sto} {p : Addr} {o o' : HO}
theorem SRS.guard (s : SRS K G B F H al mu) (hH : H p = some o) (hF : F p = none) (hal : p ∉ al) : SRS K G (upd B p o) F H al mu where
  fz := s.fz
  bs := fun a u e => by
    by_cases q : a = p
    · subst q; rw [upd_same] at e; cases e; exact hH
    · rw [upd_ne q] at e; exact s.bs _ _ e
  gf := s.gf
  fr := fun a u e => by
    have ne : a ≠ p := ne_of_none e hF
    rw [upd_ne ne]; exact s.fr a u e
  nd := s.nd
  len := s.len
  st := fun k c e => by
    obtain ⟨a, u, e1, e2, e3, e4, e5⟩ := s.st k c e
    have ne : a ≠ p := fun z => hal (z ▸ List.mem_of_getElem? e1)
    exact ⟨a, u, e1, e2, by rw [upd_ne ne]; exact e3, e4, e5⟩
theorem SRS.unguard (s : SRS K G (upd B p o) F H al mu) (hB : B p = none) : SRS K G B F H al mu ∧ H p = some o ∧ p ∉ al where
  left := {
    fz := s.fz
    bs := fun a u e => s.bs _ _ (by rw [upd_ne (ne_of_none e hB)]; exact e)
    gf := s.gf
    fr := fun a u e => by
      rcases s.fr a u e with q | q | q
      · exact .inl q
      · refine .inr (.inl ?_)
        by_cases z : a = p
        · subst z; exact hB
        · rw [upd_ne z] at q; exact q
      · exact .inr (.inr q)
    nd := s.nd
    len := s.len
    st := fun k c e => by
      obtain ⟨a, u, e1, e2, e3, e4, e5⟩ := s.st k c e
      refine ⟨a, u, e1, e2, ?_, e4, e5⟩
      by_cases z : a = p
      · subst z; exact hB
      · rw [upd_ne z] at e3; exact e3 }
  right := ⟨s.bs _ _ upd_same, fun h => by
    obtain ⟨k, hk⟩ := List.mem_iff_getElem?.mp h
    obtain ⟨c, hc⟩ := s.has hk
    obtain ⟨_, _, q, _, _⟩ := s.at hc hk
    rw [upd_same] at q; cases q⟩
/-- it may be written -/
theorem SRS.beside (s : SRS K G B F H al mu) (hB : B p = none) (hF : F p = none) (hal : p ∉ al) : SRS K G B F (upd H p o') al mu where
  fz := fun a u e => by rw [upd_ne (ne_of_none e hF)]; exact s.fz _ _ e
  bs := fun a u e => by rw [upd_ne (ne_of_none e hB)]; exact s.bs _ _ e
  gf := s.gf
  fr := s.fr
  nd := s.nd
  len := s.len
  st := fun k c e => by
    obtain ⟨a, u, e1, e2, e3, e4, e5⟩ := s.st k c e
    have ne : a ≠ p := fun z => hal (z ▸ List.mem_of_getElem? e1)
    exact ⟨a, u, e1, e2, e3, by rw [upd_ne ne]; exact e4, e5⟩
theorem SRS.frozAt (s : SRS K G B F H al mu) (hH : H p = some o) (hF : F p = none) (hB : B p = none) (hal : p ∉ al) : SRS K G B (upd F p o) H al mu where
  fz := fun a u e => by
    by_cases q : a = p
    · subst q; rw [upd_same] at e; cases e; exact hH
    · rw [upd_ne q] at e; exact s.fz _ _ e
  bs := s.bs
  gf := s.gf.trans (sameN hF)
  fr := fun a u e => by
    by_cases q : a = p
    · subst q; exact .inr (.inl hB)
    · rw [upd_ne q] at e; exact s.fr a u e
  nd := s.nd
  len := s.len
  st := fun k c e => by
    obtain ⟨a, u, e1, e2, e3, e4, e5⟩ := s.st k c e
    have ne : a ≠ p := fun z => hal (z ▸ List.mem_of_getElem? e1)
    exact ⟨a, u, e1, by rw [upd_ne ne]; exact e2, e3, e4, e5.mono ⟨sameN hF, [], by simp⟩⟩
theorem SRS.ownAt {c : C} (s : SRS K G B F H al mu) (hH : H p = some o) (hF : F p = none) (hB : B p = none) (hal : p ∉ al) (r : CRep K F al p c o) : SRS K G B F H (al ++ [p]) (mu ++ [c]) where
  fz := s.fz
  bs := s.bs
  gf := s.gf
  fr := s.fr
  nd := List.nodup_append.mpr ⟨s.nd, by simp, fun a ha b hb e => by
    have z : b = p := by simpa using hb
    exact hal (z ▸ e ▸ ha)⟩
  len := by simp [s.len]
  st := fun k c' e => by
    by_cases hk : k < mu.length
    · rw [List.getElem?_append_left hk] at e
      obtain ⟨a, u, e1, e2, e3, e4, e5⟩ := s.st k c' e
      exact ⟨a, u, by rw [List.getElem?_append_left (by rw [s.len]; exact hk)]; exact e1, e2, e3, e4, e5.mono ⟨Same.refl F, [p], rfl⟩⟩
    · rw [List.getElem?_append_right (by omega)] at e
      have hz : k - mu.length = 0 := by
        have := (List.getElem?_eq_some_iff.mp e).1
        simp at this; omega
      rw [hz] at e
      have e' : c = c' := by simpa using e
      subst e'
      exact ⟨p, o, by rw [List.getElem?_append_right (by rw [s.len]; omega), s.len, hz]; rfl, hF, hB, hH, r.mono ⟨Same.refl F, [p], rfl⟩⟩
/-- a list that stands already becomes ours -/
theorem newLW_at {o : Bool} {ws : List W} {vs : List V} {Qd : W → Sto → Prop} {Q : L2.VK} {rh : Ev} {si : L2.St} (s : SR K G B F H al rh si mu) (pr : Paired (RepW K F al) ws vs) (z : vs.length ≤ sizeLine) (hH : H p = some (.lst vs)) (hF : F p = none) (hB : B p = none) (hal : p ∉ al) (h : newLW o ws mu Qd)
    (k : ∀ F' H' al' mu' w v, Ext F al F' al' → SR K G B F' H' al' rh si mu' → RepW K F' al' w v → Qd w mu' → Q v H') : Q (.ref p) H := by
  unfold newLW at h
  have x := SRS.ownX (F := F) (al := al) (p := p)
  cases q : asDs ws with
  | some xs =>
    rw [q] at h
    have pd := (asDs_rep (.of pr) q).p
    unfold newL at h
    cases o with
    | true => exact k _ _ _ _ _ _ x (s.step x (s.s.ownAt hH hF hB hal (.lst z pd))) (.loc s.s.atNew) h
    | false =>
      have x : Ext F al (upd F p (.lst vs)) al := ⟨sameN hF, [], by simp⟩
      exact k _ _ _ _ _ _ x (s.step x (s.s.frozAt hH hF hB hal)) (.d (.lst (Rd.of upd_same) z ((RepDs.of pd).mono x.1))) h
  | none =>
    rw [q] at h
    exact k _ _ _ _ _ _ x (s.step x (s.s.ownAt hH hF hB hal (.lstW z pr))) (.loc s.s.atNew) h
end

/-! ### comprehensions -/
@[simp] def lcL (chk : Sto → Prop) (g : WG) (tt : WT) (te : WE) (rh : Ev) : List W → List W → Sto → (List W → Sto → Prop) → Prop
  | [], acc, mu, Q => chk mu ∧ Q acc mu
  | x :: xs, acc, mu, Q => chk mu ∧ g x rh mu fun rh' mu1 => tt rh' mu1 fun b mu2 => if b = true then te rh' mu2 fun y mu3 => lcL chk g tt te rh xs (acc ++ [y]) mu3 Q else lcL chk g tt te rh xs acc mu2 Q
@[simp] def wLc (o : Bool) (it : WI) (g : WG) (tt : WT) (te : WE) (vs : List Nat) : WE := fun rh mu Q => it rh mu fun items chk mu1 => lcL chk g tt te (wipeE rh vs) items [] mu1 fun ws mu2 => newLW o ws mu2 Q
theorem wipe_wipe (σ : L2.St) (vs : List Nat) : ∀ us : List Nat, (∀ u ∈ us, u ∈ vs) → wipe (wipe σ us) vs = wipe σ vs
  | [], _ => rfl
  | u :: us, h => by
    show wipe ((wipe σ us).set u none) vs = _
    rw [wipe_set _ u none vs (h u (by simp))]
    exact wipe_wipe σ vs us fun x hx => h x (by simp [hx])
def VTs {io : Type} (Y : io → Cx) (K : KW) (ifs : List Expr) (f : WT) : Prop := ∃ t, (∀ i, PTs (Y i) ifs t) ∧ DenT K t f
@[simp] def wYes : WT := fun _ mu Q => Q true mu
section
variable {io : Type} {Y : io → Cx} {P : Program} {w : World} {K : KW} {mg : Str → Option Value} {base : Heap} {N : List Str} {k : Nat} {pos : Pos} {c elt tg iter : Expr} {ifs : List Expr} {fc : WT}
theorem vts_nil : VTs Y K [] wYes := ⟨_, fun _ => pts_nil, fun G B F H al rh si mu Qd Q s h q => q F H al mu true (Ext.refl _ _) s h⟩
theorem vts_one (h : VT Y K c fc) : VTs Y K [c] fc := by
  obtain ⟨t, p, d⟩ := h
  exact ⟨t, fun i => pts_one (p i), d⟩
/-- the contexts of a comprehension's block -/
abbrev BlkIx (io : Type) := io × Shared × Hp × Addr × List (Str × Addr) × List Addr
abbrev blkY (Y : io → Cx) (scope : Scope) : BlkIx io → Cx := fun j => (Y j.1).blk j.2.1 j.2.2.1 scope (compEnvC scope j.2.2.2.2.1 j.2.2.2.1 (Y j.1).env) j.2.2.2.2.2
theorem YOk.blk (y : YOk Y P w K mg base N k) (scope : Scope) : YOk (blkY Y scope) P w K mg base N k :=
  ⟨fun j => y.hP j.1, fun j => y.hw j.1, fun j => y.hK j.1, fun j => y.hmg j.1, fun j => y.hbase j.1, fun j => y.hN j.1, y.nd, fun j => y.calm j.1, fun j => y.room j.1⟩
theorem den_lc (o : Bool) {wi : TI} {g : TG} {tt : TT} {te : TE} {vs : List Nat} {fi : WI} {fg : WG} {ft : WT} {fe : WE} (di : DenI K wi fi) (dg : DenG K g fg) (kg : GKeep vs g) (dt : DenT K tt ft) (de : Den K te fe) : Den K (tLc wi g tt te vs) (wLc o fi fg ft fe vs) := fun G B F H al rh si mu Qd Q s h q => by
  refine di G B F H al rh si mu _ _ s h fun F0 H0 al0 mu0 J items chk e0 s0 it h0 => ?_
  intro D hD
  have hB : B D = none := sameNone s0.s.bs hD
  have hF0 : F0 D = none := sameNone s0.s.fz hD
  have hG : G D = none := sameNone (s0.s.gf) hF0
  refine ⟨fun i m H1 => m = items.length - i ∧ i ≤ items.length ∧ ∃ F1 al1 mu1 acc vs1, Ext F0 al0 F1 al1 ∧ SRS K G (upd B D (.lst vs1)) F1 H1 al1 mu1 ∧ F1 D = none ∧ Paired (RepW K F1 al1) acc vs1 ∧ vs1.length ≤ i ∧ lcL chk fg ft fe (wipeE rh vs) (items.drop i) acc mu1 fun ws mu2 => newLW o ws mu2 Qd, ⟨_, rfl, Nat.zero_le _, F0, al0, mu0, [], [], Ext.refl _ _, ?_, hF0, .nil, Nat.le_refl _, h0⟩, ?_⟩
  · have s1 : SRS K G B F0 (upd H0 D (.lst [])) al0 mu0 := s0.s.beside hB hF0 (fun z => by
      obtain ⟨k, hk⟩ := List.mem_iff_getElem?.mp z
      obtain ⟨c, hc⟩ := s0.s.has hk
      obtain ⟨_, _, _, q, _⟩ := s0.s.at hc hk
      rw [hD] at q; cases q)
    exact s1.guard upd_same hF0 (fun z => by
      obtain ⟨k, hk⟩ := List.mem_iff_getElem?.mp z
      obtain ⟨c, hc⟩ := s0.s.has hk
      obtain ⟨_, _, _, q, _⟩ := s0.s.at hc hk
      rw [hD] at q; cases q)
  rintro i m H1 ⟨rfl, hi, F1, al1, mu1, acc, vs1, e1, s1, hF1, pa, hl, h1⟩
  by_cases hlt : i < items.length
  · have ed : items.drop i = items[i] :: items.drop (i + 1) := List.drop_eq_getElem_cons hlt
    rw [ed] at h1
    have ei : items[i]? = some items[i] := by simp [hlt]
    obtain ⟨hchk, h1⟩ := h1
    refine .inr ⟨it.go i _ _ _ F1 H1 al1 mu1 e1 s1 hchk ei, fun H' => i + 1 ≤ items.length ∧ ∃ F1 al1 mu1 acc vs1, Ext F0 al0 F1 al1 ∧ SRS K G (upd B D (.lst vs1)) F1 H' al1 mu1 ∧ F1 D = none ∧ Paired (RepW K F1 al1) acc vs1 ∧ vs1.length ≤ i + 1 ∧ lcL chk fg ft fe (wipeE rh vs) (items.drop (i + 1)) acc mu1 fun ws mu2 => newLW o ws mu2 Qd,
      fun H' z => ⟨items.length - (i + 1), by omega, rfl, z.1, z.2⟩, fun x H' y => ?_⟩
    obtain ⟨F2, e2, s2, r2⟩ := it.yld i _ _ _ F1 H1 al1 mu1 x H' e1 s1 hchk ei y
    -- the new list is no frozen thing
    have noF : ∀ {F' H' : Hp} {al' : List Addr} {mu' : Sto}, SRS K G (upd B D (.lst vs1)) F' H' al' mu' → F' D = none := fun {F' H' al' mu'} s' => by
      cases q : F' D with
      | none => rfl
      | some u =>
        rcases s'.fr D u q with z | z | z
        · rw [hG] at z; cases z
        · rw [upd_same] at z; cases z
        · have := s'.fz _ _ q
          rw [s'.bs _ _ upd_same] at this
          cases this
          cases z
    have sw : SR K G (upd B D (.lst vs1)) F2 H' al1 (wipeE rh vs) (wipe si vs) mu1 := by
      have a := (s0.wipe vs)
      exact ⟨s2, a.ln, fun j u e => by
        obtain ⟨v, q1, q2⟩ := a.env j u e
        exact ⟨v, q1, q2.mono (e1.trans e2)⟩⟩
    refine kg x (wipe si vs) H' (fun σ2 H2 => tt σ2 H2 fun b H3 => if b = true then te σ2 H3 fun y H4 => ∃ acc, H4 D = some (.lst acc) ∧ acc.length < sizeLine ∧ _ else _) _ (fun σ' H'' w' z => ⟨w'.trans (wipe_wipe si vs vs fun _ z => z), z⟩) ?_
    refine dg G _ F2 H' al1 _ _ mu1 _ _ _ _ sw r2 h1 fun F3 H3 al3 rh3 si3 mu3 e3 s3 h3 => ?_
    refine dt G _ F3 H3 al3 rh3 si3 mu3 _ _ s3 h3 fun F4 H4 al4 mu4 b e4 s4 h4 => ?_
    cases b with
    | false =>
      refine iteF ⟨hlt, F4, al4, mu4, acc, vs1, ((e1.trans e2).trans e3).trans e4, s4.s, noF s4.s, Paired.mapP pa fun _ _ z => z.mono ((e2.trans e3).trans e4), by omega, ?_⟩
      simpa using h4
    | true =>
      refine iteT (de G _ F4 H4 al4 rh3 si3 mu4 _ _ s4 (by simpa using h4) fun F5 H5 al5 mu5 u v e5 s5 r5 h5 => ?_)
      obtain ⟨s6, hD5, hal5⟩ := s5.s.unguard hB
      have ex := (((e2.trans e3).trans e4).trans e5)
      refine ⟨vs1, hD5, by have := it.sz; omega, hlt, F5, al5, mu5, acc ++ [u], vs1 ++ [v], e1.trans ex, ?_, noF s5.s, pApp (Paired.mapP pa fun _ _ z => z.mono ex) (pOne r5), by rw [List.length_append, List.length_singleton]; omega, h5⟩
      exact (s6.beside hB (noF s5.s) hal5).guard upd_same (noF s5.s) hal5
  · have e : i = items.length := by omega
    subst e
    rw [List.drop_length] at h1
    obtain ⟨s2, hD1, hal1⟩ := s1.unguard hB
    refine .inl ⟨it.stop _ _ F1 H1 al1 mu1 e1 s1 h1.1, ?_⟩
    exact newLW_at (s0.step e1 s2) pa (by have := it.sz; omega) hD1 hF1 hB hal1 h1.2 fun F' H' al' mu' w v x => q F' H' al' mu' w v ((e0.trans e1).trans x)
theorem ve_lc (y : YOk Y P w K mg base N k) (o : Bool) {scope : Scope} {own : List (Str × Nat)} {fi : WI} {fg : WG} {ft : WT} {fe : WE} (hi : VI Y K tg iter fi) (ok : ∀ i, BlkOk N (Y i).env.scope scope own)
    (hg : VK (blkY Y scope) K tg fg (own.map (·.2))) (ht : VTs (blkY Y scope) K ifs ft) (he : VE (blkY Y scope) K elt fe) (hs : ∀ i x, foldedSetIterable iter (Y i).env x = pure x := by exact fun _ _ => rfl) :
    VE Y K (.ListComp elt [⟨tg, iter, ifs, 0⟩] scope pos) (wLc o fi fg ft fe (own.map (·.2))) := by
  obtain ⟨t1, p1, d1⟩ := hi
  obtain ⟨t2, p2, d2, kp⟩ := hg
  obtain ⟨t3, p3, d3⟩ := ht
  obtain ⟨t4, p4, d4⟩ := he
  refine ⟨_, fun i => pe_lc (y.calm i) (by rw [y.hN i]; exact y.nd) (p1 i) (by rw [y.hN i]; exact ok i) (fun s H C cl fp => p2 (i, s, H, C, cl, fp)) (fun s H C cl fp => p3 (i, s, H, C, cl, fp)) (fun s H C cl fp => p4 (i, s, H, C, cl, fp)) (hs i), den_lc o d1 d2 kp d3 d4⟩
end
section
variable {X : Cx} {P : Program} {w : World} {K : KW} {mg : Str → Option Value} {base : Heap} {N : List Str} {k : Nat} {pos spos : Pos} {c elt tg iter : Expr} {ifs : List Expr} {fc : WT}
/-- name = [..] on one line -/
theorem vs_setLc (y : YOk (un X) P w K mg base N k) (o : Bool) (i : Nat) {x : Str} {py : Pos} {scope : Scope} {own : List (Str × Nat)} {fi : WI} {fg : WG} {ft : WT} {fe : WE} (hsw : swapsWith (.ListComp elt [⟨tg, iter, ifs, 0⟩] scope pos) (some (.Name x py)) spos.line X.env = pure true)
    (hi : VI (un X) K tg iter fi) (ok : BlkOk N X.env.scope scope own)
    (hg : VK (blkY (un X) scope) K tg fg (own.map (·.2))) (ht : VTs (blkY (un X) scope) K ifs ft) (he : VE (blkY (un X) scope) K elt fe) (hix : N[i]? = some x := by rfl) (hyl : X.env.scope.names.lookup x = some .local := by rfl) (hs : ∀ x, foldedSetIterable iter X.env x = pure x := by exact fun _ => rfl) :
    VS X K (.Assign [.Name x py] (.ListComp elt [⟨tg, iter, ifs, 0⟩] scope pos) spos) (wAsg (wLc o fi fg ft fe (own.map (·.2))) (wgName i)) := by
  obtain ⟨t1, p1, d1⟩ := hi
  obtain ⟨t2, p2, d2, kp⟩ := hg
  obtain ⟨t3, p3, d3⟩ := ht
  obtain ⟨t4, p4, d4⟩ := he
  have q := y.hN ()
  refine ⟨_, ps_setLc (i := i) (y.calm ()) (by rw [show X.N = N from q]; exact y.nd) (by rw [show X.N = N from q]; exact hix) hyl hsw (p1 ()) (by rw [show X.N = N from q]; exact ok) (fun s H C cl fp => p2 ((), s, H, C, cl, fp)) (fun s H C cl fp => p3 ((), s, H, C, cl, fp)) (fun s H C cl fp => p4 ((), s, H, C, cl, fp)) hs, den_asg (den_lc o d1 d2 kp d3 d4) (den_gName i)⟩
end

/-! ### promises -/
abbrev VSp := List W → Sto → (W → Sto → Prop) → Prop
def toSp (K : KW) (sp : VSp) : Sp := fun vs H Q _ => ∃ (B F : Hp) (al : List Addr) (mu : Sto) (ws : List W) (Qd : W → Sto → Prop), SRS K F B F H al mu ∧ Paired (RepW K F al) ws vs ∧ sp ws mu Qd ∧
  ∀ F' H' al' mu' u v, Ext F al F' al' → SRS K F B F' H' al' mu' → RepW K F' al' u v → Qd u mu' → Q v H'
@[simp] def startE (N : List Str) (ws : List W) : Ev := ws.map some ++ List.replicate (N.length - ws.length) none
abbrev bX (P : Program) (w : World) (K : KW) (mg : Str → Option Value) (base : Heap) (N : List Str) (qual : Str) (scope : Scope) (f : Addr) (cdv : Value) (A : Around) (outer : List Env) (s : Shared) (H : Hp) (E : XK) : Cx := (cxOf CX0 P w K mg base N qual scope f cdv A outer s H E).nox
section
variable {P : Program} {w : World} {K : KW} {mg : Str → Option Value} {base : Heap}
theorem bX_ok {N ps : List Str} {qual : Str} {scope : Scope} {f : Addr} {cdv : Value} {A : Around} {outer : List Env} {s : Shared} {H : Hp} {E : XK} {k : Nat} (S : FnScope N ps scope) (hr : Room k (A.deeper (envOfC qual scope s.heap.objs.size f cdv))) :
    YOk (un (bX P w K mg base N qual scope f cdv A outer s H E)) P w K mg base N k := ⟨fun _ => rfl, fun _ => rfl, fun _ => rfl, fun _ => rfl, fun _ => rfl, fun _ => rfl, S.nd, fun _ => rfl, fun _ => hr⟩
theorem start_sr {N : List Str} {G B F H : Hp} {al : List Addr} {mu : Sto} {ws : List W} {vs : List V} (s : SRS K G B F H al mu) (p : Paired (RepW K F al) ws vs) : SR K G B F H al (startE N ws) (L2.start N vs) mu := by
  have l := Paired.length p
  refine ⟨s, by unfold startE L2.start; simp [l], fun i u e => ?_⟩
  unfold startE at e
  unfold L2.start
  by_cases hi : i < ws.length
  · rw [List.getElem?_append_left (by simpa using hi), List.getElem?_map] at e
    cases q : ws[i]? with
    | none => rw [q] at e; cases e
    | some z =>
      rw [q] at e
      cases e
      obtain ⟨v, h1, h2⟩ := pGetL p q
      exact ⟨v, by rw [List.getElem?_append_left (by rw [List.length_map, ← l]; exact hi), List.getElem?_map, h1]; rfl, h2⟩
  · rw [List.getElem?_append_right (by simpa using hi), List.getElem?_replicate] at e
    split at e <;> cases e
/-- THE RULE for a def -/
theorem fnv_ok {x qual : Str} {st : Stmt} {f : Addr} {fd : FuncData} {N ps : List Str} {k : Nat} {sp : VSp} (F : Fun K x qual st f fd) (S : FnScope N ps (defScope st)) (hlen : ∀ ws mu Q, sp ws mu Q → ws.length = ps.length)
    (body : ∀ (cdv : Value) (A : Around) (outer : List Env) (s : Shared) (H : Hp) (E : XK), YOk (un (bX P w K mg base N qual (defScope st) f cdv A outer s H E)) P w K mg base N k →
      ∃ g, VSs (bX P w K mg base N qual (defScope st) f cdv A outer s H E) K (defBody st) g ∧ ∀ ws mu Q, sp ws mu Q → g { nx := fun _ mu => Q (.d .non) mu, rt := Q } (startE N ws) mu) : FnOk P w K mg base CX0 (k + 1) f fd ps (toSp K sp) := by
  refine F.ok S (fun vs H Q E h => ?_) (fun cdv A outer s H vs Q E hr h => ?_)
  · obtain ⟨B, F, al, mu, ws, Qd, s, p, h, _⟩ := h
    rw [← Paired.length p]; exact hlen _ _ _ h
  · obtain ⟨B, F, al, mu, ws, Qd, s', p, h, q⟩ := h
    obtain ⟨g, ⟨t, ht, d⟩, hg⟩ := body cdv A outer s H E (bX_ok S hr)
    refine ⟨t, ht, d F B F H al _ _ mu _ _ (start_sr s' p) (hg ws mu Qd h) ⟨fun F' H' al' rh si mu' x s2 h2 => q F' H' al' mu' _ _ x s2.s (.d .non) h2, fun F' H' al' mu' u v x s2 r h2 => q F' H' al' mu' u v x s2 r h2, fun _ _ _ _ _ _ _ _ z => z.elim, fun _ _ _ _ _ _ _ _ z => z.elim⟩⟩
end
end VL
namespace VL
open PySem PySem.Spec PyProof.Rows L2 RZ

/-! ### a snapshot in any heap that has what is read -/
mutual
@[simp] def dflat : D → Bool
  | .lst _ => false
  | .scr _ => false
  | .tup xs => dflats xs
  | _ => true
@[simp] def dflats : List D → Bool
  | [] => true
  | x :: xs => dflat x && dflats xs
end
mutual
@[simp] def wflat : W → Bool
  | .d x => dflat x
  | .tup ws => wflats ws
  | _ => true
@[simp] def wflats : List W → Bool
  | [] => true
  | x :: xs => wflat x && wflats xs
end
@[simp] def cflat : C → Bool
  | .lst xs => dflats xs
  | .lstW ws => wflats ws
  | .ins _ fs => wflats (fs.map (·.2))
  | .dk kvs => dflats (kvs.map (·.2))
  | .dn _ kvs => wflats (kvs.map (·.2))
mutual
@[simp] def snapF (mu : Sto) : W → Option D
  | .d x => if dflat x then some x else none
  | .tup ws => (snapFs mu ws).map .tup
  | .loc k => match mu[k]? with
    | some (.lst xs) => if dflats xs then some (.lst xs) else none
    | _ => none
  | _ => none
@[simp] def snapFs (mu : Sto) : List W → Option (List D)
  | [] => some []
  | w :: ws => match snapF mu w, snapFs mu ws with
    | some x, some xs => some (x :: xs)
    | _, _ => none
end
section
variable {K : KW} {G B F F' F2 H H' Fc : Hp} {al al' : List Addr} {mu mu' : Sto}
/-- what F2 must have of F: all, or the tuples -/
def Tups (F F2 : Hp) : Prop := ∀ a o, F a = some o → tupO o = true → F2 a = some o
theorem Tups.sqT {a : Addr} {vs : List V} (h : Tups F F2) (r : SqT K F a vs) : SqT K F2 a vs := by
  rcases r with (r | ⟨o, r⟩) | r
  · exact .inl (.inl (h _ _ r rfl))
  · exact .inl (.inr ⟨o, h _ _ r rfl⟩)
  · exact .inr r
mutual
theorem flat_rep (h : Tups F F2) : ∀ {x : D} {v : V}, RepD K F x v → dflat x = true → RepD K F2 x v
  | _, _, .non, _ => .non
  | _, _, .bl b, _ => .bl b
  | _, _, .int i, _ => .int i
  | _, _, .str x q, _ => .str x q
  | _, _, .tup s z r, e => .tup (h.sqT s) z (flats_rep h r (by simpa [dflat] using e))
  | _, _, .lst s z r, e => by simp [dflat] at e
  | _, _, .scr s z, e => by simp [dflat] at e
theorem flats_rep (h : Tups F F2) : ∀ {x : List D} {v : List V}, RepDs K F x v → dflats x = true → RepDs K F2 x v
  | _, _, .nil, _ => .nil
  | _, _, .cons r t, e => by
    have e' := e
    unfold dflats at e'
    rw [Bool.and_eq_true] at e'
    exact .cons (flat_rep h r e'.1) (flats_rep h t e'.2)
end
mutual
theorem snap_in (s : SRS K G B F H al mu) (h1 : Same F F2) (h2 : ∀ a ∈ al, ∀ o, H a = some o → F2 a = some o) : ∀ {w : W} {v : V} {x : D}, RepW K F al w v → snap mu w = some x → RepD K F2 x v
  | .d x, _, _, .d r, e => by cases e; exact r.mono h1
  | .tup ws, _, _, .tup q z r, e => by
    unfold snap at e
    cases q1 : snaps mu ws with
    | none => rw [q1] at e; cases e
    | some xs => rw [q1] at e; cases e; exact .tup (sqtMono h1 q) z (snaps_in s h1 h2 r q1)
  | .loc k, _, _, .loc ea, e => by
    unfold snap at e
    cases q : mu[k]? with
    | none => rw [q] at e; cases e
    | some c =>
      cases c with
      | lst xs =>
        rw [q] at e; cases e
        obtain ⟨vs, h, z, p⟩ := s.lstAt q ea
        exact .lst (Rd.of (h2 _ (List.mem_of_getElem? ea) _ h)) z (.of (Paired.mapP p fun _ _ r => r.mono h1))
      | lstW ws =>
        rw [q] at e
        cases q2 : asDs ws with
        | none => simp only [q2] at e; cases e
        | some xs =>
          simp only [q2] at e; cases e
          obtain ⟨vs, h, z, p⟩ := s.lstWAt q ea
          exact .lst (Rd.of (h2 _ (List.mem_of_getElem? ea) _ h)) z ((asDs_rep (.of p) q2).mono h1)
      | _ => rw [q] at e; cases e
  | .ty _, _, _, _, e => by cases e
  | .raw _, _, _, _, e => by cases e
theorem snaps_in (s : SRS K G B F H al mu) (h1 : Same F F2) (h2 : ∀ a ∈ al, ∀ o, H a = some o → F2 a = some o) : ∀ {ws : List W} {vs : List V} {xs : List D}, RepWs K F al ws vs → snaps mu ws = some xs → RepDs K F2 xs vs
  | [], _, _, .nil, e => by cases e; exact .nil
  | w :: ws, _, _, .cons r t, e => by
    unfold snaps at e
    cases q : snap mu w with
    | none => rw [q] at e; cases e
    | some x =>
      cases q2 : snaps mu ws with
      | none => rw [q, q2] at e; cases e
      | some xs => rw [q, q2] at e; cases e; exact .cons (snap_in s h1 h2 r q) (snaps_in s h1 h2 t q2)
end
mutual
theorem snapF_in (s : SRS K G B F H al mu) (h1 : Tups F F2) (h2 : ∀ a ∈ al, ∀ o, H a = some o → F2 a = some o) : ∀ {w : W} {v : V} {x : D}, RepW K F al w v → snapF mu w = some x → RepD K F2 x v
  | .d x, _, _, .d r, e => by
    unfold snapF at e
    split at e
    · cases e; exact flat_rep h1 r (by assumption)
    · cases e
  | .tup ws, _, _, .tup q z r, e => by
    unfold snapF at e
    cases q1 : snapFs mu ws with
    | none => rw [q1] at e; cases e
    | some xs => rw [q1] at e; cases e; exact .tup (h1.sqT q) z (snapFs_in s h1 h2 r q1)
  | .loc k, _, _, .loc ea, e => by
    unfold snapF at e
    cases q : mu[k]? with
    | none => rw [q] at e; cases e
    | some c =>
      cases c with
      | lst xs =>
        rw [q] at e
        simp only at e
        split at e
        · cases e
          obtain ⟨vs, h, z, p⟩ := s.lstAt q ea
          exact .lst (Rd.of (h2 _ (List.mem_of_getElem? ea) _ h)) z (flats_rep h1 (.of p) (by assumption))
        · cases e
      | _ => rw [q] at e; cases e
  | .ty _, _, _, _, e => by cases e
  | .raw _, _, _, _, e => by cases e
theorem snapFs_in (s : SRS K G B F H al mu) (h1 : Tups F F2) (h2 : ∀ a ∈ al, ∀ o, H a = some o → F2 a = some o) : ∀ {ws : List W} {vs : List V} {xs : List D}, RepWs K F al ws vs → snapFs mu ws = some xs → RepDs K F2 xs vs
  | [], _, _, .nil, e => by cases e; exact .nil
  | w :: ws, _, _, .cons r t, e => by
    unfold snapFs at e
    cases q : snapF mu w with
    | none => rw [q] at e; cases e
    | some x =>
      cases q2 : snapFs mu ws with
      | none => rw [q, q2] at e; cases e
      | some xs => rw [q, q2] at e; cases e; exact .cons (snapF_in s h1 h2 r q) (snapFs_in s h1 h2 t q2)
end

/-! ### coming back from a call -/
theorem SRS.fresh (s' : SRS K Fc H F' H' al' mu') {a : Addr} (h : a ∈ al') : H a = none := by
  obtain ⟨k, hk⟩ := List.mem_iff_getElem?.mp h
  obtain ⟨c, hc⟩ := s'.has hk
  obtain ⟨_, _, q, _, _⟩ := s'.at hc hk
  exact q
theorem ret_frz (s : SRS K G B F H al mu) (s' : SRS K Fc H F' H' al' mu') (ha : Same F F2) (hb : Same F2 H') (hc : ∀ a o, F2 a = some o → F a = some o ∨ H a = none ∨ tupO o = true) : SRS K G B F2 H' al mu ∧ Ext F al F2 al where
  left := {
    fz := hb
    bs := s.bs.trans s'.bs
    gf := s.gf.trans ha
    fr := fun a o e => by
      rcases hc a o e with q | q | q
      · exact s.fr a o q
      · exact .inr (.inl (sameNone s.bs q))
      · exact .inr (.inr q)
    nd := s.nd
    len := s.len
    st := fun k c e => by
      obtain ⟨a, o, e1, e2, e3, e4, e5⟩ := s.st k c e
      refine ⟨a, o, e1, ?_, e3, s'.bs _ _ e4, e5.mono ⟨ha, [], by simp⟩⟩
      cases q : F2 a with
      | none => rfl
      | some u =>
        rcases hc a u q with z | z | z
        · rw [e2] at z; cases z
        · rw [e4] at z; cases z
        · have := hb _ _ q
          rw [s'.bs _ _ e4] at this
          cases this
          rw [e5.notTup] at z; cases z }
  right := ⟨ha, [], by simp⟩
/-- with the callee's containers frozen -/
def plusC (F2 H' : Hp) (al' : List Addr) : Hp := fun a => if a ∈ al' then H' a else F2 a
theorem plusC_ok (s : SRS K G B F H al mu) (s' : SRS K Fc H F' H' al' mu') (ha : Same F F2) (hb : Same F2 H') (hc : ∀ a o, F2 a = some o → F a = some o ∨ H a = none ∨ tupO o = true) :
    Same F (plusC F2 H' al') ∧ Same (plusC F2 H' al') H' ∧ (∀ a o, plusC F2 H' al' a = some o → F a = some o ∨ H a = none ∨ tupO o = true) ∧ Same F2 (plusC F2 H' al') ∧ ∀ a ∈ al', ∀ o, H' a = some o → plusC F2 H' al' a = some o := by
  have key : Same F2 (plusC F2 H' al') := fun a o e => by
    unfold plusC
    split
    · exact hb _ _ e
    · exact e
  refine ⟨ha.trans key, fun a o e => ?_, fun a o e => ?_, key, fun a hm o e => by unfold plusC; rw [if_pos hm]; exact e⟩
  · unfold plusC at e
    split at e
    · exact e
    · exact hb _ _ e
  · unfold plusC at e
    split at e
    · rename_i hm
      exact .inr (.inl (s'.fresh hm))
    · exact hc a o e
/-- F and the tuples of F' -/
def cutT (F F' : Hp) : Hp := fun a => match F a with
  | some o => some o
  | none => match F' a with
    | some o => if tupO o then some o else none
    | none => none
theorem cutT_ok (s : SRS K G B F H al mu) (s' : SRS K H H F' H' al' mu') : Same F (cutT F F') ∧ Same (cutT F F') H' ∧ (∀ a o, cutT F F' a = some o → F a = some o ∨ H a = none ∨ tupO o = true) ∧ Tups F' (cutT F F') := by
  have FF : Same F F' := s.fz.trans s'.gf
  refine ⟨fun a o e => by unfold cutT; rw [e], fun a o e => ?_, fun a o e => ?_, fun a o e t => ?_⟩
  · unfold cutT at e
    split at e
    · cases e; exact s'.bs _ _ (s.fz _ _ (by assumption))
    · split at e
      · split at e
        · cases e; exact s'.fz _ _ (by assumption)
        · cases e
      · cases e
  · unfold cutT at e
    split at e
    · cases e; exact .inl (by assumption)
    · split at e
      · split at e
        · cases e; exact .inr (.inr (by assumption))
        · cases e
      · cases e
  · unfold cutT
    split
    · rename_i u q
      rw [FF _ _ q] at e; exact e
    · rw [e]; simp [t]
theorem same_ok (s : SRS K G B F H al mu) (s' : SRS K F H F' H' al' mu') : Same F F' ∧ Same F' H' ∧ ∀ a o, F' a = some o → F a = some o ∨ H a = none ∨ tupO o = true := ⟨s'.gf, s'.fz, s'.fr⟩

/-! ### the callee's containers become ours -/
mutual
@[simp] def shiftW (n : Nat) : W → W
  | .loc k => .loc (n + k)
  | .tup ws => .tup (shiftWs n ws)
  | w => w
@[simp] def shiftWs (n : Nat) : List W → List W
  | [] => []
  | w :: ws => shiftW n w :: shiftWs n ws
end
@[simp] def shiftC (n : Nat) : C → C
  | .lstW ws => .lstW (shiftWs n ws)
  | .ins c fs => .ins c (fs.map fun p => (p.1, shiftW n p.2))
  | .dn lk kvs => .dn lk (kvs.map fun p => (p.1, shiftW n p.2))
  | c => c
mutual
theorem shift_rep (h : Same F F2 ∨ Tups F F2) : ∀ {w : W} {v : V}, RepW K F al' w v → (Same F F2 ∨ wflat w = true) → RepW K F2 (al ++ al') (shiftW al.length w) v
  | _, _, .d r, e => by
    unfold shiftW
    rcases e with e | e
    · exact .d (r.mono e)
    · rcases h with h | h
      · exact .d (r.mono h)
      · exact .d (flat_rep h r (by simpa [wflat] using e))
  | _, _, .loc ea, _ => by
    unfold shiftW
    refine .loc ?_
    rw [List.getElem?_append_right (by omega)]
    simpa using ea
  | _, _, .ty n, _ => by unfold shiftW; exact .ty n
  | _, _, .raw a, _ => by unfold shiftW; exact .raw a
  | _, _, .tup s z r, e => by
    unfold shiftW
    refine .tup ?_ z (shifts_rep h r (e.imp id fun q => by simpa [wflat] using q))
    rcases h with h | h
    · exact sqtMono h s
    · exact h.sqT s
theorem shifts_rep (h : Same F F2 ∨ Tups F F2) : ∀ {w : List W} {v : List V}, RepWs K F al' w v → (Same F F2 ∨ wflats w = true) → RepWs K F2 (al ++ al') (shiftWs al.length w) v
  | _, _, .nil, _ => by unfold shiftWs; exact .nil
  | _, _, .cons r t, e => by
    unfold shiftWs
    exact .cons (shift_rep h r (e.imp id fun q => by unfold wflats at q; rw [Bool.and_eq_true] at q; exact q.1)) (shifts_rep h t (e.imp id fun q => by unfold wflats at q; rw [Bool.and_eq_true] at q; exact q.2))
end
theorem flats_mem : ∀ {xs : List D}, dflats xs = true → ∀ x ∈ xs, dflat x = true
  | [], _, x, h => by cases h
  | y :: ys, e, x, h => by
    unfold dflats at e
    rw [Bool.and_eq_true] at e
    rcases List.mem_cons.mp h with rfl | h
    · exact e.1
    · exact flats_mem e.2 x h
theorem wflats_mem : ∀ {xs : List W}, wflats xs = true → ∀ x ∈ xs, wflat x = true
  | [], _, x, h => by cases h
  | y :: ys, e, x, h => by
    unfold wflats at e
    rw [Bool.and_eq_true] at e
    rcases List.mem_cons.mp h with rfl | h
    · exact e.1
    · exact wflats_mem e.2 x h
theorem mapPm {A1 B1 : Type} {R S : A1 → B1 → Prop} : ∀ {xs : List A1} {ys : List B1}, Paired R xs ys → (∀ x ∈ xs, ∀ y, R x y → S x y) → Paired S xs ys
  | _, _, .nil, _ => .nil
  | _, _, .cons r t, h => .cons (h _ (by simp) _ r) (mapPm t fun x hx => h x (by simp [hx]))
theorem mapPmap {A1 B1 C1 : Type} {R : A1 → B1 → Prop} {S : C1 → B1 → Prop} (f : A1 → C1) : ∀ {xs : List A1} {ys : List B1}, Paired R xs ys → (∀ x ∈ xs, ∀ y, R x y → S (f x) y) → Paired S (xs.map f) ys
  | _, _, .nil, _ => .nil
  | _, _, .cons r t, h => .cons (h _ (by simp) _ r) (mapPmap f t fun x hx => h x (by simp [hx]))
mutual
theorem nkey_flat : ∀ {d : D} {k : NestedKey}, nkey d = some k → dflat d = true
  | .int _, _, _ => rfl
  | .str _, _, _ => rfl
  | .tup xs, k, h => by
    unfold nkey at h
    cases q : nkeys xs with
    | none => rw [q] at h; cases h
    | some ks => unfold dflat; exact nkeys_flat q
  | .non, _, h => by cases h
  | .bl _, _, h => by cases h
  | .lst _, _, h => by cases h
  | .scr _, _, h => by cases h
theorem nkeys_flat : ∀ {d : List D} {k : List NestedKey}, nkeys d = some k → dflats d = true
  | [], _, _ => rfl
  | x :: xs, k, h => by
    unfold nkeys at h
    cases q : nkey x with
    | none => rw [q] at h; cases h
    | some k1 =>
      cases q2 : nkeys xs with
      | none => rw [q, q2] at h; cases h
      | some ks => unfold dflats; rw [nkey_flat q, nkeys_flat q2]; rfl
end
theorem shiftC_rep (h : Same F F2 ∨ Tups F F2) {c : C} {o : HO} {a : Addr} (r : CRep K F al' a c o) (e : Same F F2 ∨ cflat c = true) : CRep K F2 (al ++ al') a (shiftC al.length c) o := by
  have dd : ∀ {x : D} {v : V}, RepD K F x v → (Same F F2 ∨ dflat x = true) → RepD K F2 x v := fun r e => by
    rcases e with e | e
    · exact r.mono e
    · rcases h with h | h
      · exact r.mono h
      · exact flat_rep h r e
  cases r with
  | lst z p => exact .lst z (mapPm p fun x hx v r => dd r (e.imp id fun q => flats_mem (by simpa [cflat] using q) x hx))
  | lstW z p => exact .lstW z (shifts_rep h (.of p) (e.imp id fun q => by simpa [cflat] using q)).p
  | ins z p =>
    refine .ins z (mapPmap _ p fun x hx v r => ⟨r.1, shift_rep h r.2 (e.imp id fun q => ?_)⟩)
    exact wflats_mem (show wflats _ = true from q) _ (List.mem_map.mpr ⟨x, hx, rfl⟩)
  | dk p q0 =>
    refine .dk (mapPm p fun x hx v r => ⟨r.1, dd r.2 (e.imp id fun q => ?_)⟩) q0
    exact flats_mem (show dflats _ = true from q) _ (List.mem_map.mpr ⟨x, hx, rfl⟩)
  | dn p =>
    refine .dn (mapPmap _ p fun x hx v r => ⟨r.1, dd r.2.1 (.inr (nkey_flat r.1.1)), shift_rep h r.2.2 (e.imp id fun q => ?_)⟩)
    exact wflats_mem (show wflats _ = true from q) _ (List.mem_map.mpr ⟨x, hx, rfl⟩)
theorem ret_own (s : SRS K G B F H al mu) (s' : SRS K Fc H F' H' al' mu') (ha : Same F F2) (hb : Same F2 H') (hc : ∀ a o, F2 a = some o → F a = some o ∨ H a = none ∨ tupO o = true) (hn : ∀ a ∈ al', F2 a = none) (h : Same F' F2 ∨ Tups F' F2) (hf : Same F' F2 ∨ mu'.all cflat = true) :
    SRS K G B F2 H' (al ++ al') (mu ++ mu'.map (shiftC mu.length)) ∧ Ext F al F2 (al ++ al') := by
  obtain ⟨s1, x1⟩ := ret_frz s s' ha hb hc
  refine ⟨⟨s1.fz, s1.bs, s1.gf, s1.fr, ?_, by simp [s1.len, s'.len], fun k c e => ?_⟩, ⟨ha, al', rfl⟩⟩
  · refine List.nodup_append.mpr ⟨s.nd, s'.nd, fun a h1 b h2 e => ?_⟩
    subst e
    obtain ⟨k, hk⟩ := List.mem_iff_getElem?.mp h1
    obtain ⟨c, hc⟩ := s.has hk
    obtain ⟨_, _, _, q, _⟩ := s.at hc hk
    rw [s'.fresh h2] at q; cases q
  · by_cases hk : k < mu.length
    · rw [List.getElem?_append_left hk] at e
      obtain ⟨a, o, e1, e2, e3, e4, e5⟩ := s1.st k c e
      exact ⟨a, o, by rw [List.getElem?_append_left (by rw [s1.len]; exact hk)]; exact e1, e2, e3, e4, e5.mono ⟨Same.refl F2, al', rfl⟩⟩
    · rw [List.getElem?_append_right (by omega), List.getElem?_map] at e
      cases q : mu'[k - mu.length]? with
      | none => rw [q] at e; cases e
      | some c' =>
        rw [q] at e
        cases e
        obtain ⟨a, o, e1, e2, e3, e4, e5⟩ := s'.st _ c' q
        have hm := List.mem_of_getElem? e1
        refine ⟨a, o, by rw [List.getElem?_append_right (by rw [s1.len]; omega), s1.len]; exact e1, hn a hm, sameNone s.bs e3, e4, ?_⟩
        rw [← s.len]
        exact shiftC_rep h e5 (hf.imp id fun z => List.all_eq_true.mp z _ (List.mem_of_getElem? q))
end

/-! ### calls of defs -/
abbrev PSp := List D → (W → Sto → Prop) → Prop
/-- a def that gets data alone -/
@[simp] def pSp (sp : PSp) : VSp := fun ws mu Q => mu = [] ∧ ∃ ds, ws = List.map W.d ds ∧ sp ds Q
@[simp] def allD (ws : List W) : Bool := ws.all fun w => match w with
  | .d _ => true
  | _ => false
/-- what comes back: frozen -/
@[simp] def backF (a : Bool) (w : W) (mu' mu : Sto) (Q : W → Sto → Prop) : Prop := match (if a then snap mu' w else snapF mu' w) with
  | some x => Q (.d x) mu
  | none => False
/-- .. our own -/
@[simp] def backO (a : Bool) (w : W) (mu' mu : Sto) (Q : W → Sto → Prop) : Prop := (a || (wflat w && mu'.all cflat)) = true ∧ Q (shiftW mu.length w) (mu ++ mu'.map (shiftC mu.length))
@[simp] def wCallP (o : Bool) (sp : PSp) (dds : List D) (g : WA) : WE := fun rh mu Q => g rh mu fun ws mu1 => match snaps mu1 ws with
  | some ds => sp (ds ++ dds) fun w mu' => if o then backO (allD ws) w mu' mu1 Q else backF (allD ws) w mu' mu1 Q
  | none => False
section
variable {K : KW} {G B F F' F2 H H' Fc : Hp} {al al' : List Addr} {mu mu' : Sto}
theorem allD_reps : ∀ {ws : List W} {vs : List V} {ds : List D}, Paired (RepW K F al) ws vs → allD ws = true → snaps mu ws = some ds → RepDs K F ds vs
  | [], _, _, .nil, _, e => by cases e; exact .nil
  | w :: ws, _, ds, .cons r t, a, e => by
    unfold allD at a
    rw [List.all_cons, Bool.and_eq_true] at a
    cases w with
    | d x =>
      unfold snaps at e
      cases q : snaps mu ws with
      | none => simp only [q] at e; split at e <;> simp_all
      | some xs =>
        simp only [q] at e
        have : ds = x :: xs := by simp only [snap] at e; cases e; rfl
        subst this
        cases r with
        | d r => exact .cons r (allD_reps t a.2 q)
    | _ => simp at a
theorem pMapDs {ds : List D} {vs : List V} (p : RepDs K F ds vs) : Paired (RepW K F al) (ds.map W.d) vs := pMapD p.p
theorem SRS.none {B F H : Hp} (s : SRS K G B F H al mu) : SRS K F H F H [] [] := ⟨s.fz, Same.refl H, Same.refl F, fun a o e => .inl e, by simp, rfl, fun k c e => by simp at e⟩
theorem SRS.none' {B F H : Hp} (s : SRS K G B F H al mu) : SRS K H H H H [] [] := ⟨Same.refl H, Same.refl H, Same.refl H, fun a o e => .inl e, by simp, rfl, fun k c e => by simp at e⟩
/-- a call of a def that gets data alone -/
theorem callP_ok {o : Bool} {sp : PSp} {dds : List D} {dvs : List V} (hdd : ∀ F, RepDs K F dds dvs) {ws : List W} {vs : List V} {rh : Ev} {si : L2.St} {Qd : W → Sto → Prop} {Q : L2.VK} {E : XK} (s : SR K G B F H al rh si mu) (r : Paired (RepW K F al) ws vs)
    (h : match snaps mu ws with
      | some ds => sp (ds ++ dds) fun w mu' => if o then backO (allD ws) w mu' mu Qd else backF (allD ws) w mu' mu Qd
      | Option.none => False)
    (q : ∀ F' H' al' mu' w v, Ext F al F' al' → SR K G B F' H' al' rh si mu' → RepW K F' al' w v → Qd w mu' → Q v H') : toSp K (pSp sp) (vs ++ dvs) H Q E := by
  split at h
  · rename_i ds e
    -- behind the call
    have fin : ∀ (Fc F' H' : Hp) (al' : List Addr) (mu' : Sto) (u : W) (v : V), (Fc = F ∧ allD ws = true ∨ Fc = H ∧ allD ws = false) → SRS K Fc H F' H' al' mu' → RepW K F' al' u v → (if o then backO (allD ws) u mu' mu Qd else backF (allD ws) u mu' mu Qd) → Q v H' := by
      intro Fc F' H' al' mu' u v hF s' ru hb
      have al'N : ∀ a ∈ al', F' a = Option.none := fun a ha => by
        obtain ⟨k, hk⟩ := List.mem_iff_getElem?.mp ha
        obtain ⟨c, hc⟩ := s'.has hk
        obtain ⟨_, z, _, _, _⟩ := s'.at hc hk
        exact z
      rcases hF with ⟨rfl, ha⟩ | ⟨rfl, ha⟩
      · obtain ⟨a1, a2, a3⟩ := same_ok s.s s'
        rw [ha] at hb
        cases o with
        | false =>
          simp only [Bool.false_eq_true, if_false] at hb
          unfold backF at hb
          rw [if_pos rfl] at hb
          split at hb
          · rename_i x ex
            obtain ⟨b1, b2, b3, b4, b5⟩ := plusC_ok s.s s' a1 a2 a3
            obtain ⟨s2, x2⟩ := ret_frz s.s s' b1 b2 b3
            exact q _ _ _ _ _ _ x2 (s.step x2 s2) (.d (snap_in s' b4 b5 ru ex)) hb
          · exact hb.elim
        | true =>
          simp only [if_true] at hb
          obtain ⟨hf, hb⟩ := hb
          obtain ⟨s2, x2⟩ := ret_own s.s s' a1 a2 a3 al'N (.inl (Same.refl _)) (.inl (Same.refl _))
          have rr : RepW K F' (al ++ al') (shiftW al.length u) v := shift_rep (.inl (Same.refl _)) ru (.inl (Same.refl _))
          rw [s.s.len] at rr
          exact q _ _ _ _ _ _ x2 (s.step x2 s2) rr hb
      · obtain ⟨a1, a2, a3, a4⟩ := cutT_ok s.s s'
        rw [ha] at hb
        cases o with
        | false =>
          simp only [Bool.false_eq_true, if_false] at hb
          unfold backF at hb
          rw [if_neg (by simp)] at hb
          split at hb
          · rename_i x ex
            obtain ⟨b1, b2, b3, b4, b5⟩ := plusC_ok s.s s' a1 a2 a3
            obtain ⟨s2, x2⟩ := ret_frz s.s s' b1 b2 b3
            exact q _ _ _ _ _ _ x2 (s.step x2 s2) (.d (snapF_in s' (fun a u e t => b4 _ _ (a4 a u e t)) b5 ru ex)) hb
          · exact hb.elim
        | true =>
          simp only [if_true] at hb
          obtain ⟨hf, hb⟩ := hb
          rw [Bool.false_or, Bool.and_eq_true] at hf
          have hn : ∀ a ∈ al', cutT F F' a = Option.none := fun a ha => by
            have z1 := sameNone s.s.fz (s'.fresh ha)
            have z2 := al'N a ha
            unfold cutT
            rw [z1, z2]
          obtain ⟨s2, x2⟩ := ret_own s.s s' a1 a2 a3 hn (.inr a4) (.inr hf.2)
          have rr : RepW K (cutT F F') (al ++ al') (shiftW al.length u) v := shift_rep (.inr a4) ru (.inr hf.1)
          rw [s.s.len] at rr
          exact q _ _ _ _ _ _ x2 (s.step x2 s2) rr hb
    cases ha : allD ws with
    | true =>
      have rd := allD_reps r ha e
      refine ⟨H, F, [], [], _, _, s.s.none, pMapDs (.of (pApp rd.p (hdd F).p)), ⟨rfl, _, rfl, h⟩, fun F' H' al' mu' u v x s' ru hb => fin F F' H' al' mu' u v (.inl ⟨rfl, ha⟩) s' ru hb⟩
    | false =>
      have rd := snaps_rep s.s (.of r) e
      refine ⟨H, H, [], [], _, _, s.s.none', pMapDs (.of (pApp rd.p (hdd H).p)), ⟨rfl, _, rfl, h⟩, fun F' H' al' mu' u v x s' ru hb => fin H F' H' al' mu' u v (.inr ⟨rfl, ha⟩) s' ru hb⟩
  · exact h.elim
end
end VL
namespace VL
open PySem PySem.Spec PyProof.Rows L2 RZ

/-- a def of the module, as it is called with dds for the last parameters -/
def Def (P : Program) (w : World) (K : KW) (mg : Str → Option Value) (base : Heap) (x : Str) (k : Nat) (dds : List D) (sp : VSp) : Prop :=
  ∃ (f : Addr) (fd : FuncData) (ps : List Str) (ds : List Value) (dvs : List V), mg x = some (.ref f) ∧ PySem.W.keepIn K (.ref f) = true ∧ Binds K fd ps ds ∧ Vals dvs ds ∧ (∀ F, RepDs K F dds dvs) ∧ FnOk P w K mg base CX0 k f fd ps (toSp K sp)
/-- the store handed on -/
@[simp] def wCallS (sp : VSp) (dds : List D) (g : WA) : WE := fun rh mu Q => g rh mu fun ws mu1 => sp (ws ++ dds.map .d) mu1 Q
section
variable {K : KW} {G B F F' F2 H H' : Hp} {al al' : List Addr} {mu mu' : Sto} {rh : Ev} {si : L2.St}
/-- all but the containers must stay -/
def but (H : Hp) (al : List Addr) : Hp := fun a => if a ∈ al then none else H a
theorem callS_ok {sp : VSp} {dds : List D} {dvs : List V} (hdd : ∀ F, RepDs K F dds dvs) {ws : List W} {vs : List V} {Qd : W → Sto → Prop} {Q : L2.VK} {E : XK} (s : SR K G B F H al rh si mu) (r : Paired (RepW K F al) ws vs) (h : sp (ws ++ dds.map .d) mu Qd)
    (q : ∀ F' H' al' mu' w v, Ext F al F' al' → SR K G B F' H' al' rh si mu' → RepW K F' al' w v → Qd w mu' → Q v H') : toSp K sp (vs ++ dvs) H Q E := by
  have inAl : ∀ {a : Addr}, a ∈ al → B a = none ∧ F a = none := fun {a} hm => by
    obtain ⟨k, hk⟩ := List.mem_iff_getElem?.mp hm
    obtain ⟨c, hc⟩ := s.s.has hk
    obtain ⟨_, z1, z2, _, _⟩ := s.s.at hc hk
    exact ⟨z2, z1⟩
  have s0 : SRS K F (but H al) F H al mu := {
    fz := s.s.fz
    bs := fun a o e => by
      unfold but at e
      split at e
      · cases e
      · exact e
    gf := Same.refl F
    fr := fun a o e => .inl e
    nd := s.s.nd
    len := s.s.len
    st := fun k c e => by
      obtain ⟨a, o, e1, e2, e3, e4, e5⟩ := s.s.st k c e
      exact ⟨a, o, e1, e2, by unfold but; rw [if_pos (List.mem_of_getElem? e1)], e4, e5⟩ }
  refine ⟨but H al, F, al, mu, _, Qd, s0, pApp r (pMapDs (hdd F)), h, fun F' H' al' mu' u v x s' ru hq => ?_⟩
  have bN : ∀ {a : Addr}, but H al a = none → B a = none := fun {a} z => by
    unfold but at z
    split at z
    · exact (inAl (by assumption)).1
    · exact sameNone s.s.bs z
  have s2 : SRS K G B F' H' al' mu' := {
    fz := s'.fz
    bs := fun a o e => s'.bs _ _ (by
      unfold but
      rw [if_neg fun hm => by rw [(inAl hm).1] at e; cases e]
      exact s.s.bs _ _ e)
    gf := s.s.gf.trans s'.gf
    fr := fun a o e => by
      rcases s'.fr a o e with z | z | z
      · exact s.s.fr a o z
      · exact .inr (.inl (bN z))
      · exact .inr (.inr z)
    nd := s'.nd
    len := s'.len
    st := fun k c e => by
      obtain ⟨a, o, e1, e2, e3, e4, e5⟩ := s'.st k c e
      exact ⟨a, o, e1, e2, bN e3, e4, e5⟩ }
  exact q F' H' al' mu' u v x (s.step x s2) ru hq
end
section
variable {io : Type} {Y : io → Cx} {P : Program} {w : World} {K : KW} {mg : Str → Option Value} {base : Heap} {N : List Str} {k j : Nat} {pos p : Pos} {e : Expr} {es : List Expr} {ga : WA} {x : Str} {dds : List D}
theorem fnOk_at {f : Addr} {fd : FuncData} {ps : List Str} {sp : Sp} (y : YOk Y P w K mg base N k) (F : FnOk P w K mg base CX0 j f fd ps sp) (i : io) : FnOk (Y i).prog (Y i).w (Y i).K (Y i).mg (Y i).base CX0 j f fd ps sp := by
  rw [y.hP i, y.hw i, y.hK i, y.hmg i, y.hbase i]; exact F
theorem binds_at {fd : FuncData} {ps : List Str} {ds : List Value} (y : YOk Y P w K mg base N k) (F : Binds K fd ps ds) (i : io) : Binds (Y i).K fd ps ds := by
  rw [y.hK i]; exact F
/-- f(e, ..) of data -/
theorem ve_callP (y : YOk Y P w K mg base N k) (o : Bool) {sp : PSp} (d : Def P w K mg base x j dds (pSp sp)) (hj : j ≤ k) (ha : VA Y K (e :: es) ga) (hg : ∀ i, Gl (Y i) x := by exact fun _ => rfl) (hdb : (x == ("__debug__" : Str)) = false := by decide)
    (he : ∀ i, starEach (e :: es) (Y i).env = (false, eval e (Y i).env) :: starEach es (Y i).env := by exact fun _ => rfl) (hpl : ∀ i, (backTo pos (starEach es (Y i).env)).any (·.1) = false := by exact fun _ => rfl) : VE Y K (.Call (.Name x p) (e :: es) [] pos) (wCallP o sp dds ga) := by
  obtain ⟨f, fd, ps, ds, dvs, hm, hk, hb, hd, hdd, F⟩ := d
  obtain ⟨t, p1, d1⟩ := ha
  refine ⟨tCall (toSp K (pSp sp)) dvs E0 t, fun i => pe_call (fnOk_at y F i) ((y.room i).mono hj) (hg i) (by rw [y.hmg i]; exact hm) (by rw [y.hK i]; exact hk) (binds_at y hb i) hd pass0 (p1 i) hdb (he i) (hpl i), fun G B F H al rh si mu Qd Q s h q => ?_⟩
  refine d1 G B F H al rh si mu _ _ s h fun F1 H1 al1 mu1 ws vs e1 s1 r1 h1 => ?_
  exact callP_ok hdd s1 r1 h1 fun F2 H2 al2 mu2 z vz e2 => q F2 H2 al2 mu2 z vz (e1.trans e2)
theorem ve_callP0 (y : YOk Y P w K mg base N k) (o : Bool) {sp : PSp} (d : Def P w K mg base x j dds (pSp sp)) (hj : j ≤ k) (hg : ∀ i, Gl (Y i) x := by exact fun _ => rfl) (hdb : (x == ("__debug__" : Str)) = false := by decide) : VE Y K (.Call (.Name x p) [] [] pos) (wCallP o sp dds wNil) := by
  obtain ⟨f, fd, ps, ds, dvs, hm, hk, hb, hd, hdd, F⟩ := d
  refine ⟨tCall (toSp K (pSp sp)) dvs E0 tNil, fun i => pe_call0 (fnOk_at y F i) ((y.room i).mono hj) (hg i) (by rw [y.hmg i]; exact hm) (by rw [y.hK i]; exact hk) (binds_at y hb i) hd pass0 hdb, fun G B F H al rh si mu Qd Q s h q => ?_⟩
  exact callP_ok (E := E0) hdd s .nil h q
/-- f(e, ..) with containers -/
theorem ve_callS (y : YOk Y P w K mg base N k) {sp : VSp} (d : Def P w K mg base x j dds sp) (hj : j ≤ k) (ha : VA Y K (e :: es) ga) (hg : ∀ i, Gl (Y i) x := by exact fun _ => rfl) (hdb : (x == ("__debug__" : Str)) = false := by decide)
    (he : ∀ i, starEach (e :: es) (Y i).env = (false, eval e (Y i).env) :: starEach es (Y i).env := by exact fun _ => rfl) (hpl : ∀ i, (backTo pos (starEach es (Y i).env)).any (·.1) = false := by exact fun _ => rfl) : VE Y K (.Call (.Name x p) (e :: es) [] pos) (wCallS sp dds ga) := by
  obtain ⟨f, fd, ps, ds, dvs, hm, hk, hb, hd, hdd, F⟩ := d
  obtain ⟨t, p1, d1⟩ := ha
  refine ⟨tCall (toSp K sp) dvs E0 t, fun i => pe_call (fnOk_at y F i) ((y.room i).mono hj) (hg i) (by rw [y.hmg i]; exact hm) (by rw [y.hK i]; exact hk) (binds_at y hb i) hd pass0 (p1 i) hdb (he i) (hpl i), fun G B F H al rh si mu Qd Q s h q => ?_⟩
  refine d1 G B F H al rh si mu _ _ s h fun F1 H1 al1 mu1 ws vs e1 s1 r1 h1 => ?_
  exact callS_ok hdd s1 r1 h1 fun F2 H2 al2 mu2 z vz e2 => q F2 H2 al2 mu2 z vz (e1.trans e2)
end
section
variable {P : Program} {w : World} {K : KW} {mg : Str → Option Value} {base : Heap}
/-- a def that stands behind the top -/
theorem def_mk {x qual : Str} {st : Stmt} {f : Addr} {fd : FuncData} {N ps : List Str} {k : Nat} {sp : VSp} (F : Fun K x qual st f fd) (hm : mg x = some (.ref f)) (S : FnScope N ps (defScope st)) (hb : Binds K fd ps []) (hlen : ∀ ws mu Q, sp ws mu Q → ws.length = ps.length)
    (body : ∀ (cdv : Value) (A : Around) (outer : List Env) (s : Shared) (H : Hp) (E : XK), YOk (un (bX P w K mg base N qual (defScope st) f cdv A outer s H E)) P w K mg base N k →
      ∃ g, VSs (bX P w K mg base N qual (defScope st) f cdv A outer s H E) K (defBody st) g ∧ ∀ ws mu Q, sp ws mu Q → g { nx := fun _ mu => Q (.d .non) mu, rt := Q } (startE N ws) mu) : Def P w K mg base x (k + 1) [] sp :=
  ⟨f, fd, ps, [], [], hm, F.kp, hb, .nil, fun _ => .nil, fnv_ok F S hlen body⟩
/-- the law's own promise -/
def lawSp : PSp := fun ds Q => ∃ ns, ds = [.scr ns] ∧ ns.length ≤ 63 ∧ ∀ mu, Q (.d (.bl true)) mu
def spLaw (K : KW) : Sp := fun vs H Q _ => ∃ (a : Addr) (ns : List Int), vs = [.ref a] ∧ SqL K H a (ns.map V.int) ∧ ns.length ≤ 63 ∧ ∀ H', Q (.bl true) H'
end
end VL
namespace VL
open PySem PySem.Spec PyProof.Rows L2 RZ
theorem law_sp {K : KW} {H : Hp} {a : Addr} {ns : List Int} (hl : ns.length ≤ 63) (h : SqL K H a (ns.map V.int)) : toSp K (pSp lawSp) [.ref a] H (fun v _ => v = .bl true) fun _ _ _ => False := by
  refine ⟨H, H, [], [], [.d (.scr ns)], fun w _ => w = .d (.bl true), ⟨Same.refl H, Same.refl H, Same.refl H, fun _ _ e => .inl e, by simp, rfl, fun k c e => by simp at e⟩, .cons (.d (.scr h (Nat.le_trans hl (by decide)))) .nil, ⟨rfl, [.scr ns], rfl, ns, rfl, hl, fun _ => rfl⟩, fun F' H' al' mu' u v x s r e => ?_⟩
  subst e
  cases r with
  | d r => cases r; rfl
theorem law_walk {l : PySem.W.OpenLaw} {q : Program} {loose : List Str} {XP : (Str → Option Value) → Heap → Prop} {YP : World → Heap → Prop} {d : DefRec} {K : Params → PySem.W.Frag} {k : Nat} {x : Str} (hn : l.most = some 63) (hdf : d.params.defaults = []) (hr : Room k callerA)
    (hY : ∀ (w : World) (h : Heap), YP w h → (K w.params).In h)
    (F : ∀ (w : World) (mg : Str → Option Value) (fa : Addr) (h : Heap), (K w.params).In h → h.Ns mainGlobals mg → mg d.name = some (.ref fa) →
      ∃ fd : FuncData, (∀ (s : Shared) (u : Value), BindsTo s fd ⟨[u], []⟩ [(x, u)]) ∧
        ∀ base : Heap, (K w.params).In base → base.Ns mainGlobals mg → FnOk l.prog w (K w.params) mg base CX0 k fa fd [x] (toSp ⟨K w.params, w⟩ (pSp lawSp))) :
    PySem.W.WalkO q loose XP YP l.row.toRowW d [] (fun f vs => PySem.call f vs) :=
  L2.walk_of (CX := fun _ => CX0) (sp := fun w => toSp ⟨K w.params, w⟩ (pSp lawSp)) hn (by decide) hdf hr hY F (fun _ _ _ _ hl _ hS => law_sp hl hS) fun _ _ _ _ _ z => z
end VL
namespace VL
open PySem PySem.Spec PyProof.Rows L2 RZ

/-! ### reckoning with the values -/
@[simp] def evr (Q : W → Sto → Prop) : EV := { nx := fun _ mu => Q (.d .non) mu, rt := Q }
@[simp] def sp0 (g : (W → Sto → Prop) → Prop) : PSp := fun ds Q => match ds with
  | [] => g Q
  | _ => False
@[simp] def sp1 (g : D → (W → Sto → Prop) → Prop) : PSp := fun ds Q => match ds with
  | [a] => g a Q
  | _ => False
@[simp] def sp2 (g : D → D → (W → Sto → Prop) → Prop) : PSp := fun ds Q => match ds with
  | [a, b] => g a b Q
  | _ => False
@[simp] def sp3 (g : D → D → D → (W → Sto → Prop) → Prop) : PSp := fun ds Q => match ds with
  | [a, b, c] => g a b c Q
  | _ => False
@[simp] def sp4 (g : D → D → D → D → (W → Sto → Prop) → Prop) : PSp := fun ds Q => match ds with
  | [a, b, c, d] => g a b c d Q
  | _ => False
@[simp] def sp5 (g : D → D → D → D → D → (W → Sto → Prop) → Prop) : PSp := fun ds Q => match ds with
  | [a, b, c, d, e] => g a b c d e Q
  | _ => False
theorem len0 {g} {ws : List W} {mu : Sto} {Q} (h : pSp (sp0 g) ws mu Q) : ws.length = 0 := by
  obtain ⟨_, ds, rfl, h⟩ := h
  unfold sp0 at h
  split at h
  · rfl
  · exact h.elim
theorem len1 {g} {ws : List W} {mu : Sto} {Q} (h : pSp (sp1 g) ws mu Q) : ws.length = 1 := by
  obtain ⟨_, ds, rfl, h⟩ := h
  unfold sp1 at h
  split at h
  · rfl
  · exact h.elim
theorem len2 {g} {ws : List W} {mu : Sto} {Q} (h : pSp (sp2 g) ws mu Q) : ws.length = 2 := by
  obtain ⟨_, ds, rfl, h⟩ := h
  unfold sp2 at h
  split at h
  · rfl
  · exact h.elim
theorem len3 {g} {ws : List W} {mu : Sto} {Q} (h : pSp (sp3 g) ws mu Q) : ws.length = 3 := by
  obtain ⟨_, ds, rfl, h⟩ := h
  unfold sp3 at h
  split at h
  · rfl
  · exact h.elim
theorem len4 {g} {ws : List W} {mu : Sto} {Q} (h : pSp (sp4 g) ws mu Q) : ws.length = 4 := by
  obtain ⟨_, ds, rfl, h⟩ := h
  unfold sp4 at h
  split at h
  · rfl
  · exact h.elim
theorem len5 {g} {ws : List W} {mu : Sto} {Q} (h : pSp (sp5 g) ws mu Q) : ws.length = 5 := by
  obtain ⟨_, ds, rfl, h⟩ := h
  unfold sp5 at h
  split at h
  · rfl
  · exact h.elim
theorem lenL {ws : List W} {mu : Sto} {Q} (h : pSp lawSp ws mu Q) : ws.length = 1 := by
  obtain ⟨_, ds, rfl, ns, rfl, _⟩ := h
  rfl
/-- from the promise to the body -/
theorem at0 {g} {f : WS} {N : List Str} (v : ∀ Q, g Q → f (evr Q) (startE N []) []) : ∀ ws mu Q, pSp (sp0 g) ws mu Q → f { nx := fun _ mu => Q (.d .non) mu, rt := Q } (startE N ws) mu := fun ws mu Q h => by
  obtain ⟨rfl, ds, rfl, h⟩ := h
  unfold sp0 at h
  split at h
  · exact v _ h
  · exact h.elim
theorem at1 {g} {f : WS} {N : List Str} (v : ∀ a Q, g a Q → f (evr Q) (startE N [.d a]) []) : ∀ ws mu Q, pSp (sp1 g) ws mu Q → f { nx := fun _ mu => Q (.d .non) mu, rt := Q } (startE N ws) mu := fun ws mu Q h => by
  obtain ⟨rfl, ds, rfl, h⟩ := h
  unfold sp1 at h
  split at h
  · exact v _ _ h
  · exact h.elim
theorem at2 {g} {f : WS} {N : List Str} (v : ∀ a b Q, g a b Q → f (evr Q) (startE N [.d a, .d b]) []) : ∀ ws mu Q, pSp (sp2 g) ws mu Q → f { nx := fun _ mu => Q (.d .non) mu, rt := Q } (startE N ws) mu := fun ws mu Q h => by
  obtain ⟨rfl, ds, rfl, h⟩ := h
  unfold sp2 at h
  split at h
  · exact v _ _ _ h
  · exact h.elim
theorem at3 {g} {f : WS} {N : List Str} (v : ∀ a b c Q, g a b c Q → f (evr Q) (startE N [.d a, .d b, .d c]) []) : ∀ ws mu Q, pSp (sp3 g) ws mu Q → f { nx := fun _ mu => Q (.d .non) mu, rt := Q } (startE N ws) mu := fun ws mu Q h => by
  obtain ⟨rfl, ds, rfl, h⟩ := h
  unfold sp3 at h
  split at h
  · exact v _ _ _ _ h
  · exact h.elim
theorem at4 {g} {f : WS} {N : List Str} (v : ∀ a b c d Q, g a b c d Q → f (evr Q) (startE N [.d a, .d b, .d c, .d d]) []) : ∀ ws mu Q, pSp (sp4 g) ws mu Q → f { nx := fun _ mu => Q (.d .non) mu, rt := Q } (startE N ws) mu := fun ws mu Q h => by
  obtain ⟨rfl, ds, rfl, h⟩ := h
  unfold sp4 at h
  split at h
  · exact v _ _ _ _ _ h
  · exact h.elim
theorem at5 {g} {f : WS} {N : List Str} (v : ∀ a b c d e Q, g a b c d e Q → f (evr Q) (startE N [.d a, .d b, .d c, .d d, .d e]) []) : ∀ ws mu Q, pSp (sp5 g) ws mu Q → f { nx := fun _ mu => Q (.d .non) mu, rt := Q } (startE N ws) mu := fun ws mu Q h => by
  obtain ⟨rfl, ds, rfl, h⟩ := h
  unfold sp5 at h
  split at h
  · exact v _ _ _ _ _ _ h
  · exact h.elim
theorem atL {f : WS} {N : List Str} (v : ∀ (ns : List Int) (Q : W → Sto → Prop), ns.length ≤ 63 → (∀ mu, Q (.d (.bl true)) mu) → f (evr Q) (startE N [.d (.scr ns)]) []) : ∀ ws mu Q, pSp lawSp ws mu Q → f { nx := fun _ mu => Q (.d .non) mu, rt := Q } (startE N ws) mu := fun ws mu Q h => by
  obtain ⟨rfl, ds, rfl, ns, rfl, hl, h⟩ := h
  exact v ns Q hl h

/-! ### numbers -/
@[simp] theorem gDiv_pos {i j : Int} (h : 0 < j) : gDiv i j = i / j := by unfold gDiv; rw [if_pos h]
@[simp] theorem gMod_pos {i j : Int} (h : 0 < j) : gMod i j = i % j := by unfold gMod; rw [if_pos h]
theorem log2_lt_of' {n a : Nat} (h0 : 0 < a) (h : n < 2 ^ a) : n.log2 < a := PySem.Flt.log2_lt_of h0 h
theorem CD_of {i j : Int} (h0 : j ≠ 0) (h1 : j.natAbs < 2 ^ 8000) : CD i j := ⟨h0, Nat.lt_of_lt_of_le (log2_lt_of' (by decide) h1) (by decide)⟩
@[simp] theorem CD_lit {i j : Int} (h0 : 0 < j) (h1 : j < 2 ^ 250) : CD i j ↔ True := ⟨fun _ => trivial, fun _ => ⟨by omega, by
  have h : j.natAbs < 2 ^ 250 := by
    have e : ((2 : Int) ^ 250) = ((2 ^ 250 : Nat) : Int) := by decide
    rw [e] at h1; omega
  exact Nat.lt_of_lt_of_le (log2_lt_of' (by decide) h) (by decide)⟩⟩
theorem CM_r {i j : Int} (h0 : -(2 ^ 64) < j) (h1 : j < 2 ^ 64) : CM i j := .inl (.inr ⟨h0, h1⟩)
theorem CM_l {i j : Int} (h0 : -(2 ^ 64) < i) (h1 : i < 2 ^ 64) : CM i j := .inl (.inl ⟨h0, h1⟩)
theorem CM_w {i j : Int} {a b : Nat} (h0 : i.natAbs < 2 ^ (a + 1)) (h1 : j.natAbs < 2 ^ (b + 1)) (h : a + b < 999990) : CM i j := .inr (by
  have x := log2_lt_of' (Nat.succ_pos _) h0
  have y := log2_lt_of' (Nat.succ_pos _) h1
  unfold CMulW
  omega)
@[simp] theorem CM_lit {i j : Int} (h0 : -(2 ^ 64) < j) (h1 : j < 2 ^ 64) : CM i j ↔ True := ⟨fun _ => trivial, fun _ => CM_r h0 h1⟩
@[simp] theorem CM_lit' {i j : Int} (h0 : -(2 ^ 64) < i) (h1 : i < 2 ^ 64) : CM i j ↔ True := ⟨fun _ => trivial, fun _ => CM_l h0 h1⟩
theorem CM_big {i j : Int} (h0 : i.natAbs < 2 ^ 1000) (h1 : j.natAbs < 2 ^ 1000) : CM i j := CM_w (a := 999) (b := 999) h0 h1 (by decide)
@[simp] theorem CM_lit2 {i j : Int} (h0 : -(2 ^ 250) < i) (h1 : i < 2 ^ 250) (h2 : -(2 ^ 250) < j) (h3 : j < 2 ^ 250) : CM i j ↔ True := ⟨fun _ => trivial, fun _ => by
  have e : ((2 : Int) ^ 250) = ((2 ^ 250 : Nat) : Int) := by decide
  rw [e] at h0 h1 h2 h3
  exact CM_w (a := 249) (b := 249) (by omega) (by omega) (by decide)⟩
@[simp] theorem CPow_lit {i j : Int} (h0 : 0 ≤ j) (h1 : j ≤ 1000000) (h2 : -(2 ^ 63) < i) (h3 : i < 2 ^ 63) : CPow i j ↔ True := ⟨fun _ => trivial, fun _ => ⟨h0, h1, by omega⟩⟩

/-! ### texts -/
theorem ofString_inj {a b : String} (h : Str.ofString a = Str.ofString b) : a = b := by
  have h1 : (Str.ofString a).cps.toList = (Str.ofString b).cps.toList := by rw [h]
  unfold Str.ofString at h1
  simp only at h1
  rw [cpsOfBytes_string, cpsOfBytes_string] at h1
  have h2 : a.toList = b.toList := by
    refine (List.map_inj_right (f := Char.toNat) fun x y e => ?_).mp h1
    exact Char.toNat_inj.mp e
  exact String.toList_inj.mp h2
@[simp] theorem str_beq (a b : String) : ((Str.ofString a) == (Str.ofString b)) = (a == b) := by
  rw [Bool.eq_iff_iff]
  simp only [beq_iff_eq]
  exact ⟨ofString_inj, fun h => by rw [h]⟩
@[simp] theorem str_eq (a b : String) : (Str.ofString a = Str.ofString b) ↔ (a = b) := ⟨ofString_inj, fun h => by rw [h]⟩

/-! ### lists of data -/
@[simp] theorem asDs_map : ∀ xs : List D, asDs (xs.map W.d) = some xs
  | [] => rfl
  | x :: xs => by simp [asDs_map xs]
@[simp] theorem asDs_mapf {A1 : Type} (f : A1 → D) : ∀ xs : List A1, asDs (xs.map fun x => W.d (f x)) = some (xs.map f)
  | [] => rfl
  | x :: xs => by simp [asDs_mapf f xs]
@[simp] theorem ddeps_int : ∀ ns : List Int, ddeps (ns.map D.int) = 0
  | [] => rfl
  | _ :: ns => by simp [ddeps_int ns]
theorem ddeps_le {n : Nat} : ∀ {xs : List D}, (∀ x ∈ xs, ddep x ≤ n) → ddeps xs ≤ n
  | [], _ => by simp
  | x :: xs, h => by
    have h1 := h x (by simp)
    have h2 := ddeps_le (xs := xs) fun y hy => h y (by simp [hy])
    simp only [ddeps]
    omega

theorem at_mem {A1 : Type} {xs : List A1} {i : Int} (h0 : 0 ≤ i) (h1 : i < xs.length) : ∃ x, atI xs i = some x ∧ x ∈ xs := by
  refine ⟨xs[i.toNat]'(by omega), ?_, List.getElem_mem _⟩
  unfold atI ixN
  rw [if_pos h0, if_pos h1]
  show xs[i.toNat]? = _
  simp
theorem at_nat {A1 : Type} {xs : List A1} {i : Int} (h0 : 0 ≤ i) (h1 : i < xs.length) : atI xs i = xs[i.toNat]? := by
  unfold atI ixN
  rw [if_pos h0, if_pos h1]; rfl
theorem at_getD {A1 : Type} {xs : List A1} {i : Int} (d : A1) (h0 : 0 ≤ i) (h1 : i < xs.length) : atI xs i = some (xs.getD i.toNat d) := by
  rw [at_nat h0 h1, List.getD_eq_getElem?_getD]
  have : i.toNat < xs.length := by omega
  simp [this]
theorem cutL_len {A1 : Type} (xs : List A1) (lo hi : Option Int) : (cutL xs lo hi).length ≤ xs.length := by
  unfold cutL
  rw [List.length_take, List.length_drop]; omega
@[simp] theorem cutL_map {A1 B1 : Type} (f : A1 → B1) (xs : List A1) (lo hi : Option Int) : cutL (xs.map f) lo hi = (cutL xs lo hi).map f := by
  unfold cutL
  rw [List.length_map, List.map_drop.symm, List.map_take.symm]
theorem cutL_mem {A1 : Type} {xs : List A1} {lo hi : Option Int} {x : A1} (h : x ∈ cutL xs lo hi) : x ∈ xs := List.mem_of_mem_drop (List.mem_of_mem_take h)
/-! ### comprehensions of data -/
theorem lc_pure {chk : Sto → Prop} {g : WG} {tt : WT} {te : WE} {rh : Ev} {mu : Sto} {Q : List W → Sto → Prop} (r : W → Option W) (hc : chk mu) : ∀ {items acc : List W},
    (∀ x ∈ items, ∀ (A : W → Sto → Prop) (B : Sto → Prop), (match r x with | some y => A y mu | none => B mu) → g x rh mu fun rh' mu1 => tt rh' mu1 fun b mu2 => if b = true then te rh' mu2 A else B mu2) →
    Q (acc ++ items.filterMap r) mu → lcL chk g tt te rh items acc mu Q
  | [], acc, _, h => ⟨hc, by simpa using h⟩
  | x :: xs, acc, H, h => by
    refine ⟨hc, H x (by simp) _ _ ?_⟩
    split
    · rename_i y e
      refine lc_pure r hc (fun z hz => H z (by simp [hz])) ?_
      rw [List.filterMap_cons, e] at h
      simpa using h
    · rename_i e
      refine lc_pure r hc (fun z hz => H z (by simp [hz])) ?_
      rw [List.filterMap_cons, e] at h
      exact h
theorem lc_D {chk : Sto → Prop} {g : WG} {tt : WT} {te : WE} {rh : Ev} {mu : Sto} {Q : List W → Sto → Prop} {ds : List D} (r : D → Option D) (hc : chk mu)
    (H : ∀ x ∈ ds, ∀ (A : W → Sto → Prop) (B : Sto → Prop), (match r x with | some y => A (.d y) mu | none => B mu) → g (.d x) rh mu fun rh' mu1 => tt rh' mu1 fun b mu2 => if b = true then te rh' mu2 A else B mu2)
    (h : Q ((ds.filterMap r).map W.d) mu) : lcL chk g tt te rh (ds.map W.d) [] mu Q := by
  refine lc_pure (fun w => match w with | .d x => (r x).map W.d | _ => none) hc (fun x hx A B q => ?_) ?_
  · obtain ⟨d, hd, rfl⟩ := List.mem_map.mp hx
    refine H d hd A B ?_
    cases e : r d with
    | none => simp only [e, Option.map_none] at q ⊢; exact q
    | some y => simp only [e, Option.map_some] at q ⊢; exact q
  · have e : (ds.map W.d).filterMap (fun w => match w with | .d x => (r x).map W.d | _ => none) = (ds.filterMap r).map W.d := by
      rw [List.filterMap_map, List.map_filterMap]
      rfl
    rw [List.nil_append, e]
    exact h
/-- .. without a test -/
theorem lc_M {chk : Sto → Prop} {g : WG} {te : WE} {rh : Ev} {mu : Sto} {Q : List W → Sto → Prop} {ds : List D} (f : D → D) (hc : chk mu)
    (H : ∀ x ∈ ds, ∀ (A : W → Sto → Prop), A (.d (f x)) mu → g (.d x) rh mu fun rh' mu1 => te rh' mu1 A)
    (h : Q ((ds.map f).map W.d) mu) : lcL chk g wYes te rh (ds.map W.d) [] mu Q :=
  lc_D (fun x => some (f x)) hc (fun x hx A B q => by simpa using H x hx A q) (by rw [List.filterMap_eq_map']; exact h)

/-! ### an item of a displayed list -/
@[simp] theorem at_c0 {A1 : Type} (x : A1) (xs : List A1) : atI (x :: xs) 0 = some x := by
  rw [at_nat (by omega) (by simp)]; rfl
@[simp] theorem at_c1 {A1 : Type} (x y : A1) (xs : List A1) : atI (x :: y :: xs) 1 = some y := by
  rw [at_nat (by omega) (by simp; omega)]; rfl
@[simp] theorem at_c2 {A1 : Type} (x y z : A1) (xs : List A1) : atI (x :: y :: z :: xs) 2 = some z := by
  rw [at_nat (by omega) (by simp; omega)]; rfl
@[simp] theorem at_c3 {A1 : Type} (x y z u : A1) (xs : List A1) : atI (x :: y :: z :: u :: xs) 3 = some u := by
  rw [at_nat (by omega) (by simp; omega)]; rfl
/-- an item counted from behind -/
theorem at_neg {A1 : Type} {xs : List A1} {i : Int} (h0 : i < 0) (h1 : -xs.length ≤ i) : ∃ x, atI xs i = some x ∧ x ∈ xs := by
  refine ⟨xs[(i + xs.length).toNat]'(by omega), ?_, List.getElem_mem _⟩
  unfold atI ixN
  rw [if_neg (by omega), if_pos (by omega)]
  show xs[_]? = _
  rw [List.getElem?_eq_getElem (by omega)]
theorem at_any {A1 : Type} {xs : List A1} {i : Int} (h0 : -xs.length ≤ i) (h1 : i < xs.length) : ∃ x, atI xs i = some x ∧ x ∈ xs := by
  by_cases h : 0 ≤ i
  · exact at_mem h h1
  · exact at_neg (by omega) h0

/-! ### loops by an invariant -/
theorem forL_inv {chk : Sto → Prop} {g : WG} {b : WS} {V : EV} (I : Ev → Sto → Prop) (hc : ∀ rh mu, I rh mu → chk mu) (hend : ∀ rh mu, I rh mu → V.nx rh mu) : ∀ {items : List W} {rh : Ev} {mu : Sto},
    (∀ x ∈ items, ∀ rh mu, I rh mu → ∀ N : Ev → Sto → Prop, (∀ rh mu, I rh mu → N rh mu) → g x rh mu fun rh' mu' => b { V with nx := N, ct := N, bk := V.nx } rh' mu') → I rh mu → forL chk g b V items rh mu
  | [], _, _, _, h => ⟨hc _ _ h, hend _ _ h⟩
  | x :: xs, rh, mu, H, h => ⟨hc _ _ h, H x (by simp) _ _ h _ fun rh mu h1 => forL_inv I hc hend (fun y hy => H y (by simp [hy])) h1⟩
theorem forL_rem {chk : Sto → Prop} {g : WG} {b : WS} {V : EV} (I : List W → Ev → Sto → Prop) (hc : ∀ xs rh mu, I xs rh mu → chk mu) (hend : ∀ rh mu, I [] rh mu → V.nx rh mu)
    (H : ∀ x xs rh mu, I (x :: xs) rh mu → ∀ N : Ev → Sto → Prop, (∀ rh mu, I xs rh mu → N rh mu) → g x rh mu fun rh' mu' => b { V with nx := N, ct := N, bk := V.nx } rh' mu') : ∀ {items : List W} {rh : Ev} {mu : Sto}, I items rh mu → forL chk g b V items rh mu
  | [], _, _, h => ⟨hc _ _ _ h, hend _ _ h⟩
  | x :: xs, rh, mu, h => ⟨hc _ _ _ h, H x xs _ _ h _ fun rh mu h1 => forL_rem I hc hend H h1⟩
theorem forL_idx {chk : Sto → Prop} {g : WG} {b : WS} {V : EV} (I : Nat → Ev → Sto → Prop) (hc : ∀ i rh mu, I i rh mu → chk mu) {items : List W} (hend : ∀ rh mu, I items.length rh mu → V.nx rh mu)
    (H : ∀ i x, items[i]? = some x → ∀ rh mu, I i rh mu → ∀ N : Ev → Sto → Prop, (∀ rh mu, I (i + 1) rh mu → N rh mu) → g x rh mu fun rh' mu' => b { V with nx := N, ct := N, bk := V.nx } rh' mu') {rh : Ev} {mu : Sto} (h : I 0 rh mu) : forL chk g b V items rh mu := by
  refine forL_rem (fun xs rh mu => ∃ i, xs = items.drop i ∧ i ≤ items.length ∧ I i rh mu) (fun _ _ _ ⟨i, _, _, h⟩ => hc i _ _ h) (fun rh mu ⟨i, e, l, h⟩ => ?_) (fun x xs rh mu ⟨i, e, l, h⟩ N hN => ?_) ⟨0, by simp, Nat.zero_le _, h⟩
  · have : items.length ≤ i := by
      have := congrArg List.length e; simp at this; omega
    obtain rfl : i = items.length := by omega
    exact hend _ _ h
  · have hi : i < items.length := by
      have := congrArg List.length e; simp at this; omega
    rw [List.drop_eq_getElem_cons hi] at e
    injection e with e1 e2
    subst e1
    exact H i _ (List.getElem?_eq_getElem hi) _ _ h N fun rh mu h1 => hN _ _ ⟨i + 1, e2, hi, h1⟩
/-- a range from nought -/
theorem forL_rng {chk : Sto → Prop} {g : WG} {b : WS} {V : EV} {n : Nat} (I : Nat → Ev → Sto → Prop) (hc : ∀ i rh mu, I i rh mu → chk mu) (hend : ∀ rh mu, I n rh mu → V.nx rh mu)
    (H : ∀ i, i < n → ∀ rh mu, I i rh mu → ∀ N : Ev → Sto → Prop, (∀ rh mu, I (i + 1) rh mu → N rh mu) → g (.d (.int i)) rh mu fun rh' mu' => b { V with nx := N, ct := N, bk := V.nx } rh' mu') {rh : Ev} {mu : Sto} (h : I 0 rh mu) : forL chk g b V (rngW 0 n) rh mu := by
  refine forL_idx I hc (fun rh mu h => hend rh mu (by rw [rngW_len] at h; exact h)) (fun i x e rh mu h N hN => ?_) h
  have hi : i < n := by
    have := (List.getElem?_eq_some_iff.mp e).1; rw [rngW_len] at this; exact this
  rw [rngW_get 0 n i hi] at e
  injection e with e; subst e
  rw [Int.zero_add]
  exact H i hi rh mu h N hN
theorem rngW_mem {x : W} : ∀ {n : Nat} {lo : Int}, x ∈ rngW lo n → ∃ i : Int, lo ≤ i ∧ i < lo + n ∧ x = .d (.int i)
  | 0, lo, h => by simp [rngW] at h
  | n + 1, lo, h => by
    rw [rngW] at h
    rcases List.mem_cons.mp h with h | h
    · exact ⟨lo, by omega, by omega, h⟩
    · obtain ⟨i, h1, h2, h3⟩ := rngW_mem h
      exact ⟨i, by omega, by omega, h3⟩
/-- the names' values at a loop's head: the fixed ones, the loose ones -/
def Loose (fix : Ev) (n : Nat) (rh : Ev) : Prop := ∃ ys : Ev, ys.length = n ∧ rh = fix ++ ys

/-! ### comprehensions: a filter; results of a kind -/
theorem lc_F {chk : Sto → Prop} {g : WG} {tt : WT} {te : WE} {rh : Ev} {mu : Sto} {Q : List W → Sto → Prop} {ds : List D} (p : D → Bool) (hc : chk mu)
    (H : ∀ x ∈ ds, ∀ (A : W → Sto → Prop) (B : Sto → Prop), (if p x = true then A (.d x) mu else B mu) → g (.d x) rh mu fun rh' mu1 => tt rh' mu1 fun b mu2 => if b = true then te rh' mu2 A else B mu2)
    (h : Q ((ds.filter p).map W.d) mu) : lcL chk g tt te rh (ds.map W.d) [] mu Q := by
  refine lc_D (fun x => if p x = true then some x else none) hc (fun x hx A B q => H x hx A B ?_) ?_
  · by_cases e : p x = true
    · simp only [e, if_true] at q ⊢; exact q
    · simp only [e, if_false] at q ⊢; exact q
  · have e : ds.filterMap (fun x => if p x = true then some x else none) = ds.filter p := by
      rw [← List.filterMap_eq_filter]; congr
    rw [e]; exact h
theorem lcL_any {chk : Sto → Prop} {g : WG} {te : WE} {rh : Ev} {mu : Sto} {Q : List W → Sto → Prop} (ok : D → Prop) (hc : chk mu) : ∀ {items : List W} {acc : List D},
    (∀ x ∈ items, ∀ (A : W → Sto → Prop), (∀ y, ok y → A (.d y) mu) → g x rh mu fun rh' mu1 => te rh' mu1 A) →
    (∀ y ∈ acc, ok y) → (∀ ys : List D, ys.length = acc.length + items.length → (∀ y ∈ ys, ok y) → Q (ys.map W.d) mu) → lcL chk g wYes te rh items (acc.map W.d) mu Q
  | [], acc, _, h0, h => ⟨hc, h acc (by simp) h0⟩
  | x :: xs, acc, H, h0, h => by
    refine ⟨hc, ?_⟩
    simp only [wYes, if_true]
    refine H x (by simp) _ fun y hy => ?_
    have e : acc.map W.d ++ [W.d y] = (acc ++ [y]).map W.d := by simp
    rw [e]
    refine lcL_any ok hc (fun z hz => H z (by simp [hz])) (fun z hz => ?_) fun ys hl hys => h ys ?_ hys
    · rcases List.mem_append.mp hz with hz | hz
      · exact h0 z hz
      · rw [List.mem_singleton.mp hz]; exact hy
    · simp at hl ⊢; omega
theorem lc_any {chk : Sto → Prop} {g : WG} {te : WE} {rh : Ev} {mu : Sto} {Q : List W → Sto → Prop} {items : List W} (ok : D → Prop) (hc : chk mu)
    (H : ∀ x ∈ items, ∀ (A : W → Sto → Prop), (∀ y, ok y → A (.d y) mu) → g x rh mu fun rh' mu1 => te rh' mu1 A)
    (h : ∀ ys : List D, ys.length = items.length → (∀ y ∈ ys, ok y) → Q (ys.map W.d) mu) : lcL chk g wYes te rh items [] mu Q :=
  lcL_any (acc := []) ok hc H (by simp) fun ys hl hys => h ys (by simpa using hl) hys

theorem blkOk_at {N : List Str} {S S' scope : Scope} {own : List (Str × Nat)} (h : blkC N S scope own = true) (e : S' = S := by rfl) : BlkOk N S' scope own := e ▸ blkOk_by h
/-! ### bits -/
theorem bit_bool {a : Int} : (Builtin.bitAnd a 1) = a % 2 := by
  have := bitAnd_m1 a
  exact this
end VL
namespace VL
open PySem PySem.Spec PyProof.Rows L2 RZ
/-! ### in, not in -/
@[simp] def flatD : D → Bool
  | .non | .bl _ | .int _ | .str _ => true
  | _ => false
def inD (a : D) (ds : List D) : Bool := ds.any fun z => deqv z a
@[simp] theorem inD_nil (a : D) : inD a [] = false := rfl
@[simp] theorem inD_cons (a x : D) (xs : List D) : inD a (x :: xs) = (deqv x a || inD a xs) := rfl
def subS (i j : Str) : Bool := !(Builtin.Str.occurrences j i 0 j.length 1).isEmpty
@[simp] def fInL (neg : Bool) : F2 := fun mu x y Q => match snap mu x, snap mu y with
  | some a, some (.lst ds) => ddep a ≤ 64 ∧ ddeps ds ≤ 63 ∧ Q (.d (.bl (if neg then !inD a ds else inD a ds))) mu
  | _, _ => False
@[simp] def fInT (neg : Bool) : F2 := fun mu x y Q => match x, y with
  | .d a, .d (.tup ds) => flatD a = true ∧ ds.all flatD = true ∧ Q (.d (.bl (if neg then !inD a ds else inD a ds))) mu
  | _, _ => False
@[simp] def fInS (neg : Bool) : F2 := fun mu x y Q => match x, y with
  | .d (.str a), .d (.str b) => Q (.d (.bl (if neg then !subS a b else subS a b))) mu
  | _, _ => False
@[simp] theorem subS_one (c : Nat) (j : Str) : subS ⟨#[c]⟩ j = decide (c ∈ j.cps.toList) := PySem.StrLaws.found_one j c
section
variable {io : Type} {Y : io → Cx} {P : Program} {w : World} {K : KW} {mg : Str → Option Value} {base : Heap} {N : List Str} {k : Nat}
theorem any_toPs (a : D) : ∀ ds : List D, ((toPs ds).any fun z => PyData.eqv z (toP a)) = inD a ds
  | [] => rfl
  | d :: ds => by
    rw [inD_cons, ← any_toPs a ds, ← toP_eqv]; rfl
theorem flD_rep {F : Hp} {x : D} {v : V} (r : RepD K F x v) (h : flatD x = true) : flatV v = true := by
  cases r <;> first | rfl | (exfalso; simp at h; done)
theorem flat_eqV {F : Hp} {x y : D} {v u : V} (r : RepD K F x v) (r' : RepD K F y u) (h : flatD x = true) (h' : flatD y = true) : eqV v u = deqv x y := by
  cases r <;> cases r' <;> first | (exfalso; simp at h; done) | (exfalso; simp at h'; done) | simp [eqV]
theorem flD_all {F : Hp} : ∀ {xs : List D} {vs : List V}, Paired (RepD K F) xs vs → xs.all flatD = true → vs.all flatV = true
  | [], _, .nil, _ => rfl
  | x :: xs, _, .cons r t, h => by
    rw [List.all_cons, Bool.and_eq_true] at h ⊢
    exact ⟨flD_rep r h.1, flD_all t h.2⟩
theorem flat_in {F : Hp} {a : D} {v : V} (ra : RepD K F a v) (ha : flatD a = true) : ∀ {xs : List D} {vs : List V}, Paired (RepD K F) xs vs → xs.all flatD = true → inV v vs = inD a xs
  | [], _, .nil, _ => rfl
  | x :: xs, _, .cons r t, h => by
    rw [List.all_cons, Bool.and_eq_true] at h
    show (eqV _ v || inV v _) = _
    rw [inD_cons, flat_eqV r ra h.1 ha, flat_in ra ha t h.2]
theorem opd_inL : OpD K (rInD K) (fInL false) := fun G B F H al rh si mu x y vx vy Qd Q s r1 r2 h q => by
  unfold fInL at h
  split at h
  · rename_i a ds e1 e2
    have p1 := snap_rep s.s r1 e1
    have p2 := snap_rep s.s r2 e2
    exact ⟨toP a, toPs ds, rep_dp p1 (by have := h.1; omega), rep_dp p2 (by have := h.2.1; simp; omega), rep_shaped p1 h.1, rep_shaped p2 (by have := h.2.1; simp; omega), by rw [any_toPs]; exact q F H al mu _ _ (Ext.refl _ _) s (.d (.bl _)) h.2.2⟩
  · exact h.elim
theorem opd_notinL : OpD K (rNotInD K) (fInL true) := fun G B F H al rh si mu x y vx vy Qd Q s r1 r2 h q => by
  unfold fInL at h
  split at h
  · rename_i a ds e1 e2
    have p1 := snap_rep s.s r1 e1
    have p2 := snap_rep s.s r2 e2
    exact ⟨toP a, toPs ds, rep_dp p1 (by have := h.1; omega), rep_dp p2 (by have := h.2.1; simp; omega), rep_shaped p1 h.1, rep_shaped p2 (by have := h.2.1; simp; omega), by rw [any_toPs]; exact q F H al mu _ _ (Ext.refl _ _) s (.d (.bl _)) h.2.2⟩
  · exact h.elim
theorem opd_inT (neg : Bool) : OpD K (rIn K neg) (fInT neg) := fun G B F H al rh si mu x y vx vy Qd Q s r1 r2 h q => by
  unfold fInT at h
  split at h
  · rename_i a ds
    obtain ⟨h1, h2, h3⟩ := h
    obtain ⟨p, vs, rfl, hs, hz, hp⟩ := repTup r2
    cases r1 with
    | d r1 =>
      refine ⟨p, vs, rfl, .inr (sqtMono s.s.fz hs), flD_rep r1 h1, flD_all hp h2, ?_⟩
      rw [flat_in r1 h1 hp h2]
      exact q F H al mu _ _ (Ext.refl _ _) s (.d (.bl _)) h3
  · exact h.elim
theorem opd_inS : OpD K (fun x y H Q => ∃ i j, x = .str i ∧ y = .str j ∧ Q (.bl (!(Builtin.Str.occurrences j i 0 j.length 1).isEmpty)) H) (fInS false) := fun G B F H al rh si mu x y vx vy Qd Q s r1 r2 h q => by
  unfold fInS at h
  split at h
  · obtain ⟨rfl, _⟩ := repStr r1
    obtain ⟨rfl, _⟩ := repStr r2
    exact ⟨_, _, rfl, rfl, q F H al mu _ _ (Ext.refl _ _) s (.d (.bl _)) h⟩
  · exact h.elim
theorem opd_notinS : OpD K (fun x y H Q => ∃ i j, x = .str i ∧ y = .str j ∧ Q (.bl (!(!(Builtin.Str.occurrences j i 0 j.length 1).isEmpty))) H) (fInS true) := fun G B F H al rh si mu x y vx vy Qd Q s r1 r2 h q => by
  unfold fInS at h
  split at h
  · obtain ⟨rfl, _⟩ := repStr r1
    obtain ⟨rfl, _⟩ := repStr r2
    exact ⟨_, _, rfl, rfl, q F H al mu _ _ (Ext.refl _ _) s (.d (.bl _)) h⟩
  · exact h.elim
theorem c_inL (y : YOk Y P w K mg base N k) : CmpK Y K .In (fInL false) := .mk (fun i => by rw [← y.hK i]; exact op_inD (by have := (y.room i).un; omega)) opd_inL
theorem c_notinL (y : YOk Y P w K mg base N k) : CmpK Y K .NotIn (fInL true) := .mk (fun i => by rw [← y.hK i]; exact op_notInD (by have := (y.room i).un; omega)) opd_notinL
theorem c_inT (y : YOk Y P w K mg base N k) : CmpK Y K .In (fInT false) := .mk (fun i => by rw [← y.hK i]; exact op_in_seq) (opd_inT false)
theorem c_notinT (y : YOk Y P w K mg base N k) : CmpK Y K .NotIn (fInT true) := .mk (fun i => by rw [← y.hK i]; exact op_notIn_seq) (opd_inT true)
theorem c_inS (y : YOk Y P w K mg base N k) : CmpK Y K .In (fInS false) := .mk (fun i => op_in_str) opd_inS
theorem c_notinS (y : YOk Y P w K mg base N k) : CmpK Y K .NotIn (fInS true) := .mk (fun i => op_notin_str) opd_notinS
end

/-! ### methods of texts with one argument -/
section
variable {io : Type} {Y : io → Cx} {P : Program} {w : World} {K : KW} {mg : Str → Option Value} {base : Heap} {N : List Str} {k : Nat} {o e : Expr} {wo we : WE} {apos pos : Pos}
@[simp] def wM1 (f : F2) (o e : WE) : WE := fun rh mu Q => o rh mu fun x mu1 => match x with
  | .d (.str a) => e rh mu1 fun y mu2 => f mu2 (.d (.str a)) y Q
  | _ => False
@[simp] def fStarts : F2 := fun mu x y Q => match x, y with
  | .d (.str a), .d (.str b) => Q (.d (.bl (Txt.startswith a b))) mu
  | _, _ => False
def strsOf : List D → Option (List Str)
  | [] => some []
  | .str x :: ds => (strsOf ds).map (x :: ·)
  | _ :: _ => none
@[simp] def fJoin : F2 := fun mu x y Q => match x, lsD mu y with
  | .d (.str a), some ds => match strsOf ds with
    | some ys => (ys.map (·.length)).sum + ys.length * a.length ≤ 16777216 ∧ StrOk (Txt.join a ys) ∧ Q (.d (.str (Txt.join a ys))) mu
    | none => False
  | _, _ => False
theorem strs_rep {F : Hp} : ∀ {ds : List D} {vs : List V} {ys : List Str}, Paired (RepD K F) ds vs → strsOf ds = some ys → vs = ys.map V.str
  | [], _, _, .nil, e => by cases e; rfl
  | d :: ds, _, ys, .cons r t, e => by
    cases r <;> simp only [strsOf] at e <;> try cases e
    cases q : strsOf ds with
    | none => rw [q] at e; cases e
    | some zs =>
      rw [q] at e
      cases e
      rw [strs_rep t q]; rfl
theorem den_m1 {r : V → List V → Hp → L2.VK → Prop} {f : F2} {to te : TE} (hd : OpD K (fun x y H Q => r x [y] H Q) f) (d1 : Den K to wo) (d2 : Den K te we) : Den K (tM1 r to te) (wM1 f wo we) := fun G B F H al rh si mu Qd Q s h q => by
  refine d1 G B F H al rh si mu _ _ s h fun F1 H1 al1 mu1 x vx e1 s1 r1 h1 => ?_
  split at h1
  · obtain ⟨rfl, hx⟩ := repStr r1
    refine ⟨⟨_, rfl⟩, ?_⟩
    refine d2 G B F1 H1 al1 rh si mu1 _ _ s1 h1 fun F2 H2 al2 mu2 y vy e2 s2 r2 h2 => ?_
    exact hd G B F2 H2 al2 rh si mu2 _ y _ vy Qd Q s2 (r1.mono e2) r2 h2 fun F3 H3 al3 mu3 z vz e3 => q F3 H3 al3 mu3 z vz ((e1.trans e2).trans e3)
  · exact h1.elim
theorem opd_starts : OpD K (fun x y H Q => ∃ a b, x = .str a ∧ [y] = [.str b] ∧ Q (.bl (Txt.startswith a b)) H) fStarts := fun G B F H al rh si mu x y vx vy Qd Q s r1 r2 h q => by
  unfold fStarts at h
  split at h
  · obtain ⟨rfl, _⟩ := repStr r1
    obtain ⟨rfl, _⟩ := repStr r2
    exact ⟨_, _, rfl, rfl, q F H al mu _ _ (Ext.refl _ _) s (.d (.bl _)) h⟩
  · exact h.elim
def rJoin (K : PySem.W.Frag) : V → List V → Hp → L2.VK → Prop := fun x xs H Q => ∃ a p, ∃ ys : List Str, x = .str a ∧ xs = [.ref p] ∧ (SqL K H p (ys.map V.str) ∨ SqT K H p (ys.map V.str)) ∧
      (ys.map (·.length)).sum + ys.length * a.length ≤ 16777216 ∧ Q (.str (Txt.join a ys)) H
theorem opd_join : OpD K (fun x y H Q => rJoin K x [y] H Q) fJoin := fun G B F H al rh si mu x y vx vy Qd Q s r1 r2 h q => by
  unfold fJoin at h
  split at h
  · rename_i a ds e
    split at h
    · rename_i ys e2
      obtain ⟨rfl, _⟩ := repStr r1
      obtain ⟨p, vs, rfl, hr, hz, hp⟩ := lsD_rep s.s r2 e
      have := strs_rep hp e2
      subst this
      exact ⟨a, p, ys, rfl, rfl, .inl (.inl hr), h.1, q F H al mu _ _ (Ext.refl _ _) s (.d (.str _ h.2.1)) h.2.2⟩
    · exact h.elim
  · exact h.elim
theorem ve_m1 {id : String} {name : Str} {r : V → List V → Hp → L2.VK → Prop} {f : F2} (slot : Slot "str" name id) (ty : typeOf (.builtin id) = pure (.type "method_descriptor")) (rule : ∀ i, MtR (Y i) id r) (hd : OpD K (fun x y H Q => r x [y] H Q) f) (ho : VE Y K o wo) (he : VE Y K e we)
    (hs : ∀ i, starEach [e] (Y i).env = [(false, eval e (Y i).env)] := by exact fun _ => rfl) (hbase : ∀ i, attributeBase o name (Y i).env (eval o (Y i).env) = eval o (Y i).env := by exact fun _ => rfl) (hline : (apos.endLine == pos.line) = true := by rfl) :
    VE Y K (.Call (.Attribute o name apos) [e] [] pos) (wM1 f wo we) := by
  obtain ⟨t1, p1, d1⟩ := ho
  obtain ⟨t2, p2, d2⟩ := he
  exact ⟨_, fun i => pe_m1 slot ty (rule i) (p1 i) (p2 i) (hs i) (hbase i) hline, den_m1 hd d1 d2⟩
theorem ve_starts (ho : VE Y K o wo) (he : VE Y K e we) (hs : ∀ i, starEach [e] (Y i).env = [(false, eval e (Y i).env)] := by exact fun _ => rfl)
    (hbase : ∀ i, attributeBase o "startswith" (Y i).env (eval o (Y i).env) = eval o (Y i).env := by exact fun _ => rfl) (hline : (apos.endLine == pos.line) = true := by rfl) : VE Y K (.Call (.Attribute o "startswith" apos) [e] [] pos) (wM1 fStarts wo we) :=
  ve_m1 F.slot_str_startswith F.type_str_startswith (fun _ => mt_startswith) opd_starts ho he hs hbase hline
theorem ve_join (y : YOk Y P w K mg base N k) (ho : VE Y K o wo) (he : VE Y K e we) (hs : ∀ i, starEach [e] (Y i).env = [(false, eval e (Y i).env)] := by exact fun _ => rfl)
    (hbase : ∀ i, attributeBase o "join" (Y i).env (eval o (Y i).env) = eval o (Y i).env := by exact fun _ => rfl) (hline : (apos.endLine == pos.line) = true := by rfl) : VE Y K (.Call (.Attribute o "join" apos) [e] [] pos) (wM1 fJoin wo we) :=
  ve_m1 (r := rJoin K) F.slot_str_join F.type_str_join (fun i => by rw [← y.hK i]; exact mt_join) opd_join ho he hs hbase hline
end
end VL
namespace VL
open PySem PySem.Spec PyProof.Rows L2 RZ
/-! ### promises over values and the store -/
@[simp] def sS1 (g : W → Sto → (W → Sto → Prop) → Prop) : VSp := fun ws mu Q => match ws with
  | [a] => g a mu Q
  | _ => False
@[simp] def sS2 (g : W → W → Sto → (W → Sto → Prop) → Prop) : VSp := fun ws mu Q => match ws with
  | [a, b] => g a b mu Q
  | _ => False
@[simp] def sS3 (g : W → W → W → Sto → (W → Sto → Prop) → Prop) : VSp := fun ws mu Q => match ws with
  | [a, b, c] => g a b c mu Q
  | _ => False
@[simp] def sS4 (g : W → W → W → W → Sto → (W → Sto → Prop) → Prop) : VSp := fun ws mu Q => match ws with
  | [a, b, c, d] => g a b c d mu Q
  | _ => False
@[simp] def sS5 (g : W → W → W → W → W → Sto → (W → Sto → Prop) → Prop) : VSp := fun ws mu Q => match ws with
  | [a, b, c, d, e] => g a b c d e mu Q
  | _ => False
theorem lenS1 {g} {ws : List W} {mu : Sto} {Q} (h : sS1 g ws mu Q) : ws.length = 1 := by
  unfold sS1 at h
  split at h
  · rfl
  · exact h.elim
theorem lenS2 {g} {ws : List W} {mu : Sto} {Q} (h : sS2 g ws mu Q) : ws.length = 2 := by
  unfold sS2 at h
  split at h
  · rfl
  · exact h.elim
theorem lenS3 {g} {ws : List W} {mu : Sto} {Q} (h : sS3 g ws mu Q) : ws.length = 3 := by
  unfold sS3 at h
  split at h
  · rfl
  · exact h.elim
theorem lenS4 {g} {ws : List W} {mu : Sto} {Q} (h : sS4 g ws mu Q) : ws.length = 4 := by
  unfold sS4 at h
  split at h
  · rfl
  · exact h.elim
theorem lenS5 {g} {ws : List W} {mu : Sto} {Q} (h : sS5 g ws mu Q) : ws.length = 5 := by
  unfold sS5 at h
  split at h
  · rfl
  · exact h.elim
theorem atS1 {g} {f : WS} {N : List Str} (v : ∀ a mu Q, g a mu Q → f (evr Q) (startE N [a]) mu) : ∀ ws mu Q, sS1 g ws mu Q → f { nx := fun _ mu => Q (.d .non) mu, rt := Q } (startE N ws) mu := fun ws mu Q h => by
  unfold sS1 at h
  split at h
  · exact v _ _ _ h
  · exact h.elim
theorem atS2 {g} {f : WS} {N : List Str} (v : ∀ a b mu Q, g a b mu Q → f (evr Q) (startE N [a, b]) mu) : ∀ ws mu Q, sS2 g ws mu Q → f { nx := fun _ mu => Q (.d .non) mu, rt := Q } (startE N ws) mu := fun ws mu Q h => by
  unfold sS2 at h
  split at h
  · exact v _ _ _ _ h
  · exact h.elim
theorem atS3 {g} {f : WS} {N : List Str} (v : ∀ a b c mu Q, g a b c mu Q → f (evr Q) (startE N [a, b, c]) mu) : ∀ ws mu Q, sS3 g ws mu Q → f { nx := fun _ mu => Q (.d .non) mu, rt := Q } (startE N ws) mu := fun ws mu Q h => by
  unfold sS3 at h
  split at h
  · exact v _ _ _ _ _ h
  · exact h.elim
theorem atS4 {g} {f : WS} {N : List Str} (v : ∀ a b c d mu Q, g a b c d mu Q → f (evr Q) (startE N [a, b, c, d]) mu) : ∀ ws mu Q, sS4 g ws mu Q → f { nx := fun _ mu => Q (.d .non) mu, rt := Q } (startE N ws) mu := fun ws mu Q h => by
  unfold sS4 at h
  split at h
  · exact v _ _ _ _ _ _ h
  · exact h.elim
theorem atS5 {g} {f : WS} {N : List Str} (v : ∀ a b c d e mu Q, g a b c d e mu Q → f (evr Q) (startE N [a, b, c, d, e]) mu) : ∀ ws mu Q, sS5 g ws mu Q → f { nx := fun _ mu => Q (.d .non) mu, rt := Q } (startE N ws) mu := fun ws mu Q h => by
  unfold sS5 at h
  split at h
  · exact v _ _ _ _ _ _ _ h
  · exact h.elim

/-! ### {} -/
section
variable {io : Type} {Y : io → Cx} {P : Program} {w : World} {K : KW} {mg : Str → Option Value} {base : Heap} {N : List Str} {k : Nat} {pos : Pos}
@[simp] def wDNewK : WE := fun _ mu Q => Q (.loc mu.length) (mu ++ [.dk []])
theorem ve_dnewK : VE Y K (.Dict [] [] pos) wDNewK := ⟨_, fun _ => pe_dnewK, fun G B F H al rh si mu Qd Q s h q => fun p hp => by
  have c : CRep K F al p (.dk []) (.dK []) := .dk .nil (by simp)
  have x := SRS.ownX (F := F) (al := al) (p := p)
  exact q _ _ _ _ _ _ x (s.step x (s.s.own hp c)) (.loc s.s.atNew) h⟩
end
@[simp] theorem atI_comp {A1 : Type} (f : A1 → D) (xs : List A1) (i : Int) : atI (xs.map (W.d ∘ f)) i = (atI (xs.map f) i).map W.d := by
  unfold atI
  simp only [List.length_map]
  cases ixN xs.length i with
  | none => rfl
  | some j =>
    show (xs.map (W.d ∘ f))[j]? = ((xs.map f)[j]?).map W.d
    simp [Function.comp_def]
@[simp] theorem len_sign (c : Nat) : Str.length ⟨#[c]⟩ = 1 := rfl
theorem ite_of {c : Prop} [Decidable c] {a b : Prop} (h1 : c → a) (h2 : ¬ c → b) : if c then a else b := by
  by_cases h : c
  · rw [if_pos h]; exact h1 h
  · rw [if_neg h]; exact h2 h
theorem sum_ints {ns : List Int} {mu : Sto} {Q : W → Sto → Prop} (h : Q (.d (.int ns.sum)) mu) : fSum mu [.d (.lst (ns.map D.int))] Q := ⟨ns, rfl, h⟩
theorem sw_cell {elt : Expr} {gs : List Comprehension} {scope : Scope} {pos py : Pos} {y : Str} {l : Nat} {env : Env} (hk : env.scope.kind = .function) (hy : env.scope.names.lookup y = some .cell) : swapsWith (.ListComp elt gs scope pos) (some (.Name y py)) l env = pure false := by
  have ky : env.kindOf y = some .cell := hy
  have hb : env.blockKind = .function := by unfold Env.blockKind; rw [hk]; rfl
  unfold swapsWith
  simp only [hb, ky]
  rfl
end VL
namespace VL
open PySem PySem.Spec PyProof.Rows L2 RZ
/-! ### own classes -/
theorem clsAt.uniq {K : KW} {n : Str} {c c' : Addr} (h : clsAt K n c) (h' : clsAt K n c') : c = c' := by
  unfold clsAt at h h'
  rw [h] at h'
  injection h' with h'
  injection h' with h'
  injection h' with h'
@[simp] def getI (mu : Sto) : W → Option (Str × List (Str × W))
  | .loc k => match mu[k]? with
    | some (.ins n fs) => some (n, fs)
    | _ => none
  | _ => none
theorem getI_eq {mu : Sto} {x : W} {n : Str} {fs : List (Str × W)} (h : getI mu x = some (n, fs)) : ∃ k, x = .loc k ∧ mu[k]? = some (.ins n fs) := by
  cases x with
  | loc k =>
    simp only [getI] at h
    split at h
    · rename_i n' fs' e
      injection h with h
      cases h
      exact ⟨k, rfl, e⟩
    · cases h
  | _ => cases h
section
variable {K : KW} {G B F H : Hp} {al : List Addr} {mu : Sto}
theorem ins_rep {x : W} {v : V} {n : Str} {fs : List (Str × W)} (s : SRS K G B F H al mu) (r : RepW K F al x v) (e : getI mu x = some (n, fs)) :
    ∃ k a c dx gs, x = .loc k ∧ mu[k]? = some (.ins n fs) ∧ al[k]? = some a ∧ v = .ref a ∧ H a = some (.ins c dx gs) ∧ clsAt K n c ∧ Paired (fun p q => p.1 = q.1 ∧ RepW K F al p.2 q.2) fs gs := by
  obtain ⟨k, rfl, ek⟩ := getI_eq e
  cases r with
  | loc ea =>
    obtain ⟨o, _, _, ho, cr⟩ := s.at ek ea
    cases cr with
    | ins z p => exact ⟨k, _, _, _, _, rfl, ek, ea, rfl, ho, z, p⟩
theorem flds_get {f : Str} {w : W} : ∀ {fs : List (Str × W)} {gs : List (Str × V)}, Paired (fun p q => p.1 = q.1 ∧ RepW K F al p.2 q.2) fs gs → fs.lookup f = some w → ∃ v, gs.lookup f = some v ∧ RepW K F al w v
  | _, _, .nil, e => by cases e
  | (g, x) :: _, (g', y) :: _, .cons r t, e => by
    obtain ⟨r1, r2⟩ := r
    simp only at r1 r2
    subst r1
    unfold List.lookup at e ⊢
    split at e
    · injection e with e
      subst e
      exact ⟨y, rfl, r2⟩
    · exact flds_get t e
theorem flds_none {f : Str} : ∀ {fs : List (Str × W)} {gs : List (Str × V)}, Paired (fun p q => p.1 = q.1 ∧ RepW K F al p.2 q.2) fs gs → fs.lookup f = none → gs.lookup f = none
  | _, _, .nil, _ => rfl
  | (g, x) :: _, (g', y) :: _, .cons r t, e => by
    obtain ⟨r1, r2⟩ := r
    simp only at r1 r2
    subst r1
    unfold List.lookup at e ⊢
    split at e
    · cases e
    · exact flds_none t e
@[simp] def putW (f : Str) (w : W) : List (Str × W) → List (Str × W)
  | [] => [(f, w)]
  | (g, x) :: r => if g = f then (g, w) :: r else (g, x) :: putW f w r
theorem flds_put {f : Str} {w : W} {v : V} (rw : RepW K F al w v) : ∀ {fs : List (Str × W)} {gs : List (Str × V)}, Paired (fun p q => p.1 = q.1 ∧ RepW K F al p.2 q.2) fs gs → Paired (fun p q => p.1 = q.1 ∧ RepW K F al p.2 q.2) (putW f w fs) (putF f v gs)
  | _, _, .nil => .cons ⟨rfl, rw⟩ .nil
  | (g, x) :: _, (g', y) :: _, .cons r t => by
    obtain ⟨r1, r2⟩ := r
    simp only at r1 r2
    subst r1
    unfold putW putF
    split
    · exact .cons ⟨rfl, rw⟩ t
    · exact .cons ⟨rfl, r2⟩ (flds_put rw t)
end
section
variable {io : Type} {Y : io → Cx} {P : Program} {w : World} {K : KW} {mg : Str → Option Value} {base : Heap} {N : List Str} {k j : Nat} {pos p apos : Pos} {a e o : Expr} {es : List Expr} {wa we wo : WE} {ga : WA} {x m : Str}
/-- the classes ns, none of which has the name f as an attribute of its own -/
def Flds (K : KW) (ns : List Str) (f : Str) : Prop := ∀ n ∈ ns, ∃ C, clsAt K n C ∧ Cls K C ∧ NoAttr K C f
theorem flds_nil {f : Str} : Flds K [] f := fun n h => by cases h
theorem flds_cons {n : Str} {ns : List Str} {f : Str} (h : ∃ C, clsAt K n C ∧ Cls K C ∧ NoAttr K C f) (t : Flds K ns f) : Flds K (n :: ns) f := fun m hm => by
  rcases List.mem_cons.mp hm with rfl | hm
  · exact h
  · exact t m hm
@[simp] def wFld (ns : List Str) (f : Str) (a : WE) : WE := fun rh mu Q => a rh mu fun x mu1 => match getI mu1 x with
  | some (n, fs) => ns.contains n = true ∧ (match fs.lookup f with
    | some u => Q u mu1
    | none => False)
  | none => False
/-- e.f -/
theorem ve_fld (y : YOk Y P w K mg base N k) {ns : List Str} {f : Str} (T : Flds K ns f) (ha : VE Y K a wa) (hb : ∀ i, attributeBase a f (Y i).env (eval a (Y i).env) = eval a (Y i).env := by exact fun _ => rfl) : VE Y K (.Attribute a f pos) (wFld ns f wa) := by
  obtain ⟨t, p1, d⟩ := ha
  refine ⟨tFld K t f, fun i => by have := pe_fld (pos := pos) (p1 i) (hb i); rw [y.hK i] at this; exact this, fun G B F H al rh si mu Qd Q s h q => ?_⟩
  refine d G B F H al rh si mu _ _ s h fun F1 H1 al1 mu1 u v e1 s1 r1 h1 => ?_
  split at h1
  · rename_i n fs eI
    obtain ⟨hn, h1⟩ := h1
    obtain ⟨k', a', c, dx, gs, rfl, ek, ea, rfl, eo, ec, pr⟩ := ins_rep s1.s r1 eI
    obtain ⟨C, c1, c2, c3⟩ := T n (by simpa using hn)
    obtain rfl := c1.uniq ec
    split at h1
    · rename_i u' el
      obtain ⟨v', ev, rv⟩ := flds_get pr el
      exact ⟨a', C, dx, gs, v', rfl, eo, c2, c3, ev, q F1 H1 al1 mu1 _ _ e1 s1 rv h1⟩
    · exact h1.elim
  · exact h1.elim
/-- f : the def at f keeps the promise sp -/
def FDef (P : Program) (w : World) (K : KW) (mg : Str → Option Value) (base : Heap) (f : Addr) (j : Nat) (sp : VSp) : Prop := ∃ fd ps, Binds K fd ps [] ∧ FnOk P w K mg base CX0 j f fd ps (toSp K sp)
/-- the method m of the class n -/
def MDef (P : Program) (w : World) (K : KW) (mg : Str → Option Value) (base : Heap) (n m : Str) (j : Nat) (sp : VSp) : Prop := ∃ C f, clsAt K n C ∧ Cls K C ∧ Meth K C m f ∧ FDef P w K mg base f j sp
abbrev MTab := List (Str × VSp)
def MTabOk (P : Program) (w : World) (K : KW) (mg : Str → Option Value) (base : Heap) (m : Str) (j : Nat) (tab : MTab) : Prop := ∀ n sp, tab.lookup n = some sp → MDef P w K mg base n m j sp
theorem mtab_nil {j : Nat} : MTabOk P w K mg base m j [] := fun n sp e => by cases e
theorem mtab_cons {n : Str} {sp : VSp} {i j : Nat} {tab : MTab} (d : MDef P w K mg base n m i sp) (hi : i ≤ j) (t : MTabOk P w K mg base m j tab) : MTabOk P w K mg base m j ((n, sp) :: tab) := fun n' sp' e => by
  unfold List.lookup at e
  split at e
  · rename_i q
    injection e with e
    subst e
    have : n' = n := by simpa using q
    subst this
    obtain ⟨C, f, c1, c2, c3, fd, ps, hb, F⟩ := d
    exact ⟨C, f, c1, c2, c3, fd, ps, hb, F.mono hi⟩
  · exact t n' sp' e
@[simp] def wMeth (tab : MTab) (m : Str) (o : WE) (g : WA) : WE := fun rh mu Q => o rh mu fun x mu1 => match getI mu1 x with
  | some (n, fs) => (fs.lookup m).isNone = true ∧ (match tab.lookup n with
    | some sp => g rh mu1 fun ws mu2 => sp (x :: ws) mu2 Q
    | none => False)
  | none => False
def tMD (P : Program) (w : World) (K : PySem.W.Frag) (mg : Str → Option Value) (base : Heap) (m : Str) (j : Nat) (to : TE) (t : TA) : TE := fun σ H Q => to σ H fun x H1 => ∃ a C dx fs f fd ps sp, x = .ref a ∧ H1 a = some (.ins C dx fs) ∧ Cls K C ∧ Meth K C m f ∧ fs.lookup m = none ∧
  Binds K fd ps [] ∧ FnOk P w K mg base CX0 j f fd ps sp ∧ t σ H1 fun vs H2 => sp (x :: vs) H2 Q E0
theorem pe_md {X : Cx} {to : TE} {t : TA} {pl : Sem Bool} (he : PE X o to) (hr : Room j X.A) (ha : PA X (e :: es) t)
    (hst : starEach (e :: es) X.env = (false, eval e X.env) :: starEach es X.env) (hpl : (backTo pos (starEach es X.env)).any (·.1) = false)
    (ht : eval (.Call (.Attribute o m apos) (e :: es) [] pos) X.env = (do
      let ov ← eval o X.env
      standAt apos.atName
      let (f, first) ← holding [ov] (getMethod ov m pl)
      callWith pos f first (backTo pos (starEach (e :: es) X.env)) (backToKw pos (keywordEach [] X.env)))) :
    PE X (.Call (.Attribute o m apos) (e :: es) [] pos) (tMD X.prog X.w X.K X.mg X.base m j to t) := by
  refine ⟨fun pins s σ H Q I h => ?_⟩
  refine PySem.W.methodCall_KW (pl := pl) (thn (he.run pins s σ H _ I h) fun u s1 ⟨x, H1, I1, rx, a, C, dx, fs, f, fd, ps, sp, ex, ea, c, hm, l, hb, F, q⟩ => ?_) ht
  subst ex
  obtain rfl : u = Value.ref a := rx
  refine getmeth_ok I1 ea c hm l ?_
  refine PySem.W.callWith_K (first := [.ref a]) (h₀ := X.base) I.ok.mod.kin hm.kp (thn (ha.run pos pins s1 σ H1 _ I1 q) fun us s2 ⟨vs, H2, I2, r, q2⟩ => ⟨I2.kIn, ?_⟩) hst hpl
  exact run_fn (us := .ref a :: us) (vs := .ref a :: vs) F hr hb .nil pass0 I2 (.cons rfl r) (by simpa using q2)
theorem pe_md0 {X : Cx} {to : TE} {pl : Sem Bool} (he : PE X o to) (hr : Room j X.A)
    (ht : eval (.Call (.Attribute o m apos) [] [] pos) X.env = (do
      let ov ← eval o X.env
      standAt apos.atName
      let (f, first) ← holding [ov] (getMethod ov m pl)
      callWith pos f first (backTo pos (starEach [] X.env)) (backToKw pos (keywordEach [] X.env)))) :
    PE X (.Call (.Attribute o m apos) [] [] pos) (tMD X.prog X.w X.K X.mg X.base m j to tNil) := by
  refine ⟨fun pins s σ H Q I h => ?_⟩
  refine PySem.W.methodCall_KW (pl := pl) (thn (he.run pins s σ H _ I h) fun u s1 ⟨x, H1, I1, rx, a, C, dx, fs, f, fd, ps, sp, ex, ea, c, hm, l, hb, F, q⟩ => ?_) ht
  subst ex
  obtain rfl : u = Value.ref a := rx
  refine getmeth_ok I1 ea c hm l ?_
  exact PySem.W.callWith_K0 (first := [.ref a]) I1.kIn hm.kp (run_fn (us := [.ref a]) (vs := [.ref a]) F hr hb .nil pass0 I1 (.cons rfl .nil) (by simpa [tNil] using q))
theorem den_md {to : TE} {t : TA} {tab : MTab} (T : MTabOk P w K mg base m j tab) (d : Den K to wo) (d2 : DenA K t ga) : Den K (tMD P w K mg base m j to t) (wMeth tab m wo ga) := fun G B F H al rh si mu Qd Q s h q => by
  refine d G B F H al rh si mu _ _ s h fun F1 H1 al1 mu1 u v e1 s1 r1 h1 => ?_
  split at h1
  · rename_i n fs eI
    obtain ⟨hl, h1⟩ := h1
    obtain ⟨k', a', c, dx, gs, rfl, ek, ea, rfl, eo, ec, pr⟩ := ins_rep s1.s r1 eI
    split at h1
    · rename_i sp es
      obtain ⟨C, f, c1, c2, c3, fd, ps, hb, Ff⟩ := T n sp es
      obtain rfl := c1.uniq ec
      refine ⟨a', C, dx, gs, f, fd, ps, toSp K sp, rfl, eo, c2, c3, flds_none pr (by simpa using hl), hb, Ff, ?_⟩
      refine d2 G B F1 H1 al1 rh si mu1 _ _ s1 h1 fun F2 H2 al2 mu2 ws vs e2 s2 r2 h2 => ?_
      have := callS_ok (K := K) (dds := []) (dvs := []) (fun _ => .nil) (ws := .loc k' :: ws) (vs := .ref a' :: vs) (Q := Q) (E := E0) s2 (.cons (r1.mono e2) r2) (by simpa using h2) fun F3 H3 al3 mu3 z vz e3 => q F3 H3 al3 mu3 z vz ((e1.trans e2).trans e3)
      simpa using this
    · exact h1.elim
  · exact h1.elim
/-- o.m(e, ..), by the object's class -/
theorem ve_meth (y : YOk Y P w K mg base N k) {tab : MTab} (T : MTabOk P w K mg base m j tab) (hj : j ≤ k) (ho : VE Y K o wo) (ha : VA Y K (e :: es) ga) (pl : Sem Bool)
    (hst : ∀ i, starEach (e :: es) (Y i).env = (false, eval e (Y i).env) :: starEach es (Y i).env := by exact fun _ => rfl) (hpl : ∀ i, (backTo pos (starEach es (Y i).env)).any (·.1) = false := by exact fun _ => rfl)
    (ht : ∀ i, eval (.Call (.Attribute o m apos) (e :: es) [] pos) (Y i).env = (do
      let ov ← eval o (Y i).env
      standAt apos.atName
      let (f, first) ← holding [ov] (getMethod ov m pl)
      callWith pos f first (backTo pos (starEach (e :: es) (Y i).env)) (backToKw pos (keywordEach [] (Y i).env))) := by exact fun _ => rfl) : VE Y K (.Call (.Attribute o m apos) (e :: es) [] pos) (wMeth tab m wo ga) := by
  obtain ⟨t1, p1, d1⟩ := ho
  obtain ⟨t2, p2, d2⟩ := ha
  refine ⟨_, fun i => ?_, den_md T d1 d2⟩
  have := pe_md (p1 i) ((y.room i).mono hj) (p2 i) (hst i) (hpl i) (ht i)
  rw [y.hP i, y.hw i, y.hK i, y.hmg i, y.hbase i] at this
  exact this
theorem ve_meth0 (y : YOk Y P w K mg base N k) {tab : MTab} (T : MTabOk P w K mg base m j tab) (hj : j ≤ k) (ho : VE Y K o wo) (pl : Sem Bool)
    (ht : ∀ i, eval (.Call (.Attribute o m apos) [] [] pos) (Y i).env = (do
      let ov ← eval o (Y i).env
      standAt apos.atName
      let (f, first) ← holding [ov] (getMethod ov m pl)
      callWith pos f first (backTo pos (starEach [] (Y i).env)) (backToKw pos (keywordEach [] (Y i).env))) := by exact fun _ => rfl) : VE Y K (.Call (.Attribute o m apos) [] [] pos) (wMeth tab m wo wNil) := by
  obtain ⟨t1, p1, d1⟩ := ho
  refine ⟨_, fun i => ?_, den_md T d1 (t := tNil) (fun G B F H al rh si mu Qd Q s h q => q F H al mu [] [] (Ext.refl _ _) s .nil h)⟩
  have := pe_md0 (p1 i) ((y.room i).mono hj) (ht i)
  rw [y.hP i, y.hw i, y.hK i, y.hmg i, y.hbase i] at this
  exact this
/-- the class x is made by an __init__ that keeps sp -/
def CDef (P : Program) (w : World) (K : KW) (mg : Str → Option Value) (base : Heap) (x : Str) (j : Nat) (sp : VSp) : Prop := ∃ C f, clsAt K x C ∧ mg x = some (.ref C) ∧ Mk K C f ∧ FDef P w K mg base f j sp
@[simp] def wMake (n : Str) (sp : VSp) (g : WA) : WE := fun rh mu Q => g rh mu fun ws mu1 => sp (.loc mu1.length :: ws) (mu1 ++ [.ins n []]) fun u mu2 => match u with
  | .d .non => Q (.loc mu1.length) mu2
  | _ => False
theorem ve_make (y : YOk Y P w K mg base N k) {sp : VSp} (d : CDef P w K mg base x j sp) (hj : j + 1 ≤ k) (ha : VA Y K (e :: es) ga) (hg : ∀ i, Gl (Y i) x := by exact fun _ => rfl) (hdb : (x == ("__debug__" : Str)) = false := by decide)
    (he : ∀ i, starEach (e :: es) (Y i).env = (false, eval e (Y i).env) :: starEach es (Y i).env := by exact fun _ => rfl) (hpl : ∀ i, (backTo pos (starEach es (Y i).env)).any (·.1) = false := by exact fun _ => rfl) : VE Y K (.Call (.Name x p) (e :: es) [] pos) (wMake x sp ga) := by
  obtain ⟨C, f, c1, c2, M, fd, ps, hb, Ff⟩ := d
  obtain ⟨t, p1, d1⟩ := ha
  refine ⟨tMake C (toSp K sp) [] E0 t, fun i => pe_make (by rw [y.hK i]; exact M) (fnOk_at y Ff i) ((y.room i).mono hj) (hg i) (by rw [y.hmg i]; exact c2) (binds_at y hb i) .nil pass0 (p1 i) hdb (he i) (hpl i), fun G B F H al rh si mu Qd Q s h q => ?_⟩
  refine d1 G B F H al rh si mu _ _ s h fun F1 H1 al1 mu1 ws vs e1 s1 r1 h1 => ?_
  intro a dx na ndx ne
  have x2 := s1.s.frozX (o := .own a) ndx
  have s2 := s1.s.froz (o := .own a) ndx
  have na2 : (upd H1 dx (.own a)) a = none := by rw [upd_ne (Ne.symm ne)]; exact na
  have x3 := SRS.ownX (F := upd F1 dx (.own a)) (al := al1) (p := a)
  have s3 := s2.own (c := .ins x []) na2 (CRep.ins (dx := dx) c1 .nil)
  have x23 := x2.trans x3
  have rr : RepW K (upd F1 dx (.own a)) (al1 ++ [a]) (.loc mu1.length) (.ref a) := .loc s2.atNew
  have := callS_ok (K := K) (dds := []) (dvs := []) (fun _ => .nil) (ws := .loc mu1.length :: ws) (vs := .ref a :: vs) (Q := fun v H2 => v = .non ∧ Q (.ref a) H2) (E := E0) (s1.step x23 s3) (.cons rr (Paired.mapP r1 fun _ _ z => z.mono x23)) (by simpa using h1)
    fun F4 H4 al4 mu4 z vz e4 s4 r4 h4 => by
      split at h4
      · exact ⟨by cases r4 with | d r => cases r; rfl, q F4 H4 al4 mu4 _ _ ((e1.trans x23).trans e4) s4 (rr.mono e4) h4⟩
      · exact h4.elim
  simpa using this
theorem ve_make0 (y : YOk Y P w K mg base N k) {sp : VSp} (d : CDef P w K mg base x j sp) (hj : j + 1 ≤ k) (hg : ∀ i, Gl (Y i) x := by exact fun _ => rfl) (hdb : (x == ("__debug__" : Str)) = false := by decide) : VE Y K (.Call (.Name x p) [] [] pos) (wMake x sp wNil) := by
  obtain ⟨C, f, c1, c2, M, fd, ps, hb, Ff⟩ := d
  refine ⟨tMake C (toSp K sp) [] E0 tNil, fun i => pe_make0 (by rw [y.hK i]; exact M) (fnOk_at y Ff i) ((y.room i).mono hj) (hg i) (by rw [y.hmg i]; exact c2) (binds_at y hb i) .nil pass0 hdb, fun G B F H al rh si mu Qd Q s h q => ?_⟩
  intro a dx na ndx ne
  have x2 := s.s.frozX (o := .own a) ndx
  have s2 := s.s.froz (o := .own a) ndx
  have na2 : (upd H dx (.own a)) a = none := by rw [upd_ne (Ne.symm ne)]; exact na
  have x3 := SRS.ownX (F := upd F dx (.own a)) (al := al) (p := a)
  have s3 := s2.own (c := .ins x []) na2 (CRep.ins (dx := dx) c1 .nil)
  have x23 := x2.trans x3
  have rr : RepW K (upd F dx (.own a)) (al ++ [a]) (.loc mu.length) (.ref a) := .loc s2.atNew
  have := callS_ok (K := K) (dds := []) (dvs := []) (fun _ => .nil) (ws := [.loc mu.length]) (vs := [.ref a]) (Q := fun v H2 => v = .non ∧ Q (.ref a) H2) (E := E0) (s.step x23 s3) (.cons rr .nil) (by simpa using h)
    fun F4 H4 al4 mu4 z vz e4 s4 r4 h4 => by
      split at h4
      · exact ⟨by cases r4 with | d r => cases r; rfl, q F4 H4 al4 mu4 _ _ (x23.trans e4) s4 (rr.mono e4) h4⟩
      · exact h4.elim
  simpa using this
end
section
variable {X : Cx} {P : Program} {w : World} {K : KW} {mg : Str → Option Value} {base : Heap} {N : List Str} {k : Nat} {pos pos' : Pos} {o e : Expr} {wo we : WE}
@[simp] def wFldS (ns : List Str) (f : Str) (o e : WE) : WS := fun V rh mu => e rh mu fun u mu1 => o rh mu1 fun x mu2 => match x with
  | .loc k => (match mu2[k]? with
    | some (.ins n fs) => ns.contains n = true ∧ fs.length < 1000 ∧ V.nx rh (mu2.set k (.ins n (putW f u fs)))
    | _ => False)
  | _ => False
/-- o.f = e -/
theorem vs_fld (y : YOk (un X) P w K mg base N k) {ns : List Str} {f : Str} (T : Flds K ns f) (ho : VE (un X) K o wo) (he : VE (un X) K e we) (hs : swapsWith e (some (.Attribute o f pos')) pos.line X.env = pure false := by rfl) : VS X K (.Assign [.Attribute o f pos'] e pos) (wFldS ns f wo we) := by
  obtain ⟨t1, p1, d1⟩ := ho
  obtain ⟨t2, p2, d2⟩ := he
  refine ⟨sFld K t1 t2 f, by have := ps_fld (p1 ()) (p2 ()) hs; rw [show X.K = K from y.hK ()] at this; exact this, fun G B F H al rh si mu V1 D1 s h b => ?_⟩
  refine d2 G B F H al rh si mu _ _ s h fun F1 H1 al1 mu1 u v e1 s1 r1 h1 => ?_
  refine d1 G B F1 H1 al1 rh si mu1 _ _ s1 h1 fun F2 H2 al2 mu2 x vx e2 s2 r2 h2 => ?_
  split at h2
  · rename_i k'
    split at h2
    · rename_i n fs ek
      obtain ⟨hn, hl, h2⟩ := h2
      obtain ⟨_, a', c, dx, gs, ex, _, ea, rfl, eo, ec, pr⟩ := ins_rep (x := .loc k') (n := n) (fs := fs) s2.s r2 (by simp [ek])
      cases ex
      obtain ⟨C, c1, c2, c3⟩ := T n (by simpa using hn)
      obtain rfl := c1.uniq ec
      refine ⟨a', C, dx, gs, rfl, eo, c2, c3, by rw [← Paired.length pr]; exact hl, ?_⟩
      have s3 := s2.s.put (c := .ins n (putW f u fs)) ea (CRep.ins (dx := dx) c1 (flds_put (r1.mono e2) pr))
      exact b.nx _ _ _ _ _ _ (e1.trans e2) (s2.step (Ext.refl _ _) s3) h2
    · exact h2.elim
  · exact h2.elim
@[simp] def wFldA (ns : List Str) (f : Str) (g : F2) (o e : WE) : WS := fun V rh mu => o rh mu fun x mu1 => match x with
  | .loc k => (match mu1[k]? with
    | some (.ins n fs) => ns.contains n = true ∧ (match fs.lookup f with
      | some u => e rh mu1 fun z mu2 => g mu2 u z fun r mu3 => (match mu3[k]? with
        | some (.ins n' fs') => n' = n ∧ fs'.length < 1000 ∧ V.nx rh (mu3.set k (.ins n (putW f r fs')))
        | _ => False)
      | none => False)
    | _ => False)
  | _ => False
/-- o.f += e, -= e : ints -/
theorem vs_fldAug (y : YOk (un X) P w K mg base N k) {ns : List Str} {f : Str} {op : Operator} {rd : V → V → Hp → L2.VK → Prop} {g : F2} (T : Flds K ns f) (hop : InOp X op rd) (hd : OpD K rd g) (ho : VE (un X) K o wo) (he : VE (un X) K e we) : VS X K (.AugAssign (.Attribute o f pos') op e pos) (wFldA ns f g wo we) := by
  obtain ⟨t1, p1, d1⟩ := ho
  obtain ⟨t2, p2, d2⟩ := he
  refine ⟨sFldAug K t1 t2 rd f, by have := ps_fldaug (f := f) (tpos := pos') (pos := pos) (p1 ()) (p2 ()) hop; rw [show X.K = K from y.hK ()] at this; exact this, fun G B F H al rh si mu V1 D1 s h b => ?_⟩
  refine d1 G B F H al rh si mu _ _ s h fun F1 H1 al1 mu1 x vx e1 s1 r1 h1 => ?_
  split at h1
  · rename_i k'
    split at h1
    · rename_i n fs ek
      obtain ⟨hn, h1⟩ := h1
      obtain ⟨_, a', c, dx, gs, ex, _, ea, rfl, eo, ec, pr⟩ := ins_rep (x := .loc k') (n := n) (fs := fs) s1.s r1 (by simp [ek])
      cases ex
      obtain ⟨C, c1, c2, c3⟩ := T n (by simpa using hn)
      obtain rfl := c1.uniq ec
      split at h1
      · rename_i u el
        obtain ⟨v', ev, rv⟩ := flds_get pr el
        refine ⟨a', C, dx, gs, v', rfl, eo, c2, c3, ev, ?_⟩
        refine d2 G B F1 H1 al1 rh si mu1 _ _ s1 h1 fun F2 H2 al2 mu2 z vz e2 s2 r2 h2 => ?_
        refine hd G B F2 H2 al2 rh si mu2 u z v' vz _ _ s2 (rv.mono e2) r2 h2 fun F3 H3 al3 mu3 r vr e3 s3 r3 h3 => ?_
        split at h3
        · rename_i n' fs' ek3
          obtain ⟨rfl, hl, h3⟩ := h3
          obtain ⟨_, a3, c', dx', gs', ex3, _, ea3, ev3, eo3, ec3, pr3⟩ := ins_rep (x := .loc k') (n := n') (fs := fs') s3.s ((r1.mono e2).mono e3) (by simp [ek3])
          cases ex3
          cases ev3
          obtain rfl := c1.uniq ec3
          refine ⟨dx', gs', eo3, by rw [← Paired.length pr3]; exact hl, ?_⟩
          have s4 := s3.s.put (c := .ins n' (putW f r fs')) ea3 (CRep.ins (dx := dx') c1 (flds_put r3 pr3))
          exact b.nx _ _ _ _ _ _ ((e1.trans e2).trans e3) (s3.step (Ext.refl _ _) s4) h3
        · exact h3.elim
      · exact h1.elim
    · exact h1.elim
  · exact h1.elim
theorem vs_fldAdd (y : YOk (un X) P w K mg base N k) {ns : List Str} {f : Str} (T : Flds K ns f) (ho : VE (un X) K o wo) (he : VE (un X) K e we) : VS X K (.AugAssign (.Attribute o f pos') .Add e pos) (wFldA ns f (fI0 fun a b => a + b) wo we) := vs_fldAug y T in_add (opd_I0 (g := fun a b => a + b)) ho he
end
section
variable {P : Program} {w : World} {K : KW} {mg : Str → Option Value} {base : Heap}
/-- a method, an __init__ -/
theorem fdef_mk {x qual : Str} {st : Stmt} {f : Addr} {fd : FuncData} {N ps : List Str} {k : Nat} {sp : VSp} (F : Fun K x qual st f fd) (S : FnScope N ps (defScope st)) (hb : Binds K fd ps []) (hlen : ∀ ws mu Q, sp ws mu Q → ws.length = ps.length)
    (body : ∀ (cdv : Value) (A : Around) (outer : List Env) (s : Shared) (H : Hp) (E : XK), YOk (un (bX P w K mg base N qual (defScope st) f cdv A outer s H E)) P w K mg base N k →
      ∃ g, VSs (bX P w K mg base N qual (defScope st) f cdv A outer s H E) K (defBody st) g ∧ ∀ ws mu Q, sp ws mu Q → g { nx := fun _ mu => Q (.d .non) mu, rt := Q } (startE N ws) mu) : FDef P w K mg base f (k + 1) sp :=
  ⟨fd, ps, hb, fnv_ok F S hlen body⟩
end
end VL
namespace VL
open PySem PySem.Spec PyProof.Rows L2 RZ
/-! ### sets of keys of any kind, their order left open -/
theorem paired_perm {A1 B1 : Type} {R : A1 → B1 → Prop} {xs ys : List A1} (p : ys.Perm xs) : ∀ {us : List B1}, Paired R xs us → ∃ vs, vs.Perm us ∧ Paired R ys vs := by
  induction p with
  | nil => intro us h; exact ⟨us, .refl _, h⟩
  | cons x q ih =>
    intro us h
    cases h with
    | cons r t =>
      obtain ⟨vs, p1, p2⟩ := ih t
      exact ⟨_ :: vs, p1.cons _, .cons r p2⟩
  | swap x y l =>
    intro us h
    cases h with
    | cons r t =>
      cases t with
      | cons r2 t2 => exact ⟨_, .swap _ _ _, .cons r2 (.cons r t2)⟩
  | trans _ _ ih1 ih2 =>
    intro us h
    obtain ⟨vs, p1, p2⟩ := ih2 h
    obtain ⟨ws, p3, p4⟩ := ih1 p2
    exact ⟨ws, p3.trans p1, p4⟩
section
variable {P : Program} {w : World} {T : Type} [DecidableEq T] {knd : PySem.KeyKind P w T}
def Pe (knd : PySem.KeyKind P w T) (e : Int × Value) (k : T) : Prop := knd.is k e.2 = true ∧ e.1 = knd.hash k ∧ e.2.scannable = true
def SetG (knd : PySem.KeyKind P w T) (h : Heap) (a : Addr) (L : List T) : Prop :=
  ∃ o es ep t, h.get? a = some o ∧ o.ExactSet ∧ o.data = .set es ep t ∧ (∃ L', L'.Perm L ∧ Paired (Pe knd) es.toList L') ∧ L.Nodup ∧ es.size < scanBound ∧ t.fits es.size = true ∧ Ris t.place.toList ∧ (w.params.followText "set-order" = true ∨ t.led = true)
theorem pe_elems : ∀ {es : List (Int × Value)} {L : List T}, Paired (Pe knd) es L → ElemsOf knd es
  | _, _, .nil => fun e h => by cases h
  | _, _, .cons r t => fun e h => by
    rcases List.mem_cons.mp h with q | q
    · rw [q]; exact ⟨⟨_, r.1, r.2.1⟩, r.2.2⟩
    · exact pe_elems t e q
theorem pe_mem : ∀ {es : List (Int × Value)} {L : List T}, Paired (Pe knd) es L → ∀ k, k ∈ L ↔ ∃ e ∈ es, knd.is k e.2 = true
  | _, _, .nil, k => by simp
  | _, _, .cons r t, k => by
    have ih := pe_mem t k
    rw [List.mem_cons, ih]
    constructor
    · rintro (rfl | ⟨e, h1, h2⟩)
      · exact ⟨_, List.mem_cons_self, r.1⟩
      · exact ⟨e, List.mem_cons_of_mem _ h1, h2⟩
    · rintro ⟨e, h1, h2⟩
      rcases List.mem_cons.mp h1 with q | q
      · subst q; exact .inl (knd.inj _ _ _ h2 r.1)
      · exact .inr ⟨e, q, h2⟩
theorem SetG.at {h h' : Heap} {a : Addr} {L : List T} (R : SetG knd h a L) (k : ∀ o, h.get? a = some o → h'.get? a = some o) : SetG knd h' a L := by
  obtain ⟨o, es, ep, t, ho, r⟩ := R
  exact ⟨o, es, ep, t, k o ho, r⟩
variable {A : Around} {E : Value → Shared → Prop} {s : Shared} {a : Addr}
theorem setG_add_tail {g : Bool → Sem Unit} (hg : ∀ (b : Bool) (s₁ : Shared) (Q' : Unit → Shared → Prop), Q' () s₁ → wpAny (model P w) A (g b) Q' E s₁)
    {o : Obj} {es : Array (Int × Value)} {ep : Nat} {t : SetTable} (ho : s.heap.get? a = some o) (hex : o.ExactSet) (hd : o.data = .set es ep t)
    {es1 : Array (Int × Value)} {t2 : SetTable} {L : List T} (g1 : ∃ L', L'.Perm L ∧ Paired (Pe knd) es1.toList L') (nd1 : L.Nodup)
    (hb1 : es1.size < scanBound) (hf2 : t2.fits es1.size = true) (hr : Ris t2.place.toList) (hl : w.params.followText "set-order" = true ∨ t2.led = true) {wasDummy : Bool} {R : Option Bool → Shared → Prop}
    (hR : ∀ h', Heap.SameBut a s.heap h' → SetG knd h' a L → R (some true) { s with heap := h' }) :
    wpAny (model P w) A (do
        storeSet a es1 t2
        if (!wasDummy && t2.tooFull) = true then do
            g (relayAll t2 es1 (SetTable.grown es1.size)).2.2
            storeSet a (relayAll t2 es1 (SetTable.grown es1.size)).1 (relayAll t2 es1 (SetTable.grown es1.size)).2.1
            pure (some true)
          else pure (some true)) R E s := by
  refine wpAny_bind (wpAny_storeSet_of ho hd ?_ (fits_of_scanBound hb1))
  have ho1 := store_at (es' := es1) (t' := t2) ho hd
  have sb1 := Heap.SameBut.update s.heap a (Obj.putSet es1 t2)
  split
  · have pm := relayAll_perm t2 es1 (SetTable.grown es1.size)
    have hf3 := relayAll_fits t2 es1 (SetTable.grown es1.size)
    have hr3 := relayAll_ris t2 es1 (SetTable.grown es1.size)
    have hl3 := relayAll_led t2 es1 (SetTable.grown es1.size)
    generalize relayAll t2 es1 (SetTable.grown es1.size) = Z at pm hf3 hr3 hl3 ⊢
    obtain ⟨es2, t3, gave⟩ := Z
    dsimp only at pm hf3 hr3 hl3 ⊢
    have hsz : es2.size = es1.size := by rw [← Array.length_toList, pm.length_eq, Array.length_toList]
    have hb2 : es2.size < scanBound := by rw [hsz]; exact hb1
    refine wpAny_bind (hg _ _ _ ?_)
    refine wpAny_bind (wpAny_storeSet_of ho1 rfl ?_ (fits_of_scanBound hb2))
    have ho2 := store_at (es' := es2) (t' := t3) ho1 rfl
    obtain ⟨L', q1, q2⟩ := g1
    obtain ⟨L2, q3, q4⟩ := paired_perm pm q2
    refine wpAny_pure (hR _ (sb1.trans (Heap.SameBut.update _ a _)) ?_)
    exact ⟨_, es2, _, t3, ho2, hex, rfl, ⟨L2, q3.trans q1, q4⟩, nd1, hb2, hf3, hr3, hl.imp id fun z => by rw [hl3]; exact z⟩
  · exact wpAny_pure (hR _ sb1 ⟨_, es1, _, t2, ho1, hex, rfl, g1, nd1, hb1, hf2, hr, hl⟩)
theorem setG_add_hashed {k : T} {v : Value} {L : List T} {Q : Bool → Shared → Prop} (hkey : knd.is k v = true) (hsc : v.scannable = true) (R : SetG knd s.heap a L) (room : L.length + 1 < scanBound)
    (hQ : ∀ h' b, Heap.SameBut a s.heap h' → SetG knd h' a (if k ∈ L then L else k :: L) → Q b { s with heap := h' }) :
    wpAny (model P w) A (setAddHashed a v (knd.hash k)) Q E s := by
  obtain ⟨o, es, ep, t, ho, hex, hd, ⟨L', pL, pr⟩, nd, hb, hf, hr, hl⟩ := R
  have hel : ElemsOf knd es.toList := pe_elems pr
  have hn : es.size = L.length := by rw [← pL.length_eq, ← Paired.length pr, Array.length_toList]
  unfold setAddHashed setAddHashedIn
  refine wpAny_holding (wpAny_bind (wpAny_setState_of ho hd hf ?_))
  dsimp only
  rw [byScan_of hsc hb hel]
  simp only [↓reduceIte]
  unfold setAddByScan
  refine wpAny_bind ?_
  refine wpAny_bind (wpAny_rule ?_)
  refine wpAny_bind (wpAny_setScan_of hkey ho hd hf hel ?_)
  cases hfi : List.findIdx? (fun e => knd.is k e.2) es.toList with
  | some j =>
    dsimp only
    obtain ⟨hj, pj, _⟩ := List.findIdx?_eq_some_iff_getElem.mp hfi
    have hSk : k ∈ L := pL.mem_iff.mp ((pe_mem pr k).2 ⟨es.toList[j], List.getElem_mem hj, pj⟩)
    refine wpAny_pure (wpAny_pure ?_)
    have q := hQ s.heap false (Heap.SameBut.refl a s.heap)
    rw [if_pos hSk] at q
    exact q ⟨o, es, ep, t, ho, hex, hd, ⟨L', pL, pr⟩, nd, hb, hf, hr, hl⟩
  | none =>
    dsimp only
    have hnk : k ∉ L := fun z => by
      obtain ⟨e, he, q⟩ := (pe_mem pr k).1 (pL.mem_iff.mpr z)
      have c := List.findIdx?_eq_none_iff.mp hfi e he
      rw [q] at c
      cases c
    have hgw : ∀ (b : Bool) {s₁ : Shared} {Q' : Unit → Shared → Prop}, Q' () s₁ → wpAny (model P w) A (match b with | true => rule "set.scan.the-table-gave-way" | false => pure ()) Q' E s₁ :=
      fun b s₁ Q' q => by cases b <;> first | exact wpAny_pure q | exact wpAny_rule q
    have pm := layNew_perm t es (knd.hash k) v
    have hf1 := layNew_fits t es (knd.hash k) v
    have hr1 := layNew_ris t es (knd.hash k) v hr
    have hl1 := layNew_led t es (knd.hash k) v
    generalize layNew t es (knd.hash k) v = Z at pm hf1 hr1 hl1 ⊢
    obtain ⟨es1, t1, wasDummy, gave⟩ := Z
    dsimp only at pm hf1 hr1 hl1 ⊢
    rw [Array.toList_push] at pm
    have pc : es1.toList.Perm ((knd.hash k, v) :: es.toList) := pm.trans (List.perm_append_singleton _ _)
    obtain ⟨L1, p1, p2⟩ := paired_perm pc (Paired.cons (F := Pe knd) (a := (knd.hash k, v)) (b := k) ⟨hkey, rfl, hsc⟩ pr)
    have pl1 : L1.Perm (k :: L) := p1.trans (pL.cons k)
    have nd1 : (k :: L).Nodup := List.nodup_cons.mpr ⟨hnk, nd⟩
    have hsz : es1.size = L.length + 1 := by rw [← Array.length_toList, pc.length_eq, List.length_cons, Array.length_toList, hn]
    have hb1 : es1.size < scanBound := by rw [hsz]; exact room
    have hled : w.params.followText "set-order" = true ∨ t1.led = true := hl.imp id fun z => by rw [hl1]; exact z
    have fin : ∀ h', Heap.SameBut a s.heap h' → SetG knd h' a (k :: L) → Q true { s with heap := h' } := fun h' sb r => by
      have q := hQ h' true sb
      rw [if_neg hnk] at q
      exact q r
    refine wpAny_bind (hgw _ ?_)
    split
    · refine wpAny_bind ?_
      rw [hashByValue_scannable 8 hsc]
      refine wpAny_pure ?_
      refine setG_add_tail (knd := knd) ?_ ho hex hd ⟨L1, pl1, p2⟩ nd1 hb1 ?_ ?_ ?_ ?_
      · intro b s₁ Q' q; cases b <;> first | exact wpAny_pure q | exact wpAny_rule q
      · first | (split <;> first | exact hf1 | exact SetTable.fits_plain_off hf1) | exact hf1
      · first | (split <;> exact hr1) | exact hr1
      · first | (split <;> exact hled) | exact hled
      · intro h' sb r; dsimp only; exact wpAny_pure (fin h' sb r)
    · refine wpAny_bind (wpAny_pure ?_)
      simp only [↓reduceIte]
      refine setG_add_tail (knd := knd) ?_ ho hex hd ⟨L1, pl1, p2⟩ nd1 hb1 hf1 hr1 hled ?_
      · intro b s₁ Q' q; cases b <;> first | exact wpAny_pure q | exact wpAny_rule q
      · intro h' sb r; dsimp only; exact wpAny_pure (fin h' sb r)
/-- the members that have come -/
def dedup (L : List T) : List T → List T
  | [] => L
  | k :: ks => dedup (if k ∈ L then L else k :: L) ks
theorem dedup_mem : ∀ (ks L : List T) (k : T), k ∈ dedup L ks ↔ k ∈ L ∨ k ∈ ks
  | [], L, k => by simp [dedup]
  | j :: ks, L, k => by
    rw [dedup, dedup_mem ks]
    split
    · rename_i h
      simp only [List.mem_cons]
      constructor
      · rintro (q | q)
        · exact .inl q
        · exact .inr (.inr q)
      · rintro (q | rfl | q)
        · exact .inl q
        · exact .inl h
        · exact .inr q
    · simp only [List.mem_cons]
      constructor
      · rintro ((rfl | q) | q)
        · exact .inr (.inl rfl)
        · exact .inl q
        · exact .inr (.inr q)
      · rintro (q | rfl | q)
        · exact .inl (.inr q)
        · exact .inl (.inl rfl)
        · exact .inr q
theorem dedup_len : ∀ (ks L : List T), (dedup L ks).length ≤ L.length + ks.length
  | [], L => by simp [dedup]
  | j :: ks, L => by
    rw [dedup]
    have h1 := dedup_len ks (if j ∈ L then L else j :: L)
    have h2 : (if j ∈ L then L else j :: L).length ≤ L.length + 1 := by split <;> simp
    simp only [List.length_cons]
    omega
theorem dedup_nodup : ∀ (ks L : List T), L.Nodup → (dedup L ks).Nodup
  | [], L, h => h
  | j :: ks, L, h => by
    rw [dedup]
    refine dedup_nodup ks _ ?_
    split
    · exact h
    · rename_i q; exact List.nodup_cons.mpr ⟨q, h⟩
theorem dedup_app : ∀ (ks ls L : List T), dedup L (ks ++ ls) = dedup (dedup L ks) ls
  | [], ls, L => rfl
  | j :: ks, ls, L => by rw [List.cons_append, dedup, dedup]; exact dedup_app ks ls _
def Kv (knd : PySem.KeyKind P w T) (v : Value) (k : T) : Prop := knd.is k v = true ∧ v.scannable = true
theorem set_update_G {R : Result → Shared → Prop} {I : Addr} {fp wr : List Addr} {G : Array GenState → Array GenState → Prop} {n : Nat} {Pv : Nat → Value → Prop} {St : Nat → Shared → Prop}
    (W : WalksS P w A.in1 I fp wr G n Pv St) (S : Addr) (hSf : S ∉ fp) (ks : List T) (hn : n = ks.length) (hb : ks.length + 1 < scanBound) (hval : ∀ i v, Pv i v → ∃ k, ks[i]? = some k ∧ Kv knd v k) :
    ∀ (k i : Nat) (s : Shared), n - i = k → i ≤ n → St i s → SetG knd s.heap S (dedup [] (ks.take i)) →
      (∀ s', Moved (S :: wr) G s s' → SetG knd s'.heap S (dedup [] ks) → R (.ok (.ret .none)) s') →
      codeAny (model P w) A (.builtin "set.update.loop" ⟨[.ref S, .ref I], []⟩) R s := by
  have hSw : S ∉ wr := fun h => hSf (W.sub _ h)
  have hsub : ∀ b ∈ wr, b ∈ S :: wr := fun b hb => List.mem_cons_of_mem _ hb
  intro k
  induction k with
  | zero =>
    intro i s hk' hi hst hS hR
    have hin : i = n := by omega
    subst hin
    refine codeAny_builtin PyProof.Rows.F.entry_set_update_loop ?_
    rw [Around.under_plainId PyProof.Rows.F.plain_set_update_loop _]
    show wpAny _ A.in1 (pyNext (.ref I) >>= _) _ _ s
    refine wpAny_bind (W.done s _ _ hst fun s' hm => ?_)
    show wpAny _ A.in1 (ret Value.none) _ _ s'
    have e : ks.take i = ks := List.take_of_length_le (by omega)
    rw [e] at hS
    exact wpAny_pure (hR s' (hm.mono hsub) (hS.at fun o e => hm.heap S o hSw e))
  | succ k ih =>
    intro i s hk' hi hst hS hR
    have hlt : i < n := by omega
    refine codeAny_builtin PyProof.Rows.F.entry_set_update_loop ?_
    rw [Around.under_plainId PyProof.Rows.F.plain_set_update_loop _]
    show wpAny _ A.in1 (pyNext (.ref I) >>= _) _ _ s
    refine wpAny_bind (W.item i s _ _ hlt hst fun v s' hP hst' hm => ?_)
    obtain ⟨z, hz, hv, hsc⟩ := hval i v hP
    have hS' : SetG knd s'.heap S (dedup [] (ks.take i)) := hS.at fun o e => hm.heap S o hSw e
    show wpAny _ A.in1 (holding [v] (setAdd S v) >>= _) _ _ s'
    refine wpAny_bind (wpAny_holding ?_)
    unfold setAdd
    refine wpAny_holding ?_
    refine wpAny_bind (knd.pyHash (k := z) hv ?_)
    have hlen : (dedup [] (ks.take i)).length + 1 < scanBound := by
      have := dedup_len (ks.take i) []
      simp at this; omega
    refine setG_add_hashed (s := { s' with toks := s'.toks + 1 }) hv hsc hS' hlen fun h' b hsb hS2 => ?_
    have hS3 : SetG knd h' S (dedup [] (ks.take (i + 1))) := by
      rw [List.take_add_one, hz, dedup_app]
      exact hS2
    refine wpAny_pure ⟨plainId_quiet PyProof.Rows.F.plain_set_update_loop _, ih (i + 1) _ (by omega) hlt (W.frame _ s' _ _ hst' (Nat.le_succ _) fun b hb o e => ?_) hS3 fun s'' hm'' hS'' => ?_⟩
    · rw [hsb.2 b (fun h : b = S => hSf (by rw [← h]; exact hb))]; exact e
    · refine hR s'' (Moved.trans W.gtrans ((hm.mono hsub).then_heap (Nat.le_succ _) fun b o hb e => ?_) hm'') hS''
      rw [hsb.2 b (fun h : b = S => hb (by rw [h]; exact List.mem_cons_self))]; exact e
theorem setG_new_at {h : Heap} {a : Addr} (ho : h.get? a = some { cls := .type "set", dict := none, data := .set #[] 0 (.fresh 0 0 (!w.params.followText "set-order")) }) : SetG knd h a [] :=
  ⟨_, #[], 0, _, ho, ⟨rfl, rfl, rfl⟩, rfl, ⟨[], .refl _, .nil⟩, List.nodup_nil, (by decide), (by rfl), List.Pairwise.nil, by
    show _ ∨ (!w.params.followText "set-order") = true
    cases w.params.followText "set-order"
    · exact .inr rfl
    · exact .inl rfl⟩
set_option maxHeartbeats 8000000 in
theorem call_set_listG {l : Addr} {items : Array Value} (ks : List T) {Q : Value → Shared → Prop} (hh : A.handled = none) (hl : s.heap.IsList l items) (hit : Paired (Kv knd) items.toList ks) (hb : ks.length + 1 < scanBound)
    (h : ∀ (h' : Heap) (tk : Nat), SetG knd h' s.heap.objs.size (dedup [] ks) → (∀ b o, s.heap.get? b = some o → h'.get? b = some o) → Q (.ref s.heap.objs.size) { s with heap := h', toks := tk }) :
    wpAny (model P w) A (call (.type "set") [.ref l]) Q E s := by
  have hisz : items.size = ks.length := by
    have q := Paired.length hit
    rw [Array.length_toList] at q
    exact q
  obtain ⟨c, tl, hmro⟩ := PySem.F.called_set.mro
  have hmade := PySem.F.called_set.made
  have hsub := PySem.F.called_set.sub
  refine wpAny_call (codeAny_of_tree ?_)
  show wpAny _ _ (callAny (.type "set") _) _ _ _
  refine wpAny_pure ⟨Code.quiet_builtin _ (by decide +kernel), codeAny_builtin PySem.F.entry_type_call ?_⟩
  rw [Around.under_plain (weight_type_call_type "set" [.ref l] []) rfl]
  have h1 := PySem.F.called_set.notType
  have h2 := PySem.F.called_set.canCreate
  have hct := PySem.F.typeCall_set_1 (.ref l)
  repeat (any_goals (first | assumption | wp_step))

  refine codeAny_mono (code_set_led1 (.ref l) (E := E) (Q₁ := fun obj s₁ => obj = .ref s.heap.objs.size ∧ s₁ = { s with heap := s.heap.push { cls := .type "set", dict := none, data := .set #[] 0 (.fresh 0 0 (!w.params.followText "set-order")) } }) ⟨rfl, rfl⟩) fun r s₁ hr => ?_
  cases r with
  | error e => exact hr
  | ok fl =>
    cases fl with
    | ret obj =>
      obtain ⟨rfl, rfl⟩ := hr
      have hS : (s.heap.push { cls := .type "set", dict := none, data := .set #[] 0 (.fresh 0 0 (!w.params.followText "set-order")) }).get? s.heap.objs.size = some { cls := .type "set", dict := none, data := .set #[] 0 (.fresh 0 0 (!w.params.followText "set-order")) } := Heap.get?_push_size _ rfl
      have hT : Shared.TypeIs { s with heap := s.heap.push { cls := .type "set", dict := none, data := .set #[] 0 (.fresh 0 0 (!w.params.followText "set-order")) } } (.ref s.heap.objs.size) "set" := ⟨_, hS, rfl⟩
      have hli := PySem.F.called_set.init.lookup
      have hbi := PySem.F.called_set.init.bind (.ref s.heap.objs.size)
      repeat (any_goals (first | assumption | wp_step))

      refine codeAny_mono (codeAny_call_builtin (R := wants (fun r s₂ => r = .none ∧ ∃ h' tk, s₂ = { s with heap := h', toks := tk } ∧ SetG knd h' s.heap.objs.size (dedup [] ks) ∧
          (∀ b o, s.heap.get? b = some o → h'.get? b = some o)) E) PySem.F.called_set.init.plain PySem.F.entry_set_init (check_set_init_1 hT ?_)) fun r₂ s₂ hr₂ => ?_
      · obtain ⟨ol, hol, hcl, nl, hdl⟩ := hl
        obtain ⟨ocls, odict, odata, oslots⟩ := ol
        simp only at hcl hdl
        subst hcl; subst hdl
        have hol' : (s.heap.push { cls := .type "set", dict := none, data := .set #[] 0 (.fresh 0 0 (!w.params.followText "set-order")) }).get? l = some { cls := .type "list", dict := odict, data := .seq items nl, slots := oslots } := Heap.get?_push_of_some _ hol
        have hsls := PySem.F.sub_list_set
        have hslf := PySem.F.sub_list_frozenset
        have hne : (Value.type "list" == Value.type "dict") = false := by decide
        have hl1 : (s.heap.push { cls := .type "set", dict := none, data := .set #[] 0 (.fresh 0 0 (!w.params.followText "set-order")) }).IsList l items := ⟨_, hol', rfl, nl, rfl⟩
        unfold Builtin.«set.__init__» noKeywords Builtin.Frozenset.updateFrom
        generalize hPI : pyIter = PI
        wp_walk
        subst hPI

        refine wpAny_pyIter_list hl1 ?_
        refine wpAny_bind (wpAny_runValue ?_)
        have hlS : l < s.heap.objs.size := Heap.lt_size hol
        have hh3 : A.in1.in1.in1.handled = none := by simp [hh]
        have hneI : l ≠ (s.heap.push { cls := .type "set", dict := none, data := .set #[] 0 (.fresh 0 0 (!w.params.followText "set-order")) }).objs.size := by
          rw [Heap.size_push]; exact Nat.ne_of_lt (Nat.lt_succ_of_lt hlS)
        have hSf : s.heap.objs.size ∉ [(s.heap.push { cls := .type "set", dict := none, data := .set #[] 0 (.fresh 0 0 (!w.params.followText "set-order")) }).objs.size, l] := by
          rw [Heap.size_push]; simp only [List.mem_cons, List.mem_singleton, List.not_mem_nil, or_false, not_or]
          exact ⟨Nat.ne_of_lt (Nat.lt_succ_self _), Nat.ne_of_gt hlS⟩
        have hval : ∀ (i : Nat) (v : Value), items[i]? = some v → ∃ k, ks[i]? = some k ∧ Kv knd v k := fun i v hv => pGetL hit (by rw [Array.getElem?_toList]; exact hv)
        refine set_update_G ((Walks.list hh3 _ l hneI items).toS) s.heap.objs.size
          hSf ks hisz hb hval (items.size - 0) 0 _ (by omega) (Nat.zero_le _)
          ⟨⟨_, Heap.get?_push_size _ rfl, rfl, rfl⟩, (hl1.push _)⟩ ?hS0 ?hR
        case hS0 =>
          have hget : ((s.heap.push { cls := .type "set", dict := none, data := .set #[] 0 (.fresh 0 0 (!w.params.followText "set-order")) }).push { cls := .type "list_iterator", data := .fields #[.ref l, .int 0 0] }).get? s.heap.objs.size
              = some { cls := .type "set", dict := none, data := .set #[] 0 (.fresh 0 0 (!w.params.followText "set-order")) } := Heap.get?_push_of_some _ hS
          exact setG_new_at hget
        case hR =>
          intro s' hm hS'
          obtain ⟨h', g2, d', tk', os'⟩ := s'
          have eg : g2 = s.gens := hm.gens
          have ed : d' = s.drawn := hm.drawn
          have eo : os' = s.os := hm.os
          subst eg; subst ed; subst eo
          show wpAny _ _ _ _ _ _
          refine wpAny_pure ?_
          show wpAny _ _ (ret Value.none) _ _ _
          refine wpAny_pure ⟨rfl, h', tk', rfl, hS', fun b o e => ?_⟩
          have hb0 : b < s.heap.objs.size := Heap.lt_size e
          have hb1 : b ≠ s.heap.objs.size := Nat.ne_of_lt hb0
          have hb2 : b ≠ (s.heap.push { cls := .type "set", dict := none, data := .set #[] 0 (.fresh 0 0 (!w.params.followText "set-order")) }).objs.size := by
            rw [Heap.size_push]; exact Nat.ne_of_lt (Nat.lt_succ_of_lt hb0)
          exact hm.heap b o (by simp only [List.mem_cons, List.mem_singleton, List.not_mem_nil, or_false, not_or]; exact ⟨hb1, hb2⟩) (Heap.get?_push_of_some _ (Heap.get?_push_of_some _ e))
      · cases r₂ with
        | error e => exact hr₂
        | ok fl₂ =>
          cases fl₂ with
          | ret r =>
            obtain ⟨rfl, h', tk, rfl, hS', hk'⟩ := hr₂
            repeat (any_goals (first | assumption | wp_step))
            exact h _ _ hS' hk'
          | _ => exact hr₂.elim
    | _ => exact hr.elim
end
end VL
namespace VL
open PySem PySem.Spec PyProof.Rows L2 RZ
/-! ### texts in order -/
def leS (a b : Str) : Bool := !ltCps b.cps.toList a.cps.toList
theorem leS_iff (a b : Str) : leS a b = true ↔ a.cps.toList ≤ b.cps.toList := by
  unfold leS
  rw [ltCps_eq]
  simp
theorem leS_trans (a b c : Str) (h1 : leS a b = true) (h2 : leS b c = true) : leS a c = true := by
  rw [leS_iff] at *
  exact List.le_trans h1 h2
theorem leS_total (a b : Str) : (leS a b || leS b a) = true := by
  rw [Bool.or_eq_true, leS_iff, leS_iff]
  exact List.le_total _ _
theorem leS_anti {a b : Str} (h1 : leS a b = true) (h2 : leS b a = true) : a = b := by
  rw [leS_iff] at *
  have := List.le_antisymm h1 h2
  cases a; cases b
  simp only [Str.mk.injEq]
  exact Array.toList_inj.mp this
theorem rising_pw : ∀ (p : Str) (l : List Str), risingS p l = true → (p :: l).Pairwise fun a b => leS a b = true
  | p, [], _ => by simp
  | p, x :: r, h => by
    have h : (!ltCps x.cps.toList p.cps.toList && risingS x r) = true := h
    rw [Bool.and_eq_true] at h
    have ih := rising_pw x r h.2
    refine List.pairwise_cons.mpr ⟨fun y hy => ?_, ih⟩
    rcases List.mem_cons.mp hy with rfl | hy
    · exact h.1
    · exact leS_trans _ _ _ h.1 ((List.pairwise_cons.mp ih).1 y hy)
theorem sorted_pw : ∀ {l : List Str}, sortedS l = true → l.Pairwise fun a b => leS a b = true
  | [], _ => by simp
  | x :: r, h => rising_pw x r h
def srtS (l : List Str) : List Str := l.mergeSort leS
def setS (l : List Str) : List Str := srtS (dedup [] l)
theorem srtS_perm (l : List Str) : (srtS l).Perm l := List.mergeSort_perm l leS
theorem srtS_pw (l : List Str) : (srtS l).Pairwise fun a b => leS a b = true := List.pairwise_mergeSort leS_trans leS_total l
theorem srtS_eq {ys l : List Str} (p : ys.Perm l) (h : sortedS ys = true) : ys = srtS l :=
  List.Perm.eq_of_pairwise (fun _ _ _ _ a b => leS_anti a b) (sorted_pw h) (srtS_pw l) (p.trans (srtS_perm l).symm)
theorem srtS_congr {l l' : List Str} (p : l.Perm l') : srtS l = srtS l' :=
  List.Perm.eq_of_pairwise (fun _ _ _ _ a b => leS_anti a b) (srtS_pw l) (srtS_pw l') ((srtS_perm l).trans (p.trans (srtS_perm l').symm))
theorem setS_mem {l : List Str} {x : Str} : x ∈ setS l ↔ x ∈ l := by
  unfold setS; rw [(srtS_perm _).mem_iff, dedup_mem]; simp
theorem setS_nodup (l : List Str) : (setS l).Nodup := (srtS_perm _).nodup_iff.mpr (dedup_nodup _ _ List.nodup_nil)
theorem setS_congr {l l' : List Str} (h : ∀ x, x ∈ l ↔ x ∈ l') : setS l = setS l' :=
  srtS_congr ((List.perm_ext_iff_of_nodup (dedup_nodup _ _ List.nodup_nil) (dedup_nodup _ _ List.nodup_nil)).mpr fun x => by rw [dedup_mem, dedup_mem]; simp [h])
theorem setS_nd {l : List Str} (h : l.Nodup) : (setS l).Perm l := (List.perm_ext_iff_of_nodup (setS_nodup l) h).mpr fun x => setS_mem
theorem setS_of_nodup {l : List Str} (h : l.Nodup) : setS l = srtS l :=
  List.Perm.eq_of_pairwise (fun _ _ _ _ a b => leS_anti a b) (srtS_pw _) (srtS_pw l) ((setS_nd h).trans (srtS_perm l).symm)
theorem setS_len (l : List Str) : (setS l).length ≤ l.length := by
  unfold setS; rw [(srtS_perm _).length_eq]; have := dedup_len l []; simpa using this
/-! ints -/
def leI (a b : Int) : Bool := decide (a ≤ b)
def srtI (l : List Int) : List Int := l.mergeSort leI
def setI (l : List Int) : List Int := srtI (dedup [] l)
theorem srtI_perm (l : List Int) : (srtI l).Perm l := List.mergeSort_perm l leI
theorem srtI_pw (l : List Int) : (srtI l).Pairwise (· ≤ ·) := (List.pairwise_mergeSort (le := leI) (fun a b c h1 h2 => by simp [leI] at *; omega) (fun a b => by simp [leI]; omega) l).imp fun h => by simpa [leI] using h
theorem srtI_eq {ys l : List Int} (p : ys.Perm l) (h : ys.Pairwise (· ≤ ·)) : ys = srtI l :=
  List.Perm.eq_of_pairwise (fun _ _ _ _ a b => Int.le_antisymm a b) h (srtI_pw l) (p.trans (srtI_perm l).symm)
theorem setI_mem {l : List Int} {x : Int} : x ∈ setI l ↔ x ∈ l := by
  unfold setI; rw [(srtI_perm _).mem_iff, dedup_mem]; simp
theorem setI_nodup (l : List Int) : (setI l).Nodup := (srtI_perm _).nodup_iff.mpr (dedup_nodup _ _ List.nodup_nil)
theorem setI_congr {l l' : List Int} (h : ∀ x, x ∈ l ↔ x ∈ l') : setI l = setI l' :=
  srtI_eq ((srtI_perm _).trans ((List.perm_ext_iff_of_nodup (dedup_nodup _ _ List.nodup_nil) (dedup_nodup _ _ List.nodup_nil)).mpr fun x => by rw [dedup_mem, dedup_mem]; simp [h])) (srtI_pw _)
theorem setI_len (l : List Int) : (setI l).length ≤ l.length := by
  unfold setI; rw [(srtI_perm _).length_eq]; have := dedup_len l []; simpa using this

/-! ### sorted(set(..)) -/
section
variable {P : Program} {w : World} {A : Around} {E : Value → Shared → Prop} {s : Shared} {a : Addr}
theorem strs_pe : ∀ {es : List (Int × Value)} {L : List Str}, Paired (Pe (PySem.strKind P w)) es L → StrsAre (es.map (·.2)) L
  | _, _, .nil => .nil
  | _, _, .cons r t => by
    obtain ⟨q, _⟩ := r
    obtain ⟨tk, e⟩ := Value.isStrOf_shape q
    rw [List.map_cons, e]
    exact .cons _ tk (strs_pe t)
theorem ints_pe : ∀ {es : List (Int × Value)} {L : List Int}, Paired (Pe (PySem.intKind P w)) es L → IntsAre (es.map (·.2)) L
  | _, _, .nil => .nil
  | _, _, .cons (a := e) (b := k) r t => by
    obtain ⟨q, _⟩ := r
    obtain ⟨h, v⟩ := e
    cases v with
    | int i tk =>
      have : (i == k) = true := q
      have : i = k := by simpa using this
      subst this
      exact .cons _ tk (ints_pe t)
    | _ => cases q
theorem strs_perm {us vs : List Value} (p : vs.Perm us) : ∀ {L : List Str}, StrsAre us L → ∃ L', L'.Perm L ∧ StrsAre vs L' := by
  induction p with
  | nil => intro L h; exact ⟨L, .refl _, h⟩
  | cons x q ih =>
    intro L h
    cases h with
    | cons n t r =>
      obtain ⟨L', p1, p2⟩ := ih r
      exact ⟨_ :: L', p1.cons _, .cons n t p2⟩
  | swap x y l =>
    intro L h
    cases h with
    | cons n t r =>
      cases r with
      | cons n2 t2 r2 => exact ⟨_, .swap _ _ _, .cons n2 t2 (.cons n t r2)⟩
  | trans _ _ ih1 ih2 =>
    intro L h
    obtain ⟨vs, p1, p2⟩ := ih2 h
    obtain ⟨ws, p3, p4⟩ := ih1 p2
    exact ⟨ws, p3.trans p1, p4⟩
theorem intsA_perm {us vs : List Value} (p : vs.Perm us) : ∀ {L : List Int}, IntsAre us L → ∃ L', L'.Perm L ∧ IntsAre vs L' := by
  induction p with
  | nil => intro L h; exact ⟨L, .refl _, h⟩
  | cons x q ih =>
    intro L h
    cases h with
    | cons n t r =>
      obtain ⟨L', p1, p2⟩ := ih r
      exact ⟨_ :: L', p1.cons _, .cons n t p2⟩
  | swap x y l =>
    intro L h
    cases h with
    | cons n t r =>
      cases r with
      | cons n2 t2 r2 => exact ⟨_, .swap _ _ _, .cons n2 t2 (.cons n t r2)⟩
  | trans _ _ ih1 ih2 =>
    intro L h
    obtain ⟨vs, p1, p2⟩ := ih2 h
    obtain ⟨ws, p3, p4⟩ := ih1 p2
    exact ⟨ws, p3.trans p1, p4⟩
theorem sorted_setS {L : List Str} {Q : Value → Shared → Prop} (R : SetG (PySem.strKind P w) s.heap a L) (hh : A.handled = none) (h64 : L.length < 64)
    (hQ : ∀ s' p (out : Array Value) (c : Nat), (∀ b o, s.heap.get? b = some o → s'.heap.get? b = some o) → s'.gens = s.gens → s'.os = s.os → s.heap.objs.size ≤ p →
      s'.heap.get? p = some (seqObj "list" out c) → StrsAre out.toList (srtS L) → Q (.ref p) s') :
    wpAny (model P w) A (call (.builtin "sorted") [.ref a]) Q E s := by
  obtain ⟨o, es, ep, t, ho, hex, hd, ⟨L', pL, pr⟩, nd, hb, hf, hr, hl⟩ := R
  refine Calls.call_function_entry kind_sorted plain_sorted entry_sorted (args_sorted1 _) ?_
  unfold Builtin.«sorted»
  refine wpAny_bind (m := checkCount "sorted" 1 1 _) (wpAny_pure ?_)
  refine wpAny_bind (collect_set (A := A.in1) hh ⟨o, ho, hex.1, hd⟩ hf hb hr hl fun s1 vs k1 hz g1 o1 pm => ?_)
  obtain ⟨L2, pL2, hS⟩ := strs_perm pm (strs_pe pr)
  have pp : L2.Perm L := pL2.trans pL
  have hvl : vs.length = L2.length := hS.length
  have hv64 : vs.length < 64 := by rw [hvl, pp.length_eq]; exact h64
  refine wpAny_bind (wpAny_newList ?_ (by rw [sizeLine_eq]; omega))
  have hoL : (s1.heap.push (seqObj "list" vs.toArray 0)).get? s1.heap.objs.size = some (seqObj "list" vs.toArray 0) := Heap.get?_push_size _ rfl
  refine wpAny_bind (wpAny_holding (wpAny_call_entry slot_list_sort ⟨_, hoL, rfl⟩ entry_list_sort (list_sort_treeK strKind_oneLt hoL hS.keysOf (fun v₁ v₂ rest e => keyKind_strs (by rw [← e]; exact hS)) hv64 fun st' hp hs => ⟨_, rfl, ?_⟩) (args_list_sort _)))
  obtain ⟨ys, g1', g2, g3⟩ := sorted_out_str hS hp hs
  obtain ⟨c, hc⟩ := sortedHeap_at (vs := vs) (out := (arrOf st').map (·.2)) hoL
  have ey : ys = srtS L := srtS_eq (g2.trans pp) g3
  rw [ey] at g1'
  refine wpAny_pure ⟨_, rfl, hQ _ s1.heap.objs.size ((arrOf st').map (·.2)) c (fun b u e => ?_) g1 o1 hz hc g1'⟩
  have q := k1 b u e
  have hlt := Heap.lt_size q
  show (sortedHeap (s1.heap.push (seqObj "list" vs.toArray 0)) s1.heap.objs.size vs ((arrOf st').map (·.2))).get? b = some u
  rw [sortedHeap_old (Nat.ne_of_lt hlt) (by rw [size_push']; exact Nat.lt_succ_of_lt hlt)]
  exact Heap.get?_push_of_some _ q
theorem sorted_setI {L : List Int} {Q : Value → Shared → Prop} (R : SetG (PySem.intKind P w) s.heap a L) (hh : A.handled = none) (h64 : L.length < 64)
    (hQ : ∀ s' p (out : Array Value) (c : Nat), (∀ b o, s.heap.get? b = some o → s'.heap.get? b = some o) → s'.gens = s.gens → s'.os = s.os → s.heap.objs.size ≤ p →
      s'.heap.get? p = some (seqObj "list" out c) → IntsAre out.toList (srtI L) → Q (.ref p) s') :
    wpAny (model P w) A (call (.builtin "sorted") [.ref a]) Q E s := by
  obtain ⟨o, es, ep, t, ho, hex, hd, ⟨L', pL, pr⟩, nd, hb, hf, hr, hl⟩ := R
  refine Calls.call_function_entry kind_sorted plain_sorted entry_sorted (args_sorted1 _) ?_
  unfold Builtin.«sorted»
  refine wpAny_bind (m := checkCount "sorted" 1 1 _) (wpAny_pure ?_)
  refine wpAny_bind (collect_set (A := A.in1) hh ⟨o, ho, hex.1, hd⟩ hf hb hr hl fun s1 vs k1 hz g1 o1 pm => ?_)
  obtain ⟨L2, pL2, hS⟩ := intsA_perm pm (ints_pe pr)
  have pp : L2.Perm L := pL2.trans pL
  have hvl : vs.length = L2.length := hS.length
  have hv64 : vs.length < 64 := by rw [hvl, pp.length_eq]; exact h64
  refine wpAny_bind (wpAny_newList ?_ (by rw [sizeLine_eq]; omega))
  have hoL : (s1.heap.push (seqObj "list" vs.toArray 0)).get? s1.heap.objs.size = some (seqObj "list" vs.toArray 0) := Heap.get?_push_size _ rfl
  refine wpAny_bind (wpAny_holding (wpAny_call_entry slot_list_sort ⟨_, hoL, rfl⟩ entry_list_sort (list_sort_tree hoL hS hv64 fun out ns' a1 a2 a3 => ⟨_, rfl, ?_⟩) (args_list_sort _)))
  obtain ⟨c, hc⟩ := sortedHeap_at (vs := vs) (out := out) hoL
  have ey : ns' = srtI L := srtI_eq (a2.trans pp) a3
  rw [ey] at a1
  refine wpAny_pure ⟨_, rfl, hQ _ s1.heap.objs.size out c (fun b u e => ?_) g1 o1 hz hc a1⟩
  have q := k1 b u e
  have hlt := Heap.lt_size q
  show (sortedHeap (s1.heap.push (seqObj "list" vs.toArray 0)) s1.heap.objs.size vs out).get? b = some u
  rw [sortedHeap_old (Nat.ne_of_lt hlt) (by rw [size_push']; exact Nat.lt_succ_of_lt hlt)]
  exact Heap.get?_push_of_some _ q
end
def tSortSet (K : PySem.W.Frag) (ta : TE) : TE := fun σ H Q => ta σ H fun x H1 => ∃ l, x = .ref l ∧
  ((∃ xs : List Str, SqL K H1 l (xs.map V.str) ∧ xs.length < 64 ∧ ∀ p, H1 p = none → Q (.ref p) (upd H1 p (.lst ((setS xs).map V.str)))) ∨
   (∃ xs : List Int, SqL K H1 l (xs.map V.int) ∧ xs.length < 64 ∧ ∀ p, H1 p = none → Q (.ref p) (upd H1 p (.lst ((setI xs).map V.int)))))
theorem kv_strs {P : Program} {w : World} : ∀ {its : List Value} {xs : List Str}, StrsAre its xs → Paired (Kv (PySem.strKind P w)) its xs
  | _, _, .nil => .nil
  | _, _, .cons n t r => .cons ⟨by show (n == n) = true; simp, rfl⟩ (kv_strs r)
theorem kv_ints {P : Program} {w : World} : ∀ {its : List Value} {xs : List Int}, IntsAre its xs → Paired (Kv (PySem.intKind P w)) its xs
  | _, _, .nil => .nil
  | _, _, .cons n t r => .cons ⟨by show (n == n) = true; simp, rfl⟩ (kv_ints r)
section
variable {X : Cx}
theorem inv_new {pins : List (Addr × Obj)} {σ : L2.St} {H : Hp} {s s' : Shared} {p : Addr} {o : HO} (I : Inv X pins σ H s) (k : ∀ b o, s.heap.get? b = some o → s'.heap.get? b = some o) (g : s'.gens = s.gens) (os : s'.os = s.os) (hp : s.heap.objs.size ≤ p) (ho : ObjOk X.prog X.w (upd H p o) s'.heap p o) : Inv X pins σ (upd H p o) s' ∧ H p = none := by
  have hn : H p = none := I.hok.fresh hp
  refine ⟨?_, hn⟩
  have J : Inv X pins σ (upd H p o) { s with heap := s'.heap, gens := s'.gens, drawn := s'.drawn, toks := s'.toks } :=
    I.call (ch := []) (Un.laid k hp hn) (I.hok.laid k hp ho) (by rw [g]; exact I.bare) (fun _ z => nomatch z)
  have e : s' = { s with heap := s'.heap, gens := s'.gens, drawn := s'.drawn, toks := s'.toks } := by
    cases s'
    cases s
    cases os
    rfl
  rw [e]
  exact J
theorem pe_sortedSet {a : Expr} {ta : TE} {p p2 q pos : Pos} (hc : X.calm = true) (hg : Gl X "sorted") (hm : X.mg "sorted" = none) (hg2 : Gl X "set") (hm2 : X.mg "set" = none) (ha : PE X a ta)
    (na : starEach [a] X.env = (false, eval a X.env) :: starEach [] X.env := by rfl) : PE X (.Call (.Name "sorted" p) [.Call (.Name "set" p2) [a] [] q] [] pos) (tSortSet X.K ta) := by
  refine ⟨fun pins s σ H Q I h => ?_⟩
  refine Call_ (ld_blt I hg hm (show bootBuiltins "sorted" = some (.builtin "sorted") by decide +kernel) ?_)
  refine PyProof.Rows.callWith_builtin1 (PyProof.Rows.args_cons ?_ rfl) rfl rfl
  refine Call_ (ld_blt I hg2 hm2 boot_set ?_)
  refine PyProof.Rows.callWith_type1 (PyProof.Rows.args_cons (thn (ha.run pins s σ H _ I h) fun v s1 ⟨x, H1, I1, r1, q1⟩ => PyProof.Rows.args_nil ?_) na) na rfl
  obtain ⟨l, rfl, q1⟩ := q1
  cases r1
  rcases q1 with ⟨xs, hq, h64, q1⟩ | ⟨xs, hq, h64, q1⟩
  · obtain ⟨its, r, pl, hz⟩ := I1.list hq
    refine call_set_listG (knd := PySem.strKind X.prog X.w) (items := its.toArray) xs (I1.ok.hd hc) pl.isList (by simpa using kv_strs r.strs) (by unfold scanBound; omega) fun h' tk hS hk => ?_
    have I2 : Inv X pins σ H1 { s1 with heap := h', toks := tk } := I1.kept fun b o e => hk b o e
    refine PyProof.Rows.args_nil ?_
    have hl : (dedup [] xs).length < 64 := by have := dedup_len xs []; simp at this; omega
    refine sorted_setS (s := { s1 with heap := h', toks := tk }) hS (I1.ok.hd hc) hl fun s' p out c k g os hp hg hi => ?_
    have hlen : ((setS xs).map V.str).length ≤ sizeLine := by have := setS_len xs; rw [List.length_map, sizeLine_eq]; omega
    obtain ⟨J, hn⟩ := inv_new (o := .lst ((setS xs).map V.str)) I2 k g os hp ⟨hlen, out.toList, c, vals_of_strs hi, by rw [Array.toArray_toList]; exact hg⟩
    exact ⟨.ref p, _, J, rfl, q1 p hn⟩
  · obtain ⟨its, r, pl, hz⟩ := I1.list hq
    refine call_set_listG (knd := PySem.intKind X.prog X.w) (items := its.toArray) xs (I1.ok.hd hc) pl.isList (by simpa using kv_ints r.ints) (by unfold scanBound; omega) fun h' tk hS hk => ?_
    have I2 : Inv X pins σ H1 { s1 with heap := h', toks := tk } := I1.kept fun b o e => hk b o e
    refine PyProof.Rows.args_nil ?_
    have hl : (dedup [] xs).length < 64 := by have := dedup_len xs []; simp at this; omega
    refine sorted_setI (s := { s1 with heap := h', toks := tk }) hS (I1.ok.hd hc) hl fun s' p out c k g os hp hg hi => ?_
    have hlen : ((setI xs).map V.int).length ≤ sizeLine := by have := setI_len xs; rw [List.length_map, sizeLine_eq]; omega
    obtain ⟨J, hn⟩ := inv_new (o := .lst ((setI xs).map V.int)) I2 k g os hp ⟨hlen, out.toList, c, vals_of_ints hi, by rw [Array.toArray_toList]; exact hg⟩
    exact ⟨.ref p, _, J, rfl, q1 p hn⟩
end
def intsOf : List D → Option (List Int)
  | [] => some []
  | .int x :: ds => (intsOf ds).map (x :: ·)
  | _ :: _ => none
theorem intsOf_rep {K : KW} {F : Hp} : ∀ {ds : List D} {vs : List V} {ys : List Int}, Paired (RepD K F) ds vs → intsOf ds = some ys → vs = ys.map V.int
  | [], _, _, .nil, e => by cases e; rfl
  | d :: ds, _, ys, .cons r t, e => by
    cases r <;> simp only [intsOf] at e <;> try cases e
    cases q : intsOf ds with
    | none => rw [q] at e; cases e
    | some zs =>
      rw [q] at e
      cases e
      rw [intsOf_rep t q]; rfl
theorem strsOf_of : ∀ {ds : List D} {ys : List Str}, strsOf ds = some ys → ds = ys.map D.str
  | [], _, e => by cases e; rfl
  | d :: ds, ys, e => by
    cases d <;> simp only [strsOf] at e <;> try cases e
    cases q : strsOf ds with
    | none => rw [q] at e; cases e
    | some zs => rw [q] at e; cases e; rw [strsOf_of q]; rfl
theorem intsOf_of : ∀ {ds : List D} {ys : List Int}, intsOf ds = some ys → ds = ys.map D.int
  | [], _, e => by cases e; rfl
  | d :: ds, ys, e => by
    cases d <;> simp only [intsOf] at e <;> try cases e
    cases q : intsOf ds with
    | none => rw [q] at e; cases e
    | some zs => rw [q] at e; cases e; rw [intsOf_of q]; rfl
@[simp] theorem strsOf_map : ∀ ys : List Str, strsOf (ys.map D.str) = some ys
  | [] => rfl
  | y :: ys => by rw [List.map_cons, strsOf, strsOf_map ys]; rfl
@[simp] theorem intsOf_map : ∀ ys : List Int, intsOf (ys.map D.int) = some ys
  | [] => rfl
  | y :: ys => by rw [List.map_cons, intsOf, intsOf_map ys]; rfl
/-- sorted(set(e)) of a list of texts, or of ints, fewer than 64 -/
@[simp] def wSortSet (o : Bool) (a : WE) : WE := fun rh mu Q => a rh mu fun x mu1 => match lsD mu1 x with
  | some ds => (match strsOf ds with
    | some ys => ys.length < 64 ∧ newL o ((setS ys).map D.str) mu1 Q
    | none => match intsOf ds with
      | some ns => ns.length < 64 ∧ newL o ((setI ns).map D.int) mu1 Q
      | none => False)
  | none => False
section
variable {io : Type} {Y : io → Cx} {P : Program} {w : World} {K : KW} {mg : Str → Option Value} {base : Heap} {N : List Str} {k : Nat} {pos p p2 q : Pos} {a : Expr} {wa : WE}
theorem reps_strs {F : Hp} : ∀ {ys : List Str}, (∀ y ∈ ys, StrOk y) → Paired (RepD K F) (ys.map D.str) (ys.map V.str)
  | [], _ => .nil
  | y :: ys, h => .cons (.str _ (h y (by simp))) (reps_strs fun z hz => h z (by simp [hz]))
theorem reps_ints {F : Hp} : ∀ {ys : List Int}, Paired (RepD K F) (ys.map D.int) (ys.map V.int)
  | [] => .nil
  | y :: ys => .cons (.int _) reps_ints
theorem strs_ok {F : Hp} : ∀ {ys : List Str} {vs : List V}, Paired (RepD K F) (ys.map D.str) vs → ∀ y ∈ ys, StrOk y
  | [], _, _, y, h => by cases h
  | z :: ys, _, .cons r t, y, h => by
    rcases List.mem_cons.mp h with rfl | h
    · cases r with | str _ h => exact h
    · exact strs_ok t y h
theorem ve_sortedSet (y : YOk Y P w K mg base N k) (o : Bool) (hm : mg "sorted" = none) (hm2 : mg "set" = none) (ha : VE Y K a wa) (hg : ∀ i, Gl (Y i) "sorted" := by exact fun _ => rfl) (hg2 : ∀ i, Gl (Y i) "set" := by exact fun _ => rfl)
    (na : ∀ i, starEach [a] (Y i).env = (false, eval a (Y i).env) :: starEach [] (Y i).env := by exact fun _ => rfl) : VE Y K (.Call (.Name "sorted" p) [.Call (.Name "set" p2) [a] [] q] [] pos) (wSortSet o wa) := by
  obtain ⟨t, p1, d⟩ := ha
  refine ⟨tSortSet K t, fun i => by have := pe_sortedSet (p := p) (p2 := p2) (q := q) (pos := pos) (y.calm i) (hg i) (by rw [y.hmg i]; exact hm) (hg2 i) (by rw [y.hmg i]; exact hm2) (p1 i) (na i); rw [y.hK i] at this; exact this, fun G B F H al rh si mu Qd Q s h kq => ?_⟩
  refine d G B F H al rh si mu _ _ s h fun F1 H1 al1 mu1 x v e1 s1 r1 h1 => ?_
  split at h1
  · rename_i ds el
    obtain ⟨l, vs, rfl, rd, z, pr⟩ := lsD_rep s1.s r1 el
    refine ⟨l, rfl, ?_⟩
    split at h1
    · rename_i ys ey
      obtain ⟨h64, h1⟩ := h1
      have ev := strs_rep pr ey
      subst ev
      have := strsOf_of ey
      subst this
      have ok := strs_ok pr
      refine .inl ⟨ys, .inl rd, h64, fun p hp => ?_⟩
      refine newL_ok (K := K) s1 (reps_strs fun y hy => ok y (setS_mem.mp hy)) ?_ h1 (fun F' H' al' mu' w v x => kq F' H' al' mu' w v (e1.trans x)) p hp
      have := setS_len ys
      rw [List.length_map, sizeLine_eq]; omega
    · rename_i hn
      split at h1
      · rename_i ns en
        obtain ⟨h64, h1⟩ := h1
        have ev := intsOf_rep pr en
        subst ev
        refine .inr ⟨ns, .inl rd, h64, fun p hp => ?_⟩
        refine newL_ok (K := K) s1 reps_ints ?_ h1 (fun F' H' al' mu' w v x => kq F' H' al' mu' w v (e1.trans x)) p hp
        have := setI_len ns
        rw [List.length_map, sizeLine_eq]; omega
      · exact h1.elim
  · exact h1.elim
end
end VL
namespace VL
open PySem PySem.Spec PyProof.Rows L2 RZ
/-! ### dicts with ints and texts as keys -/
@[simp] def keyD : D → Option Key
  | .int i => some (.inl i)
  | .str x => some (.inr x)
  | _ => none
@[simp] def keyW : W → Option Key
  | .d x => keyD x
  | _ => none
def valD : List (Key × D) → Key → Option D
  | [], _ => none
  | (j, d) :: r, k => if j = k then some d else valD r k
def putD : List (Key × D) → Key → D → List (Key × D)
  | [], k, d => [(k, d)]
  | (j, e) :: r, k, d => if j = k then (k, d) :: r else (j, e) :: putD r k d
section
variable {K : KW} {G B F H : Hp} {al : List Addr} {mu : Sto}
theorem keyW_rep {x : W} {v : V} {k : Key} (r : RepW K F al x v) (e : keyW x = some k) : v = kV k ∧ ∀ z, k = .inr z → StrOk z := by
  cases x with
  | d x =>
    cases r with
    | d r =>
      cases r <;> simp only [keyW, keyD] at e <;> cases e
      · exact ⟨rfl, fun z h => by cases h⟩
      · rename_i y h
        exact ⟨rfl, fun z h' => by cases h'; exact h⟩
  | _ => cases e
theorem valV_cons (p : Key × V) (r : List (Key × V)) (k : Key) : valV (p :: r) k = if p.1 = k then some p.2 else valV r k := by
  split
  · rename_i h; exact valV_pos h
  · rename_i h; exact valV_neg h
theorem valD_rep : ∀ {kvs : List (Key × D)} {gs : List (Key × V)}, Paired (fun p q => p.1 = q.1 ∧ RepD K F p.2 q.2) kvs gs → ∀ k, match valD kvs k with
    | some d => ∃ v, valV gs k = some v ∧ RepD K F d v
    | none => valV gs k = none
  | _, _, .nil, k => rfl
  | (j, d) :: _, (j', v) :: _, .cons r t, k => by
    obtain ⟨r1, r2⟩ := r
    simp only at r1 r2
    subst r1
    have ih := valD_rep t k
    rw [valD, valV_cons]
    by_cases c : j = k
    · rw [if_pos c, if_pos c]; exact ⟨v, rfl, r2⟩
    · rw [if_neg c, if_neg c]; exact ih
/-- the first place of the key is replaced; keys stand but once -/
def putKF : List (Key × V) → Key → V → List (Key × V)
  | [], k, d => [(k, d)]
  | (j, e) :: r, k, d => if j = k then (k, d) :: r else (j, e) :: putKF r k d
theorem putK_F {k : Key} {v : V} : ∀ {gs : List (Key × V)}, (gs.map (·.1)).Nodup → putK gs k v = putKF gs k v := by
  intro gs
  unfold putK
  induction gs with
  | nil => intro _; rfl
  | cons p r ih =>
    obtain ⟨j, e⟩ := p
    intro nd
    rw [List.map_cons, List.nodup_cons] at nd
    have ih := ih nd.2
    rw [putKF]
    by_cases c : j = k
    · subst c
      rw [if_pos rfl]
      have hm : (r.map fun kv : Key × V => if kv.1 = j then (kv.1, v) else kv) = r := by
        refine (List.map_congr_left fun q hq => ?_).trans (List.map_id r)
        rw [if_neg fun h => nd.1 (by rw [← h]; exact List.mem_map.mpr ⟨q, hq, rfl⟩)]; rfl
      simp [hm]
    · rw [if_neg c]
      by_cases a : (r.any fun kv => decide (kv.1 = k)) = true
      · rw [if_pos a] at ih
        simp only [List.any_cons, c, decide_false, Bool.false_or, a, if_true, List.map_cons, if_false]
        rw [ih]
      · rw [if_neg a] at ih
        simp only [List.any_cons, c, decide_false, Bool.false_or, a, if_false]
        rw [← ih]; rfl
theorem putD_rep {k : Key} {d : D} {v : V} (rd : RepD K F d v) : ∀ {kvs : List (Key × D)} {gs : List (Key × V)}, Paired (fun p q => p.1 = q.1 ∧ RepD K F p.2 q.2) kvs gs → Paired (fun p q => p.1 = q.1 ∧ RepD K F p.2 q.2) (putD kvs k d) (putKF gs k v)
  | _, _, .nil => .cons ⟨rfl, rd⟩ .nil
  | (j, e) :: _, (j', u) :: _, .cons r t => by
    obtain ⟨r1, r2⟩ := r
    simp only at r1 r2
    subst r1
    rw [putD, putKF]
    by_cases c : j = k
    · rw [if_pos c, if_pos c]; exact .cons ⟨rfl, rd⟩ t
    · rw [if_neg c, if_neg c]; exact .cons ⟨rfl, r2⟩ (putD_rep rd t)
theorem keys_rep : ∀ {kvs : List (Key × D)} {gs : List (Key × V)}, Paired (fun p q => p.1 = q.1 ∧ RepD K F p.2 q.2) kvs gs → kvs.map (·.1) = gs.map (·.1)
  | _, _, .nil => rfl
  | _, _, .cons r t => by rw [List.map_cons, List.map_cons, r.1, keys_rep t]
theorem putD_mem {k : Key} {d : D} : ∀ {kvs : List (Key × D)} {p : Key × D}, p ∈ putD kvs k d → p ∈ kvs ∨ p = (k, d)
  | [], p, h => by simp [putD] at h; exact .inr h
  | (j, e) :: r, p, h => by
    rw [putD] at h
    split at h
    · rcases List.mem_cons.mp h with h | h
      · exact .inr h
      · exact .inl (List.mem_cons_of_mem _ h)
    · rcases List.mem_cons.mp h with h | h
      · exact .inl (h ▸ List.mem_cons_self)
      · rcases putD_mem h with h | h
        · exact .inl (List.mem_cons_of_mem _ h)
        · exact .inr h
theorem putD_len (kvs : List (Key × D)) (k : Key) (d : D) : (putD kvs k d).length ≤ kvs.length + 1 := by
  induction kvs with
  | nil => simp [putD]
  | cons p r ih => obtain ⟨j, e⟩ := p; rw [putD]; split <;> simp; exact ih
end
@[simp] def getDk (mu : Sto) : W → Option (List (Key × D))
  | .loc k => match mu[k]? with
    | some (.dk kvs) => some kvs
    | _ => none
  | _ => none
theorem getDk_eq {mu : Sto} {x : W} {kvs : List (Key × D)} (h : getDk mu x = some kvs) : ∃ k, x = .loc k ∧ mu[k]? = some (.dk kvs) := by
  cases x with
  | loc k =>
    simp only [getDk] at h
    split at h
    · rename_i n' e
      injection h with h
      cases h
      exact ⟨k, rfl, e⟩
    · cases h
  | _ => cases h
section
variable {K : KW} {G B F H : Hp} {al : List Addr} {mu : Sto}
theorem dk_rep {x : W} {v : V} {kvs : List (Key × D)} (s : SRS K G B F H al mu) (r : RepW K F al x v) (e : getDk mu x = some kvs) :
    ∃ k a gs, x = .loc k ∧ mu[k]? = some (.dk kvs) ∧ al[k]? = some a ∧ v = .ref a ∧ H a = some (.dK gs) ∧ Paired (fun p q => p.1 = q.1 ∧ RepD K F p.2 q.2) kvs gs ∧ ∀ k ∈ kvs, ∀ x, k.1 = .inr x → StrOk x := by
  obtain ⟨k, rfl, ek⟩ := getDk_eq e
  cases r with
  | loc ea =>
    obtain ⟨o, _, _, ho, cr⟩ := s.at ek ea
    cases cr with
    | dk p z => exact ⟨k, _, _, rfl, ek, ea, rfl, ho, p, z⟩
end
/-- d[k], there -/
@[simp] def wDGet (o i : WE) : WE := fun rh mu Q => o rh mu fun x mu1 => i rh mu1 fun y mu2 => match getDk mu2 x, keyW y with
  | some kvs, some k => (match valD kvs k with
    | some d => Q (.d d) mu2
    | none => False)
  | _, _ => False
/-- d.get(k, e) -/
@[simp] def wDGet2 (o i e : WE) : WE := fun rh mu Q => o rh mu fun x mu1 => (getDk mu1 x).isSome = true ∧ i rh mu1 fun y mu2 => e rh mu2 fun z mu3 => match getDk mu3 x, keyW y with
  | some kvs, some k => (match valD kvs k with
    | some d => Q (.d d) mu3
    | none => Q z mu3)
  | _, _ => False
/-- k in d -/
@[simp] def wDIn (neg : Bool) (i o : WE) : WE := fun rh mu Q => i rh mu fun y mu1 => o rh mu1 fun x mu2 => match getDk mu2 x, keyW y with
  | some kvs, some k => Q (.d (.bl (if neg then !(valD kvs k).isSome else (valD kvs k).isSome))) mu2
  | _, _ => False
/-- d[k] = v -/
@[simp] def wDPut (o i v : WE) : WS := fun V rh mu => v rh mu fun u mu1 => o rh mu1 fun x mu2 => i rh mu2 fun y mu3 => match x with
  | .loc l => (match mu3[l]? with
    | some (.dk kvs) => (match keyW y, u with
      | some k, .d d => (kvs.map (·.1)).Nodup ∧ kvs.length < sizeLine ∧ V.nx rh (mu3.set l (.dk (putD kvs k d)))
      | _, _ => False)
    | _ => False)
  | _ => False
section
variable {io : Type} {Y : io → Cx} {P : Program} {w : World} {K : KW} {mg : Str → Option Value} {base : Heap} {N : List Str} {k : Nat} {pos p apos cpos : Pos} {a i e o f : Expr} {wa wi we wo wf : WE}
theorem units_at (y : YOk Y P w K mg base N k) (j : io) : (Y j).A.units + 1 < cLine := hu_of (y.room j)
theorem dget_at {F H : Hp} {a : Addr} {kvs : List (Key × D)} {gs : List (Key × V)} {k : Key} (eo : H a = some (.dK gs)) (pr : Paired (fun p q => p.1 = q.1 ∧ RepD K F p.2 q.2) kvs gs) : DGet H a (kV k) (valV gs k) := DGet.k eo
theorem ve_dget (y : YOk Y P w K mg base N k) (ho : VE Y K o wo) (hi : VE Y K i wi) (hs : NoSl i := by exact fun _ _ => rfl) : VE Y K (.Subscript o i pos) (wDGet wo wi) := by
  obtain ⟨t1, p1, d1⟩ := ho
  obtain ⟨t2, p2, d2⟩ := hi
  refine ⟨_, fun j => pe_dget (units_at y j) (p1 j) (p2 j) hs, fun G B F H al rh si mu Qd Q s h q => ?_⟩
  refine d1 G B F H al rh si mu _ _ s h fun F1 H1 al1 mu1 x v e1 s1 r1 h1 => ?_
  refine d2 G B F1 H1 al1 rh si mu1 _ _ s1 h1 fun F2 H2 al2 mu2 z u e2 s2 r2 h2 => ?_
  split at h2
  · rename_i kvs kk eD eK
    obtain ⟨k', a', gs, rfl, ek, ea, rfl, eo, pr, ok⟩ := dk_rep s2.s (r1.mono e2) eD
    obtain ⟨rfl, _⟩ := keyW_rep r2 eK
    have := valD_rep pr kk
    split at h2
    · rename_i d ed
      rw [ed] at this
      obtain ⟨v', ev, rv⟩ := this
      exact ⟨a', v', rfl, ev ▸ DGet.k eo, q F2 H2 al2 mu2 _ _ (e1.trans e2) s2 (.d rv) h2⟩
    · exact h2.elim
  · exact h2.elim
theorem ve_dget2 (y : YOk Y P w K mg base N k) (ho : VE Y K o wo) (hi : VE Y K i wi) (hf : VE Y K f wf) (m : ∀ j, M2 (Y j) o "get" apos i f cpos := by exact fun _ => ⟨rfl, rfl, rfl, rfl⟩) : VE Y K (.Call (.Attribute o "get" apos) [i, f] [] cpos) (wDGet2 wo wi wf) := by
  obtain ⟨t1, p1, d1⟩ := ho
  obtain ⟨t2, p2, d2⟩ := hi
  obtain ⟨t3, p3, d3⟩ := hf
  refine ⟨_, fun j => pe_dget2 (units_at y j) (p1 j) (p2 j) (p3 j) (m j), fun G B F H al rh si mu Qd Q s h q => ?_⟩
  refine d1 G B F H al rh si mu _ _ s h fun F1 H1 al1 mu1 x v e1 s1 r1 h1 => ?_
  obtain ⟨hD, h1⟩ := h1
  obtain ⟨kv0, eD0⟩ := Option.isSome_iff_exists.mp hD
  obtain ⟨_, a0, gs0, _, _, _, rfl, eo0, _, _⟩ := dk_rep s1.s r1 eD0
  refine ⟨a0, rfl, .inl ⟨gs0, .inl eo0⟩, ?_⟩
  refine d2 G B F1 H1 al1 rh si mu1 _ _ s1 h1 fun F2 H2 al2 mu2 z u e2 s2 r2 h2 => ?_
  refine d3 G B F2 H2 al2 rh si mu2 _ _ s2 h2 fun F3 H3 al3 mu3 z3 u3 e3 s3 r3 h3 => ?_
  split at h3
  · rename_i kvs kk eD eK
    obtain ⟨k', a', gs, rfl, ek, ea, ev, eo, pr, ok⟩ := dk_rep s3.s (r1.mono (e2.trans e3)) eD
    cases ev
    obtain ⟨rfl, _⟩ := keyW_rep r2 eK
    refine ⟨valV gs kk, DGet.k eo, ?_⟩
    have := valD_rep pr kk
    split at h3
    · rename_i d ed
      rw [ed] at this
      obtain ⟨v', ev, rv⟩ := this
      rw [ev]
      exact q F3 H3 al3 mu3 _ _ ((e1.trans e2).trans e3) s3 (.d rv) h3
    · rename_i ed
      rw [ed] at this
      rw [this]
      exact q F3 H3 al3 mu3 _ _ ((e1.trans e2).trans e3) s3 r3 h3
  · exact h3.elim
theorem den_din {t1 t2 : TE} (neg : Bool) (d1 : Den K t1 wi) (d2 : Den K t2 wo) : Den K (if neg then tDNotIn t1 t2 else tDIn t1 t2) (wDIn neg wi wo) := fun G B F H al rh si mu Qd Q s h q => by
  have core : ∀ F1 H1 al1 mu1 x v, Ext F al F1 al1 → SR K G B F1 H1 al1 rh si mu1 → RepW K F1 al1 x v → (wo rh mu1 fun z mu2 => match getDk mu2 z, keyW x with
      | some kvs, some k => Qd (.d (.bl (if neg then !(valD kvs k).isSome else (valD kvs k).isSome))) mu2
      | _, _ => False) → t2 si H1 fun z H2 => ∃ a o, z = .ref a ∧ DGet H2 a v o ∧ Q (.bl (if neg then !o.isSome else o.isSome)) H2 := fun F1 H1 al1 mu1 x v e1 s1 r1 h1 => by
    refine d2 G B F1 H1 al1 rh si mu1 _ _ s1 h1 fun F2 H2 al2 mu2 z u e2 s2 r2 h2 => ?_
    split at h2
    · rename_i kvs kk eD eK
      obtain ⟨k', a', gs, rfl, ek, ea, rfl, eo, pr, ok⟩ := dk_rep s2.s r2 eD
      obtain ⟨rfl, _⟩ := keyW_rep (r1.mono e2) eK
      refine ⟨a', valV gs kk, rfl, DGet.k eo, ?_⟩
      have e : (valV gs kk).isSome = (valD kvs kk).isSome := by
        have := valD_rep pr kk
        cases ed : valD kvs kk with
        | some d => rw [ed] at this; obtain ⟨v', ev, _⟩ := this; rw [ev]; rfl
        | none => rw [ed] at this; rw [this]; rfl
      rw [e]
      exact q F2 H2 al2 mu2 _ _ (e1.trans e2) s2 (.d (.bl _)) h2
    · exact h2.elim
  cases neg with
  | true => exact d1 G B F H al rh si mu _ _ s h fun F1 H1 al1 mu1 x v e1 s1 r1 h1 => core F1 H1 al1 mu1 x v e1 s1 r1 h1
  | false => exact d1 G B F H al rh si mu _ _ s h fun F1 H1 al1 mu1 x v e1 s1 r1 h1 => core F1 H1 al1 mu1 x v e1 s1 r1 h1
theorem ve_din (y : YOk Y P w K mg base N k) (hi : VE Y K i wi) (ho : VE Y K o wo) (hm : behindInMarks .In o = false := by with_unfolding_all rfl) : VE Y K (.Compare i [.In] [o] pos) (wDIn false wi wo) := by
  obtain ⟨t1, p1, d1⟩ := hi
  obtain ⟨t2, p2, d2⟩ := ho
  exact ⟨_, fun j => pe_cmp (pc_din (units_at y j) (p1 j) (p2 j)) hm, den_din false d1 d2⟩
theorem vt_din (y : YOk Y P w K mg base N k) (hi : VE Y K i wi) (ho : VE Y K o wo) (hm : behindInMarks .In o = false := by with_unfolding_all rfl) : VT Y K (.Compare i [.In] [o] pos) (wTest (wDIn false wi wo)) := by
  obtain ⟨t1, p1, d1⟩ := hi
  obtain ⟨t2, p2, d2⟩ := ho
  exact ⟨_, fun j => pt_cmp (pc_din (units_at y j) (p1 j) (p2 j)) hm, den_test (den_din false d1 d2)⟩
theorem ve_dnotin (y : YOk Y P w K mg base N k) (hi : VE Y K i wi) (ho : VE Y K o wo) (hm : behindInMarks .NotIn o = false := by with_unfolding_all rfl) : VE Y K (.Compare i [.NotIn] [o] pos) (wDIn true wi wo) := by
  obtain ⟨t1, p1, d1⟩ := hi
  obtain ⟨t2, p2, d2⟩ := ho
  exact ⟨_, fun j => pe_cmp (pc_dnotin (units_at y j) (p1 j) (p2 j)) hm, den_din true d1 d2⟩
theorem vt_dnotin (y : YOk Y P w K mg base N k) (hi : VE Y K i wi) (ho : VE Y K o wo) (hm : behindInMarks .NotIn o = false := by with_unfolding_all rfl) : VT Y K (.Compare i [.NotIn] [o] pos) (wTest (wDIn true wi wo)) := by
  obtain ⟨t1, p1, d1⟩ := hi
  obtain ⟨t2, p2, d2⟩ := ho
  exact ⟨_, fun j => pt_cmp (pc_dnotin (units_at y j) (p1 j) (p2 j)) hm, den_test (den_din true d1 d2)⟩
end
section
variable {X : Cx} {P : Program} {w : World} {K : KW} {mg : Str → Option Value} {base : Heap} {N : List Str} {k : Nat} {pos pos' : Pos} {o i e : Expr} {wo wi we : WE}
theorem vs_dput (y : YOk (un X) P w K mg base N k) (ho : VE (un X) K o wo) (hi : VE (un X) K i wi) (he : VE (un X) K e we) (hs : swapsWith e (some (.Subscript o i pos')) pos.line X.env = pure false := by rfl) : VS X K (.Assign [.Subscript o i pos'] e pos) (wDPut wo wi we) := by
  obtain ⟨t1, p1, d1⟩ := ho
  obtain ⟨t2, p2, d2⟩ := hi
  obtain ⟨t3, p3, d3⟩ := he
  refine ⟨_, ps_dput (hu_of (y.room ())) (p1 ()) (p2 ()) (p3 ()) hs, fun G B F H al rh si mu V1 D1 s h b => ?_⟩
  refine d3 G B F H al rh si mu _ _ s h fun F1 H1 al1 mu1 u v e1 s1 r1 h1 => ?_
  refine d1 G B F1 H1 al1 rh si mu1 _ _ s1 h1 fun F2 H2 al2 mu2 x vx e2 s2 r2 h2 => ?_
  refine d2 G B F2 H2 al2 rh si mu2 _ _ s2 h2 fun F3 H3 al3 mu3 z vz e3 s3 r3 h3 => ?_
  split at h3
  · rename_i l
    split at h3
    · rename_i kvs ek
      split at h3
      · rename_i kk d eK
        obtain ⟨nd, hl, h3⟩ := h3
        obtain ⟨_, a', gs, ex, _, ea, rfl, eo, pr, ok⟩ := dk_rep (x := .loc l) (kvs := kvs) s3.s (r2.mono e3) (by simp [ek])
        cases ex
        obtain ⟨rfl, okk⟩ := keyW_rep r3 eK
        cases r1 with
        | d r1 =>
        have hlen : gs.length = kvs.length := (Paired.length pr).symm
        have ndg : (gs.map (·.1)).Nodup := by rw [← keys_rep pr]; exact nd
        refine ⟨a', _, rfl, DPut.k eo (by rw [hlen]; exact hl), ?_⟩
        rw [putK_F ndg]
        have s4 := s3.s.put (c := .dk (putD kvs kk d)) ea (CRep.dk (putD_rep ((r1.mono e2.1).mono e3.1) pr) fun p hp x hx => by
          rcases putD_mem hp with hp | rfl
          · exact ok p hp x hx
          · exact okk x hx)
        exact b.nx _ _ _ _ _ _ ((e1.trans e2).trans e3) (s3.step (Ext.refl _ _) s4) h3
      · exact h3.elim
    · exact h3.elim
  · exact h3.elim
end
/-! ### sorted(..): a list of texts, of ints, the keys of a dict, fewer than 64 -/
def strKeys : List (Key × D) → Option (List Str)
  | [] => some []
  | (.inr x, _) :: r => (strKeys r).map (x :: ·)
  | (.inl _, _) :: _ => none
theorem strKeys_eq : ∀ {kvs : List (Key × D)} {ks : List Str}, strKeys kvs = some ks → kvs.map (·.1) = ks.map Sum.inr
  | [], _, e => by cases e; rfl
  | (.inr x, _) :: r, ks, e => by
    simp only [strKeys] at e
    cases q : strKeys r with
    | none => rw [q] at e; cases e
    | some zs => rw [q] at e; cases e; rw [List.map_cons, List.map_cons, strKeys_eq q]
  | (.inl _, _) :: _, _, e => by cases e
def fSorted (o : Bool) : FC := fun mu ws Q => match ws with
  | [x] => (match getDk mu x with
    | some kvs => (match strKeys kvs with
      | some ks => ks.length < 64 ∧ newL o ((srtS ks).map D.str) mu Q
      | none => False)
    | none => match lsD mu x with
      | some ds => (match strsOf ds with
        | some ys => ys.length < 64 ∧ newL o ((srtS ys).map D.str) mu Q
        | none => match intsOf ds with
          | some ns => ns.length < 64 ∧ newL o ((srtI ns).map D.int) mu Q
          | none => False)
      | none => False)
  | _ => False
def rSortedA (K : PySem.W.Frag) : List V → Hp → L2.VK → Prop := fun xs H Q =>
  (∃ (a : Addr) (kvs : List (Key × V)) (ks : List Str), xs = [.ref a] ∧ Rd H a (.dK kvs) ∧ kvs.map (·.1) = ks.map Sum.inr ∧ ks.length < 64 ∧ ∀ ys p, ys.Perm ks → sortedS ys = true → H p = none → Q (.ref p) (upd H p (.lst (ys.map V.str)))) ∨
  rSortedS K xs H Q ∨ rSorted K xs H Q
theorem cr_sortedA {X : Cx} (hc : X.calm = true) : CallR X (.builtin "sorted") (rSortedA X.K) := by
  intro pins s σ H xs us Q I r q
  rcases q with q | q | q
  · exact call_sortedD hc pins s σ H xs us Q I r q
  · exact cr_sortedS pins s σ H xs us Q I r q
  · exact cr_sorted pins s σ H xs us Q I r q
theorem cd_sorted {K : KW} (o : Bool) : CallD K (rSortedA K) (fSorted o) := fun G B F H al rh si mu ws vs Qd Q s r0 h q => by
  unfold fSorted at h
  split at h
  · rename_i x
    obtain ⟨v, rfl, r1⟩ := pair1 r0
    have ln : ∀ {A1 : Type} (f : A1 → V) (l l' : List A1), l.length ≤ l'.length → l'.length < 64 → (l.map f).length ≤ sizeLine := fun f l l' h1 h2 => by rw [List.length_map, sizeLine_eq]; omega
    split at h
    · rename_i kvs eD
      obtain ⟨k', a', gs, rfl, ek, ea, rfl, eo, pr, ok⟩ := dk_rep s.s r1 eD
      split at h
      · rename_i ks ek2
        obtain ⟨h64, h⟩ := h
        have e1 := strKeys_eq ek2
        have okS : ∀ z ∈ ks, StrOk z := fun z hz => by
          have : Sum.inr z ∈ kvs.map (·.1) := by rw [e1]; exact List.mem_map.mpr ⟨z, hz, rfl⟩
          obtain ⟨p, hp, e⟩ := List.mem_map.mp this
          exact ok p hp z e
        refine .inl ⟨a', gs, ks, rfl, .inl eo, by rw [← keys_rep pr]; exact e1, h64, fun ys p hp hs hn => ?_⟩
        have := srtS_eq hp hs
        subst this
        exact newL_ok (K := K) s (reps_strs fun y hy => okS y ((srtS_perm _).mem_iff.mp hy)) (ln _ _ ks (Nat.le_of_eq (srtS_perm _).length_eq) h64) h q p hn
      · exact h.elim
    · split at h
      · rename_i ds el
        obtain ⟨l, vs, rfl, rd, z, pr⟩ := lsD_rep s.s r1 el
        split at h
        · rename_i ys ey
          obtain ⟨h64, h⟩ := h
          have ev := strs_rep pr ey
          subst ev
          have := strsOf_of ey
          subst this
          have okS := strs_ok pr
          refine .inr (.inl ⟨l, ys, rfl, .inl rd, h64, fun zs p hp hs hn => ?_⟩)
          have := srtS_eq hp hs
          subst this
          exact newL_ok (K := K) s (reps_strs fun y hy => okS y ((srtS_perm _).mem_iff.mp hy)) (ln _ _ ys (Nat.le_of_eq (srtS_perm _).length_eq) h64) h q p hn
        · split at h
          · rename_i ns en
            obtain ⟨h64, h⟩ := h
            have ev := intsOf_rep pr en
            subst ev
            refine .inr (.inr ⟨l, ns, rfl, .inl rd, h64, fun zs p hp hs hn => ?_⟩)
            have := srtI_eq hp hs
            subst this
            exact newL_ok (K := K) s reps_ints (ln _ _ ns (Nat.le_of_eq (srtI_perm _).length_eq) h64) h q p hn
          · exact h.elim
      · exact h.elim
  · exact h.elim
section
variable {io : Type} {Y : io → Cx} {P : Program} {w : World} {K : KW} {mg : Str → Option Value} {base : Heap} {N : List Str} {k : Nat} {pos p : Pos} {e : Expr} {es : List Expr} {ga : WA}
theorem ve_sorted (y : YOk Y P w K mg base N k) (o : Bool) (hm : mg "sorted" = none) (ha : VA Y K (e :: es) ga) (hg : ∀ j, Gl (Y j) "sorted" := by exact fun _ => rfl) (he : ∀ i, starEach (e :: es) (Y i).env = (false, eval e (Y i).env) :: starEach es (Y i).env := by exact fun _ => rfl) (hpl : ∀ i, (backTo pos (starEach es (Y i).env)).any (·.1) = false := by exact fun _ => rfl) : VE Y K (.Call (.Name "sorted" p) (e :: es) [] pos) (wCall (fSorted o) ga) :=
  ve_callB y (fun i => by rw [← y.hK i]; exact cr_sortedA (y.calm i)) (cd_sorted o) hm (by decide +kernel) ha hg (he := he) (hpl := hpl)
end
end VL
namespace VL
open PySem PySem.Spec PyProof.Rows L2 RZ RT
/-! ### list(reversed(a list)) -/
section
variable {prog : Program} {w : World} {A : Around} {E : Value → Shared → Prop} {s : Shared}
theorem extend_rev {R : Result → Shared → Prop} {it l : Addr} {items : Array Value} (hh : A.handled = none) (hit1 : s.heap.IsRevIter it l ((items.size : Int) - 1)) (hl1 : s.heap.IsList l items) (hne : l ≠ it) (hn : items.size ≤ sizeLine)
    (S : Addr) (hSi : S ≠ it) (hSl : S ≠ l) (res : Value) (c₀ : Nat) (hS₁ : s.heap.get? S = some { cls := .type "list", data := .seq #[] c₀ })
    (hR : ∀ h' tk acc' c', (∀ b o, b ≠ S → b ≠ it → s.heap.get? b = some o → h'.get? b = some o) → h'.get? S = some { cls := .type "list", dict := none, data := .seq acc' c', slots := #[] } →
      ItemsOf (fun i v => items[items.size - 1 - i]? = some v) acc' items.size → R (.ok (.ret res)) { s with heap := h', toks := tk }) :
    wpAny (model prog w) A.in1 (Builtin.List.listExtendWith (.ref S) (.ref it) res)
      (fun fin s' => match fin with | .done f => R (.ok f) s' | .again c' => c'.quiet = true ∧ codeAny (model prog w) A c' R s') (fun e s' => R (.error e) s') s := by
  have W := (Walks.listRev (prog := prog) (w := w) (A := A.in1) hh it l hne items).toS
  have hSf : S ∉ [it, l] := by simp only [List.mem_cons, List.not_mem_nil, or_false, not_or]; exact ⟨hSi, hSl⟩
  have hT : s.TypeIs (.ref it) "list_reverseiterator" := Heap.IsRevIter.typeIs hit1
  have h1 : Builtin.List.listSameRef (.ref S) (.ref it) = false := by simp [Builtin.List.listSameRef, hSi]
  unfold Builtin.List.listExtendWith
  refine wpAny_bind (wpAny_typeOf hT ?_)
  rw [if_neg (by rw [h1]; decide)]
  refine wpAny_bind (wpAny_pyIter_revIter hit1 ?_)
  refine wpAny_bind (wpAny_holding ?_)
  unfold Builtin.List.listLengthHint
  refine wpAny_bind (wpAny_specialOf hT nolen_lri ?_)
  show wpAny _ A.in1 (specialOf (Value.ref it) (Str.ofString "__length_hint__") >>= _) _ _ _
  refine wpAny_bind (wpAny_specialOf hT hint_lri ?_)
  generalize hid : ("list_reverseiterator.__length_hint__" : String) = id0
  wp_delta
  rw [show splitId id0 = some ("list_reverseiterator", "__length_hint__") from by subst hid; decide +kernel]
  subst hid
  refine wpAny_bind (wpAny_isInstance (b := true) hT (by rw [isSubtype_type]; kernel_rfl) ?_)
  refine wpAny_pure ?_
  rw [if_neg (by decide)]
  have e0 : ((items.size : Nat) : Int) - 1 - ((0 : Nat) : Int) = (items.size : Int) - 1 := by omega
  refine wpAny_pure ⟨plainId_quiet PySem.F.plain_extend_loop _, codeAny_extend_loopS W hn _ hSf _ items.size 0 _ _ _ rfl (Nat.zero_le _) ⟨Nat.zero_le _, by rw [e0]; exact hit1, hl1⟩ hS₁ (ItemsOf.nil _) fun s' acc' c' hm hS' hacc => ?_⟩
  rw [Moved.eq_with hm]
  refine hR s'.heap s'.toks acc' c' (fun b o hb hb2 e => hm.heap b o (fun hmem => ?_) e) hS' hacc
  rcases List.mem_cons.mp hmem with e' | hmem
  · exact hb e'
  · exact hb2 (List.mem_singleton.mp hmem)
theorem list_init_rev {R : Result → Shared → Prop} {it l : Addr} {items : Array Value} (hh : A.handled = none) (hit1 : s.heap.IsRevIter it l ((items.size : Int) - 1)) (hl1 : s.heap.IsList l items) (hne : l ≠ it) (hn : items.size ≤ sizeLine)
    (S : Addr) (hSi : S ≠ it) (hSl : S ≠ l) (hS : s.heap.get? S = some { cls := .type "list", data := .seq #[] })
    (hR : ∀ h' tk acc' c', (∀ b o, b ≠ S → b ≠ it → s.heap.get? b = some o → h'.get? b = some o) → h'.get? S = some { cls := .type "list", dict := none, data := .seq acc' c', slots := #[] } →
      ItemsOf (fun i v => items[items.size - 1 - i]? = some v) acc' items.size → R (.ok (.ret .none)) { s with heap := h', toks := tk }) :
    wpAny (model prog w) A.in1 (Builtin.«list.__init__» ⟨[.ref S, .ref it], []⟩)
      (fun fin s' => match fin with | .done f => R (.ok f) s' | .again c' => c'.quiet = true ∧ codeAny (model prog w) A c' R s') (fun e s' => R (.error e) s') s := by
  show wpAny _ _ (do let old ← Builtin.List.listItems (.ref S); Builtin.List.listUpdate (.ref S) (fun _ => #[]); letGo old.toList.reverse; Builtin.List.listExtendWith (.ref S) (.ref it) .none) _ _ s
  refine wpAny_bind ?_
  unfold Builtin.List.listItems
  refine wpAny_bind (wpAny_seqItems hS rfl (wpAny_pure ?_))
  show wpAny _ _ (updateSeq S (fun _ => #[]) >>= fun _ => letGo (#[] : Array Value).toList.reverse >>= fun _ => Builtin.List.listExtendWith (.ref S) (.ref it) .none) _ _ s
  refine wpAny_bind (wpAny_updateSeq hS rfl ?_)
  have hS₂ := Heap.get?_update_self (Obj.mapSeq (fun _ => (#[] : Array Value))) hS rfl
  have oth : ∀ b o, b ≠ S → s.heap.get? b = some o → (s.heap.update S (Obj.mapSeq (fun _ => (#[] : Array Value)))).get? b = some o :=
    fun b o hb e => (Heap.get?_update_other _ _ (Ne.symm hb)).trans e
  refine wpAny_bind (wpAny_letGo ?_)
  have hl2 : (s.heap.update S (Obj.mapSeq (fun _ => (#[] : Array Value)))).IsList l items := by
    obtain ⟨o, ho, r⟩ := hl1
    exact ⟨o, oth l o (Ne.symm hSl) ho, r⟩
  refine extend_rev (s := { s with heap := s.heap.update S (Obj.mapSeq (fun _ => (#[] : Array Value))) }) hh (hit1.at fun o e => oth it o (Ne.symm hSi) e) hl2 hne hn S hSi hSl .none _ hS₂ fun h' tk acc' c' hk hS' hacc => ?_
  exact hR h' tk acc' c' (fun b o hb hb2 e => hk b o hb hb2 (oth b o hb e)) hS' hacc
theorem call_list_rev {it l : Addr} {items : Array Value} {Q : Value → Shared → Prop} (hh : A.handled = none) (hit : s.heap.IsRevIter it l ((items.size : Int) - 1)) (hl : s.heap.IsList l items) (hne : l ≠ it) (hn : items.size ≤ sizeLine)
    (hQ : ∀ h' tk acc' c', (∀ b o, b ≠ it → s.heap.get? b = some o → h'.get? b = some o) →
      h'.get? s.heap.objs.size = some { cls := .type "list", dict := none, data := .seq acc' c', slots := #[] } → ItemsOf (fun i v => items[items.size - 1 - i]? = some v) acc' items.size → Q (.ref s.heap.objs.size) { s with heap := h', toks := tk }) :
    wpAny (model prog w) A (call (.type "list") [.ref it]) Q E s := by
  refine callType_codes (Q₁ := fun obj s₁ => obj = .ref s.heap.objs.size ∧ s₁ = { s with heap := s.heap.push { cls := .type "list", data := .seq #[] } }) PySem.F.called_list (PySem.F.typeCall_list_1 _) PySem.F.entry_list_init
    (code_list_new _ ⟨rfl, rfl⟩) fun obj s₁ h₁ => ?_
  obtain ⟨rfl, rfl⟩ := h₁
  have hS : (s.heap.push { cls := .type "list", data := .seq #[] }).get? s.heap.objs.size = some { cls := .type "list", data := .seq #[] } := Heap.get?_push_size _ rfl
  obtain ⟨oi, hoi, _⟩ := id hit
  obtain ⟨ol, hol, _⟩ := id hl
  have hSi : s.heap.objs.size ≠ it := Nat.ne_of_gt (Heap.lt_size hoi)
  have hSl : s.heap.objs.size ≠ l := Nat.ne_of_gt (Heap.lt_size hol)
  refine ⟨⟨_, hS, rfl⟩, PySem.F.args_list_init_2 _ _, list_init_rev (A := A.in1) (s := { s with heap := s.heap.push { cls := .type "list", data := .seq #[] } }) hh (hit.at fun o e => Heap.get?_push_of_some _ e) (hl.push _) hne hn _ hSi hSl hS fun h' tk acc' c' hk hS' hacc => ?_⟩
  exact ⟨rfl, hQ h' tk acc' c' (fun b o hb e => hk b o (Nat.ne_of_lt (Heap.lt_size e)) hb (Heap.get?_push_of_some _ e)) hS' hacc⟩
end
def tListRev (K : PySem.W.Frag) (te : TE) : TE := fun σ H Q => te σ H fun v H1 => ∃ (a : Addr) (xs : List V), v = .ref a ∧ SqL K H1 a xs ∧ ∀ q, H1 q = none → Q (.ref q) (upd H1 q (.lst xs.reverse))
section
variable {X : Cx}
theorem pe_listRev {e : Expr} {te : TE} {p p2 pos pos2 : Pos} (hc : X.calm = true) (hg : Gl X "list") (hm : X.mg "list" = none) (hg2 : Gl X "reversed") (hm2 : X.mg "reversed" = none) (he : PE X e te)
    (hs : starEach [e] X.env = (false, eval e X.env) :: starEach [] X.env := by rfl)
    (hs2 : starEach [.Call (.Name "reversed" p2) [e] [] pos2] X.env = (false, eval (.Call (.Name "reversed" p2) [e] [] pos2) X.env) :: starEach [] X.env := by rfl) :
    PE X (.Call (.Name "list" p) [.Call (.Name "reversed" p2) [e] [] pos2] [] pos) (tListRev X.K te) := by
  refine ⟨fun pins s σ H Q I h => ?_⟩
  refine Call_ (ld_blt I hg hm boot_list (PyProof.Rows.callWith_type1 (args_cons (Call_ (ld_blt I hg2 hm2 PyProof.Rows.boot_reversed (PyProof.Rows.callWith_type1 (args_cons (thn (he.run pins s σ H _ I h) fun u s1 ⟨v, H1, I1, r1, q1⟩ => args_nil ?_) hs) hs rfl))) hs2) hs2 rfl))
  obtain ⟨a, xs, ev, hq, q⟩ := q1
  subst ev
  obtain rfl : u = Value.ref a := r1
  obtain ⟨its, rv, p', hz⟩ := I1.list hq
  refine call_reversed_list p'.isList (args_nil ?_)
  have k0 : ∀ b o, s1.heap.get? b = some o → (s1.heap.push (revObj a ((its.toArray.size : Int) - 1))).get? b = some o := fun b o e => Heap.get?_push_of_some _ e
  have hl := p'.isList
  obtain ⟨ol, hol, _⟩ := id hl
  have hne : a ≠ s1.heap.objs.size := Nat.ne_of_lt (Heap.lt_size hol)
  have hn : its.toArray.size ≤ sizeLine := by rw [List.size_toArray, ← rv.length]; exact hz
  refine call_list_rev (s := { s1 with heap := s1.heap.push (revObj a ((its.toArray.size : Int) - 1)) }) (I1.ok.hd hc) ⟨_, Heap.get?_push_size _ rfl, rfl, rfl⟩ (hl.push _) hne hn fun h' tk acc c' hk hS' hi => ?_
  have hsz : (s1.heap.push (revObj a ((its.toArray.size : Int) - 1))).objs.size = s1.heap.objs.size + 1 := Heap.size_push ..
  obtain ⟨J, hnn⟩ := inv_new (s' := { s1 with heap := h', toks := tk }) (p := (s1.heap.push (revObj a ((its.toArray.size : Int) - 1))).objs.size) (o := .lst xs.reverse) I1 (fun b o e => hk b o (Nat.ne_of_lt (Heap.lt_size e)) (k0 b o e)) rfl rfl (by rw [hsz]; exact Nat.le_succ _) ⟨by rw [List.length_reverse]; exact hz, acc.toList, c', vals_rev rv hi, by rw [Array.toArray_toList]; exact hS'⟩
  exact ⟨.ref _, _, J, rfl, q _ hnn⟩
end
/-- list(reversed(e)) of a list of data -/
@[simp] def wListRev (o : Bool) (a : WE) : WE := fun rh mu Q => a rh mu fun x mu1 => match lsD mu1 x with
  | some ds => newL o ds.reverse mu1 Q
  | none => False
section
variable {io : Type} {Y : io → Cx} {P : Program} {w : World} {K : KW} {mg : Str → Option Value} {base : Heap} {N : List Str} {k : Nat} {pos p p2 pos2 : Pos} {a : Expr} {wa : WE}
theorem ve_listRev (y : YOk Y P w K mg base N k) (o : Bool) (hm : mg "list" = none) (hm2 : mg "reversed" = none) (ha : VE Y K a wa) (hg : ∀ i, Gl (Y i) "list" := by exact fun _ => rfl) (hg2 : ∀ i, Gl (Y i) "reversed" := by exact fun _ => rfl)
    (hs : ∀ i, starEach [a] (Y i).env = (false, eval a (Y i).env) :: starEach [] (Y i).env := by exact fun _ => rfl)
    (hs2 : ∀ i, starEach [.Call (.Name "reversed" p2) [a] [] pos2] (Y i).env = (false, eval (.Call (.Name "reversed" p2) [a] [] pos2) (Y i).env) :: starEach [] (Y i).env := by exact fun _ => rfl) : VE Y K (.Call (.Name "list" p) [.Call (.Name "reversed" p2) [a] [] pos2] [] pos) (wListRev o wa) := by
  obtain ⟨t, p1, d⟩ := ha
  refine ⟨tListRev K t, fun i => by have := pe_listRev (p := p) (p2 := p2) (pos := pos) (pos2 := pos2) (y.calm i) (hg i) (by rw [y.hmg i]; exact hm) (hg2 i) (by rw [y.hmg i]; exact hm2) (p1 i) (hs i) (hs2 i); rw [y.hK i] at this; exact this, fun G B F H al rh si mu Qd Q s h kq => ?_⟩
  refine d G B F H al rh si mu _ _ s h fun F1 H1 al1 mu1 x v e1 s1 r1 h1 => ?_
  split at h1
  · rename_i ds el
    obtain ⟨l, vs, rfl, rd, z, pr⟩ := lsD_rep s1.s r1 el
    refine ⟨l, vs, rfl, .inl rd, fun q hq => ?_⟩
    exact newL_ok (K := K) s1 (pRev pr) (by rw [List.length_reverse]; exact z) h1 (fun F' H' al' mu' w v x => kq F' H' al' mu' w v (e1.trans x)) q hq
  · exact h1.elim
end
end VL
namespace VL
open PySem PySem.Spec PyProof.Rows L2 RZ
/-! ### sorted(..) of a list of tuples of ints and texts, any number of them -/
@[simp] def kD : Key → D
  | .inl i => .int i
  | .inr x => .str x
@[simp] def rowD (ks : List Key) : D := .tup (ks.map kD)
def isInl : Key → Bool
  | .inl _ => true
  | .inr _ => false
def ltK : Key → Key → Bool
  | .inl i, .inl j => decide (i < j)
  | .inr x, .inr y => ltCps x.cps.toList y.cps.toList
  | .inl _, .inr _ => true
  | .inr _, .inl _ => false
def ltL : List Key → List Key → Bool
  | [], [] => false
  | [], _ :: _ => true
  | _ :: _, [] => false
  | a :: as, b :: bs => if a = b then ltL as bs else ltK a b
theorem leS_lt {x y : Str} (h : ltCps x.cps.toList y.cps.toList = false) : leS y x = true := by unfold leS; rw [h]; rfl
theorem lt_leS {x y : Str} (h : ltCps x.cps.toList y.cps.toList = true) : leS y x = false := by unfold leS; rw [h]; rfl
theorem ltK_irr (a : Key) : ltK a a = false := by
  cases a with
  | inl i => simp [ltK]
  | inr x =>
    unfold ltK
    cases h : ltCps x.cps.toList x.cps.toList with
    | false => exact h
    | true =>
      have h1 := lt_leS h
      have h2 := leS_total x x
      rw [h1] at h2
      cases h2
theorem ltK_tri {a b : Key} (h1 : ltK a b = false) (h2 : ltK b a = false) : a = b := by
  cases a <;> cases b
  · simp [ltK] at h1 h2; congr 1; omega
  · cases h1
  · cases h2
  · rename_i x y
    have e := leS_anti (leS_lt h2) (leS_lt h1)
    rw [e]
theorem ltK_trans {a b c : Key} (h1 : ltK a b = true) (h2 : ltK b c = true) : ltK a c = true := by
  cases a <;> cases b <;> cases c <;> first | (cases h1; done) | (cases h2; done) | rfl | skip
  · simp [ltK] at *; omega
  · rename_i x y z
    unfold ltK at *
    cases h : ltCps x.cps.toList z.cps.toList with
    | true => exact h
    | false =>
      have h3 := leS_lt h
      have l1 := lt_leS h1
      have l2 := lt_leS h2
      have t1 : leS x y = true := by have := leS_total x y; rw [l1] at this; simpa using this
      have := leS_trans _ _ _ h3 t1
      rw [l2] at this; cases this
theorem ltK_asym {a b : Key} (h : ltK a b = true) : ltK b a = false := by
  cases q : ltK b a with
  | false => rfl
  | true => have := ltK_trans h q; rw [ltK_irr] at this; cases this
theorem ltL_irr : ∀ a : List Key, ltL a a = false
  | [] => rfl
  | a :: as => by unfold ltL; rw [if_pos rfl]; exact ltL_irr as
theorem ltL_tri : ∀ {a b : List Key}, ltL a b = false → ltL b a = false → a = b
  | [], [], _, _ => rfl
  | [], _ :: _, h, _ => by cases h
  | _ :: _, [], _, h => by cases h
  | a :: as, b :: bs, h1, h2 => by
    unfold ltL at h1 h2
    by_cases c : a = b
    · subst c
      rw [if_pos rfl] at h1 h2
      rw [ltL_tri h1 h2]
    · rw [if_neg c] at h1
      rw [if_neg fun z => c z.symm] at h2
      exact absurd (ltK_tri h1 h2) c
theorem ltL_trans : ∀ {a b c : List Key}, ltL a b = true → ltL b c = true → ltL a c = true
  | [], [], _, h, _ => by cases h
  | [], _ :: _, [], _, h => by cases h
  | [], _ :: _, _ :: _, _, _ => rfl
  | _ :: _, [], _, h, _ => by cases h
  | _ :: _, _ :: _, [], _, h => by cases h
  | a :: as, b :: bs, c :: cs, h1, h2 => by
    unfold ltL at h1 h2 ⊢
    by_cases e1 : a = b
    · subst e1
      rw [if_pos rfl] at h1
      by_cases e2 : a = c
      · subst e2
        rw [if_pos rfl] at h2 ⊢
        exact ltL_trans h1 h2
      · rw [if_neg e2] at h2 ⊢
        exact h2
    · rw [if_neg e1] at h1
      by_cases e2 : b = c
      · subst e2
        rw [if_neg e1]; exact h1
      · rw [if_neg e2] at h2
        have h3 := ltK_trans h1 h2
        rw [if_neg fun z => by subst z; rw [ltK_irr] at h3; cases h3]
        exact h3
theorem ltL_asym {a b : List Key} (h : ltL a b = true) : ltL b a = false := by
  cases q : ltL b a with
  | false => rfl
  | true => have := ltL_trans h q; rw [ltL_irr] at this; cases this
def leL (a b : List Key) : Bool := !ltL b a
theorem leL_trans (a b c : List Key) (h1 : leL a b = true) (h2 : leL b c = true) : leL a c = true := by
  unfold leL at *
  cases q : ltL c a with
  | false => rfl
  | true =>
    simp at h1 h2
    cases q2 : ltL a b with
    | true => have := ltL_trans q q2; rw [h2] at this; cases this
    | false => have := ltL_tri h1 q2; subst this; rw [h2] at q; cases q
theorem leL_total (a b : List Key) : (leL a b || leL b a) = true := by
  unfold leL
  cases q : ltL b a with
  | false => rfl
  | true => rw [ltL_asym q]; rfl
theorem leL_anti {a b : List Key} (h1 : leL a b = true) (h2 : leL b a = true) : a = b := by
  unfold leL at *
  simp at h1 h2
  exact ltL_tri h2 h1
def srtL (l : List (List Key)) : List (List Key) := l.mergeSort leL
theorem srtL_perm (l : List (List Key)) : (srtL l).Perm l := List.mergeSort_perm l leL
theorem srtL_pw (l : List (List Key)) : (srtL l).Pairwise fun a b => leL a b = true := List.pairwise_mergeSort leL_trans leL_total l
theorem srtL_eq {ys l : List (List Key)} (p : ys.Perm l) (h : ys.Pairwise fun a b => leL a b = true) : ys = srtL l :=
  List.Perm.eq_of_pairwise (fun _ _ _ _ a b => leL_anti a b) h (srtL_pw l) (p.trans (srtL_perm l).symm)
theorem srtL_congr {l l' : List (List Key)} (p : l.Perm l') : srtL l = srtL l' := srtL_eq ((srtL_perm l).trans p) (srtL_pw l)
theorem srtL_mem {l : List (List Key)} {x : List Key} : x ∈ srtL l ↔ x ∈ l := (srtL_perm l).mem_iff
theorem srtL_len (l : List (List Key)) : (srtL l).length = l.length := (srtL_perm l).length_eq

/-- the tuple of these keys -/
def IsRow (h : Heap) (v : Value) (ks : List Key) : Prop := ∃ a o us n, v = .ref a ∧ h.get? a = some o ∧ o.cls = .type "tuple" ∧ o.data = .seq us n ∧ Paired (fun k u => L2.RelV (kV k) u) ks us.toList
theorem IsRow.keeps {h h' : Heap} {v : Value} {ks : List Key} (p : IsRow h v ks) (k : ∀ b o, h.get? b = some o → o.cls = .type "tuple" → h'.get? b = some o) : IsRow h' v ks := by
  obtain ⟨a, o, us, n, e, ho, hc, hd, r⟩ := p
  exact ⟨a, o, us, n, e, k _ _ ho hc, hc, hd, r⟩
section
variable {prog : Program} {w : World} {A : Around} {E : Value → Shared → Prop} {s : Shared}
theorem eqKeys {k k' : Key} {u u' : Value} (r : L2.RelV (kV k) u) (r' : L2.RelV (kV k') u') (hs : isInl k = isInl k') {Q : Bool → Shared → Prop} (h : Q (decide (k = k')) s) : wpAny (model prog w) A (eqBool u u') Q E s := by
  cases k with
  | inl i =>
    cases k' with
    | inr y => cases hs
    | inl j =>
      obtain ⟨t, rfl⟩ := r
      obtain ⟨t', rfl⟩ := r'
      refine SeqAt.EqAt.int_int i t j t' prog w _ _ ?_
      have e : (i == j) = decide ((Sum.inl i : Key) = Sum.inl j) := by by_cases c : i = j <;> simp [c]
      rw [e]; exact h
  | inr x =>
    cases k' with
    | inl y => cases hs
    | inr y =>
      obtain ⟨t, rfl⟩ := r
      obtain ⟨t', rfl⟩ := r'
      refine SeqAt.EqAt.str_str x t y t' prog w _ _ ?_
      have e : (x == y) = decide ((Sum.inr x : Key) = Sum.inr y) := by by_cases c : x = y <;> simp [c]
      rw [e]; exact h
theorem lex_rows : ∀ {ks ks' : List Key} {us us' : List Value} {i : Nat} {Q : Bool → Shared → Prop}, Paired (fun k u => L2.RelV (kV k) u) ks us → Paired (fun k u => L2.RelV (kV k) u) ks' us' → ks.map isInl = ks'.map isInl →
    (i = 0 → ∀ k, ks.head? = some k → isInl k = true) → Q (ltL ks ks') s → PySem.W.KatLex prog w A true false Q (us.zip us') i s
  | _, _, _, _, i, Q, .nil, .nil, _, _, h => PySem.W.kat_nil h
  | _, _, _, _, i, Q, .nil, .cons _ _, e, _, h => by simp at e
  | _, _, _, _, i, Q, .cons _ _, .nil, e, _, h => by simp at e
  | k :: ks, k' :: ks', u :: us, u' :: us', i, Q, .cons r t, .cons r' t', e, hi, h => by
    simp only [List.map_cons, List.cons.injEq] at e
    refine PySem.W.kat_cons (eqKeys r r' e.1 ?_)
    unfold ltL at h
    refine PySem.W.kat_go (fun e1 => ?_) (fun e1 => ?_)
    · have ex : k = k' := by simpa using e1
      rw [if_pos ex] at h
      exact PySem.W.kat_yes (lex_rows t t' e.2 (by omega) h)
    · have ex : ¬ k = k' := by simpa using e1
      rw [if_neg ex] at h
      refine PySem.W.kat_no ?_
      cases k with
      | inl x =>
        cases k' with
        | inr y => cases e.1
        | inl y =>
          obtain ⟨t, rfl⟩ := r
          obtain ⟨t', rfl⟩ := r'
          exact TS.oneLt_ints _ h
      | inr x =>
        cases k' with
        | inl y => cases e.1
        | inr y =>
          obtain ⟨t, rfl⟩ := r
          obtain ⟨t', rfl⟩ := r'
          have hi0 : i ≠ 0 := fun z => by have := hi z _ rfl; cases this
          have : (true && i == 0) = false := by simp [hi0]
          rw [this]
          refine PySem.W.kat_one _ _ (PyProof.Rows.lt_str ?_)
          have e2 : ltK (Sum.inr x) (Sum.inr y) = decide (x.cps.toList < y.cps.toList) := ltCps_eq _ _
          rw [e2] at h
          exact h
/-- rows of one kind, an int ahead -/
def RowSig (sg : List Bool) (ks : List Key) : Prop := ks.map isInl = true :: sg
theorem row_cmp {vs : List Value} {k : Value → List Key} {sg : List Bool} (hp : ∀ v ∈ vs, IsRow s.heap v (k v) ∧ RowSig sg (k v)) : SrtO.Cmp prog w A s (tuples' true) (fun p => p.1 ∈ vs) (SrtO.lt2 fun v u => ltL (k v) (k u)) := by
  intro p q hm hm'
  obtain ⟨h1, g1⟩ := hp _ hm
  obtain ⟨h2, g2⟩ := hp _ hm'
  show wpAny (model prog w) A (keyLt' (tuples' true) p.1 q.1) (fun r s' => s' = s ∧ r = ltL (k p.1) (k q.1)) (fun _ _ => False) s
  generalize k p.1 = x at h1 g1 ⊢
  generalize k q.1 = x' at h2 g2 ⊢
  obtain ⟨a, o, us, n, e, ho, hc, hd, r⟩ := h1
  obtain ⟨a', o', us', n', e', ho', hc', hd', r'⟩ := h2
  rw [e, e']
  refine PySem.W.kat_lt ho hd ho' hd' ?_
  have l1 := Paired.length r
  have l2 := Paired.length r'
  have l3 : x.length = x'.length := by
    have := congrArg List.length (g1.trans g2.symm)
    simpa using this
  have : decide (us.size < us'.size) = false := by
    simp only [Array.length_toList] at l1 l2
    exact decide_eq_false (by omega)
  rw [this]
  refine lex_rows r r' (g1.trans g2.symm) (fun _ y hy => ?_) ⟨rfl, rfl⟩
  unfold RowSig at g1
  cases x with
  | nil => cases hy
  | cons z zs => simp at hy g1; subst hy; exact g1.1
theorem row_firsts {h : Heap} {k : Value → List Key} {sg : List Bool} : ∀ {vs : List Value}, (∀ v ∈ vs, IsRow h v (k v) ∧ RowSig sg (k v)) → ∃ fs : List Value, PySem.W.KatTups h vs fs ∧ fs.length = vs.length ∧ ∀ f ∈ fs, ∃ x t, f = Value.int x t
  | [], _ => ⟨[], PySem.W.KatTups.nil, rfl, fun _ hm => by simp at hm⟩
  | v :: vs, hp => by
    obtain ⟨fs, h1, h2, h3⟩ := row_firsts (vs := vs) fun v' hm => hp v' (List.mem_cons_of_mem _ hm)
    obtain ⟨⟨a, o, us, n, e, ho, hc, hd, r⟩, g⟩ := hp v (List.mem_cons_self ..)
    subst e
    unfold RowSig at g
    cases q : k (.ref a) with
    | nil => rw [q] at g; simp at g
    | cons z zs =>
      rw [q] at g r
      simp at g
      cases z with
      | inr y => cases g.1
      | inl x =>
        obtain ⟨u0, us0, eu⟩ : ∃ u0 us0, us.toList = u0 :: us0 := by
          cases h : us.toList with
          | nil => rw [h] at r; cases r
          | cons a b => exact ⟨a, b, rfl⟩
        rw [eu] at r
        cases r with
        | cons r0 _ =>
          obtain ⟨t, rfl⟩ := r0
          refine ⟨.int x t :: fs, PySem.W.KatTups.cons ho hc hd (by have := congrArg (fun l : List Value => l[0]?) eu; simpa using this) h1, by rw [List.length_cons, List.length_cons, h2], fun f hm => ?_⟩
          rcases List.mem_cons.mp hm with rfl | hm
          · exact ⟨x, t, rfl⟩
          · exact h3 f hm
theorem rows_sortable {a : Addr} {vs : List Value} {k : Value → List Key} {sg : List Bool} (h0 : 0 < vs.length) (hp : ∀ v ∈ vs, IsRow s.heap v (k v) ∧ RowSig sg (k v)) (ha : ∀ o, s.heap.get? a = some o → o.cls ≠ .type "tuple") : SrtO.SortableO prog w A s a vs fun v u => ltL (k v) (k u) := by
  intro h' keep
  have hp' : ∀ v ∈ vs, IsRow h' v (k v) ∧ RowSig sg (k v) := fun v hm => ⟨(hp v hm).1.keeps fun b o e c => keep b o (fun z => by subst z; exact ha o e c) e, (hp v hm).2⟩
  obtain ⟨fs, h1, h2, h3⟩ := row_firsts hp'
  refine ⟨tuples' true, fun Q E hq => ?_, row_cmp (s := { s with heap := h' }) hp'⟩
  refine PySem.W.kat_kind (T := .type "int") h1 (by omega) (fun f hm => ?_) (by rfl) ?_
  · obtain ⟨x, t, rfl⟩ := h3 f hm
    exact PySem.W.Looks.now
  · have e : (Value.type "int" != Value.type "tuple") = true := by first | decide +kernel | rfl | decide
    rw [e]
    exact hq
theorem swo_row (k : Value → List Key) : SrtO.Swo fun v u => ltL (k v) (k u) := by
  refine ⟨fun x y h => ltL_asym h, fun x y z h1 h2 => ?_⟩
  have a : leL (k x) (k y) = true := by unfold leL; simp [h1]
  have b : leL (k y) (k z) = true := by unfold leL; simp [h2]
  have := leL_trans _ _ _ a b
  unfold leL at this
  simpa using this
theorem sorted_rows {l : Addr} {vs : List Value} {k : Value → List Key} {sg : List Bool} {Q : Value → Shared → Prop} (hl : s.heap.IsList l vs.toArray) (hz : vs.length ≤ sizeLine) (hp : ∀ v ∈ vs, IsRow s.heap v (k v) ∧ RowSig sg (k v))
    (h : ∀ (h' : Heap) (d : Addr) (out : List Value), SrtO.Srtd (fun v u => ltL (k v) (k u)) out → SrtO.Stb (fun v u => ltL (k v) (k u)) out vs → (∀ b o, s.heap.get? b = some o → h'.get? b = some o) → s.heap.objs.size ≤ d → (∃ n, h'.get? d = some (seqObj "list" out.toArray n)) → Q (.ref d) { s with heap := h' }) :
    wpAny (model prog w) A (call (.builtin "sorted") [.ref l]) Q E s := by
  refine SrtO.sorted_ord (swo_row k) hl hz (fun h2 h₁ a ha kk => ?_) fun out hs hb => ?_
  · refine rows_sortable (s := { s with heap := h₁ }) (by omega) (fun v hm => ⟨(hp v hm).1.keeps fun b o e _ => (kk b o e).2, (hp v hm).2⟩) fun o e => ?_
    have e' : some o = some (seqObj "list" vs.toArray 0) := e.symm.trans ha
    cases e'
    intro c
    exact absurd (Value.type.inj c) (by decide)
  · exact h _ _ out hs hb (fun b o e => PyProof.Rows.sortedAll_old e) (Nat.le_succ _) (PyProof.Rows.sortedAll_at s.heap vs out.toArray)
end

def rowKey : D → Option Key
  | .int i => some (.inl i)
  | .str x => some (.inr x)
  | _ => none
def rowKeys : List D → Option (List Key)
  | [] => some []
  | d :: ds => match rowKey d, rowKeys ds with
    | some k, some ks => some (k :: ks)
    | _, _ => none
def rowsOf : List D → Option (List (List Key))
  | [] => some []
  | .tup xs :: ds => match rowKeys xs, rowsOf ds with
    | some k, some ks => some (k :: ks)
    | _, _ => none
  | _ :: _ => none
theorem rowKey_eq {d : D} {k : Key} (h : rowKey d = some k) : d = kD k := by
  cases d <;> simp [rowKey] at h <;> subst h <;> rfl
theorem rowKeys_eq : ∀ {ds : List D} {ks : List Key}, rowKeys ds = some ks → ds = ks.map kD
  | [], _, h => by cases h; rfl
  | d :: ds, ks, h => by
    simp only [rowKeys] at h
    split at h
    · rename_i k ks' e1 e2
      cases h
      rw [rowKey_eq e1, rowKeys_eq e2]; rfl
    · cases h
theorem rowsOf_eq : ∀ {ds : List D} {rs : List (List Key)}, rowsOf ds = some rs → ds = rs.map rowD
  | [], _, h => by cases h; rfl
  | .tup xs :: ds, rs, h => by
    simp only [rowsOf] at h
    split at h
    · rename_i k ks' e1 e2
      cases h
      rw [rowKeys_eq e1, rowsOf_eq e2]; rfl
    · cases h
  | .non :: _, _, h => by cases h
  | .bl _ :: _, _, h => by cases h
  | .int _ :: _, _, h => by cases h
  | .str _ :: _, _, h => by cases h
  | .lst _ :: _, _, h => by cases h
  | .scr _ :: _, _, h => by cases h
@[simp] theorem rowKeys_map (ks : List Key) : rowKeys (ks.map kD) = some ks := by
  induction ks with
  | nil => rfl
  | cons k ks ih => cases k <;> simp [rowKeys, rowKey, ih]
@[simp] theorem rowsOf_map (rs : List (List Key)) : rowsOf (rs.map rowD) = some rs := by
  induction rs with
  | nil => rfl
  | cons r rs ih => simp only [List.map_cons, rowD, rowsOf, rowKeys_map, ih]
/-- sorted(xs), xs a list of rows -/
def rSortedR (K : PySem.W.Frag) : List V → Hp → L2.VK → Prop := fun vs H Q => ∃ (a : Addr) (xs : List V) (rs : List (List Key)) (R : V → List Key → Prop) (sg : List Bool), vs = [V.ref a] ∧ SqL K H a xs ∧
  Paired (fun x r => R x r ∧ (∃ t, x = V.ref t ∧ SqT K H t (r.map kV)) ∧ RowSig sg r) xs rs ∧ ∀ ys p, Paired R ys (srtL rs) → H p = none → Q (.ref p) (upd H p (.lst ys))
theorem vals_keys : ∀ {ks : List Key} {us : List Value}, Vals (ks.map kV) us → Paired (fun k u => L2.RelV (kV k) u) ks us
  | [], _, .nil => .nil
  | _ :: _, _, .cons r t => .cons r (vals_keys t)
theorem relK_inj {k k' : Key} {u : Value} (r : L2.RelV (kV k) u) (r' : L2.RelV (kV k') u) : k = k' := by
  have e := r.inj r'
  cases k <;> cases k' <;> simp [kV] at e <;> rw [e]
theorem relKs_inj : ∀ {ks ks' : List Key} {us : List Value}, Paired (fun k u => L2.RelV (kV k) u) ks us → Paired (fun k u => L2.RelV (kV k) u) ks' us → ks = ks'
  | _, _, _, .nil, .nil => rfl
  | _, _, _, .cons r t, .cons r' t' => by rw [relK_inj r r', relKs_inj t t']
theorem isRow_inj {h : Heap} {v : Value} {ks ks' : List Key} (r : IsRow h v ks) (r' : IsRow h v ks') : ks = ks' := by
  obtain ⟨a, o, us, n, e, ho, hc, hd, p⟩ := r
  obtain ⟨a', o', us', n', e', ho', hc', hd', p'⟩ := r'
  rw [e] at e'
  injection e' with e'
  subst e'
  rw [ho] at ho'
  injection ho' with ho'
  subst ho'
  rw [hd] at hd'
  injection hd' with hd' _
  subst hd'
  exact relKs_inj p p'
theorem paired_of {A1 B1 : Type} {R : A1 → B1 → Prop} (k : A1 → B1) : ∀ {ys : List A1}, (∀ y ∈ ys, R y (k y)) → Paired R ys (ys.map k)
  | [], _ => .nil
  | y :: ys, h => .cons (h y (by simp)) (paired_of k fun z hz => h z (by simp [hz]))
theorem paired_map {A1 B1 : Type} {R : A1 → B1 → Prop} {k : A1 → B1} : ∀ {xs : List A1} {rs : List B1}, Paired R xs rs → (∀ x r, R x r → k x = r) → xs.map k = rs
  | _, _, .nil, _ => rfl
  | _, _, .cons h t, e => by rw [List.map_cons, e _ _ h, paired_map t e]
theorem paired_in {A1 B1 : Type} {R : A1 → B1 → Prop} : ∀ {xs : List A1} {rs : List B1}, Paired R xs rs → ∀ x ∈ xs, ∃ r ∈ rs, R x r
  | _, _, .nil, x, h => by cases h
  | _, _, .cons h t, x, hx => by
    rcases List.mem_cons.mp hx with rfl | hx
    · exact ⟨_, by simp, h⟩
    · obtain ⟨r, h1, h2⟩ := paired_in t x hx
      exact ⟨r, by simp [h1], h2⟩
section
variable {X : Cx}
open Classical in
theorem cr_sortedR : CallR X (.builtin "sorted") (rSortedR X.K) := by
  intro pins s σ H vs us Q I r h
  obtain ⟨a, xs, rs, R, sg, rfl, hs, hx, q⟩ := h
  obtain ⟨its, rv, hl, hz⟩ := I.list hs
  obtain ⟨u, rfl, ru⟩ := vals1 r
  obtain rfl : u = Value.ref a := ru
  have hx0 := paired_in hx
  obtain ⟨e1, e2⟩ := refs_back rv fun x m => by
    obtain ⟨r, _, _, ⟨t, e, _⟩, _⟩ := hx0 x m
    exact ⟨t, e⟩
  let kv : Value → List Key := fun v => if h : ∃ ks, IsRow s.heap v ks then h.choose else []
  have row : ∀ {t : Addr} {ks : List Key}, SqT X.K H t (ks.map kV) → IsRow s.heap (.ref t) ks := fun {t ks} ht => by
    obtain ⟨us, r2, ⟨o, ho, hc, n, hd⟩, _⟩ := I.tuple ht
    exact ⟨t, o, us.toArray, n, rfl, ho, hc, hd, by simpa using vals_keys r2⟩
  have kve : ∀ {v : Value} {ks : List Key}, IsRow s.heap v ks → kv v = ks := fun {v ks} h => by
    have hex : ∃ ks, IsRow s.heap v ks := ⟨ks, h⟩
    show (if h : ∃ ks, IsRow s.heap v ks then h.choose else []) = ks
    rw [dif_pos hex]
    exact isRow_inj hex.choose_spec h
  let vv : V → Value := fun v => match v with | .ref t => .ref t | _ => .none
  let k : V → List Key := fun v => kv (vv v)
  have kR : ∀ x r, (R x r ∧ (∃ t, x = V.ref t ∧ SqT X.K H t (r.map kV)) ∧ RowSig sg r) → k x = r := fun x r h => by
    obtain ⟨_, ⟨t, rfl, ht⟩, _⟩ := h
    exact kve (row ht)
  have kb : ∀ t : Addr, k (backV (Value.ref t)) = kv (.ref t) := fun t => rfl
  refine sorted_rows (k := kv) (sg := sg) hl.isList (by rw [← rv.length]; exact hz) (fun v hv => ?_) fun h' d out h1 h2 kp hd hn => ?_
  · obtain ⟨t, rfl⟩ := e2 v hv
    have hm : V.ref t ∈ xs := by rw [e1]; exact List.mem_map.mpr ⟨_, hv, rfl⟩
    obtain ⟨r, _, _, ⟨t', e, ht⟩, hg⟩ := hx0 _ hm
    cases e
    have h3 := row ht
    rw [kve h3]
    exact ⟨h3, hg⟩
  · have h3 : ∀ u ∈ out, ∃ a, u = Value.ref a := fun u hu => e2 u (h2.perm.mem_iff.mp hu)
    obtain ⟨n, hn⟩ := hn
    have hp : (out.map backV).Perm xs := by rw [e1]; exact h2.perm.map _
    have hk : (out.map backV).map k = out.map kv := by
      rw [List.map_map]
      refine List.map_congr_left fun u hu => ?_
      obtain ⟨t, rfl⟩ := h3 u hu
      rfl
    have hr : xs.map k = rs := paired_map hx kR
    have hsr : (out.map backV).map k = srtL rs := by
      refine srtL_eq ?_ ?_
      · rw [← hr]; exact hp.map k
      · rw [hk, List.pairwise_map]
        exact h1.imp fun h => by unfold leL; simpa using h
    refine ⟨.ref d, upd H d (.lst (out.map backV)), I.laid (t' := s.toks) kp hd ⟨?_, out, n, vals_back h3, hn⟩, rfl, q _ d ?_ (I.hok.fresh hd)⟩
    · rw [hp.length_eq]; exact hz
    · rw [← hsr]
      refine paired_of k fun y hy => ?_
      obtain ⟨r, _, h4⟩ := hx0 y (hp.mem_iff.mp hy)
      rw [kR _ _ h4]
      exact h4.1
end
def fSortedR (o : Bool) : FC := fun mu ws Q => match ws with
  | [x] => (match lsD mu x with
    | some ds => (match rowsOf ds with
      | some rs => (∃ sg, ∀ r ∈ rs, RowSig sg r) ∧ newL o ((srtL rs).map rowD) mu Q
      | none => False)
    | none => False)
  | _ => False
theorem repKs {K : KW} {F : Hp} : ∀ {ks : List Key} {ws : List V}, RepDs K F (ks.map kD) ws → ws = ks.map kV
  | [], _, .nil => rfl
  | k :: ks, _, .cons h1 h2 => by
    rw [repKs h2]
    cases k with
    | inl i => cases h1; rfl
    | inr x => cases h1; rfl
theorem repRows {K : KW} {F H : Hp} (hs : Same F H) {sg : List Bool} : ∀ {rs : List (List Key)} {vs : List V}, Paired (RepD K F) (rs.map rowD) vs → (∀ r ∈ rs, RowSig sg r) →
    Paired (fun x r => RepD K F (rowD r) x ∧ (∃ t, x = V.ref t ∧ SqT K H t (r.map kV)) ∧ RowSig sg r) vs rs
  | [], _, .nil, _ => .nil
  | r :: rs, v :: vs, .cons h t, hg => by
    refine .cons ⟨h, ?_, hg r (by simp)⟩ (repRows hs t fun z hz => hg z (by simp [hz]))
    cases h with
    | tup s z rd =>
      rw [repKs rd] at s
      exact ⟨_, rfl, sqtMono hs s⟩
theorem paired_flip {K : KW} {F : Hp} : ∀ {ys : List V} {rs : List (List Key)}, Paired (fun x r => RepD K F (rowD r) x) ys rs → Paired (RepD K F) (rs.map rowD) ys
  | _, _, .nil => .nil
  | _, _, .cons h t => .cons h (paired_flip t)
theorem cd_sortedR {K : KW} (o : Bool) : CallD K (rSortedR K) (fSortedR o) := fun G B F H al rh si mu ws vs Qd Q s r0 h q => by
  unfold fSortedR at h
  split at h
  · rename_i x
    obtain ⟨v, rfl, r1⟩ := pair1 r0
    split at h
    · rename_i ds el
      obtain ⟨l, vs, rfl, rd, z, pr⟩ := lsD_rep s.s r1 el
      split at h
      · rename_i rs er
        have ed := rowsOf_eq er
        subst ed
        obtain ⟨⟨sg, hsg⟩, h⟩ := h
        refine ⟨l, vs, rs, fun x r => RepD K F (rowD r) x, sg, rfl, .inl rd, repRows s.s.fz pr hsg, fun ys p hp hn => ?_⟩
        have hl : ys.length = vs.length := by
          rw [Paired.length hp, srtL_len]
          have := Paired.length pr
          simpa using this
        exact newL_ok (K := K) s (paired_flip hp) (by rw [hl]; exact z) h q p hn
      · exact h.elim
    · exact h.elim
  · exact h.elim
section
variable {io : Type} {Y : io → Cx} {P : Program} {w : World} {K : KW} {mg : Str → Option Value} {base : Heap} {N : List Str} {k : Nat} {pos p : Pos} {e : Expr} {es : List Expr} {ga : WA}
theorem ve_sortedR (y : YOk Y P w K mg base N k) (o : Bool) (hm : mg "sorted" = none) (ha : VA Y K (e :: es) ga) (hg : ∀ j, Gl (Y j) "sorted" := by exact fun _ => rfl) (he : ∀ i, starEach (e :: es) (Y i).env = (false, eval e (Y i).env) :: starEach es (Y i).env := by exact fun _ => rfl) (hpl : ∀ i, (backTo pos (starEach es (Y i).env)).any (·.1) = false := by exact fun _ => rfl) : VE Y K (.Call (.Name "sorted" p) (e :: es) [] pos) (wCall (fSortedR o) ga) :=
  ve_callB y (fun i => by rw [← y.hK i]; exact cr_sortedR) (cd_sortedR o) hm (by decide +kernel) ha hg (he := he) (hpl := hpl)
end
end VL
namespace VL
open PySem PySem.Spec PyProof.Rows L2 RZ
/-! ### dicts with tuples as keys -/
/-- keys are told apart -/
def keq (a b : D) : Bool := deqv a b
def valN : List (D × W) → D → Option W
  | [], _ => none
  | (j, d) :: r, k => if keq j k then some d else valN r k
def putN : List (D × W) → D → W → List (D × W)
  | [], k, d => [(k, d)]
  | (j, e) :: r, k, d => if keq j k then (j, d) :: r else (j, e) :: putN r k d
mutual
theorem nkey_eq : ∀ {a b : D} {x y : NestedKey}, nkey a = some x → nkey b = some y → (deqv a b = decide (x = y))
  | .int i, .int j, _, _, h1, h2 => by cases h1; cases h2; rw [deqv_int_int]; by_cases c : i = j <;> simp [c]
  | .int i, .str j, _, _, h1, h2 => by cases h1; cases h2; rw [deqv_int_str]; simp
  | .int i, .tup j, _, _, h1, h2 => by
    cases h1
    unfold nkey at h2
    cases q : nkeys j with
    | none => rw [q] at h2; cases h2
    | some ks => rw [q] at h2; cases h2; rw [deqv_int_tup]; simp
  | .str i, .int j, _, _, h1, h2 => by cases h1; cases h2; rw [deqv_str_int]; simp
  | .str i, .str j, _, _, h1, h2 => by cases h1; cases h2; rw [deqv_str_str]; by_cases c : i = j <;> simp [c]
  | .str i, .tup j, _, _, h1, h2 => by
    cases h1
    unfold nkey at h2
    cases q : nkeys j with
    | none => rw [q] at h2; cases h2
    | some ks => rw [q] at h2; cases h2; rw [deqv_str_tup]; simp
  | .tup i, .int j, _, _, h1, h2 => by
    cases h2
    unfold nkey at h1
    cases q : nkeys i with
    | none => rw [q] at h1; cases h1
    | some ks => rw [q] at h1; cases h1; rw [deqv_tup_int]; simp
  | .tup i, .str j, _, _, h1, h2 => by
    cases h2
    unfold nkey at h1
    cases q : nkeys i with
    | none => rw [q] at h1; cases h1
    | some ks => rw [q] at h1; cases h1; rw [deqv_tup_str]; simp
  | .tup i, .tup j, _, _, h1, h2 => by
    unfold nkey at h1 h2
    cases q : nkeys i with
    | none => rw [q] at h1; cases h1
    | some ks =>
      cases q2 : nkeys j with
      | none => rw [q2] at h2; cases h2
      | some ks2 =>
        rw [q] at h1; rw [q2] at h2; cases h1; cases h2
        rw [deqv_tup_tup, nkeys_eq q q2]; simp
  | .non, _, _, _, h1, _ => by cases h1
  | .bl _, _, _, _, h1, _ => by cases h1
  | .lst _, _, _, _, h1, _ => by cases h1
  | .scr _, _, _, _, h1, _ => by cases h1
  | _, .non, _, _, _, h2 => by cases h2
  | _, .bl _, _, _, _, h2 => by cases h2
  | _, .lst _, _, _, _, h2 => by cases h2
  | _, .scr _, _, _, _, h2 => by cases h2
theorem nkeys_eq : ∀ {a b : List D} {x y : List NestedKey}, nkeys a = some x → nkeys b = some y → (deqvs a b = decide (x = y))
  | [], [], _, _, h1, h2 => by cases h1; cases h2; simp [deqvs]
  | [], b :: bs, _, _, h1, h2 => by
    cases h1
    unfold nkeys at h2
    cases q : nkey b with
    | none => rw [q] at h2; cases h2
    | some k =>
      cases q2 : nkeys bs with
      | none => rw [q, q2] at h2; cases h2
      | some ks => rw [q, q2] at h2; cases h2; simp [deqvs]
  | a :: as, [], _, _, h1, h2 => by
    cases h2
    unfold nkeys at h1
    cases q : nkey a with
    | none => rw [q] at h1; cases h1
    | some k =>
      cases q2 : nkeys as with
      | none => rw [q, q2] at h1; cases h1
      | some ks => rw [q, q2] at h1; cases h1; simp [deqvs]
  | a :: as, b :: bs, _, _, h1, h2 => by
    unfold nkeys at h1 h2
    cases q : nkey a with
    | none => rw [q] at h1; cases h1
    | some k =>
      cases q2 : nkeys as with
      | none => rw [q, q2] at h1; cases h1
      | some ks =>
        cases p : nkey b with
        | none => rw [p] at h2; cases h2
        | some k' =>
          cases p2 : nkeys bs with
          | none => rw [p, p2] at h2; cases h2
          | some ks' =>
            rw [q, q2] at h1; rw [p, p2] at h2; cases h1; cases h2
            simp only [deqvs, nkey_eq q p, nkeys_eq q2 p2, List.cons.injEq]
            by_cases c : k = k' <;> by_cases d : ks = ks' <;> simp [c, d]
end
/-- what the keys are in the heap -/
def NAt (K : PySem.W.Frag) (H : Hp) (nk : NestedKey) (a : Addr) : Prop := ∃ d, nkey d = some nk ∧ nk.depth ≤ 8 ∧ ∃ KK : KW, KK.k = K ∧ RepD KK H d (.ref a)
section
variable {K : KW} {F H : Hp}
mutual
theorem rep_nested {X : Cx} {pins : List (Addr × Obj)} {σ : L2.St} {s : Shared} (hK : K.k = X.K) (I : Inv X pins σ H s) : ∀ {d : D} {v : V} {u : Value} {nk : NestedKey}, RepD K H d v → L2.RelV v u → nkey d = some nk → NestedIs s.heap nk u
  | .int i, _, _, _, .int _, r, h => by
    cases h
    obtain ⟨t, rfl⟩ := r
    exact .int i t
  | .str x, _, _, _, .str _ _, r, h => by
    cases h
    obtain ⟨t, rfl⟩ := r
    exact .text x t
  | .tup xs, _, _, nk, .tup q z p, r, h => by
    unfold nkey at h
    cases e : nkeys xs with
    | none => rw [e] at h; cases h
    | some ks =>
      rw [e] at h
      cases h
      rename_i vs a
      obtain rfl : _ = Value.ref a := r
      obtain ⟨us, r2, ⟨o, ho, hc, n, hd⟩, _⟩ := I.tuple (hK ▸ q)
      exact .tup ho hc hd (by simpa using reps_nested hK I p r2 e)
  | .non, _, _, _, _, _, h => by cases h
  | .bl _, _, _, _, _, _, h => by cases h
  | .lst _, _, _, _, _, _, h => by cases h
  | .scr _, _, _, _, _, _, h => by cases h
theorem reps_nested {X : Cx} {pins : List (Addr × Obj)} {σ : L2.St} {s : Shared} (hK : K.k = X.K) (I : Inv X pins σ H s) : ∀ {ds : List D} {vs : List V} {us : List Value} {ks : List NestedKey}, RepDs K H ds vs → Vals vs us → nkeys ds = some ks → NestedAll s.heap ks us
  | [], _, _, _, .nil, .nil, h => by cases h; exact .nil
  | d :: ds, _, _, ks, .cons a b, .cons c e, h => by
    unfold nkeys at h
    cases q : nkey d with
    | none => rw [q] at h; cases h
    | some k =>
      cases q2 : nkeys ds with
      | none => rw [q, q2] at h; cases h
      | some ks => rw [q, q2] at h; cases h; exact .cons (rep_nested hK I a c q) (reps_nested hK I b e q2)
end
end

def atNL : NL → NestedKey → Option V
  | [], _ => none
  | (j, _, v) :: r, k => if j = k then some v else atNL r k
def putNL : NL → NestedKey → Addr → V → NL
  | [], k, b, v => [(k, b, v)]
  | (j, c, e) :: r, k, b, v => if j = k then (j, c, v) :: r else (j, c, e) :: putNL r k b v
/-- the reading of d[y]: what is found -/
def NGet (K : PySem.W.Frag) (w : World) (H : Hp) (a : Addr) (y : V) (o : Option V) : Prop := ∃ (L : NL) (nk : NestedKey) (b : Addr), Rd H a (NdO w a L) ∧ (∀ q ∈ L, NAt K H q.1 q.2.1) ∧ y = .ref b ∧ NAt K H nk b ∧ o = atNL L nk
def NPut (K : PySem.W.Frag) (w : World) (H : Hp) (a : Addr) (y v : V) (H' : Hp) : Prop := ∃ (L : NL) (nk : NestedKey) (b : Addr), H a = some (NdO w a L) ∧ (∀ q ∈ L, NAt K H q.1 q.2.1) ∧ y = .ref b ∧ NAt K H nk b ∧ L.length < sizeLine ∧ H' = upd H a (NdO w a (putNL L nk b v))
theorem atNL_rel : ∀ {L : NL} {xs : List (NestedKey × Addr × Value)}, Paired NRel L xs → ∀ k, L2.RelO (atNL L k) ((atKey xs k).map (·.2))
  | _, _, .nil, k => by simp [atNL, atKey, L2.RelO]
  | (j, c, v) :: _, (j', c', u) :: _, .cons r t, k => by
    obtain ⟨r1, r2, r3⟩ := r
    simp only at r1 r2 r3
    subst r1
    have ih := atNL_rel t k
    by_cases e : j = k
    · rw [atNL, if_pos e]
      simpa [atKey, e, L2.RelO] using r3
    · rw [atNL, if_neg e]
      unfold atKey at ih ⊢
      rw [List.find?_cons_of_neg (by simpa using e)]
      exact ih
theorem putNL_keys (L : NL) (k : NestedKey) (b : Addr) (v : V) : (∀ q ∈ putNL L k b v, q ∈ L ∨ q.1 = k ∧ q.2.1 = b ∨ ∃ z, (q.1, q.2.1, z) ∈ L) := by
  induction L with
  | nil => intro q hq; simp [putNL] at hq; subst hq; exact .inr (.inl ⟨rfl, rfl⟩)
  | cons p r ih =>
    obtain ⟨j, c, e⟩ := p
    intro q hq
    rw [putNL] at hq
    split at hq
    · rcases List.mem_cons.mp hq with h | h
      · subst h; exact .inr (.inr ⟨e, by simp⟩)
      · exact .inl (by simp [h])
    · rcases List.mem_cons.mp hq with h | h
      · subst h; exact .inl (by simp)
      · rcases ih q h with h | h | ⟨z, h⟩
        · exact .inl (by simp [h])
        · exact .inr (.inl h)
        · exact .inr (.inr ⟨z, by simp [h]⟩)
theorem putNL_len (L : NL) (k : NestedKey) (b : Addr) (v : V) : (putNL L k b v).length ≤ L.length + 1 := by
  induction L with
  | nil => simp [putNL]
  | cons p r ih => obtain ⟨j, c, e⟩ := p; rw [putNL]; split <;> simp; exact ih
theorem atNL_none {L : NL} {k : NestedKey} (h : atNL L k = none) : ∀ q ∈ L, q.1 ≠ k := by
  induction L with
  | nil => simp
  | cons p r ih =>
    obtain ⟨j, c, e⟩ := p
    rw [atNL] at h
    split at h
    · cases h
    · rename_i hn
      intro q hq
      rcases List.mem_cons.mp hq with z | z
      · subst z; exact hn
      · exact ih h q z
theorem storedH_cons {p : NestedKey × Addr × Value} {r : List (NestedKey × Addr × Value)} {k : NestedKey} {b : Addr} {v : Value} (hn : p.1 ≠ k) : storedH (p :: r) k b v = p :: storedH r k b v := by
  unfold storedH
  have e : atKey (p :: r) k = atKey r k := by unfold atKey; rw [List.find?_cons_of_neg (by simpa using hn)]
  rw [e]
  split
  · rw [List.map_cons]; congr 1; unfold putAt; rw [if_neg hn]
  · rfl
theorem putNL_rel {k : NestedKey} {b : Addr} {v : V} {u : Value} (rv : L2.RelV v u) : ∀ {L : NL} {xs : List (NestedKey × Addr × Value)}, Paired NRel L xs → (xs.map (·.1)).Nodup → Paired NRel (putNL L k b v) (storedH xs k b u)
  | _, _, .nil, _ => by simpa [putNL, storedH, atKey] using pOne (R := NRel) (x := (k, b, v)) (y := (k, b, u)) ⟨rfl, rfl, rv⟩
  | (j, c, e) :: _, (j', c', e') :: xs, .cons r t, nd => by
    have r0 := r
    obtain ⟨r1, r2, r3⟩ := r
    simp only at r1 r2 r3
    subst r1
    rw [List.map_cons, List.nodup_cons] at nd
    by_cases q : j = k
    · subst q
      rw [putNL, if_pos rfl]
      have e1 : storedH ((j, c', e') :: xs) j b u = (j, c', u) :: xs := by
        unfold storedH
        have : (atKey ((j, c', e') :: xs) j).isSome = true := by simp [atKey]
        rw [if_pos this, List.map_cons]
        congr 1
        · simp [putAt]
        · refine (List.map_congr_left fun q hq => ?_).trans (List.map_id xs)
          unfold putAt
          rw [if_neg fun h => nd.1 (by rw [← h]; exact List.mem_map.mpr ⟨q, hq, rfl⟩)]; rfl
      rw [e1]
      exact .cons ⟨rfl, r2, rv⟩ t
    · rw [putNL, if_neg q, storedH_cons (p := (j, c', e')) q]
      exact .cons r0 (putNL_rel rv t nd.2)
theorem nrel_keys : ∀ {L : NL} {xs : List (NestedKey × Addr × Value)}, Paired NRel L xs → L.map (·.1) = xs.map (·.1)
  | _, _, .nil => rfl
  | _, _, .cons r t => by rw [List.map_cons, List.map_cons, r.1, nrel_keys t]
theorem nrel_in : ∀ {L : NL} {xs : List (NestedKey × Addr × Value)}, Paired NRel L xs → ∀ x ∈ xs, ∃ q ∈ L, q.1 = x.1 ∧ q.2.1 = x.2.1
  | _, _, .nil, x, h => by cases h
  | _, _, .cons r t, x, h => by
    rcases List.mem_cons.mp h with z | z
    · subst z; exact ⟨_, by simp, r.1, r.2.1⟩
    · obtain ⟨q, h1, h2⟩ := nrel_in t x z
      exact ⟨q, by simp [h1], h2⟩
section
variable {X : Cx} {pins : List (Addr × Obj)} {σ : L2.St} {H : Hp} {s : Shared} {a : Addr} {y v : V} {u r : Value} {o : Option V} {A : Around} {E : Value → Shared → Prop} {L : NL}
theorem nat_is (I : Inv X pins σ H s) {nk : NestedKey} {b : Addr} (h : NAt X.K H nk b) : (nestedKind X.prog X.w).is s.heap nk b := by
  obtain ⟨d, hd, hz, KK, hK, r⟩ := h
  exact ⟨rep_nested hK I r rfl hd, hz⟩
theorem n_dict (I : Inv X pins σ H s) (h : Rd H a (NdO X.w a L)) (hk : ∀ q ∈ L, NAt X.K H q.1 q.2.1) : ∃ xs, Paired NRel L xs ∧ s.heap.DictOfH (nestedKind X.prog X.w) a xs ∧ (a == sysModules) = false ∧ L.length ≤ sizeLine := by
  obtain ⟨⟨⟨h1, h2, h3⟩, xs, p, o, es, ep, h4, h5, h6, h7⟩, _, _⟩ := h.ok I.hok
  refine ⟨xs, p, ⟨o, es, ep, h4, h5, h6, h7, fun x hx => ?_, by rw [← nrel_keys p]; exact h3⟩, h1, h2⟩
  obtain ⟨q, hq, e1, e2⟩ := nrel_in p x hx
  rw [← e1, ← e2]
  exact nat_is I (hk q hq)
theorem n_room (hu : A.units + 64 < cLine) : (nestedKind X.prog X.w).room A.in1 := by
  show A.units + 1 + 8 < cLine
  omega
theorem n_getItem {Q : Value → Shared → Prop} (hu : A.units + 64 < cLine) (I : Inv X pins σ H s) (g : NGet X.K X.w H a y (some v)) (ry : L2.RelV y u) (h : ∀ w' s', Inv X pins σ H s' → L2.RelV v w' → Q w' s') :
    wpAny (model X.prog X.w) A (getItem (.ref a) u) Q E s := by
  obtain ⟨L, nk, b, e, hk, ey, hb, l⟩ := g
  subst ey
  cases (show u = Value.ref b from ry)
  obtain ⟨xs, p, dd, _, _⟩ := n_dict I e hk
  obtain ⟨w', hw, rw'⟩ := L2.RelO.some_of (v := v) (o := (atKey xs nk).map (·.2)) (by rw [l]; exact atNL_rel p nk)
  obtain ⟨z, hp, hp2⟩ := Option.map_eq_some_iff.mp hw
  refine wpAny_getItem_heap (n_room hu) (nat_is I hb) dd hp ?_
  rw [hp2]
  exact h w' _ (I.tok _) rw'
theorem n_in {Q : Value → Shared → Prop} (hu : A.units + 64 < cLine) (I : Inv X pins σ H s) (g : NGet X.K X.w H a y o) (ry : L2.RelV y u) (h : ∀ s', Inv X pins σ H s' → Q (.bool o.isSome) s') :
    wpAny (model X.prog X.w) A (compareOp .In u (.ref a)) Q E s := by
  obtain ⟨L, nk, b, e, hk, ey, hb, l⟩ := g
  subst ey
  cases (show u = Value.ref b from ry)
  obtain ⟨xs, p, dd, hd, _⟩ := n_dict I e hk
  refine wpAny_in_heap (n_room hu) (nat_is I hb) hd dd ?_
  have q := (atNL_rel p nk).isSome_eq
  rw [Option.isSome_map] at q
  rw [← q, ← l]
  exact h _ (I.tok _)
theorem n_notIn {Q : Value → Shared → Prop} (hu : A.units + 64 < cLine) (I : Inv X pins σ H s) (g : NGet X.K X.w H a y o) (ry : L2.RelV y u) (h : ∀ s', Inv X pins σ H s' → Q (.bool (!o.isSome)) s') :
    wpAny (model X.prog X.w) A (compareOp .NotIn u (.ref a)) Q E s := by
  obtain ⟨L, nk, b, e, hk, ey, hb, l⟩ := g
  subst ey
  cases (show u = Value.ref b from ry)
  obtain ⟨xs, p, dd, hd, _⟩ := n_dict I e hk
  refine wpAny_notIn_heap (n_room hu) (nat_is I hb) hd dd ?_
  have q := (atNL_rel p nk).isSome_eq
  rw [Option.isSome_map] at q
  rw [← q, ← l]
  exact h _ (I.tok _)
theorem n_get2 {d : V} {Q : Value → Shared → Prop} (hu : A.units + 64 < cLine) (I : Inv X pins σ H s) (g : NGet X.K X.w H a y o) (ry : L2.RelV y u) (rd : L2.RelV d r) (h : ∀ w' s', Inv X pins σ H s' → L2.RelV (o.getD d) w' → Q w' s') :
    wpAny (model X.prog X.w) A (call (.builtin "dict.get") [.ref a, u, r]) Q E s := by
  obtain ⟨L, nk, b, e, hk, ey, hb, l⟩ := g
  subst ey
  cases (show u = Value.ref b from ry)
  obtain ⟨xs, p, dd, hd, _⟩ := n_dict I e hk
  refine call_meetsIn PySem.F.slot_dict_get dd.typeIs PySem.F.entry_dict_get (PySem.F.args_dict_get_3 _ _ _) (meetsH_dict_get_default (nestedKind X.prog X.w) a b hd r) ⟨n_room hu, nk, xs, nat_is I hb, dd, h _ _ (I.tok _) ?_⟩
  rw [l]
  exact (atNL_rel p nk).getD rd
theorem ndO_ext {w : World} {a : Addr} {L : NL} : ∀ h1 h2 : Heap, (∀ (φ : Heap → Prop), NdO w a L = .ext φ → φ h1 → (∀ o, h1.get? a = some o → h2.get? a = some o) → φ h2) := by
  intro h1 h2 φ e h k
  unfold NdO at e
  injection e with e
  subst e
  obtain ⟨c, xs, p, o, es, ep, h4, r⟩ := h
  exact ⟨c, xs, p, o, es, ep, k o h4, r⟩
theorem n_new {P : Program} {w : World} {H' : Hp} {h' : Heap} {xs : List (NestedKey × Addr × Value)} (z : L.length ≤ sizeLine) (hd : (a == sysModules) = false) (p : Paired NRel L xs) (dd : h'.DictOfH (nestedKind P w) a xs) : ObjOk P w H' h' a (NdO w a L) := by
  obtain ⟨o, es, ep, h1, h2, h3, h4, h5, h6⟩ := dd
  refine ⟨⟨⟨hd, z, by rw [nrel_keys p]; exact h6⟩, xs, p, o, es, ep, h1, h2, h3, h4⟩, ⟨o, h1⟩, fun g1 g2 hg k => ?_⟩
  obtain ⟨c, xs, p, o, es, ep, h4, r⟩ := hg
  exact ⟨c, xs, p, o, es, ep, k o h4, r⟩
theorem n_setItem {H' : Hp} {Q : Unit → Shared → Prop} (hu : A.units + 64 < cLine) (I : Inv X pins σ H s) (g : NPut X.K X.w H a y v H') (ry : L2.RelV y u) (rv : L2.RelV v r) (h : ∀ s', Inv X pins σ H' s' → Q () s') :
    wpAny (model X.prog X.w) A (setItem (.ref a) u r) Q E s := by
  obtain ⟨L, nk, b, e, hk, ey, hb, l, eH⟩ := g
  subst ey eH
  cases (show u = Value.ref b from ry)
  obtain ⟨xs, p, dd, hd, z⟩ := n_dict I (Rd.of e) hk
  have hz : xs.length ≤ sizeLine := by rw [← Paired.length p]; exact z
  have hl : (putNL L nk b v).length ≤ sizeLine := by have := putNL_len L nk b v; omega
  refine wpAny_setItem_heap (hsz := hz) (n_room hu) (nat_is I hb) dd fun h' dd' hs => h _ ?_
  have he : ∃ q, h'.get? a = some q := let ⟨q, _, _, hq, _⟩ := dd'; ⟨q, hq⟩
  exact L2.d_write I (by rw [e]; exact True.intro) hs he (n_new hl hd (putNL_rel rv p dd.nodup) dd')
theorem n_typeIs (I : Inv X pins σ H s) (g : NGet X.K X.w H a y o) : s.TypeIs (.ref a) "dict" := by
  obtain ⟨L, nk, b, e, hk, _⟩ := g
  obtain ⟨xs, p, dd, _⟩ := n_dict I e hk
  exact dd.typeIs
end
/-! ### the rules -/
def IsN (K : PySem.W.Frag) (w : World) (H : Hp) (a : Addr) : Prop := ∃ L, Rd H a (NdO w a L) ∧ ∀ q ∈ L, NAt K H q.1 q.2.1
def tNGet (K : PySem.W.Frag) (w : World) (td ty : TE) : TE := fun σ H Q => td σ H fun x H1 => ty σ H1 fun y H2 => ∃ a v, x = .ref a ∧ NGet K w H2 a y (some v) ∧ Q v H2
def tNIn (K : PySem.W.Frag) (w : World) (ty td : TE) : TE := fun σ H Q => ty σ H fun y H1 => td σ H1 fun x H2 => ∃ a o, x = .ref a ∧ NGet K w H2 a y o ∧ Q (.bl o.isSome) H2
def tNNotIn (K : PySem.W.Frag) (w : World) (ty td : TE) : TE := fun σ H Q => ty σ H fun y H1 => td σ H1 fun x H2 => ∃ a o, x = .ref a ∧ NGet K w H2 a y o ∧ Q (.bl (!o.isSome)) H2
def tNGet2 (K : PySem.W.Frag) (w : World) (td ty tx : TE) : TE := fun σ H Q => td σ H fun x H1 => ∃ a, x = .ref a ∧ IsN K w H1 a ∧ ty σ H1 fun y H2 => tx σ H2 fun z H3 => ∃ o, NGet K w H3 a y o ∧ Q (o.getD z) H3
def sNPut (K : PySem.W.Frag) (w : World) (td ty tv : TE) : TS := fun D σ H => tv σ H fun v H1 => td σ H1 fun x H2 => ty σ H2 fun y H3 => ∃ a H4, x = .ref a ∧ NPut K w H3 a y v H4 ∧ D.nx σ H4
def tNNew (w : World) : TE := fun _ H Q => ∀ p, H p = none → Q (.ref p) (upd H p (NdO w p []))
section
variable {X : Cx} {o i e f value : Expr} {pos pos' tpos apos cpos : Pos} {td ty tv tx : TE}
theorem pe_nget (hu : X.A.units + 64 < cLine) (ho : PE X o td) (hi : PE X i ty) (hs : NoSl i) : PE X (.Subscript o i pos) (tNGet X.K X.w td ty) := by
  refine ⟨fun pins s σ H Q I h => ?_⟩
  refine subD_of PySem.F.slot_dict_getitem.lookup hs (thn (ho.run pins s σ H _ I h) fun u s1 ⟨x, H1, I1, rx, q1⟩ => thn (hi.run pins s1 σ H1 _ I1 q1) fun iv s2 ⟨y, H2, I2, ry, a, v, ex, g, q2⟩ => ?_)
  subst ex
  obtain rfl : u = Value.ref a := rx
  exact ⟨n_typeIs I2 g, n_getItem hu I2 g ry fun w' s3 I3 rw' => ⟨v, H2, I3, rw', q2⟩⟩
theorem pc_nin (hu : X.A.units + 64 < cLine) (hi : PE X i ty) (ho : PE X o td) : PC X .In i o (tNIn X.K X.w ty td) := by
  refine ⟨fun pins s σ H Q I h => ?_⟩
  refine thn (hi.run pins s σ H _ I h) fun iv s1 ⟨y, H1, I1, ry, q1⟩ => thn (ho.run pins s1 σ H1 _ I1 q1) fun u s2 ⟨x, H2, I2, rx, a, ov, ex, g, q2⟩ => ?_
  subst ex
  obtain rfl : u = Value.ref a := rx
  exact n_in hu I2 g ry fun s3 I3 => ⟨.bl ov.isSome, H2, I3, rfl, q2⟩
theorem pc_nnotin (hu : X.A.units + 64 < cLine) (hi : PE X i ty) (ho : PE X o td) : PC X .NotIn i o (tNNotIn X.K X.w ty td) := by
  refine ⟨fun pins s σ H Q I h => ?_⟩
  refine thn (hi.run pins s σ H _ I h) fun iv s1 ⟨y, H1, I1, ry, q1⟩ => thn (ho.run pins s1 σ H1 _ I1 q1) fun u s2 ⟨x, H2, I2, rx, a, ov, ex, g, q2⟩ => ?_
  subst ex
  obtain rfl : u = Value.ref a := rx
  exact n_notIn hu I2 g ry fun s3 I3 => ⟨.bl (!ov.isSome), H2, I3, rfl, q2⟩
theorem ps_nput (hu : X.A.units + 64 < cLine) (ho : PE X o td) (hi : PE X i ty) (hv : PE X value tv) (hs : swapsWith value (some (.Subscript o i pos')) pos.line X.env = pure false) :
    PS X (.Assign [.Subscript o i pos'] value pos) (sNPut X.K X.w td ty tv) := by
  refine ⟨fun pins s σ H D I h => ?_⟩
  refine wpAny_Assign_Subscript (thn (hv.run pins s σ H _ I h) fun r s1 ⟨v, H1, I1, rv, q1⟩ => thn (ho.run pins s1 σ H1 _ I1 q1) fun u s2 ⟨x, H2, I2, rx, q2⟩ => thn (hi.run pins s2 σ H2 _ I2 q2) fun iv s3 ⟨y, H3, I3, ry, a, H4, ex, g, q3⟩ => ?_) hs
  subst ex
  obtain rfl : u = Value.ref a := rx
  exact n_setItem hu I3 g ry rv fun s4 I4 => ⟨σ, H4, I4, q3⟩
theorem pe_nnew : PE X (.Dict [] [] pos) (tNNew X.w) := ⟨fun pins s σ H Q I h =>
  wpAny_Dict_empty ⟨.ref s.heap.objs.size, _, I.laid (a := s.heap.objs.size) (o := NdO X.w s.heap.objs.size []) (t' := s.toks) (fun _ _ q => Heap.get?_push_of_some _ q) (Nat.le_refl _)
    (n_new (L := []) (xs := []) (Nat.zero_le _) (beq_eq_false_iff_ne.mpr (Ne.symm (Nat.ne_of_lt I.big))) .nil (Heap.DictOfH.new s.heap)), rfl, h _ (I.hok.fresh (Nat.le_refl _))⟩⟩
theorem pe_nget2 (hu : X.A.units + 64 < cLine) (ho : PE X o td) (he : PE X e ty) (hf : PE X f tx) (m : M2 X o "get" apos e f cpos) : PE X (.Call (.Attribute o "get" apos) [e, f] [] cpos) (tNGet2 X.K X.w td ty tx) := by
  refine ⟨fun pins s σ H Q I h => ?_⟩
  refine wpAny_Call_method m.base m.few m.line PySem.F.plainAttrs_dict PySem.F.slot_dict_get PySem.F.type_dict_get (thn (ho.run pins s σ H _ I h) fun u s1 ⟨x, H1, I1, rx, a, ex, d, q1⟩ => ?_)
  subst ex
  obtain rfl : u = Value.ref a := rx
  obtain ⟨L, e1, hk⟩ := d
  obtain ⟨xs, p, dd, hd, _⟩ := n_dict I1 e1 hk
  refine ⟨dd.typeIs, fun b q => ?_, ?_⟩
  · cases q
    obtain ⟨ob, _, _, h1, h2, _⟩ := dd
    exact ⟨ob, h1, h2.2.1⟩
  rw [m.trees]
  refine Calls.callWith_builtin rfl (Calls.evalArgs_plain (Calls.spliced_cons (thn (he.run pins s1 σ H1 _ I1 q1) fun iv s2 ⟨y, H2, I2, ry, q2⟩ =>
    Calls.spliced_cons (thn (hf.run pins s2 σ H2 _ I2 q2) fun fv s3 ⟨z, H3, I3, rz, ov, g, q3⟩ => Calls.spliced_nil ?_))))
  exact n_get2 hu I3 g ry rz fun w' s4 I4 rw' => ⟨_, H3, I4, rw', q3⟩
end

/-! ### on values -/
@[simp] def getN (mu : Sto) : W → Option (List (D × W))
  | .loc k => match mu[k]? with
    | some (.dn _ kvs) => some kvs
    | _ => none
  | _ => none
/-- keys: tuples of ints and texts, not deep -/
def keyOk : D → Bool
  | .tup xs => match nkey (.tup xs) with
    | some k => decide (k.depth ≤ 8)
    | none => false
  | _ => false
theorem keyOk_eq {d : D} (h : keyOk d = true) : ∃ xs nk, d = .tup xs ∧ nkey d = some nk ∧ nk.depth ≤ 8 := by
  cases d with
  | tup xs =>
    have h : (match nkey (.tup xs) with
      | some k => decide (k.depth ≤ 8)
      | none => false) = true := h
    cases q : nkey (.tup xs) with
    | none => rw [q] at h; cases h
    | some k => rw [q] at h; exact ⟨xs, k, rfl, rfl, by simpa using h⟩
  | _ => cases h
@[simp] def wNNew : WE := fun _ mu Q => Q (.loc mu.length) (mu ++ [.dn none []])
@[simp] def wNGet (o i : WE) : WE := fun rh mu Q => o rh mu fun x mu1 => i rh mu1 fun y mu2 => match getN mu2 x, y with
  | some kvs, .d k => keyOk k = true ∧ (match valN kvs k with
    | some w => Q w mu2
    | none => False)
  | _, _ => False
@[simp] def wNGet2 (o i e : WE) : WE := fun rh mu Q => o rh mu fun x mu1 => (getN mu1 x).isSome = true ∧ i rh mu1 fun y mu2 => e rh mu2 fun z mu3 => match getN mu3 x, y with
  | some kvs, .d k => keyOk k = true ∧ (match valN kvs k with
    | some w => Q w mu3
    | none => Q z mu3)
  | _, _ => False
@[simp] def wNIn (neg : Bool) (i o : WE) : WE := fun rh mu Q => i rh mu fun y mu1 => o rh mu1 fun x mu2 => match getN mu2 x, y with
  | some kvs, .d k => keyOk k = true ∧ Q (.d (.bl (if neg then !(valN kvs k).isSome else (valN kvs k).isSome))) mu2
  | _, _ => False
@[simp] def wNPut (o i v : WE) : WS := fun V rh mu => v rh mu fun u mu1 => o rh mu1 fun x mu2 => i rh mu2 fun y mu3 => match x with
  | .loc l => (match mu3[l]? with
    | some (.dn none kvs) => (match y with
      | .d k => keyOk k = true ∧ kvs.length < sizeLine ∧ V.nx rh (mu3.set l (.dn none (putN kvs k u)))
      | _ => False)
    | _ => False)
  | _ => False
theorem getN_eq {mu : Sto} {x : W} {kvs : List (D × W)} (h : getN mu x = some kvs) : ∃ k lk, x = .loc k ∧ mu[k]? = some (.dn lk kvs) := by
  cases x with
  | loc k =>
    simp only [getN] at h
    split at h
    · rename_i lk n' e
      injection h with h
      cases h
      exact ⟨k, lk, rfl, e⟩
    · cases h
  | _ => cases h
abbrev NPair (K : KW) (F : Hp) (al : List Addr) (p : D × W) (q : NestedKey × Addr × V) : Prop := (nkey p.1 = some q.1 ∧ q.1.depth ≤ 8) ∧ RepD K F p.1 (.ref q.2.1) ∧ RepW K F al p.2 q.2.2
section
variable {K : KW} {G B F H : Hp} {al : List Addr} {mu : Sto}
theorem npair_nat (h : Same F H) {kvs : List (D × W)} {L : NL} (p : Paired (NPair K F al) kvs L) : ∀ q ∈ L, NAt K H q.1 q.2.1 := by
  induction p with
  | nil => intro q hq; cases hq
  | cons r t ih =>
    intro q hq
    rcases List.mem_cons.mp hq with z | z
    · subst z; exact ⟨_, r.1.1, r.1.2, K, rfl, r.2.1.mono h⟩
    · exact ih q z
theorem dn_rep {x : W} {v : V} {kvs : List (D × W)} (s : SRS K G B F H al mu) (r : RepW K F al x v) (e : getN mu x = some kvs) :
    ∃ k a lk L, x = .loc k ∧ mu[k]? = some (.dn lk kvs) ∧ al[k]? = some a ∧ v = .ref a ∧ Rd H a (NdO K.w a L) ∧ (lk = none → H a = some (NdO K.w a L)) ∧ Paired (NPair K F al) kvs L := by
  obtain ⟨k, lk, rfl, ek⟩ := getN_eq e
  cases r with
  | loc ea =>
    obtain ⟨o, _, _, ho, cr⟩ := s.at ek ea
    cases cr with
    | dn p =>
      rename_i L
      refine ⟨k, _, lk, lockL lk L, rfl, ek, ea, rfl, ?_, fun h => ?_, p⟩
      · cases lk with
        | none => exact .inl ho
        | some q => exact .inr ⟨q.1, ho⟩
      · subst h; exact ho
theorem valN_rep : ∀ {kvs : List (D × W)} {L : NL}, Paired (NPair K F al) kvs L → ∀ {k : D} {nk : NestedKey}, nkey k = some nk → match valN kvs k with
    | some w => ∃ v, atNL L nk = some v ∧ RepW K F al w v
    | none => atNL L nk = none
  | _, _, .nil, k, nk, h => rfl
  | (j, d) :: _, (j', b, v) :: _, .cons r t, k, nk, h => by
    obtain ⟨⟨r1, r2⟩, r3, r4⟩ := r
    have ih := valN_rep t h
    simp only at r1 r4
    rw [valN, atNL]
    unfold keq
    rw [nkey_eq r1 h]
    by_cases c : j' = nk
    · simp only [c, decide_true, if_true]; exact ⟨v, rfl, r4⟩
    · simp only [c, decide_false, Bool.false_eq_true, if_false]; exact ih
theorem putN_rep {w : W} {v : V} {k : D} {nk : NestedKey} {b : Addr} (h : nkey k = some nk) (hz : nk.depth ≤ 8) (rk : RepD K F k (.ref b)) (rw_ : RepW K F al w v) : ∀ {kvs : List (D × W)} {L : NL}, Paired (NPair K F al) kvs L → Paired (NPair K F al) (putN kvs k w) (putNL L nk b v)
  | _, _, .nil => .cons ⟨⟨h, hz⟩, rk, rw_⟩ .nil
  | (j, d) :: _, (j', b', v') :: _, .cons r t => by
    have r0 := r
    obtain ⟨⟨r1, r2⟩, r3, r4⟩ := r
    simp only at r1 r4
    rw [putN, putNL]
    unfold keq
    rw [nkey_eq r1 h]
    by_cases c : j' = nk
    · simp only [c, decide_true, if_true]
      subst c
      exact .cons ⟨⟨r1, r2⟩, r3, rw_⟩ t
    · simp only [c, decide_false, Bool.false_eq_true, if_false]
      exact .cons r0 (putN_rep h hz rk rw_ t)
end
section
variable {io : Type} {Y : io → Cx} {P : Program} {K : KW} {mg : Str → Option Value} {base : Heap} {N : List Str} {k : Nat} {pos p apos cpos : Pos} {a i e o f : Expr} {wa wi we wo wf : WE}
theorem units65 {w : World} (y : YOk Y P w K mg base N k) (j : io) : (Y j).A.units + 64 < cLine := (y.room j).units
theorem ve_nnew (y : YOk Y P K.w K mg base N k) : VE Y K (.Dict [] [] pos) wNNew := ⟨tNNew K.w, fun j => by rw [← y.hw j]; exact pe_nnew, fun G B F H al rh si mu Qd Q s h q => fun p hp => by
  have c : CRep K F al p (.dn none []) (NdO K.w p []) := .dn (lk := none) (L := []) .nil
  have x := SRS.ownX (F := F) (al := al) (p := p)
  exact q _ _ _ _ _ _ x (s.step x (s.s.own hp c)) (.loc s.s.atNew) h⟩
theorem ve_nget (y : YOk Y P K.w K mg base N k) (ho : VE Y K o wo) (hi : VE Y K i wi) (hs : NoSl i := by exact fun _ _ => rfl) : VE Y K (.Subscript o i pos) (wNGet wo wi) := by
  obtain ⟨t1, p1, d1⟩ := ho
  obtain ⟨t2, p2, d2⟩ := hi
  refine ⟨tNGet K K.w t1 t2, fun j => by rw [← y.hw j, ← y.hK j]; exact pe_nget (units65 y j) (p1 j) (p2 j) hs, fun G B F H al rh si mu Qd Q s h q => ?_⟩
  refine d1 G B F H al rh si mu _ _ s h fun F1 H1 al1 mu1 x v e1 s1 r1 h1 => ?_
  refine d2 G B F1 H1 al1 rh si mu1 _ _ s1 h1 fun F2 H2 al2 mu2 z u e2 s2 r2 h2 => ?_
  split at h2
  · rename_i kvs kk eD
    obtain ⟨hk, h2⟩ := h2
    obtain ⟨xs, nk, rfl, en, ez⟩ := keyOk_eq hk
    obtain ⟨k', a', lk, L, rfl, ek, ea, rfl, eo, _, pr⟩ := dn_rep s2.s (r1.mono e2) eD
    have := valN_rep pr en
    split at h2
    · rename_i w ed
      rw [ed] at this
      obtain ⟨v', ev, rv⟩ := this
      cases r2 with
      | d r2 =>
        obtain ⟨b, vs, rfl, _⟩ := repTup (al := al2) (.d r2)
        exact ⟨a', v', rfl, ⟨L, nk, b, eo, npair_nat s2.s.fz pr, rfl, ⟨_, en, ez, K, rfl, r2.mono s2.s.fz⟩, ev.symm⟩, q F2 H2 al2 mu2 _ _ (e1.trans e2) s2 rv h2⟩
    · exact h2.elim
  · exact h2.elim
theorem ve_nget2 (y : YOk Y P K.w K mg base N k) (ho : VE Y K o wo) (hi : VE Y K i wi) (hf : VE Y K f wf) (m : ∀ j, M2 (Y j) o "get" apos i f cpos := by exact fun _ => ⟨rfl, rfl, rfl, rfl⟩) : VE Y K (.Call (.Attribute o "get" apos) [i, f] [] cpos) (wNGet2 wo wi wf) := by
  obtain ⟨t1, p1, d1⟩ := ho
  obtain ⟨t2, p2, d2⟩ := hi
  obtain ⟨t3, p3, d3⟩ := hf
  refine ⟨tNGet2 K K.w t1 t2 t3, fun j => by rw [← y.hw j, ← y.hK j]; exact pe_nget2 (units65 y j) (p1 j) (p2 j) (p3 j) (m j), fun G B F H al rh si mu Qd Q s h q => ?_⟩
  refine d1 G B F H al rh si mu _ _ s h fun F1 H1 al1 mu1 x v e1 s1 r1 h1 => ?_
  obtain ⟨hD, h1⟩ := h1
  obtain ⟨kv0, eD0⟩ := Option.isSome_iff_exists.mp hD
  obtain ⟨_, a0, lk0, L0, _, _, _, rfl, eo0, _, pr0⟩ := dn_rep s1.s r1 eD0
  refine ⟨a0, rfl, ⟨L0, eo0, npair_nat s1.s.fz pr0⟩, ?_⟩
  refine d2 G B F1 H1 al1 rh si mu1 _ _ s1 h1 fun F2 H2 al2 mu2 z u e2 s2 r2 h2 => ?_
  refine d3 G B F2 H2 al2 rh si mu2 _ _ s2 h2 fun F3 H3 al3 mu3 z3 u3 e3 s3 r3 h3 => ?_
  split at h3
  · rename_i kvs kk eD
    obtain ⟨hk, h3⟩ := h3
    obtain ⟨xs, nk, rfl, en, ez⟩ := keyOk_eq hk
    obtain ⟨k', a', lk, L, rfl, ek, ea, ev, eo, _, pr⟩ := dn_rep s3.s (r1.mono (e2.trans e3)) eD
    cases ev
    cases r2 with
    | d r2 =>
      obtain ⟨b, vs, rfl, _⟩ := repTup (al := al2) (.d r2)
      refine ⟨atNL L nk, ⟨L, nk, b, eo, npair_nat s3.s.fz pr, rfl, ⟨_, en, ez, K, rfl, (r2.mono e3.1).mono s3.s.fz⟩, rfl⟩, ?_⟩
      have := valN_rep pr en
      split at h3
      · rename_i w ed
        rw [ed] at this
        obtain ⟨v', ev, rv⟩ := this
        rw [ev]
        exact q F3 H3 al3 mu3 _ _ ((e1.trans e2).trans e3) s3 rv h3
      · rename_i ed
        rw [ed] at this
        rw [this]
        exact q F3 H3 al3 mu3 _ _ ((e1.trans e2).trans e3) s3 r3 h3
  · exact h3.elim
theorem den_nin {t1 t2 : TE} (neg : Bool) (d1 : Den K t1 wi) (d2 : Den K t2 wo) : Den K (if neg then tNNotIn K K.w t1 t2 else tNIn K K.w t1 t2) (wNIn neg wi wo) := fun G B F H al rh si mu Qd Q s h q => by
  have core : ∀ F1 H1 al1 mu1 x v, Ext F al F1 al1 → SR K G B F1 H1 al1 rh si mu1 → RepW K F1 al1 x v → (wo rh mu1 fun z mu2 => match getN mu2 z, x with
      | some kvs, .d k => keyOk k = true ∧ Qd (.d (.bl (if neg then !(valN kvs k).isSome else (valN kvs k).isSome))) mu2
      | _, _ => False) → t2 si H1 fun z H2 => ∃ a o, z = .ref a ∧ NGet K K.w H2 a v o ∧ Q (.bl (if neg then !o.isSome else o.isSome)) H2 := fun F1 H1 al1 mu1 x v e1 s1 r1 h1 => by
    refine d2 G B F1 H1 al1 rh si mu1 _ _ s1 h1 fun F2 H2 al2 mu2 z u e2 s2 r2 h2 => ?_
    split at h2
    · rename_i kvs kk eD
      obtain ⟨hk, h2⟩ := h2
      obtain ⟨xs, nk, rfl, en, ez⟩ := keyOk_eq hk
      obtain ⟨k', a', lk, L, rfl, ek, ea, rfl, eo, _, pr⟩ := dn_rep s2.s r2 eD
      have r1' := r1
      cases r1 with
      | d r1 =>
        obtain ⟨b, vs, rfl, _⟩ := repTup (al := al1) (.d r1)
        refine ⟨a', atNL L nk, rfl, ⟨L, nk, b, eo, npair_nat s2.s.fz pr, rfl, ⟨_, en, ez, K, rfl, (r1.mono e2.1).mono s2.s.fz⟩, rfl⟩, ?_⟩
        have e : (atNL L nk).isSome = (valN kvs (.tup xs)).isSome := by
          have := valN_rep pr en
          cases ed : valN kvs (.tup xs) with
          | some d => rw [ed] at this; obtain ⟨v', ev, _⟩ := this; rw [ev]; rfl
          | none => rw [ed] at this; rw [this]; rfl
        rw [e]
        exact q F2 H2 al2 mu2 _ _ (e1.trans e2) s2 (.d (.bl _)) h2
    · exact h2.elim
  cases neg with
  | true => exact d1 G B F H al rh si mu _ _ s h fun F1 H1 al1 mu1 x v e1 s1 r1 h1 => core F1 H1 al1 mu1 x v e1 s1 r1 h1
  | false => exact d1 G B F H al rh si mu _ _ s h fun F1 H1 al1 mu1 x v e1 s1 r1 h1 => core F1 H1 al1 mu1 x v e1 s1 r1 h1
theorem ve_nin (y : YOk Y P K.w K mg base N k) (hi : VE Y K i wi) (ho : VE Y K o wo) (hm : behindInMarks .In o = false := by with_unfolding_all rfl) : VE Y K (.Compare i [.In] [o] pos) (wNIn false wi wo) := by
  obtain ⟨t1, p1, d1⟩ := hi
  obtain ⟨t2, p2, d2⟩ := ho
  exact ⟨tNIn K K.w t1 t2, fun j => by rw [← y.hw j, ← y.hK j]; exact pe_cmp (pc_nin (units65 y j) (p1 j) (p2 j)) hm, den_nin false d1 d2⟩
theorem vt_nin (y : YOk Y P K.w K mg base N k) (hi : VE Y K i wi) (ho : VE Y K o wo) (hm : behindInMarks .In o = false := by with_unfolding_all rfl) : VT Y K (.Compare i [.In] [o] pos) (wTest (wNIn false wi wo)) := by
  obtain ⟨t1, p1, d1⟩ := hi
  obtain ⟨t2, p2, d2⟩ := ho
  refine ⟨_, fun j => pt_cmp ?_ hm, den_test (den_nin false d1 d2)⟩
  show PC (Y j) .In i o (tNIn K K.w t1 t2)
  rw [← y.hw j, ← y.hK j]; exact pc_nin (units65 y j) (p1 j) (p2 j)
theorem ve_nnotin (y : YOk Y P K.w K mg base N k) (hi : VE Y K i wi) (ho : VE Y K o wo) (hm : behindInMarks .NotIn o = false := by with_unfolding_all rfl) : VE Y K (.Compare i [.NotIn] [o] pos) (wNIn true wi wo) := by
  obtain ⟨t1, p1, d1⟩ := hi
  obtain ⟨t2, p2, d2⟩ := ho
  exact ⟨tNNotIn K K.w t1 t2, fun j => by rw [← y.hw j, ← y.hK j]; exact pe_cmp (pc_nnotin (units65 y j) (p1 j) (p2 j)) hm, den_nin true d1 d2⟩
theorem vt_nnotin (y : YOk Y P K.w K mg base N k) (hi : VE Y K i wi) (ho : VE Y K o wo) (hm : behindInMarks .NotIn o = false := by with_unfolding_all rfl) : VT Y K (.Compare i [.NotIn] [o] pos) (wTest (wNIn true wi wo)) := by
  obtain ⟨t1, p1, d1⟩ := hi
  obtain ⟨t2, p2, d2⟩ := ho
  refine ⟨_, fun j => pt_cmp ?_ hm, den_test (den_nin true d1 d2)⟩
  show PC (Y j) .NotIn i o (tNNotIn K K.w t1 t2)
  rw [← y.hw j, ← y.hK j]; exact pc_nnotin (units65 y j) (p1 j) (p2 j)
end
section
variable {X : Cx} {P : Program} {K : KW} {mg : Str → Option Value} {base : Heap} {N : List Str} {k : Nat} {pos pos' : Pos} {o i e : Expr} {wo wi we : WE}
theorem vs_nput (y : YOk (un X) P K.w K mg base N k) (ho : VE (un X) K o wo) (hi : VE (un X) K i wi) (he : VE (un X) K e we) (hs : swapsWith e (some (.Subscript o i pos')) pos.line X.env = pure false := by rfl) : VS X K (.Assign [.Subscript o i pos'] e pos) (wNPut wo wi we) := by
  obtain ⟨t1, p1, d1⟩ := ho
  obtain ⟨t2, p2, d2⟩ := hi
  obtain ⟨t3, p3, d3⟩ := he
  refine ⟨sNPut K K.w t1 t2 t3, by rw [show K.w = X.w from (y.hw ()).symm, show K.k = X.K from (y.hK ()).symm]; exact ps_nput (y.room ()).units (p1 ()) (p2 ()) (p3 ()) hs, fun G B F H al rh si mu V1 D1 s h b => ?_⟩
  refine d3 G B F H al rh si mu _ _ s h fun F1 H1 al1 mu1 u v e1 s1 r1 h1 => ?_
  refine d1 G B F1 H1 al1 rh si mu1 _ _ s1 h1 fun F2 H2 al2 mu2 x vx e2 s2 r2 h2 => ?_
  refine d2 G B F2 H2 al2 rh si mu2 _ _ s2 h2 fun F3 H3 al3 mu3 z vz e3 s3 r3 h3 => ?_
  split at h3
  · rename_i l
    split at h3
    · rename_i kvs ek
      split at h3
      · rename_i kk
        obtain ⟨hk, hl, h3⟩ := h3
        obtain ⟨xs, nk, rfl, en, ez⟩ := keyOk_eq hk
        obtain ⟨_, a', lk, L, ex, ek', ea, rfl, _, eo, pr⟩ := dn_rep (x := .loc l) (kvs := kvs) s3.s (r2.mono e3) (by simp [ek])
        cases ex
        rw [ek] at ek'
        cases ek'
        cases r3 with
        | d r3 =>
        obtain ⟨b', vs, rfl, _⟩ := repTup (al := al3) (.d r3)
        have hlen : L.length = kvs.length := (Paired.length pr).symm
        refine ⟨a', _, rfl, ⟨L, nk, b', eo rfl, npair_nat s3.s.fz pr, rfl, ⟨_, en, ez, K, rfl, r3.mono s3.s.fz⟩, by rw [hlen]; exact hl, rfl⟩, ?_⟩
        have s4 := s3.s.put (c := .dn none (putN kvs (.tup xs) u)) ea (CRep.dn (lk := none) (putN_rep en ez r3 ((r1.mono e2).mono e3) pr))
        exact b.nx _ _ _ _ _ _ ((e1.trans e2).trans e3) (s3.step (Ext.refl _ _) s4) h3
      · exact h3.elim
    · exact h3.elim
  · exact h3.elim
end

@[simp] theorem keyOk_is {i : Int} {x : Str} : keyOk (.tup [.int i, .str x]) = true := by simp [keyOk, NestedKey.depth, NestedKey.depthAll]
@[simp] theorem keyOk_ii {i j : Int} : keyOk (.tup [.int i, .int j]) = true := by simp [keyOk, NestedKey.depth, NestedKey.depthAll]
@[simp] theorem keyOk_tis {i j : Int} {x : Str} : keyOk (.tup [.tup [.int i, .int j], .str x]) = true := by simp [keyOk, NestedKey.depth, NestedKey.depthAll]
@[simp] theorem keyOk_tii {i j k : Int} : keyOk (.tup [.tup [.int i, .int j], .int k]) = true := by simp [keyOk, NestedKey.depth, NestedKey.depthAll]
mutual
theorem nkey_inj : ∀ {a b : D} {x : NestedKey}, nkey a = some x → nkey b = some x → a = b
  | .int i, .int j, _, h1, h2 => by cases h1; cases h2; rfl
  | .str i, .str j, _, h1, h2 => by cases h1; cases h2; rfl
  | .tup i, .tup j, _, h1, h2 => by
    unfold nkey at h1 h2
    cases q : nkeys i with
    | none => rw [q] at h1; cases h1
    | some ks =>
      cases q2 : nkeys j with
      | none => rw [q2] at h2; cases h2
      | some ks2 =>
        rw [q] at h1; rw [q2] at h2; cases h1; cases h2
        rw [nkeys_inj q q2]
  | .int i, .str j, _, h1, h2 => by cases h1; cases h2
  | .str i, .int j, _, h1, h2 => by cases h1; cases h2
  | .int i, .tup j, _, h1, h2 => by
    cases h1
    unfold nkey at h2
    cases q : nkeys j with
    | none => rw [q] at h2; cases h2
    | some ks => rw [q] at h2; cases h2
  | .str i, .tup j, _, h1, h2 => by
    cases h1
    unfold nkey at h2
    cases q : nkeys j with
    | none => rw [q] at h2; cases h2
    | some ks => rw [q] at h2; cases h2
  | .tup i, .int j, _, h1, h2 => by
    cases h2
    unfold nkey at h1
    cases q : nkeys i with
    | none => rw [q] at h1; cases h1
    | some ks => rw [q] at h1; cases h1
  | .tup i, .str j, _, h1, h2 => by
    cases h2
    unfold nkey at h1
    cases q : nkeys i with
    | none => rw [q] at h1; cases h1
    | some ks => rw [q] at h1; cases h1
  | .non, _, _, h1, _ => by cases h1
  | .bl _, _, _, h1, _ => by cases h1
  | .lst _, _, _, h1, _ => by cases h1
  | .scr _, _, _, h1, _ => by cases h1
  | _, .non, _, _, h2 => by cases h2
  | _, .bl _, _, _, h2 => by cases h2
  | _, .lst _, _, _, h2 => by cases h2
  | _, .scr _, _, _, h2 => by cases h2
theorem nkeys_inj : ∀ {a b : List D} {x : List NestedKey}, nkeys a = some x → nkeys b = some x → a = b
  | [], [], _, h1, h2 => rfl
  | [], b :: bs, _, h1, h2 => by
    cases h1
    unfold nkeys at h2
    cases q : nkey b with
    | none => rw [q] at h2; cases h2
    | some k =>
      cases q2 : nkeys bs with
      | none => rw [q, q2] at h2; cases h2
      | some ks => rw [q, q2] at h2; cases h2
  | a :: as, [], _, h1, h2 => by
    cases h2
    unfold nkeys at h1
    cases q : nkey a with
    | none => rw [q] at h1; cases h1
    | some k =>
      cases q2 : nkeys as with
      | none => rw [q, q2] at h1; cases h1
      | some ks => rw [q, q2] at h1; cases h1
  | a :: as, b :: bs, _, h1, h2 => by
    unfold nkeys at h1 h2
    cases q : nkey a with
    | none => rw [q] at h1; cases h1
    | some k =>
      cases q2 : nkeys as with
      | none => rw [q, q2] at h1; cases h1
      | some ks =>
        cases p : nkey b with
        | none => rw [p] at h2; cases h2
        | some k' =>
          cases p2 : nkeys bs with
          | none => rw [p, p2] at h2; cases h2
          | some ks' =>
            rw [q, q2] at h1; rw [p, p2] at h2; cases h1; cases h2
            rw [nkey_inj q p, nkeys_inj q2 p2]
end
theorem keq_iff {a b : D} (ha : keyOk a = true) (hb : keyOk b = true) : keq a b = true ↔ a = b := by
  obtain ⟨_, x, _, hx, _⟩ := keyOk_eq ha
  obtain ⟨_, y, _, hy, _⟩ := keyOk_eq hb
  unfold keq
  rw [nkey_eq hx hy]
  constructor
  · intro h
    have h := of_decide_eq_true h
    subst h
    exact nkey_inj hx hy
  · intro h
    subst h
    rw [hx] at hy; cases hy
    simp
theorem keq_refl {a : D} (ha : keyOk a = true) : keq a a = true := (keq_iff ha ha).mpr rfl
def keysOk (kvs : List (D × W)) : Prop := ∀ p ∈ kvs, keyOk p.1 = true
theorem valN_putN {kvs : List (D × W)} (h : keysOk kvs) {k j : D} {w : W} (hk : keyOk k = true) (hj : keyOk j = true) : valN (putN kvs k w) j = if keq k j = true then some w else valN kvs j := by
  induction kvs with
  | nil => simp only [putN, valN]
  | cons p r ih =>
    obtain ⟨i, u⟩ := p
    have hi : keyOk i = true := h (i, u) (by simp)
    have ih := ih fun q hq => h q (by simp [hq])
    simp only [putN]
    by_cases c : keq i k = true
    · have e := (keq_iff hi hk).mp c
      subst e
      rw [if_pos c]
      simp only [valN]
      split <;> rfl
    · rw [if_neg c]
      simp only [valN, ih]
      by_cases d : keq i j = true
      · have e := (keq_iff hi hj).mp d
        subst e
        rw [if_pos d, if_neg fun z => c ((keq_iff hi hk).mpr ((keq_iff hk hi).mp z).symm)]; simp [d]
      · simp only [if_neg d]
theorem keysOk_put {kvs : List (D × W)} (h : keysOk kvs) {k : D} {w : W} (hk : keyOk k = true) : keysOk (putN kvs k w) := by
  induction kvs with
  | nil => intro p hp; simp [putN] at hp; subst hp; exact hk
  | cons p r ih =>
    obtain ⟨i, u⟩ := p
    rw [putN]
    split
    · intro q hq
      rcases List.mem_cons.mp hq with z | z
      · subst z; exact h (i, u) (by simp)
      · exact h q (by simp [z])
    · intro q hq
      rcases List.mem_cons.mp hq with z | z
      · subst z; exact h (i, u) (by simp)
      · exact ih (fun q hq => h q (by simp [hq])) q z
theorem putN_len (kvs : List (D × W)) (k : D) (w : W) : (putN kvs k w).length ≤ kvs.length + 1 := by
  induction kvs with
  | nil => simp [putN]
  | cons p r ih => obtain ⟨j, e⟩ := p; rw [putN]; split <;> simp; exact ih
end VL
namespace VL
open PySem PySem.Spec PyProof.Rows L2 RZ
/-! ### walks over a dict with tuples as keys, under a lock -/
section
variable {X : Cx} {pins : List (Addr × Obj)} {σ : L2.St} {H : Hp} {s : Shared} {d : Addr} {o : Obj}
theorem frzN {L : NL} (I : Inv X pins σ H s) (h : H d = some (.frz o (NdO X.w d L))) :
    (d == sysModules) = false ∧ s.heap.get? d = some o ∧ o.ExactDict ∧ ∃ (es : Array DictEntry) (ep : Nat), o.data = .dict es ep ∧ es.size = L.length ∧
      ∀ (i : Nat) (q : NestedKey × Addr × V), L[i]? = some q → ∃ (en : DictEntry), es[i]? = some en ∧ en.key = .ref q.2.1 ∧ L2.RelV q.2.2 en.val := by
  obtain ⟨hd, ⟨⟨hs, z, nd⟩, xs, pr, o', es, ep, ho, hx, hdt, he⟩, _⟩ := I.hok d _ h
  rw [hd] at ho
  cases ho
  have l1 : es.size = xs.length := by rw [← Array.length_toList, he, List.length_map]
  have l2 : L.length = xs.length := Paired.length pr
  refine ⟨hs, hd, hx, es, ep, hdt, by omega, fun i q e => ?_⟩
  obtain ⟨b, hb, e1, e2, e3⟩ := L2.paired_get pr e
  have q' : es[i]? = some (entN X.w b) := by rw [← Array.getElem?_toList, he, List.getElem?_map, hb]; rfl
  exact ⟨_, q', by rw [e2]; rfl, e3⟩
end
/-- the keys -/
def Itnk (w : World) (d : Addr) (o : Obj) (L : NL) : It :=
  ⟨fun i H => H d = some (.frz o (NdO w d L)) ∧ i < L.length, fun i H x H' => H' = H ∧ ∃ q, L[i]? = some q ∧ x = .ref q.2.1, fun i H => H d = some (.frz o (NdO w d L)) ∧ L.length ≤ i⟩
/-- the pairs, each a new tuple -/
def Itni (w : World) (d : Addr) (o : Obj) (L : NL) : It :=
  ⟨fun i H => H d = some (.frz o (NdO w d L)) ∧ i < L.length, fun i H x H' => ∃ T q, L[i]? = some q ∧ x = .ref T ∧ H T = none ∧ H' = upd H T (.tup [.ref q.2.1, q.2.2]), fun i H => H d = some (.frz o (NdO w d L)) ∧ L.length ≤ i⟩
section
variable {P : Program} {w : World} {K : PySem.W.Frag} {tg : Expr} {d : Addr} {o : Obj} {es : Array DictEntry} {ep : Nat}
theorem turn_nkeys {L : NL} (it : Addr) (hod : o.data = .dict es ep) : Turn P w K tg (Itnk w d o L) [it] it (fun i h => h.IsKeyIter it d i L.length ep) where
  mem := by simp
  obj := fun i h st b hb => by
    have e : b = it := by simpa using hb
    subst e
    obtain ⟨oi, e, c, dd⟩ := st
    exact ⟨oi, e, fun v z => by rw [dd] at z; cases z⟩
  keep := fun i h h' st k => st.at fun oi e => k it (by simp) oi e
  item := by
    intro X hP hw hK hc i pins s σ H E I hf st hg
    subst hP hw hK
    obtain ⟨hd, hi⟩ := hg
    obtain ⟨f0, f1, f2, f3, f4, f5⟩ := hf it (by simp)
    obtain ⟨hs, hgd, hx, es', ep', hdt, hsz, ent⟩ := frzN I hd
    obtain ⟨rfl, rfl⟩ := dict_ep hod hdt
    obtain ⟨q, hq⟩ : ∃ p, L[i]? = some p := ⟨L[i], List.getElem?_eq_getElem hi⟩
    obtain ⟨en, hen, hkey, hval⟩ := ent i q hq
    refine L2.next_key_item st hgd hdt hsz hen fun h' st' sb => ?_
    have I1 : Inv X pins σ H { s with heap := h' } := I.turned (t' := s.toks) (fun b ob hb e => (sb.2 b hb).trans e) f0 f1 f3 f4 f5
    obtain ⟨oi, e, c, dd⟩ := id st'
    exact ⟨en.key, rfl, go_of (s := { s with heap := h' }) e c dd (by decide) ⟨.ref q.2.1, H, I1, hkey, ⟨rfl, q, hq, rfl⟩, st', fun b hb => (hf b hb).1⟩⟩
  done := by
    intro X hP hw hK hc i pins s σ H E I hf st hg
    subst hP hw hK
    obtain ⟨hd, hi⟩ := hg
    obtain ⟨f0, f1, f2, f3, f4, f5⟩ := hf it (by simp)
    obtain ⟨hs, hgd, hx, es', ep', hdt, hsz, ent⟩ := frzN I hd
    obtain ⟨rfl, rfl⟩ := dict_ep hod hdt
    exact L2.next_key_end (I.ok.hd hc) st hgd hdt hsz hi fun h' eb => ⟨rfl, I.turned (t' := s.toks) (fun b ob hb e => eb b ob hb e) f0 f1 f3 f4 f5⟩
  self := fun A i s Q E st h => by
    refine wpAny_pyIter_slot st.typeIs F.slot_dict_keyiterator_iter (wpAny_call_entry F.slot_dict_keyiterator_iter st.typeIs F.entry_dict_keyiterator_iter ?_ (F.args_dict_keyiterator_iter_1 _))
    show wpAny _ _ (ret (.ref it)) _ _ s
    exact wpAny_pure ⟨_, rfl, "dict_keyiterator", _, st.typeIs, F.slot_dict_keyiterator_next.lookup, h⟩
theorem turn_nitems {L : NL} {elts : List Expr} {kk : Nat} {tpos : Pos} (it : Addr) (hod : o.data = .dict es ep) :
    Turn P w K (.Tuple elts kk tpos) (Itni w d o L) [it] it (fun i h => ∃ ok ov, IsItemIter h it d i L.length ep ok ov) where
  mem := by simp
  obj := fun i h st b hb => by
    have e : b = it := by simpa using hb
    subst e
    obtain ⟨ok, ov, e⟩ := st
    exact ⟨_, e, fun v z => nomatch z⟩
  keep := fun i h h' st k => let ⟨ok, ov, e⟩ := st; ⟨ok, ov, k it (by simp) _ e⟩
  item := by
    intro X hP hw hK hc i pins s σ H E I hf st hg
    subst hP hw hK
    obtain ⟨hd, hi⟩ := hg
    obtain ⟨hs, hgd, hx, es', ep', hdt, hsz, ent⟩ := frzN I hd
    obtain ⟨rfl, rfl⟩ := dict_ep hod hdt
    obtain ⟨q, hq⟩ : ∃ p, L[i]? = some p := ⟨L[i], List.getElem?_eq_getElem hi⟩
    obtain ⟨en, hen, hkey, hval⟩ := ent i q hq
    obtain ⟨ok, ov, he⟩ := st
    have hlt : it < s.heap.objs.size := Heap.lt_size he
    rw [← hsz] at he
    have hi' : i < es'.size := by omega
    have een : es'[i] = en := by rw [Array.getElem?_eq_getElem hi'] at hen; exact Option.some.inj hen
    refine wpAny_pyNext_items_item_raw he ⟨o, hgd, hx, hdt⟩ hi' fun h' ho hT hz hk => ?_
    rw [een] at ho hT
    refine ⟨_, rfl, wpAny_letOwnedTupleGo_items (s := { s with heap := h' }) ho fun h'' he' sb => ?_⟩
    have hT2 : h''.get? s.heap.objs.size = some { cls := .type "tuple", data := .seq #[en.key, en.val] } := (sb.2 _ (Nat.ne_of_gt hlt)).trans hT
    have new : ObjOk X.prog X.w (upd H s.heap.objs.size (.tup [.ref q.2.1, q.2.2])) h'' s.heap.objs.size (.tup [.ref q.2.1, q.2.2]) :=
      ⟨by show 2 ≤ sizeLine; decide, [en.key, en.val], .cons hkey (.cons hval .nil), ⟨_, hT2, rfl, _, rfl⟩⟩
    have I1 : Inv X pins σ (upd H s.heap.objs.size (.tup [.ref q.2.1, q.2.2])) { s with heap := h'' } :=
      I.turnedNew (t' := s.toks) (ch := [it]) (fun b ob hb e => (sb.2 b (by simpa using hb)).trans (hk b ob (by simpa using hb) e)) hf (Nat.le_refl _) new
    refine ⟨.ref s.heap.objs.size, _, I1, rfl, ⟨_, q, hq, rfl, I.hok.fresh (Nat.le_refl _), rfl⟩, ⟨en.key, en.val, ?_⟩, fun b hb => ?_⟩
    · rw [← hsz]; exact he'
    · have e : b = it := by simpa using hb
      rw [e, upd_ne (Nat.ne_of_lt hlt)]
      exact (hf it (by simp)).1
  done := by
    intro X hP hw hK hc i pins s σ H E I hf st hg
    subst hP hw hK
    obtain ⟨hd, hi⟩ := hg
    obtain ⟨f0, f1, f2, f3, f4, f5⟩ := hf it (by simp)
    obtain ⟨hs, hgd, hx, es', ep', hdt, hsz, ent⟩ := frzN I hd
    obtain ⟨rfl, rfl⟩ := dict_ep hod hdt
    obtain ⟨ok, ov, he⟩ := st
    rw [← hsz] at he
    exact wpAny_pyNext_items_end_raw (I.ok.hd hc) he ⟨o, hgd, hx, hdt⟩ (by omega) fun h' eb => ⟨rfl, I.turned (t' := s.toks) (fun b ob hb e => eb b ob hb e) f0 f1 f3 f4 f5⟩
  self := fun A i s Q E st h => let ⟨_, _, e⟩ := st; PySem.W.kcp_self e h
end
def iNKeys (w : World) (td : TE) : TI := fun σ H R => td σ H fun x H1 => ∃ d o L, x = .ref d ∧ H1 d = some (.frz o (NdO w d L)) ∧ R (Itnk w d o L) H1
def iNItems (w : World) (td : TE) : TI := fun σ H R => td σ H fun x H1 => ∃ d o L, x = .ref d ∧ H1 d = some (.frz o (NdO w d L)) ∧ R (Itni w d o L) H1
section
variable {X : Cx} {tg e : Expr} {td : TE} {apos cpos : Pos}
theorem pi_nkeys (he : PE X e td) : PI X tg e (iNKeys X.w td) := by
  refine ⟨fun pins s σ H R I h => ?_⟩
  refine thn (he.run pins s σ H _ I h) fun u s1 ⟨x, H1, I1, rx, d, o, L, ex, hd, q⟩ => ?_
  subst ex
  obtain rfl : u = Value.ref d := rx
  obtain ⟨hs, hgd, hx, es, ep, hdt, hsz, ent⟩ := frzN I1 hd
  refine L2.iter_keys hs hgd hx hdt (L2.pi_one (tk := s1.toks) I1 _ (turn_nkeys _ hdt) ⟨_, Heap.get?_push_size _ rfl, rfl, ?_⟩ q)
  rw [hsz] <;> rfl
theorem pi_nitems {elts : List Expr} {kk : Nat} {tpos : Pos} (he : PE X e td) (hbase : attributeBase e "items" X.env (eval e X.env) = eval e X.env := by rfl) (hline : (apos.endLine == cpos.line) = true := by rfl) :
    PI X (.Tuple elts kk tpos) (.Call (.Attribute e "items" apos) [] [] cpos) (iNItems X.w td) := by
  refine ⟨fun pins s σ H R I h => ?_⟩
  refine wpAny_Call_method (T := "dict") (id := "dict.items") hbase rfl hline F.plainAttrs_dict F.slot_dict_items F.type_dict_items (thn (he.run pins s σ H _ I h) fun u s1 ⟨x, H1, I1, rx, d, o, L, ex, hd, q⟩ => ?_)
  subst ex
  obtain rfl : u = Value.ref d := rx
  obtain ⟨hs, hgd, hx, es, ep, hdt, hsz, ent⟩ := frzN I1 hd
  have hT : s1.TypeIs (.ref d) "dict" := ⟨o, hgd, hx.1⟩
  refine ⟨hT, fun b z => by cases z; exact ⟨o, hgd, hx.2.1⟩, ?_⟩
  have I2 : Inv X pins σ H1 { s1 with heap := s1.heap.push { cls := .type "dict_items", data := .fields #[.ref d] } } := I1.kept (t' := s1.toks) fun b ob q => Heap.get?_push_of_some _ q
  have fin : wpAny (model X.prog X.w) X.A (pyIter (.ref s1.heap.objs.size)) (PIE X pins σ (.Tuple elts kk tpos) R) X.xe { s1 with heap := s1.heap.push { cls := .type "dict_items", data := .fields #[.ref d] } } := by
    refine wpAny_pyIter_items_raw (d := d) (es := es) (ep := ep) ⟨_, Heap.get?_push_size _ rfl, rfl, rfl⟩ ⟨o, Heap.get?_push_of_some _ hgd, hx, hdt⟩ (L2.pi_one (tk := s1.toks) I2 _ (turn_nitems _ hdt) ⟨.none, .none, ?_⟩ q)
    rw [hsz]
    exact Heap.get?_push_size _ rfl
  show wpAny _ _ (callWith cpos (.builtin "dict.items") [.ref d] [] []) _ X.xe s1
  exact method_meetsIn F.slot_dict_items F.entry_dict_items rfl (PySem.evalArgs_none ⟨rfl, hT, F.args_dict_items_1 _, _, meets_dict_items_raw d hs, ⟨es, ep, o, hgd, hx, hdt⟩, fin⟩)
end
/-! on values -/
def chkN (k : Nat) (lk : Obj × NL) (kvs : List (D × W)) (mu : Sto) : Prop := mu[k]? = some (.dn (some lk) kvs)
@[simp] def wNKeys (a : WE) : WI := fun rh mu Q => a rh mu fun x mu1 => match x with
  | .loc k => (match mu1[k]? with
    | some (.dn (some lk) kvs) => kvs.length ≤ sizeLine ∧ Q (kvs.map fun p => .d p.1) (chkN k lk kvs) mu1
    | _ => False)
  | _ => False
@[simp] def wNItems (a : WE) : WI := fun rh mu Q => a rh mu fun x mu1 => match x with
  | .loc k => (match mu1[k]? with
    | some (.dn (some lk) kvs) => kvs.length ≤ sizeLine ∧ Q (kvs.map fun p => mkTup [.d p.1, p.2]) (chkN k lk kvs) mu1
    | _ => False)
  | _ => False
section
variable {io : Type} {Y : io → Cx} {P : Program} {K : KW} {mg : Str → Option Value} {base : Heap} {N : List Str} {k : Nat} {pos p apos cpos tpos : Pos} {a tg : Expr} {wa : WE} {elts : List Expr} {kk : Nat}
theorem chkN_rep {G B F H : Hp} {al : List Addr} {mu : Sto} {l : Nat} {a : Addr} {lk : Obj × NL} {kvs : List (D × W)} (s : SRS K G B F H al mu) (ea : al[l]? = some a) (c : chkN l lk kvs mu) : H a = some (.frz lk.1 (NdO K.w a lk.2)) ∧ Paired (NPair K F al) kvs lk.2 := by
  obtain ⟨o, _, _, ho, cr⟩ := s.at c ea
  cases cr with
  | dn p => exact ⟨ho, p⟩
theorem vi_nkeys (y : YOk Y P K.w K mg base N k) (ha : VE Y K a wa) : VI Y K tg a (wNKeys wa) := by
  obtain ⟨t, p1, d1⟩ := ha
  refine ⟨iNKeys K.w t, fun i => by rw [← y.hw i]; exact pi_nkeys (p1 i), fun G B F H al rh si mu Qd R s h q => ?_⟩
  refine d1 G B F H al rh si mu _ _ s h fun F1 H1 al1 mu1 x vx e1 s1 r1 h1 => ?_
  split at h1
  · rename_i l
    split at h1
    · rename_i lk kvs ek
      obtain ⟨hz, h1⟩ := h1
      cases r1 with
      | loc ea =>
        obtain ⟨ho, pr⟩ := chkN_rep s1.s ea ek
        refine ⟨_, lk.1, lk.2, rfl, ho, q F1 H1 al1 mu1 _ _ _ e1 s1 ⟨by simpa using hz, ?_, ?_, ?_⟩ h1⟩
        · intro i x G' B' F' H' al' mu' ex s' c ei
          obtain ⟨ho', pr'⟩ := chkN_rep s' (ex.at ea) c
          have := (List.getElem?_eq_some_iff.mp ei).1
          exact ⟨ho', by rw [← Paired.length pr']; simpa using this⟩
        · intro i x G' B' F' H' al' mu' v H'' ex s' c ei yl
          obtain ⟨ho', pr'⟩ := chkN_rep s' (ex.at ea) c
          rw [List.getElem?_map] at ei
          cases e3 : kvs[i]? with
          | none => rw [e3] at ei; cases ei
          | some z =>
            rw [e3] at ei
            cases ei
            obtain ⟨q', hq, _, r3, _⟩ := pGetL pr' e3
            obtain ⟨rfl, q2, h2, rfl⟩ := yl
            rw [hq] at h2
            cases h2
            exact ⟨F', Ext.refl _ _, s', .d r3⟩
        · intro G' B' F' H' al' mu' ex s' c
          obtain ⟨ho', pr'⟩ := chkN_rep s' (ex.at ea) c
          exact ⟨ho', by rw [← Paired.length pr']; simp⟩
    · exact h1.elim
  · exact h1.elim
theorem vi_nitems (y : YOk Y P K.w K mg base N k) (ha : VE Y K a wa) (hbase : ∀ i, attributeBase a "items" (Y i).env (eval a (Y i).env) = eval a (Y i).env := by exact fun _ => rfl) (hline : (apos.endLine == cpos.line) = true := by rfl) : VI Y K (.Tuple elts kk tpos) (.Call (.Attribute a "items" apos) [] [] cpos) (wNItems wa) := by
  obtain ⟨t, p1, d1⟩ := ha
  refine ⟨iNItems K.w t, fun i => by rw [← y.hw i]; exact pi_nitems (p1 i) (hbase i) hline, fun G B F H al rh si mu Qd R s h q => ?_⟩
  refine d1 G B F H al rh si mu _ _ s h fun F1 H1 al1 mu1 x vx e1 s1 r1 h1 => ?_
  split at h1
  · rename_i l
    split at h1
    · rename_i lk kvs ek
      obtain ⟨hz, h1⟩ := h1
      cases r1 with
      | loc ea =>
        obtain ⟨ho, pr⟩ := chkN_rep s1.s ea ek
        refine ⟨_, lk.1, lk.2, rfl, ho, q F1 H1 al1 mu1 _ _ _ e1 s1 ⟨by simpa using hz, ?_, ?_, ?_⟩ h1⟩
        · intro i x G' B' F' H' al' mu' ex s' c ei
          obtain ⟨ho', pr'⟩ := chkN_rep s' (ex.at ea) c
          have := (List.getElem?_eq_some_iff.mp ei).1
          exact ⟨ho', by rw [← Paired.length pr']; simpa using this⟩
        · intro i x G' B' F' H' al' mu' v H'' ex s' c ei yl
          obtain ⟨ho', pr'⟩ := chkN_rep s' (ex.at ea) c
          rw [List.getElem?_map] at ei
          cases e3 : kvs[i]? with
          | none => rw [e3] at ei; cases ei
          | some z =>
            rw [e3] at ei
            cases ei
            obtain ⟨q', hq, _, r3, r4⟩ := pGetL pr' e3
            obtain ⟨T, q2, h2, rfl, hT, rfl⟩ := yl
            rw [hq] at h2
            cases h2
            exact tup2_new s' (.d r3) r4 hT
        · intro G' B' F' H' al' mu' ex s' c
          obtain ⟨ho', pr'⟩ := chkN_rep s' (ex.at ea) c
          exact ⟨ho', by rw [← Paired.length pr']; simp⟩
    · exact h1.elim
  · exact h1.elim
end
/-! ### locks -/
def lockV (l : Nat) (kvs : List (D × W)) (lk : Obj × NL) (V : EV) : EV where
  nx := fun rh' mu' => mu'[l]? = some (.dn (some lk) kvs) ∧ V.nx rh' (mu'.set l (.dn none kvs))
  rt := fun w mu' => mu'[l]? = some (.dn (some lk) kvs) ∧ V.rt w (mu'.set l (.dn none kvs))
  bk := fun rh' mu' => mu'[l]? = some (.dn (some lk) kvs) ∧ V.bk rh' (mu'.set l (.dn none kvs))
  ct := fun rh' mu' => mu'[l]? = some (.dn (some lk) kvs) ∧ V.ct rh' (mu'.set l (.dn none kvs))
/-- the container l is locked while f runs -/
def wLock (f : WS) : WS := fun V rh mu => ∃ l kvs, mu[l]? = some (.dn none kvs) ∧ ∀ lk : Obj × NL, f (lockV l kvs lk V) rh (mu.set l (.dn (some lk) kvs))
def wLockE (f : WE) : WE := fun rh mu Q => ∃ l kvs, mu[l]? = some (.dn none kvs) ∧ ∀ lk : Obj × NL, f rh (mu.set l (.dn (some lk) kvs)) fun w mu' => mu'[l]? = some (.dn (some lk) kvs) ∧ Q w (mu'.set l (.dn none kvs))
section
variable {K : KW} {G B F F' H H' : Hp} {al al' : List Addr} {mu mu' : Sto}
theorem srs_locked {l : Nat} {kvs : List (D × W)} (s : SRS K G B F H al mu) (e : mu[l]? = some (.dn none kvs)) : ∃ a L, al[l]? = some a ∧ H a = some (NdO K.w a L) ∧ Paired (NPair K F al) kvs L ∧ ∀ od, SRS K G B F (upd H a (.frz od (NdO K.w a L))) al (mu.set l (.dn (some (od, L)) kvs)) := by
  obtain ⟨a, o, ea, _, _, ho, cr⟩ := s.st l _ e
  cases cr with
  | dn p =>
    rename_i L
    exact ⟨a, L, ea, ho, p, fun od => s.put ea (CRep.dn (lk := some (od, L)) (L := L) p)⟩
theorem srs_unlocked {l : Nat} {a : Addr} {od : Obj} {L : NL} {kvs : List (D × W)} (s' : SRS K G B F' H' al' mu') (ea : al'[l]? = some a) (e : mu'[l]? = some (.dn (some (od, L)) kvs)) : H' a = some (.frz od (NdO K.w a L)) ∧ SRS K G B F' (upd H' a (NdO K.w a L)) al' (mu'.set l (.dn none kvs)) := by
  obtain ⟨o, _, _, ho, cr⟩ := s'.at e ea
  cases cr with
  | dn p => exact ⟨ho, s'.put ea (CRep.dn (lk := none) (L := L) p)⟩
end
section
variable {X : Cx} {P : Program} {K : KW} {mg : Str → Option Value} {base : Heap} {N : List Str} {k : Nat} {st : Stmt} {f : WS}
theorem ndMut {w : World} {a : Addr} {L : NL} : L2.Mut (some (NdO w a L)) := True.intro
theorem vs_lock (h : VS X K st f) : VS X K st (wLock f) := by
  obtain ⟨t, p, d⟩ := h
  refine ⟨L2.tLock t, L2.ps_lock p, fun G B F H al rh si mu V1 D1 s h b => ?_⟩
  obtain ⟨l, kvs, e, h⟩ := h
  obtain ⟨a, L, ea, ho, pr, lk⟩ := srs_locked s.s e
  refine ⟨a, NdO K.w a L, ho, ndMut, fun od => ?_⟩
  refine d G B F _ al rh si _ _ _ (s.step (Ext.refl _ _) (lk od)) (h (od, L)) ⟨?_, ?_, ?_, ?_⟩
  · intro F' H' al' rh' si' mu' x s' hh
    obtain ⟨u1, u2⟩ := srs_unlocked s'.s (x.at ea) hh.1
    exact ⟨u1, b.nx _ _ _ _ _ _ x (s'.step (Ext.refl _ _) u2) hh.2⟩
  · intro F' H' al' mu' w v x s' r hh
    obtain ⟨u1, u2⟩ := srs_unlocked s' (x.at ea) hh.1
    exact ⟨u1, b.rt _ _ _ _ _ _ x u2 r hh.2⟩
  · intro F' H' al' rh' si' mu' x s' hh
    obtain ⟨u1, u2⟩ := srs_unlocked s'.s (x.at ea) hh.1
    exact ⟨u1, b.bk _ _ _ _ _ _ x (s'.step (Ext.refl _ _) u2) hh.2⟩
  · intro F' H' al' rh' si' mu' x s' hh
    obtain ⟨u1, u2⟩ := srs_unlocked s'.s (x.at ea) hh.1
    exact ⟨u1, b.ct _ _ _ _ _ _ x (s'.step (Ext.refl _ _) u2) hh.2⟩
end
section
variable {io : Type} {Y : io → Cx} {K : KW} {e : Expr} {f : WE}
theorem ve_lock (h : VE Y K e f) : VE Y K e (wLockE f) := by
  obtain ⟨t, p, d⟩ := h
  refine ⟨L2.tLockE t, fun i => L2.pe_lock (p i), fun G B F H al rh si mu Qd Q s h q => ?_⟩
  obtain ⟨l, kvs, e, h⟩ := h
  obtain ⟨a, L, ea, ho, pr, lk⟩ := srs_locked s.s e
  refine ⟨a, NdO K.w a L, ho, ndMut, fun od => ?_⟩
  refine d G B F _ al rh si _ _ _ (s.step (Ext.refl _ _) (lk od)) (h (od, L)) fun F' H' al' mu' w v x s' r hh => ?_
  obtain ⟨u1, u2⟩ := srs_unlocked s'.s (x.at ea) hh.1
  exact ⟨u1, q _ _ _ _ _ _ x (s'.step (Ext.refl _ _) u2) r hh.2⟩
end
end VL
namespace VL
open PySem PySem.Spec PyProof.Rows L2 RZ
/-- xs.index(y): flat data, there -/
@[simp] def fIndex : FM := fun mu x ws Q => match ws with
  | [.d y] => (match lsD mu x with
    | some ds => flatD y = true ∧ ds.all flatD = true ∧ ∃ (j : Nat) (z : D), ds[j]? = some z ∧ deqv z y = true ∧ (∀ (m : Nat) (z' : D), m < j → ds[m]? = some z' → deqv z' y = false) ∧ Q (.d (.int (j : Nat))) mu
    | none => False)
  | _ => False
/-- xs.insert(i, y) -/
@[simp] def fInsert : FM := fun mu x ws Q => match x, ws with
  | .loc k, [.d (.int i), .d y] => (match mu[k]? with
    | some (.lst xs) => xs.length < sizeLine ∧ 0 ≤ i ∧ i < 2 ^ 63 ∧ Q (.d .non) (mu.set k (.lst (xs.take i.toNat ++ [y] ++ xs.drop i.toNat)))
    | _ => False)
  | _, _ => False
/-- xs.count(y): ints -/
@[simp] def fCount : FM := fun mu x ws Q => match ws with
  | [.d (.int y)] => (match lsD mu x with
    | some ds => (match intsOf ds with
      | some ns => Q (.d (.int (ns.count y : Nat))) mu
      | none => False)
    | none => False)
  | _ => False
section
variable {K : KW} {G B F F' H H' : Hp} {al al' : List Addr} {mu mu' : Sto} {rh : Ev} {si : L2.St}
theorem md_index : MtD K (L2.rIndex K) fIndex := fun G B F H al rh si mu x vx ws vs Qd Q s r rw_ h q => by
  unfold fIndex at h
  split at h
  · rename_i y
    obtain ⟨v, rfl, r'⟩ := pair1 rw_
    split at h
    · rename_i ds el
      obtain ⟨a, us, rfl, rd, z, pr⟩ := lsD_rep s.s r el
      obtain ⟨fy, fd, j, zd, e1, e2, e3, h⟩ := h
      cases r' with
      | d r' =>
      obtain ⟨vz, ev, rz⟩ := pGetL pr e1
      have all := List.all_eq_true.mp fd
      have fl : ∀ {m : Nat} {zz : D}, ds[m]? = some zz → flatD zz = true := fun e => all _ (List.mem_of_getElem? e)
      refine ⟨a, us, v, j, vz, rfl, rfl, .inl rd, flD_rep r' fy, flD_all pr fd, ev, ?_, fun m z' hm ez => ?_, q F H al mu _ _ (Ext.refl _ _) s (.d (.int _)) h⟩
      · rw [flat_eqV rz r' (fl e1) fy]; exact e2
      · obtain ⟨z0, e0, r0⟩ := pGetR pr ez
        rw [flat_eqV r0 r' (fl e0) fy]; exact e3 m z0 hm e0
    · exact h.elim
  · exact h.elim
theorem md_insert : MtD K (fun x vs H Q => ∃ (l : Addr) (xs : List V) (i : Int) (y : V), x = .ref l ∧ vs = [.int i, y] ∧ H l = some (.lst xs) ∧ xs.length < sizeLine ∧ 0 ≤ i ∧ i < 2 ^ 63 ∧
    Q .non (upd H l (.lst (xs.take i.toNat ++ [y] ++ xs.drop i.toNat)))) fInsert := fun G B F H al rh si mu x vx ws vs Qd Q s r rw_ h q => by
  unfold fInsert at h
  split at h
  · rename_i k i y
    obtain ⟨v1, v2, rfl, r1, r2⟩ := pair2 rw_
    cases repInt r1
    cases r with
    | loc ea =>
      rename_i a
      split at h
      · rename_i xs e
        obtain ⟨vs, hH, z, p⟩ := s.s.lstAt e ea
        have l := Paired.length p
        obtain ⟨h1, h2, h3, h⟩ := h
        cases r2 with
        | d r2 =>
        refine ⟨a, vs, i, v2, rfl, rfl, hH, by omega, h2, h3, q F _ al _ _ _ (Ext.refl _ _) (s.step (Ext.refl _ _) (s.s.put ea (.lst ?_ (pApp (pApp (pTake _ p) (pOne r2)) (pDrop _ p))))) (.d .non) h⟩
        simp only [List.length_append, List.length_take, List.length_drop, List.length_singleton]
        omega
      · exact h.elim
  · exact h.elim
theorem md_count : MtD K (L2.rCntI K) fCount := fun G B F H al rh si mu x vx ws vs Qd Q s r rw_ h q => by
  unfold fCount at h
  split at h
  · rename_i y
    obtain ⟨v, rfl, r'⟩ := pair1 rw_
    cases repInt r'
    split at h
    · rename_i ds el
      obtain ⟨a, us, rfl, rd, z, pr⟩ := lsD_rep s.s r el
      split at h
      · rename_i ns en
        have ev := intsOf_rep pr en
        subst ev
        exact ⟨a, ns, y, rfl, rfl, .inl rd, q F H al mu _ _ (Ext.refl _ _) s (.d (.int _)) h⟩
      · exact h.elim
    · exact h.elim
  · exact h.elim
end
section
variable {io : Type} {Y : io → Cx} {P : Program} {w : World} {K : KW} {mg : Str → Option Value} {base : Heap} {N : List Str} {k : Nat} {cpos apos : Pos} {o e e2 : Expr} {es : List Expr} {wo : WE} {ga : WA}
theorem ve_index (y : YOk Y P w K mg base N k) (ho : VE Y K o wo) (ha : VA Y K [e] ga)
    (hbase : ∀ i, attributeBase o "index" (Y i).env (eval o (Y i).env) = eval o (Y i).env := by exact fun _ => rfl)
    (hfew : ∀ i, ((backTo cpos (starEach [e] (Y i).env)).all (fun x => !x.1) && (backToKw cpos (keywordEach [] (Y i).env)).all (fun x => x.1.isSome)
      && decide ([e].length + ([] : List Keyword).length + (if ([] : List Keyword).isEmpty then 0 else 1) < 30)) = true := by exact fun _ => rfl)
    (hline : (apos.endLine == cpos.line) = true := by rfl) (hs : ∀ i, starEach [e] (Y i).env = (false, eval e (Y i).env) :: starEach [] (Y i).env := by exact fun _ => rfl) :
    VE Y K (.Call (.Attribute o "index" apos) [e] [] cpos) (wBM fIndex wo ga) := ve_bm y PySem.F.plainAttrs_list PySem.F.slot_list_index PySem.F.type_list_index (fun i => by rw [← y.hK i]; exact L2.mt_index) md_index ho ha hbase hfew hline hs
theorem ve_count (y : YOk Y P w K mg base N k) (ho : VE Y K o wo) (ha : VA Y K [e] ga)
    (hbase : ∀ i, attributeBase o "count" (Y i).env (eval o (Y i).env) = eval o (Y i).env := by exact fun _ => rfl)
    (hfew : ∀ i, ((backTo cpos (starEach [e] (Y i).env)).all (fun x => !x.1) && (backToKw cpos (keywordEach [] (Y i).env)).all (fun x => x.1.isSome)
      && decide ([e].length + ([] : List Keyword).length + (if ([] : List Keyword).isEmpty then 0 else 1) < 30)) = true := by exact fun _ => rfl)
    (hline : (apos.endLine == cpos.line) = true := by rfl) (hs : ∀ i, starEach [e] (Y i).env = (false, eval e (Y i).env) :: starEach [] (Y i).env := by exact fun _ => rfl) :
    VE Y K (.Call (.Attribute o "count" apos) [e] [] cpos) (wBM fCount wo ga) := ve_bm y PySem.F.plainAttrs_list PySem.F.slot_list_count PySem.F.type_list_count (fun i => by rw [← y.hK i]; exact L2.mt_lcount) md_count ho ha hbase hfew hline hs
theorem ve_insert (y : YOk Y P w K mg base N k) (ho : VE Y K o wo) (ha : VA Y K [e, e2] ga)
    (hbase : ∀ i, attributeBase o "insert" (Y i).env (eval o (Y i).env) = eval o (Y i).env := by exact fun _ => rfl)
    (hfew : ∀ i, ((backTo cpos (starEach [e, e2] (Y i).env)).all (fun x => !x.1) && (backToKw cpos (keywordEach [] (Y i).env)).all (fun x => x.1.isSome)
      && decide ([e, e2].length + ([] : List Keyword).length + (if ([] : List Keyword).isEmpty then 0 else 1) < 30)) = true := by exact fun _ => rfl)
    (hline : (apos.endLine == cpos.line) = true := by rfl) (hs : ∀ i, starEach [e, e2] (Y i).env = (false, eval e (Y i).env) :: starEach [e2] (Y i).env := by exact fun _ => rfl) (hplain : ∀ i, (backTo cpos (starEach [e2] (Y i).env)).any (·.1) = false := by exact fun _ => rfl) :
    VE Y K (.Call (.Attribute o "insert" apos) [e, e2] [] cpos) (wBM fInsert wo ga) := ve_bm y PySem.F.plainAttrs_list PySem.F.slot_list_insert PySem.F.type_list_insert (fun _ => L2.mt_insert) md_insert ho ha hbase hfew hline hs hplain
end
end VL
namespace VL
open PySem PySem.Spec PyProof.Rows L2 RZ
/-! ### how a body is run -/
theorem seq_to {a b : WS} {V : EV} {rh : Ev} {mu : Sto} (rh' : Ev) (mu' : Sto) (h1 : ∀ K : Ev → Sto → Prop, K rh' mu' → a { V with nx := K } rh mu) (h2 : b V rh' mu') : wSeq a b V rh mu := h1 _ h2
theorem seq_R {a b : WS} {V : EV} {rh : Ev} {mu : Sto} (R : Ev → Sto → Prop) (h1 : ∀ K : Ev → Sto → Prop, (∀ rh' mu', R rh' mu' → K rh' mu') → a { V with nx := K } rh mu) (h2 : ∀ rh' mu', R rh' mu' → b V rh' mu') : wSeq a b V rh mu := h1 _ h2
theorem seq_do {a b : WS} {V : EV} {rh : Ev} {mu : Sto} (h : ∀ N, a { V with nx := N } rh mu) : wSeq a b V rh mu := h _
theorem seq_go {a b : WS} {V : EV} {rh : Ev} {mu : Sto} (h : a { V with nx := b V } rh mu) : wSeq a b V rh mu := h
theorem tup2_to {i j : Nat} {x y : D} {rh : Ev} {mu : Sto} {K : Ev → Sto → Prop} (h : K ((rh.set i (some (.d x))).set j (some (.d y))) mu) : wgTup 2 (wgCons (wgName i) (wgCons (wgName j) wgNil)) (W.d (.tup [x, y])) rh mu K := by simpa using h
theorem tup3_to {i j k : Nat} {x y z : D} {rh : Ev} {mu : Sto} {K : Ev → Sto → Prop} (h : K (((rh.set i (some (.d x))).set j (some (.d y))).set k (some (.d z))) mu) : wgTup 3 (wgCons (wgName i) (wgCons (wgName j) (wgCons (wgName k) wgNil))) (W.d (.tup [x, y, z])) rh mu K := by simpa using h
/-- a loop: what is left, and the state -/
theorem forL_S {A1 : Type} {chk : Sto → Prop} {g : WG} {b : WS} {V : EV} (f : A1 → W) (I : List A1 → Ev → Sto → Prop) (hc : ∀ xs rh mu, I xs rh mu → chk mu) (hend : ∀ rh mu, I [] rh mu → V.nx rh mu)
    (hs : ∀ x xs rh mu, I (x :: xs) rh mu → ∀ N : Ev → Sto → Prop, (∀ rh' mu', I xs rh' mu' → N rh' mu') → g (f x) rh mu fun rh' mu' => b { V with nx := N, ct := N, bk := V.nx } rh' mu') :
    ∀ {xs : List A1} {rh : Ev} {mu : Sto}, I xs rh mu → forL chk g b V (xs.map f) rh mu
  | [], _, _, h => ⟨hc _ _ _ h, hend _ _ h⟩
  | x :: xs, rh, mu, h => ⟨hc _ _ _ h, hs x xs _ _ h _ fun rh mu h1 => forL_S f I hc hend hs h1⟩
/-! ### expressions that change nothing: their value -/
abbrev Is (e : WE) (rh : Ev) (mu : Sto) (w : W) : Prop := ∀ K : W → Sto → Prop, K w mu → e rh mu K
abbrev IsB (t : WT) (rh : Ev) (mu : Sto) (b : Bool) : Prop := ∀ K : Bool → Sto → Prop, K b mu → t rh mu K
theorem ifS_to {c : WT} {f g : WS} {V : EV} {rh : Ev} {mu : Sto} (b : Bool) (h1 : IsB c rh mu b) (h2 : if b = true then f V rh mu else g V rh mu) : wIfS c f g V rh mu := h1 _ h2
theorem ifS_T {c : WT} {f g : WS} {V : EV} {rh : Ev} {mu : Sto} (h1 : IsB c rh mu true) (h2 : f V rh mu) : wIfS c f g V rh mu := h1 _ (by simpa using h2)
theorem ifS_F {c : WT} {f g : WS} {V : EV} {rh : Ev} {mu : Sto} (h1 : IsB c rh mu false) (h2 : g V rh mu) : wIfS c f g V rh mu := h1 _ (by simpa using h2)
theorem asg_to {e : WE} {i : Nat} {V : EV} {rh : Ev} {mu : Sto} (w : W) (h1 : Is e rh mu w) (h2 : V.nx (rh.set i (some w)) mu) : wAsg e (wgName i) V rh mu := h1 _ h2
theorem ret_to {e : WE} {V : EV} {rh : Ev} {mu : Sto} (w : W) (h1 : Is e rh mu w) (h2 : V.rt w mu) : wRet e V rh mu := h1 _ h2
theorem nput_to {o i v : WE} {V : EV} {rh : Ev} {mu : Sto} (l : Nat) (kvs : List (D × W)) (k : D) (u : W) (hv : Is v rh mu u) (ho : Is o rh mu (.loc l)) (hi : Is i rh mu (.d k)) (e : mu[l]? = some (.dn none kvs)) (hk : keyOk k = true) (hl : kvs.length < sizeLine)
    (h : V.nx rh (mu.set l (.dn none (putN kvs k u)))) : wNPut o i v V rh mu := hv _ (ho _ (hi _ (by simp only [e]; exact ⟨hk, hl, h⟩)))
theorem op_to {f : F2} {a b : WE} {rh : Ev} {mu : Sto} (x y z : W) (ha : Is a rh mu x) (hb : Is b rh mu y) (h : ∀ K : W → Sto → Prop, K z mu → f mu x y K) : Is (wOp f a b) rh mu z := fun K hK => ha _ (hb _ (h K hK))
theorem tup2_is {a b : WE} {rh : Ev} {mu : Sto} {x y : D} (ha : Is a rh mu (.d x)) (hb : Is b rh mu (.d y)) : Is (wTup (wCons a (wCons b wNil))) rh mu (.d (.tup [x, y])) := fun K hK => ha _ (hb _ ⟨by simp [sizeLine_eq], hK⟩)
theorem ix_lst {a b : WE} {rh : Ev} {mu : Sto} {ds : List D} {i : Int} {d : D} (ha : Is a rh mu (.d (.lst ds))) (hb : Is b rh mu (.d (.int i))) (h : atI ds i = some d) : Is (wOp fIx a b) rh mu (.d d) := op_to _ _ _ ha hb fun K hK => ⟨d, h, hK⟩
/-- comprehensions over any list of items: with a test, without -/
theorem lc_A0 {A1 : Type} {chk : Sto → Prop} {g : WG} {tt : WT} {te : WE} {rh : Ev} {mu : Sto} {Q : List W → Sto → Prop} (f : A1 → W) (r : A1 → Option W) (hc : chk mu) : ∀ {xs : List A1} {acc : List W},
    (∀ x ∈ xs, ∀ (A : W → Sto → Prop) (B : Sto → Prop), (match r x with | some y => A y mu | none => B mu) → g (f x) rh mu fun rh' mu1 => tt rh' mu1 fun b mu2 => if b = true then te rh' mu2 A else B mu2) →
    Q (acc ++ xs.filterMap r) mu → lcL chk g tt te rh (xs.map f) acc mu Q
  | [], acc, _, h => ⟨hc, by simpa using h⟩
  | x :: xs, acc, H, h => by
    refine ⟨hc, H x (by simp) _ _ ?_⟩
    split
    · rename_i y e
      refine lc_A0 f r hc (fun z hz => H z (by simp [hz])) ?_
      rw [List.filterMap_cons, e] at h
      simpa using h
    · rename_i e
      refine lc_A0 f r hc (fun z hz => H z (by simp [hz])) ?_
      rw [List.filterMap_cons, e] at h
      exact h
theorem lc_A {A1 : Type} {chk : Sto → Prop} {g : WG} {te : WE} {rh : Ev} {mu : Sto} {Q : List W → Sto → Prop} (f : A1 → W) (r : A1 → W) (hc : chk mu) {xs : List A1}
    (H : ∀ x ∈ xs, ∀ A : W → Sto → Prop, A (r x) mu → g (f x) rh mu fun rh' mu1 => te rh' mu1 A) (h : Q (xs.map r) mu) : lcL chk g wYes te rh (xs.map f) [] mu Q :=
  lc_A0 f (fun x => some (r x)) hc (fun x hx A B q => by simpa using H x hx A q) (by simpa using h)
theorem lc_AF {A1 : Type} {chk : Sto → Prop} {g : WG} {tt : WT} {te : WE} {rh : Ev} {mu : Sto} {Q : List W → Sto → Prop} (f : A1 → W) (p : A1 → Bool) (r : A1 → W) (hc : chk mu) {xs : List A1}
    (H : ∀ x ∈ xs, ∀ (A : W → Sto → Prop) (B : Sto → Prop), (if p x = true then A (r x) mu else B mu) → g (f x) rh mu fun rh' mu1 => tt rh' mu1 fun b mu2 => if b = true then te rh' mu2 A else B mu2) (h : Q ((xs.filter p).map r) mu) : lcL chk g tt te rh (xs.map f) [] mu Q :=
  lc_A0 f (fun x => if p x = true then some (r x) else none) hc (fun x hx A B q => H x hx A B (by by_cases c : p x = true <;> simp [c] at q ⊢ <;> exact q)) (by
    have e : xs.filterMap (fun x => if p x = true then some (r x) else none) = (xs.filter p).map r := by
      clear H h
      induction xs with
      | nil => rfl
      | cons x xs ih =>
        rw [List.filterMap_cons]
        by_cases c : p x = true
        · simp [c, ih]
        · simp [c, ih]
    rw [List.nil_append, e]; exact h)
/-! ### locks -/
theorem set_back {A1 : Type} {xs : List A1} {i : Nat} {x y : A1} (h : xs[i]? = some x) : (xs.set i y).set i x = xs := by
  rw [List.set_set]
  exact List.ext_getElem? fun j => by
    by_cases c : i = j
    · subst c
      obtain ⟨hl, e⟩ := List.getElem?_eq_some_iff.mp h
      rw [List.getElem?_set_self hl, h]
    · rw [List.getElem?_set_ne c]
theorem set_at {A1 : Type} {xs : List A1} {i : Nat} {x y : A1} (h : xs[i]? = some x) : (xs.set i y)[i]? = some y := List.getElem?_set_self (List.getElem?_eq_some_iff.mp h).1
theorem lockE_is {f : WE} {rh : Ev} {mu : Sto} {w : W} {l : Nat} {kvs : List (D × W)} (e : mu[l]? = some (.dn none kvs)) (h : ∀ lk, Is f rh (mu.set l (.dn (some lk) kvs)) w) : Is (wLockE f) rh mu w :=
  fun K hK => ⟨l, kvs, e, fun lk => h lk _ ⟨set_at e, by rw [set_back e]; exact hK⟩⟩
theorem for_lst {a : WE} {g : WG} {b : WS} {V : EV} {rh : Ev} {mu : Sto} {ds : List D} (h : Is a rh mu (.d (.lst ds))) (h2 : forL (fun _ => True) g b V (ds.map W.d) rh mu) : wFor (wSeqI a) g b V rh mu := h _ h2
theorem for_lstM {A1 : Type} {a : WE} {g : WG} {b : WS} {V : EV} {rh : Ev} {mu : Sto} {xs : List A1} {f : A1 → D} (h : Is a rh mu (.d (.lst (xs.map f)))) (h2 : forL (fun _ => True) g b V (xs.map fun x => .d (f x)) rh mu) : wFor (wSeqI a) g b V rh mu := h _ (by
  show forL _ _ _ _ ((xs.map f).map W.d) _ _
  rw [List.map_map]; exact h2)
end VL
namespace VL
open PySem PySem.Spec PyProof.Rows L2 RZ
@[simp] theorem band_nat (a b : Nat) : Builtin.bitAnd (a : Int) (b : Int) = ((a &&& b : Nat) : Int) := by simp [Builtin.bitAnd]
@[simp] theorem bor_nat (a b : Nat) : Builtin.bitOr (a : Int) (b : Int) = ((a ||| b : Nat) : Int) := by
  unfold Builtin.bitOr
  rw [bitAnd_nn (by unfold Builtin.bitNot; omega) (by unfold Builtin.bitNot; omega), bitNot_bitNot, bitNot_bitNot, bitNot_bitNot]
  simp
theorem xor_and_or : ∀ (n a b : Nat), a ≤ n → (a ^^^ b) + (a &&& b) = a ||| b := by
  intro n
  induction n with
  | zero => intro a b h; obtain rfl : a = 0 := by omega
            simp
  | succ n ih =>
    intro a b h
    by_cases ha : a = 0
    · subst ha; simp
    have q := ih (a / 2) (b / 2) (by omega)
    have d1 : (a ^^^ b) / 2 = (a / 2) ^^^ (b / 2) := by simpa using Nat.xor_div_two_pow (a := a) (b := b) (n := 1)
    have d2 : (a &&& b) / 2 = (a / 2) &&& (b / 2) := by simpa using Nat.and_div_two_pow (a := a) (b := b) (n := 1)
    have d3 : (a ||| b) / 2 = (a / 2) ||| (b / 2) := by simpa using Nat.or_div_two_pow (a := a) (b := b) (n := 1)
    have m1 : (a ^^^ b).testBit 0 = (a.testBit 0 ^^ b.testBit 0) := Nat.testBit_xor ..
    have m2 : (a &&& b).testBit 0 = (a.testBit 0 && b.testBit 0) := Nat.testBit_and ..
    have m3 : (a ||| b).testBit 0 = (a.testBit 0 || b.testBit 0) := Nat.testBit_or ..
    simp only [Nat.testBit_zero] at m1 m2 m3
    rw [← d1, ← d2, ← d3] at q
    generalize a ^^^ b = x at *
    generalize a &&& b = y at *
    generalize a ||| b = z at *
    rcases Nat.mod_two_eq_zero_or_one a with ea | ea <;> rcases Nat.mod_two_eq_zero_or_one b with eb | eb <;> simp [ea, eb] at m1 m2 m3 <;> omega
@[simp] theorem bxor_nat (a b : Nat) : Builtin.bitXor (a : Int) (b : Int) = ((a ^^^ b : Nat) : Int) := by
  unfold Builtin.bitXor
  rw [bor_nat, band_nat]
  have := xor_and_or a a b (Nat.le_refl _)
  omega
theorem nat_bit (f k : Nat) : (f / 2 ^ k % 2 = 1) ↔ f.testBit k = true := by
  rw [Nat.testBit_eq_decide_div_mod_eq]; simp
theorem int_bit (f k : Nat) : ((f : Int) / 2 ^ k % 2 = 1) ↔ f.testBit k = true := by
  rw [← nat_bit]
  have : ((f : Int) / 2 ^ k % 2) = ((f / 2 ^ k % 2 : Nat) : Int) := by simp
  rw [this]; omega
theorem int_bit0 (f k : Nat) : ((f : Int) / 2 ^ k % 2 = 0) ↔ f.testBit k = false := by
  have h := int_bit f k
  cases e : f.testBit k <;> rw [e] at h <;> simp at h ⊢ <;> omega
theorem shl_nat (a k : Nat) : ((a : Int) * 2 ^ k) = ((a <<< k : Nat) : Int) := by rw [Nat.shiftLeft_eq]; simp
/-- an edge -/
def Edge (xs : List Nat) (j k : Nat) : Prop := ∃ x, xs[j]? = some x ∧ x.testBit k = true
inductive Path (xs : List Nat) : Nat → Nat → Prop
  | refl (i : Nat) : Path xs i i
  | step {i j k : Nat} : Path xs i j → Edge xs j k → Path xs i k
theorem Path.head {xs : List Nat} {i j k : Nat} (e : Edge xs i j) (p : Path xs j k) : Path xs i k := by
  induction p with
  | refl => exact .step (.refl _) e
  | step _ e' ih => exact .step ih e'
def IsReach (xs : List Nat) (r w : Nat) : Prop := ∀ j, w.testBit j = true ↔ ∃ i, r.testBit i = true ∧ Path xs i j
theorem IsReach.uniq {xs : List Nat} {r w w' : Nat} (h : IsReach xs r w) (h' : IsReach xs r w') : w = w' :=
  Nat.eq_of_testBit_eq fun j => by rw [Bool.eq_iff_iff, h j, h' j]
theorem reach_of {xs : List Nat} {r w : Nat} (h0 : ∀ j, r.testBit j = true → w.testBit j = true) (h1 : ∀ j, w.testBit j = true → ∃ i, r.testBit i = true ∧ Path xs i j)
    (h2 : ∀ i j, w.testBit i = true → Edge xs i j → w.testBit j = true) : IsReach xs r w := fun j => ⟨h1 j, by
  rintro ⟨i, hi, p⟩
  have : ∀ {i j : Nat}, Path xs i j → w.testBit i = true → w.testBit j = true := by
    intro i j p
    induction p with
    | refl => exact id
    | step _ e ih => exact fun h => h2 _ _ (ih h) e
  exact this p (h0 i hi)⟩
theorem IsReach.closed {xs : List Nat} {r w : Nat} (h : IsReach xs r w) {i j : Nat} (hi : w.testBit i = true) (e : Edge xs i j) : w.testBit j = true := by
  obtain ⟨a, ha, p⟩ := (h i).mp hi
  exact (h j).mpr ⟨a, ha, .step p e⟩
/-- the rows of those in f -/
def orSel (xs : List Nat) (i f acc : Nat) : Nat := match xs with
  | [] => acc
  | x :: xs => orSel xs (i + 1) f (if f.testBit i = true then acc ||| x else acc)
theorem orSel_bit (f j : Nat) : ∀ (xs : List Nat) (i acc : Nat), (orSel xs i f acc).testBit j = true ↔ acc.testBit j = true ∨ ∃ k x, xs[k]? = some x ∧ f.testBit (i + k) = true ∧ x.testBit j = true
  | [], i, acc => by simp [orSel]
  | x :: xs, i, acc => by
    rw [orSel, orSel_bit f j xs]
    constructor
    · rintro (h | ⟨k, y, h1, h2, h3⟩)
      · split at h
        · rename_i hf
          rw [Nat.testBit_or] at h
          simp at h
          rcases h with h | h
          · exact .inl h
          · exact .inr ⟨0, x, rfl, hf, h⟩
        · exact .inl h
      · exact .inr ⟨k + 1, y, by simpa using h1, by rw [show i + (k + 1) = i + 1 + k by omega]; exact h2, h3⟩
    · rintro (h | ⟨k, y, h1, h2, h3⟩)
      · left; split
        · rw [Nat.testBit_or, h]; rfl
        · exact h
      · cases k with
        | zero =>
          left
          simp at h1
          subst h1
          simp at h2
          simp [h2, h3]
        | succ k => exact .inr ⟨k, y, by simpa using h1, by rw [show i + 1 + k = i + (k + 1) by omega]; exact h2, h3⟩
theorem orSel0 {f j : Nat} {xs : List Nat} : (orSel xs 0 f 0).testBit j = true ↔ ∃ k, f.testBit k = true ∧ Edge xs k j := by
  rw [orSel_bit]
  simp only [Nat.zero_testBit, Bool.false_eq_true, false_or, Nat.zero_add]
  constructor
  · rintro ⟨k, x, h1, h2, h3⟩; exact ⟨k, h2, x, h1, h3⟩
  · rintro ⟨k, h2, x, h1, h3⟩; exact ⟨k, x, h1, h2, h3⟩
theorem lt_bits {n m : Nat} (h : ∀ j, n.testBit j = true → m.testBit j = true) : n ≤ m := Nat.le_of_testBit h
def natsD (xs : List Nat) : List D := xs.map fun (n : Nat) => .int (n : Int)
theorem sum_lt : ∀ (xs : List Nat) (x : Nat), x ∈ xs → x ≤ xs.sum
  | y :: ys, x, h => by
    rcases List.mem_cons.mp h with rfl | h
    · simp
    · have := sum_lt ys x h; simp; omega
theorem orSel_lt {M f : Nat} : ∀ {xs : List Nat} {i acc : Nat}, (∀ x ∈ xs, x < 2 ^ M) → acc < 2 ^ M → orSel xs i f acc < 2 ^ M
  | [], _, _, _, h => h
  | x :: xs, i, acc, hx, h => by
    rw [orSel]
    refine orSel_lt (fun y hy => hx y (by simp [hy])) ?_
    split
    · exact Nat.or_lt_two_pow h (hx x (by simp))
    · exact h
end VL
namespace VL
open PySem PySem.Spec PyProof.Rows L2 RZ
@[simp] def p__law_cell_at : D → D → (W → Sto → Prop) → Prop := fun s k Q => match s, k with
  | .scr ns, .int i => 0 ≤ i ∧ Q (.d (.int (ns.getD i.toNat 0))) []
  | _, _ => False
def w__law_cell_at : WS := (wSeq (wIfS (wTest (wOp (fB0 fun i j => decide (i < j)) (wVar 1) (wCall fLen (wCons (wVar 0) wNil)))) (wRet (wOp fIx (wVar 0) (wVar 1))) wNext)
    (wRet (wC (.int 0))))
@[simp] def sp__law_cell_at : PSp := sp2 p__law_cell_at
theorem v__law_cell_at : ∀ a b Q, p__law_cell_at a b Q → w__law_cell_at (evr Q) (startE ["_law_script", "_law_k"] [.d a, .d b]) [] := by
  intro a b Q h
  unfold p__law_cell_at at h
  split at h
  · rename_i ns i
    obtain ⟨h0, h⟩ := h
    simp [w__law_cell_at]
    split
    · rename_i hl
      exact ⟨_, atI_map (at_getD 0 h0 hl), h⟩
    · rename_i hl
      simpa [List.getD_eq_getElem?_getD, List.getElem?_eq_none (show ns.length ≤ i.toNat by omega)] using h
  · exact h.elim
/-! words -/
def AZ : Str := Str.ofString "abcdefghijklmnopqrstuvwxyz"
theorem az_list : (Str.ofString "abcdefghijklmnopqrstuvwxyz").cps.toList = (List.range 26).map (97 + ·) := by decide +kernel
theorem az_at (n : Int) : atI (Str.ofString "abcdefghijklmnopqrstuvwxyz").cps.toList (n % 26) = some (97 + (n % 26).toNat) := by
  rw [az_list, at_nat (by omega) (by simp; omega)]
  have : (n % 26).toNat < 26 := by omega
  simp [this]
def goodW (w : Str) : Prop := 1 ≤ w.length ∧ w.length ≤ 8 ∧ ∀ c ∈ w.cps.toList, 97 ≤ c ∧ c ≤ 122
theorem low_ok {w : Str} (h : ∀ c ∈ w.cps.toList, 97 ≤ c ∧ c ≤ 122) (l : w.length ≤ 1000) : StrOk w := by
  refine ⟨?_, by rw [sizeLine_eq]; omega⟩
  unfold PyData.strOk
  rw [Array.all_eq_true']
  intro c hc
  have := h c (by simpa using hc)
  simp
  omega
theorem goodW.ok {w : Str} (h : goodW w) : StrOk w := low_ok h.2.2 (by have := h.2.1; omega)
def wordsD (ws : List Str) : List D := ws.map D.str
@[simp] def p__law_words : D → D → (W → Sto → Prop) → Prop := fun a b Q => match a, b with
  | .int _, .int m => 2 ≤ m ∧ m ≤ 20 ∧ ∀ ws : List Str, ws.length = m.toNat → (∀ w ∈ ws, goodW w) → ws.Nodup → Q (.loc 0) [.lst (ws.map D.str)]
  | _, _ => False
/-- the number of the j-th sign of the k-th word -/
def wNum (c at' k : Int) (j : Nat) : Int := c / 49 / (j + 1) + j * j + (if (j : Int) = at' then k else 0)
def wCps (c at' k : Int) (n : Nat) : List Nat := (List.range n).map fun j => 97 + (wNum c at' k j % 26).toNat
def wStr (c at' k : Int) (n : Nat) : Str := ⟨(wCps c at' k n).toArray⟩
theorem wStr_len (c a k : Int) (n : Nat) : (wStr c a k n).length = n := by simp [wStr, wCps, Str.length]
theorem wStr_low (c a k : Int) (n : Nat) : ∀ x ∈ (wStr c a k n).cps.toList, 97 ≤ x ∧ x ≤ 122 := by
  intro x hx
  simp [wStr, wCps] at hx
  obtain ⟨j, _, rfl⟩ := hx
  omega
theorem wStr_succ (c a k : Int) (n : Nat) : wStr c a k n ++ ⟨#[97 + (wNum c a k n % 26).toNat]⟩ = wStr c a k (n + 1) := by
  show Str.mk _ = Str.mk _
  congr 1
  simp [wStr, wCps, List.range_succ]
theorem wStr_zero (c a k : Int) : wStr c a k 0 = Str.ofString "" := rfl
theorem wStr_ne {c a k k' : Int} {n : Nat} (ha : 0 ≤ a) (hn : a < n) (hk : 0 ≤ k) (hk' : 0 ≤ k') (h : k < 26) (h' : k' < 26) (e : wStr c a k n = wStr c a k' n) : k = k' := by
  have e1 := congrArg (fun z : Str => z.cps.toList[a.toNat]?) e
  have : a.toNat < n := by omega
  have ea : ((a.toNat : Nat) : Int) = a := by omega
  simp [wStr, wCps, this] at e1
  unfold wNum at e1
  rw [ea] at e1
  simp at e1
  omega
theorem goodW_w {c a k : Int} {n : Nat} (h : 1 ≤ n) (h' : n ≤ 8) : goodW (wStr c a k n) := ⟨by rw [wStr_len]; exact h, by rw [wStr_len]; exact h', wStr_low _ _ _ _⟩
theorem nodup_set {A1 : Type} {y : A1} : ∀ {xs : List A1}, xs.Nodup → y ∉ xs → ∀ i, (xs.set i y).Nodup
  | [], _, _, _ => by simp
  | x :: xs, h, hy, 0 => by
    rw [List.set_cons_zero, List.nodup_cons]
    exact ⟨fun hm => hy (List.mem_cons_of_mem _ hm), (List.nodup_cons.mp h).2⟩
  | x :: xs, h, hy, i + 1 => by
    rw [List.set_cons_succ, List.nodup_cons]
    refine ⟨fun hm => ?_, nodup_set (List.nodup_cons.mp h).2 (fun hm => hy (List.mem_cons_of_mem _ hm)) i⟩
    rcases List.mem_or_eq_of_mem_set hm with hm | rfl
    · exact (List.nodup_cons.mp h).1 hm
    · exact hy List.mem_cons_self
def w__law_words : WS := (wSeq (wAsg (wC (.str "abcdefghijklmnopqrstuvwxyz")) (wgName 2))
    (wSeq (wAsg (wOp (fI CR0 gMod) (wVar 0) (wOp (fI CPow fun i j => i ^ j.toNat) (wC (.int 10)) (wC (.int 12)))) (wgName 0))
    (wSeq (wAsg (wOp (fAdd false) (wC (.int 1)) (wOp (fI CR0 gMod) (wVar 0) (wC (.int 7)))) (wgName 3))
    (wSeq (wAsg (wOp (fI CR0 gMod) (wOp (fI CD gDiv) (wVar 0) (wC (.int 7))) (wVar 3)) (wgName 4))
    (wSeq (wAsg (wLst true wNil) (wgName 5))
    (wSeq (wFor (wRng1 (wCons (wVar 1) wNil)) (wgName 6) (wSeq (wAsg (wC (.str "")) (wgName 7))
    (wSeq (wFor (wRng1 (wCons (wVar 3) wNil)) (wgName 8) (wSeq (wAsg (wOp (fAdd false) (wOp (fI CD gDiv) (wOp (fI CD gDiv) (wVar 0) (wC (.int 49))) (wOp (fAdd false) (wVar 8) (wC (.int 1)))) (wOp (fMul false) (wVar 8) (wVar 8))) (wgName 9))
    (wSeq (wIfS (wTest (wOp (fEq false) (wVar 8) (wVar 4))) (wAug (fI0 fun a b => a + b) 9 (wVar 6)) wNext)
    (wAsg (wOp (fAdd false) (wVar 7) (wOp fIx (wVar 2) (wOp (fI CR0 gMod) (wVar 9) (wC (.int 26))))) (wgName 7)))))
    (wDrop (wBM fApp (wVar 5) (wCons (wVar 7) wNil))))))
    (wSeq (wIfS (wTest (wOp (fEq false) (wOp (fI CR0 gMod) (wOp (fI CD gDiv) (wVar 0) (wC (.int 49))) (wC (.int 3))) (wC (.int 1)))) (wAsg (wOp (fAdd false) (wOp fIx (wVar 5) (wC (.int 0))) (wOp fIx (wVar 2) (wOp (fI CR0 gMod) (wOp (fI CD gDiv) (wVar 0) (wC (.int 147))) (wC (.int 26))))) (wgSub fSetL (wVar 5) (wC (.int 1)))) wNext)
    (wRet (wVar 5)))))))))
@[simp] def sp__law_words : PSp := sp2 p__law_words
theorem v__law_words : ∀ a b Q, p__law_words a b Q → w__law_words (evr Q) (startE ["_law_cell", "_law_many", "_law_letters", "_law_size", "_law_at", "_law_words_here", "_law_k", "_law_word", "_law_j", "_law_number"] [.d a, .d b]) [] := by
  intro a b Q h
  unfold p__law_words at h
  split at h
  · rename_i c0 m
    obtain ⟨h0, h1, h⟩ := h
    simp [w__law_words, sizeLine_eq]
    refine ⟨by omega, by omega, ?_⟩
    generalize (c0 % 1000000000000 : Int) = c at *
    obtain ⟨n, en, n1, n2⟩ : ∃ n : Nat, (1 + c % 7 : Int) = n ∧ 1 ≤ n ∧ n ≤ 7 := ⟨(1 + c % 7 : Int).toNat, by omega, by omega, by omega⟩
    rw [en]
    have hn0 : (0 : Int) < n := by omega
    rw [gMod_pos hn0]
    have a0 := Int.emod_nonneg (c / 7) (b := (n : Int)) (by omega)
    have a1 := Int.emod_lt_of_pos (c / 7) hn0
    generalize c / 7 % (n : Int) = at' at *
    obtain ⟨m', rfl⟩ : ∃ m' : Nat, m = m' := ⟨m.toNat, by omega⟩
    simp only [Int.toNat_natCast] at h ⊢
    have gw : ∀ k : Int, goodW (wStr c at' k n) := fun k => goodW_w n1 (by omega)
    refine ⟨by omega, forL_rng (fun i rh mu => mu = [C.lst (((List.range i).map fun k => wStr c at' (k : Nat) n).map D.str)] ∧ ∃ (x1 x2 x3 x4 : Option W), rh = [some (W.d (D.int c)), some (W.d (D.int m')), some (W.d (D.str (Str.ofString "abcdefghijklmnopqrstuvwxyz"))),
        some (W.d (D.int n)), some (W.d (D.int at')), some (W.loc 0), x1, x2, x3, x4]) (fun _ _ _ _ => trivial) ?_ ?_ ⟨rfl, _, _, _, _, rfl⟩⟩
    · rintro _ _ ⟨rfl, x1, x2, x3, x4, rfl⟩
      have nd : ((List.range m').map fun k => wStr c at' (k : Nat) n).Nodup := by
        rw [List.Nodup, List.pairwise_map]
        refine List.Pairwise.imp_of_mem (R := (· ≠ ·)) (fun {x y} hx hy hxy e => hxy ?_) List.nodup_range
        have hx' := List.mem_range.mp hx
        have hy' := List.mem_range.mp hy
        have := wStr_ne a0 a1 (by omega) (by omega) (by omega) (by omega) e
        omega
      have gd : ∀ w ∈ (List.range m').map fun k => wStr c at' (k : Nat) n, goodW w := fun w hw => by
        obtain ⟨k, _, rfl⟩ := List.mem_map.mp hw; exact gw _
      have i0 : ((List.range m').map fun k => wStr c at' (k : Nat) n)[0]? = some (wStr c at' 0 n) := by
        rw [List.getElem?_map, List.getElem?_range (by omega)]; rfl
      have il : ((List.range m').map fun k => wStr c at' (k : Nat) n).length = m' := by simp
      have il2 : ∀ w ∈ (List.range m').map fun k => wStr c at' (k : Nat) n, w.length = n := fun w hw => by
        obtain ⟨k, _, rfl⟩ := List.mem_map.mp hw; exact wStr_len _ _ _ _
      generalize ((List.range m').map fun k => wStr c at' (k : Nat) n) = ws at *
      have at0 : atI (ws.map D.str) 0 = some (.str (wStr c at' 0 n)) := by
        rw [at_nat (by omega) (by simp; omega)]; simp [i0]
      have ix1 : ixN ws.length 1 = some 1 := by
        unfold ixN; rw [if_pos (by omega), if_pos (by omega)]; rfl
      simp [at0, az_at, ix1, sizeLine_eq, wStr_len]
      split
      · refine ⟨by omega, ?_⟩
        have l1 : (wStr c at' 0 n ++ ⟨#[97 + (c / 147 % 26).toNat]⟩ : Str).length = n + 1 := by
          show ((wStr c at' 0 n).cps ++ #[97 + (c / 147 % 26).toNat]).size = _
          simp [Str.length] at *
          have := wStr_len c at' 0 n
          simp [Str.length] at this
          omega
        have q := h (ws.set 1 (wStr c at' 0 n ++ ⟨#[97 + (c / 147 % 26).toNat]⟩)) (by simp; exact il) (fun w hw => ?_) (nodup_set nd (fun hm => ?_) 1)
        · rw [List.map_set] at q; exact q
        · rcases List.mem_or_eq_of_mem_set hw with hw | rfl
          · exact gd w hw
          · refine ⟨by omega, by omega, fun x hx => ?_⟩
            have hx : x ∈ (wStr c at' 0 n).cps.toList ++ [97 + (c / 147 % 26).toNat] := by
              have : (wStr c at' 0 n ++ ⟨#[97 + (c / 147 % 26).toNat]⟩ : Str).cps.toList = (wStr c at' 0 n).cps.toList ++ [97 + (c / 147 % 26).toNat] := by
                show ((wStr c at' 0 n).cps ++ #[97 + (c / 147 % 26).toNat]).toList = _
                simp
              rw [this] at hx; exact hx
            rcases List.mem_append.mp hx with hx | hx
            · exact wStr_low _ _ _ _ x hx
            · rw [List.mem_singleton.mp hx]; omega
        · have := il2 _ hm; omega
      · exact h ws il gd nd
    · rintro k hk _ _ ⟨rfl, x1, x2, x3, x4, rfl⟩ N hN
      simp
      refine ⟨by omega, forL_rng (fun j rh mu => mu = [C.lst ((List.range k).map (D.str ∘ fun k => wStr c at' (k : Nat) n))] ∧ ∃ (x3 x4 : Option W), rh = [some (W.d (D.int c)), some (W.d (D.int m')), some (W.d (D.str (Str.ofString "abcdefghijklmnopqrstuvwxyz"))),
        some (W.d (D.int n)), some (W.d (D.int at')), some (W.loc 0), some (.d (.int k)), some (.d (.str (wStr c at' k j))), x3, x4]) (fun _ _ _ _ => trivial) ?_ ?_ ⟨rfl, _, _, rfl⟩⟩
      · rintro _ _ ⟨rfl, x3, x4, rfl⟩
        simp [sizeLine_eq]
        refine ⟨by omega, hN _ _ ⟨?_, _, _, _, _, rfl⟩⟩
        simp [List.range_succ]
      · rintro j hj _ _ ⟨rfl, x3, x4, rfl⟩ N' hN'
        have c3 : CM (j : Int) j := CM_r (by omega) (by omega)
        have j1 : (0 : Int) < j + 1 := by omega
        have cd : CD (c / 49) ((j : Int) + 1) := CD_of (by omega) (by omega)
        simp [c3, j1, cd, az_at, wStr_len, sizeLine_eq, gDiv_pos j1]
        have e := wStr_succ c at' k j
        unfold wNum at e
        split
        · rename_i hb
          rw [if_pos hb] at e
          rw [e]
          exact ⟨by omega, hN' _ _ ⟨rfl, _, _, rfl⟩⟩
        · rename_i hb
          rw [if_neg hb, Int.add_zero] at e
          rw [e]
          exact ⟨by omega, hN' _ _ ⟨rfl, _, _, rfl⟩⟩
  · exact h.elim
end VL
namespace VL
open PySem PySem.Spec PyProof.Rows L2 RZ
/-! ### tables: tuples of a number, a text and a set -/
abbrev TRow := Nat × Str × Nat
abbrev Tab := List TRow
def tKey (h : Nat) (w : Str) : D := .tup [.int (h : Nat), .str w]
def trD (r : TRow) : D := .tup [.int (r.1 : Nat), .str r.2.1, .int (r.2.2 : Nat)]
def trK (r : TRow) : List Key := [.inl (r.1 : Nat), .inr r.2.1, .inl (r.2.2 : Nat)]
theorem trK_D (r : TRow) : rowD (trK r) = trD r := rfl
def tN (T : Tab) : List (D × W) := T.map fun r => (tKey r.1 r.2.1, .d (.int (r.2.2 : Nat)))
def tGet : Tab → Nat → Str → Option Nat
  | [], _, _ => none
  | (a, b, c) :: r, h, w => if a = h ∧ b = w then some c else tGet r h w
def tPut : Tab → Nat → Str → Nat → Tab
  | [], h, w, v => [(h, w, v)]
  | (a, b, c) :: r, h, w, v => if a = h ∧ b = w then (a, b, v) :: r else (a, b, c) :: tPut r h w v
abbrev tOf (T : Tab) (h : Nat) (w : Str) : Nat := (tGet T h w).getD 0
@[simp] theorem keyOk_t (h : Nat) (w : Str) : keyOk (tKey h w) = true := by simp [tKey]
theorem keq_t (a h : Nat) (b w : Str) : keq (tKey a b) (tKey h w) = true ↔ a = h ∧ b = w := by
  simp only [keq, tKey, deqv_tup_tup, deqvs, deqv_int_int, deqv_str_str, Bool.and_true, Bool.and_eq_true, beq_iff_eq]
  constructor
  · rintro ⟨h1, h2⟩; exact ⟨by omega, h2⟩
  · rintro ⟨h1, h2⟩; exact ⟨by omega, h2⟩
theorem valN_t (T : Tab) (h : Nat) (w : Str) : valN (tN T) (tKey h w) = (tGet T h w).map fun v => .d (.int (v : Nat)) := by
  induction T with
  | nil => rfl
  | cons r T ih =>
    obtain ⟨a, b, c⟩ := r
    show (if keq (tKey a b) (tKey h w) = true then _ else valN (tN T) (tKey h w)) = _
    rw [ih, tGet]
    by_cases q : a = h ∧ b = w
    · rw [if_pos ((keq_t _ _ _ _).mpr q), if_pos q]; rfl
    · rw [if_neg fun z => q ((keq_t _ _ _ _).mp z), if_neg q]
theorem putN_t (T : Tab) (h : Nat) (w : Str) (v : Nat) : putN (tN T) (tKey h w) (.d (.int (v : Nat))) = tN (tPut T h w v) := by
  induction T with
  | nil => rfl
  | cons r T ih =>
    obtain ⟨a, b, c⟩ := r
    show (if keq (tKey a b) (tKey h w) = true then _ else _ :: putN (tN T) (tKey h w) _) = _
    rw [ih, tPut]
    by_cases q : a = h ∧ b = w
    · rw [if_pos ((keq_t _ _ _ _).mpr q), if_pos q]; rfl
    · rw [if_neg fun z => q ((keq_t _ _ _ _).mp z), if_neg q]; rfl
theorem tN_len (T : Tab) : (tN T).length = T.length := by simp [tN]
theorem tPut_len (T : Tab) (h : Nat) (w : Str) (v : Nat) : (tPut T h w v).length ≤ T.length + 1 := by
  induction T with
  | nil => simp [tPut]
  | cons r T ih => obtain ⟨a, b, c⟩ := r; rw [tPut]; split <;> simp; exact ih
theorem tN_flat (T : Tab) : wflats ((tN T).map (·.2)) = true := by
  induction T with
  | nil => rfl
  | cons r T ih => show wflats ((.d (.int (r.2.2 : Nat))) :: (tN T).map (·.2)) = true; simp [ih]
def tKeys (T : Tab) : List (Nat × Str) := T.map fun r => (r.1, r.2.1)
theorem tGet_mem {T : Tab} {h : Nat} {w : Str} {v : Nat} (e : tGet T h w = some v) : (h, w, v) ∈ T := by
  induction T with
  | nil => cases e
  | cons r T ih =>
    obtain ⟨a, b, c⟩ := r
    rw [tGet] at e
    split at e
    · rename_i q; obtain ⟨rfl, rfl⟩ := q; cases e; simp
    · simp [ih e]
theorem tGet_of {T : Tab} (nd : (tKeys T).Nodup) {h : Nat} {w : Str} {v : Nat} (e : (h, w, v) ∈ T) : tGet T h w = some v := by
  induction T with
  | nil => cases e
  | cons r T ih =>
    obtain ⟨a, b, c⟩ := r
    rw [tKeys, List.map_cons, List.nodup_cons] at nd
    rw [tGet]
    rcases List.mem_cons.mp e with q | q
    · cases q; simp
    · rw [if_neg, ih nd.2 q]
      rintro ⟨rfl, rfl⟩
      exact nd.1 (List.mem_map.mpr ⟨_, q, rfl⟩)
theorem tGet_none {T : Tab} {h : Nat} {w : Str} (e : tGet T h w = none) : ∀ r ∈ T, ¬ (r.1 = h ∧ r.2.1 = w) := by
  induction T with
  | nil => simp
  | cons r T ih =>
    obtain ⟨a, b, c⟩ := r
    rw [tGet] at e
    split at e
    · cases e
    · rename_i q
      intro z hz
      rcases List.mem_cons.mp hz with rfl | hz
      · exact q
      · exact ih e z hz
theorem tGet_perm {T T' : Tab} (p : T.Perm T') (nd : (tKeys T).Nodup) (h : Nat) (w : Str) : tGet T h w = tGet T' h w := by
  have nd' : (tKeys T').Nodup := (p.map _).nodup_iff.mp nd
  cases e : tGet T h w with
  | some v => rw [tGet_of nd' (p.mem_iff.mp (tGet_mem e))]
  | none =>
    cases e' : tGet T' h w with
    | none => rfl
    | some v =>
      have := tGet_none e _ (p.mem_iff.mpr (tGet_mem e'))
      exact absurd ⟨rfl, rfl⟩ this
theorem tPut_keys {T : Tab} {h : Nat} {w : Str} {v : Nat} : tKeys (tPut T h w v) = if (h, w) ∈ tKeys T then tKeys T else tKeys T ++ [(h, w)] := by
  induction T with
  | nil => simp [tPut, tKeys]
  | cons r T ih =>
    obtain ⟨a, b, c⟩ := r
    rw [tPut]
    by_cases q : a = h ∧ b = w
    · rw [if_pos q]
      obtain ⟨rfl, rfl⟩ := q
      simp [tKeys]
    · rw [if_neg q]
      have e1 : tKeys ((a, b, c) :: tPut T h w v) = (a, b) :: tKeys (tPut T h w v) := rfl
      have e2 : tKeys ((a, b, c) :: T) = (a, b) :: tKeys T := rfl
      rw [e1, e2, ih]
      by_cases m : (h, w) ∈ tKeys T
      · rw [if_pos m, if_pos (List.mem_cons_of_mem _ m)]
      · rw [if_neg m, if_neg]
        · rfl
        · intro z
          rcases List.mem_cons.mp z with z | z
          · injection z with z1 z2; exact q ⟨z1.symm, z2.symm⟩
          · exact m z
theorem tPut_nodup {T : Tab} (nd : (tKeys T).Nodup) (h : Nat) (w : Str) (v : Nat) : (tKeys (tPut T h w v)).Nodup := by
  rw [tPut_keys]
  split
  · exact nd
  · rename_i m
    rw [List.nodup_append]
    exact ⟨nd, by simp, fun a ha b hb e => by subst e; simp at hb; subst hb; exact m ha⟩
theorem tPut_mem {T : Tab} {h : Nat} {w : Str} {v : Nat} {r : TRow} (hr : r ∈ tPut T h w v) : r ∈ T ∨ r = (h, w, v) := by
  induction T with
  | nil => simp [tPut] at hr; exact .inr hr
  | cons p T ih =>
    obtain ⟨a, b, c⟩ := p
    rw [tPut] at hr
    split at hr
    · rename_i q
      obtain ⟨rfl, rfl⟩ := q
      rcases List.mem_cons.mp hr with z | z
      · exact .inr z
      · exact .inl (by simp [z])
    · rcases List.mem_cons.mp hr with z | z
      · exact .inl (by simp [z])
      · rcases ih z with z | z
        · exact .inl (by simp [z])
        · exact .inr z
theorem tGet_put (T : Tab) (h : Nat) (w : Str) (v : Nat) (h' : Nat) (w' : Str) : tGet (tPut T h w v) h' w' = if h = h' ∧ w = w' then some v else tGet T h' w' := by
  induction T with
  | nil => simp [tPut, tGet]
  | cons p T ih =>
    obtain ⟨a, b, c⟩ := p
    rw [tPut]
    by_cases q : a = h ∧ b = w
    · rw [if_pos q]
      obtain ⟨rfl, rfl⟩ := q
      rw [tGet, tGet]
      split <;> rfl
    · rw [if_neg q, tGet, ih, tGet]
      by_cases z : a = h' ∧ b = w'
      · rw [if_pos z, if_pos z, if_neg]
        rintro ⟨rfl, rfl⟩; exact q z
      · rw [if_neg z, if_neg z]
/-! sorted -/
def unK : List Key → TRow
  | [.inl a, .inr b, .inl c] => (a.toNat, b, c.toNat)
  | _ => (0, Str.ofString "", 0)
theorem unK_K (r : TRow) : unK (trK r) = r := by obtain ⟨a, b, c⟩ := r; simp [unK, trK]
def srtT (T : Tab) : Tab := (srtL (T.map trK)).map unK
theorem srtT_perm (T : Tab) : (srtT T).Perm T := by
  have h := (srtL_perm (T.map trK)).map unK
  rw [List.map_map] at h
  have e : (unK ∘ trK) = id := funext unK_K
  rw [e, List.map_id] at h
  exact h
theorem srtL_tab (T : Tab) : srtL (T.map trK) = (srtT T).map trK := by
  unfold srtT
  rw [List.map_map]
  refine ((List.map_congr_left fun x hx => ?_).trans (List.map_id _)).symm
  obtain ⟨r, _, rfl⟩ := List.mem_map.mp (srtL_mem.mp hx)
  show trK (unK (trK r)) = trK r
  rw [unK_K]
def tabL (T : Tab) : List D := (srtT T).map trD
theorem tab_rows (T : Tab) : (srtL (T.map trK)).map rowD = tabL T := by
  rw [srtL_tab, List.map_map]; rfl
theorem tab_sig (T : Tab) : ∃ sg, ∀ r ∈ T.map trK, RowSig sg r := ⟨[false, true], fun r hr => by obtain ⟨z, _, rfl⟩ := List.mem_map.mp hr; rfl⟩
theorem rowsOf_tab (T : Tab) : rowsOf (T.map trD) = some (T.map trK) := by
  have e : T.map trD = (T.map trK).map rowD := by rw [List.map_map]; rfl
  rw [e, rowsOf_map]
/-! what rows keep -/
def keepsT (T : Tab) (rows : Nat) (kind : Str) : Nat := T.foldl (fun acc r => if r.2.1 = kind ∧ rows.testBit r.1 = true then acc ||| r.2.2 else acc) 0
theorem keeps_bit0 (rows : Nat) (kind : Str) (j : Nat) : ∀ (T : Tab) (acc : Nat), (T.foldl (fun acc r => if r.2.1 = kind ∧ rows.testBit r.1 = true then acc ||| r.2.2 else acc) acc).testBit j = true ↔ acc.testBit j = true ∨ ∃ r ∈ T, r.2.1 = kind ∧ rows.testBit r.1 = true ∧ r.2.2.testBit j = true
  | [], acc => by simp
  | r :: T, acc => by
    rw [List.foldl_cons, keeps_bit0 rows kind j T]
    by_cases c : r.2.1 = kind ∧ rows.testBit r.1 = true
    · rw [if_pos c]
      simp only [Nat.testBit_or, Bool.or_eq_true, List.mem_cons, exists_eq_or_imp]
      constructor
      · rintro ((h | h) | h)
        · exact .inl h
        · exact .inr (.inl ⟨c.1, c.2, h⟩)
        · exact .inr (.inr h)
      · rintro (h | ⟨_, _, h⟩ | h)
        · exact .inl (.inl h)
        · exact .inl (.inr h)
        · exact .inr h
    · rw [if_neg c]
      simp only [List.mem_cons, exists_eq_or_imp]
      constructor
      · rintro (h | h)
        · exact .inl h
        · exact .inr (.inr h)
      · rintro (h | ⟨h1, h2, _⟩ | h)
        · exact .inl h
        · exact absurd ⟨h1, h2⟩ c
        · exact .inr h
theorem keeps_bit {T : Tab} {rows : Nat} {kind : Str} {j : Nat} : (keepsT T rows kind).testBit j = true ↔ ∃ r ∈ T, r.2.1 = kind ∧ rows.testBit r.1 = true ∧ r.2.2.testBit j = true := by
  unfold keepsT
  rw [keeps_bit0]; simp
theorem nat_bits {n m : Nat} (h : ∀ j, n.testBit j = true ↔ m.testBit j = true) : n = m := Nat.eq_of_testBit_eq fun j => Bool.eq_iff_iff.mpr (h j)
theorem keeps_perm {T T' : Tab} (p : T.Perm T') (rows : Nat) (kind : Str) : keepsT T rows kind = keepsT T' rows kind := nat_bits fun j => by
  rw [keeps_bit, keeps_bit]
  constructor
  · rintro ⟨r, h, q⟩; exact ⟨r, p.mem_iff.mp h, q⟩
  · rintro ⟨r, h, q⟩; exact ⟨r, p.mem_iff.mpr h, q⟩
theorem sortedR_own {T : Tab} {mu : Sto} {Q : W → Sto → Prop} (h : Q (.loc mu.length) (mu ++ [.lst (tabL T)])) : fSortedR true mu [.d (.lst (T.map trD))] Q := by
  simp only [fSortedR, lsD, rowsOf_tab, newL, if_true]
  refine ⟨tab_sig T, ?_⟩
  rw [tab_rows]; exact h
theorem sortedR_frz {T : Tab} {mu : Sto} {Q : W → Sto → Prop} (h : Q (.d (.lst (tabL T))) mu) : fSortedR false mu [.d (.lst (T.map trD))] Q := by
  simp only [fSortedR, lsD, rowsOf_tab, newL, Bool.false_eq_true, if_false]
  refine ⟨tab_sig T, ?_⟩
  rw [tab_rows]; exact h
theorem int_bitB (f k : Nat) : ((f : Int) / 2 ^ k % 2 == 1) = f.testBit k := by
  rw [Bool.eq_iff_iff, beq_iff_eq]; exact int_bit f k
@[simp] theorem tN_shift (T : Tab) (n : Nat) : (tN T).map (fun p => (p.1, shiftW n p.2)) = tN T := by
  unfold tN
  rw [List.map_map]
  exact List.map_congr_left fun r _ => rfl
@[simp] theorem tN_inj {T T' : Tab} : tN T = tN T' ↔ T = T' := by
  constructor
  · intro h
    refine (List.map_inj_right fun a b hab => ?_).mp h
    obtain ⟨a1, a2, a3⟩ := a
    obtain ⟨b1, b2, b3⟩ := b
    simp [tKey] at hab
    obtain ⟨⟨h1, h2⟩, h3⟩ := hab
    have e1 : a1 = b1 := by omega
    have e3 : a3 = b3 := by omega
    rw [e1, h2, e3]
  · rintro rfl; rfl
theorem shl63 {k : Nat} (h : k ≤ 63) : CShl 1 (k : Int) := by
  refine ⟨by omega, ?_⟩
  have : Builtin.Int.intBits 1 = 1 := by decide
  omega
end VL
namespace VL
open PySem PySem.Spec PyProof.Rows L2 RZ
@[simp] def p_holds : D → D → D → (W → Sto → Prop) → Prop := fun a b c Q => ∃ (T : Tab) (x : D) (h : Nat) (w : Str), a = .tup [.lst (T.map trD), x] ∧ b = .int (h : Nat) ∧ c = .str w ∧ Q (.d (.int (tOf T h w : Nat))) []
def w_holds : WS := (wSeq (wFor (wSeqI (wOp fIx (wVar 0) (wC (.int 0)))) (wgTup 3 (wgCons (wgName 3) (wgCons (wgName 4) (wgCons (wgName 5) wgNil)))) (wIfS (wAnd (wTest (wOp (fEq false) (wVar 3) (wVar 1))) (wTest (wOp (fEq false) (wVar 4) (wVar 2)))) (wRet (wVar 5)) wNext))
    (wRet (wC (.int 0))))
@[simp] def sp_holds : PSp := sp3 p_holds
theorem v_holds : ∀ a b c Q, p_holds a b c Q → w_holds (evr Q) (startE ["table", "home", "name", "there", "word", "some"] [.d a, .d b, .d c]) [] := by
  intro a b c Q hh
  obtain ⟨T, x, h, w, rfl, rfl, rfl, hh⟩ := hh
  simp [w_holds]
  refine forL_S (W.d ∘ trD) (fun R rh mu => mu = [] ∧ (∃ x1 x2 x3 : Option W, rh = [some (.d (.tup [.lst (T.map trD), x])), some (.d (.int (h : Nat))), some (.d (.str w)), x1, x2, x3]) ∧ tOf R h w = tOf T h w) (fun _ _ _ _ => trivial) ?_ ?_ ⟨rfl, ⟨_, _, _, rfl⟩, rfl⟩
  · rintro _ _ ⟨rfl, ⟨x1, x2, x3, rfl⟩, e⟩
    rw [← e] at hh
    simpa [tOf, tGet] using hh
  · rintro ⟨a, b, c⟩ R _ _ ⟨rfl, ⟨x1, x2, x3, rfl⟩, e⟩ N hN
    unfold tOf at e
    rw [tGet] at e
    simp [trD]
    refine ite_of (fun h1 => ite_of (fun h2 => ?_) fun h2 => ?_) fun h1 => ?_
    · rw [if_pos ⟨by omega, h2⟩] at e
      unfold tOf at hh
      rw [← e] at hh
      exact hh
    · rw [if_neg (fun z => h2 z.2)] at e
      exact hN _ _ ⟨rfl, ⟨_, _, _, rfl⟩, e⟩
    · rw [if_neg (fun z => h1 (by have := z.1; omega))] at e
      exact hN _ _ ⟨rfl, ⟨_, _, _, rfl⟩, e⟩
@[simp] def p_keeps : D → D → D → (W → Sto → Prop) → Prop := fun a b c Q => ∃ (T : Tab) (x : D) (h : Nat) (w : Str), a = .tup [x, .lst (T.map trD)] ∧ b = .int (h : Nat) ∧ c = .str w ∧ Q (.d (.int (keepsT T h w : Nat))) []
def w_keeps : WS := (wSeq (wAsg (wC (.int 0)) (wgName 3))
    (wSeq (wFor (wSeqI (wOp fIx (wVar 0) (wC (.int 1)))) (wgTup 3 (wgCons (wgName 4) (wgCons (wgName 5) (wgCons (wgName 6) wgNil)))) (wIfS (wAnd (wTest (wOp (fEq false) (wVar 5) (wVar 2))) (wTest (wOp (fEq false) (wOp (fI0 Builtin.bitAnd) (wOp (fI (fun _ j => 0 ≤ j) fun i j => i / 2 ^ j.toNat) (wVar 1) (wVar 4)) (wC (.int 1))) (wC (.int 1))))) (wAsg (wOp (fI0 Builtin.bitOr) (wVar 3) (wVar 6)) (wgName 3)) wNext))
    (wRet (wVar 3))))
@[simp] def sp_keeps : PSp := sp3 p_keeps
theorem v_keeps : ∀ a b c Q, p_keeps a b c Q → w_keeps (evr Q) (startE ["table", "rows", "kind", "total", "row", "word", "some"] [.d a, .d b, .d c]) [] := by
  intro a b c Q hh
  obtain ⟨T, x, h, w, rfl, rfl, rfl, hh⟩ := hh
  simp [w_keeps]
  refine forL_S (W.d ∘ trD) (fun R rh mu => mu = [] ∧ ∃ (acc : Nat) (x1 x2 x3 : Option W), rh = [some (.d (.tup [x, .lst (T.map trD)])), some (.d (.int (h : Nat))), some (.d (.str w)), some (.d (.int (acc : Nat))), x1, x2, x3] ∧
    R.foldl (fun acc r => if r.2.1 = w ∧ h.testBit r.1 = true then acc ||| r.2.2 else acc) acc = keepsT T h w) (fun _ _ _ _ => trivial) ?_ ?_ ⟨rfl, 0, _, _, _, rfl, rfl⟩
  · rintro _ _ ⟨rfl, acc, x1, x2, x3, rfl, e⟩
    rw [← e] at hh
    simpa using hh
  · rintro ⟨a, b, c⟩ R _ _ ⟨rfl, acc, x1, x2, x3, rfl, e⟩ N hN
    rw [List.foldl_cons] at e
    simp [trD, bitAnd_m1, int_bit]
    refine ite_of (fun h1 => ite_of (fun h2 => ?_) fun h2 => ?_) fun h1 => ?_
    · rw [if_pos ⟨h1, h2⟩] at e
      exact hN _ _ ⟨rfl, _, _, _, _, rfl, e⟩
    · rw [if_neg (fun z => h2 z.2)] at e
      exact hN _ _ ⟨rfl, _, _, _, _, rfl, e⟩
    · rw [if_neg (fun z => h1 z.1)] at e
      exact hN _ _ ⟨rfl, _, _, _, _, rfl, e⟩
@[simp] def p__law_same : D → D → (W → Sto → Prop) → Prop := fun a b Q => ∃ n : Nat, a = .int (n : Nat) ∧ b = .int (n : Nat) ∧ Q (.d (.bl true)) []
def w__law_same : WS := (wSeq (wIfS (wTest (wOp (fIs false) (wVar 1) (wC .non))) (wRet (wOp (fIs false) (wVar 0) (wC .non))) wNext)
    (wSeq (wIfS (wTru (wCall fIsi (wCons (wVar 1) (wCons (wTy "str") wNil)))) (wRet (wAndV (wCall fIsi (wCons (wVar 0) (wCons (wTy "str") wNil))) (wOp (fEq false) (wVar 0) (wVar 1)))) wNext)
    (wSeq (wIfS (wTru (wCall fIsi (wCons (wVar 1) (wCons (wTy "int") wNil)))) (wRet (wAndV (wCall fIsi (wCons (wVar 0) (wCons (wTy "int") wNil))) (wAndV (wNotV (wCall fIsi (wCons (wVar 0) (wCons (wTy "bool") wNil)))) (wOp (fEq false) (wVar 0) (wVar 1))))) wNext)
    (wSeq (wIfS (wAnd (wTru (wCall fIsi (wCons (wVar 1) (wCons (wTy "list") wNil)))) (wNot (wTru (wCall fIsi (wCons (wVar 0) (wCons (wTy "list") wNil)))))) (wRet (wC (.bl false))) wNext)
    (wSeq (wIfS (wAnd (wTru (wCall fIsi (wCons (wVar 1) (wCons (wTy "tuple") wNil)))) (wNot (wTru (wCall fIsi (wCons (wVar 0) (wCons (wTy "tuple") wNil)))))) (wRet (wC (.bl false))) wNext)
    (wSeq (wIfS (wTest (wOp (fEq true) (wCall fLen (wCons (wVar 0) wNil)) (wCall fLen (wCons (wVar 1) wNil)))) (wRet (wC (.bl false))) wNext)
    (wSeq (wFor (wZip (wCons (wVar 0) (wCons (wVar 1) wNil))) (wgTup 2 (wgCons (wgName 2) (wgCons (wgName 3) wgNil))) wNever)
    (wRet (wC (.bl true))))))))))
@[simp] def sp__law_same : PSp := sp2 p__law_same
theorem v__law_same : ∀ a b Q, p__law_same a b Q → w__law_same (evr Q) (startE ["_law_found", "_law_due", "_law_one", "_law_other"] [.d a, .d b]) [] := by
  intro a b Q h
  obtain ⟨n, rfl, rfl, h⟩ := h
  simpa [w__law_same] using h
def tabsOk (T : Tab) (n : Nat) : Prop := (tKeys T).Nodup ∧ T.length ≤ n
@[simp] def p__law_filled : D → D → (W → Sto → Prop) → Prop := fun a b Q => ∃ (ns : List Int) (ws : List Str), a = .scr ns ∧ b = .lst (ws.map D.str) ∧ ns.length ≤ 63 ∧ ws.length = 4 ∧ (∀ w ∈ ws, goodW w) ∧
  ∀ T1 T2 : Tab, tabsOk T1 63 → tabsOk T2 63 → Q (.tup [.loc 0, .loc 1]) [.dn none (tN T1), .dn none (tN T2)]
def w__law_filled : WS := (wSeq (wAsg wNNew (wgName 2))
    (wSeq (wAsg wNNew (wgName 3))
    (wSeq (wFor (wSeqI (wSl false (wVar 0) (wPart (wC (.int 2))) wNoPart)) (wgName 4) (wSeq (wAsg (wOp (fI CD gDiv) (wVar 4) (wC (.int 120))) (wgName 5))
    (wSeq (wAsg (wOp (fAdd false) (wC (.int 1)) (wOp (fI CR0 gMod) (wOp (fMul false) (wVar 5) (wC (.int 864691128455135233))) (wOp (fI0 fun i j => i - j) (wOp (fI CPow fun i j => i ^ j.toNat) (wC (.int 2)) (wC (.int 60))) (wC (.int 1))))) (wgName 6))
    (wIfS (wTest (wOp (fEq false) (wOp (fI CR0 gMod) (wVar 4) (wC (.int 2))) (wC (.int 0)))) (wNPut (wVar 2) (wTup (wCons (wOp (fI CR0 gMod) (wOp (fI CD gDiv) (wVar 4) (wC (.int 2))) (wC (.int 60))) (wCons (wOp fIx (wVar 1) (wOp (fI CR0 gMod) (wVar 5) (wC (.int 4)))) wNil))) (wVar 6)) (wNPut (wVar 3) (wTup (wCons (wOp (fI CR0 gMod) (wOp (fI CD gDiv) (wVar 4) (wC (.int 2))) (wC (.int 60))) (wCons (wOp fIx (wLst false (wCons (wC (.str "#")) (wCons (wOp (fAdd false) (wC (.str ".")) (wOp fIx (wVar 1) (wC (.int 0)))) (wCons (wOp (fAdd false) (wC (.str ".")) (wOp fIx (wVar 1) (wC (.int 1)))) wNil)))) (wOp (fI CR0 gMod) (wVar 5) (wC (.int 3)))) wNil))) (wVar 6))))))
    (wRet (wTup (wCons (wVar 2) (wCons (wVar 3) wNil)))))))
@[simp] def sp__law_filled : PSp := sp2 p__law_filled
theorem v__law_filled : ∀ a b Q, p__law_filled a b Q → w__law_filled (evr Q) (startE ["_law_script", "_law_words_here", "_law_names", "_law_cells", "_law_cell", "_law_number", "_law_some"] [.d a, .d b]) [] := by
  intro a b Q h
  obtain ⟨ns, ws, rfl, rfl, hl, hw, hg, h⟩ := h
  obtain ⟨w0, w1, w2, w3, rfl⟩ : ∃ w0 w1 w2 w3, ws = [w0, w1, w2, w3] := by
    match ws, hw with
    | [a, b, c, d], _ => exact ⟨a, b, c, d, rfl⟩
  have g0 := hg w0 (by simp)
  have g1 := hg w1 (by simp)
  simp [w__law_filled]
  refine forL_S (W.d ∘ D.int) (fun R rh mu => ∃ T1 T2 : Tab, (tKeys T1).Nodup ∧ (tKeys T2).Nodup ∧ T1.length + R.length ≤ 63 ∧ T2.length + R.length ≤ 63 ∧ mu = [.dn none (tN T1), .dn none (tN T2)] ∧ ∃ (x1 x2 x3 : Option W), rh = [some (.d (.scr ns)), some (.d (.lst (List.map D.str [w0, w1, w2, w3]))), some (.loc 0), some (.loc 1), x1, x2, x3])
    (fun _ _ _ _ => trivial) ?_ ?_ ⟨[], [], by simp [tKeys], by simp [tKeys], ?_, ?_, rfl, _, _, _, rfl⟩
  · rintro _ _ ⟨T1, T2, n1, n2, l1, l2, rfl, x1, x2, x3, rfl⟩
    simp [sizeLine_eq]
    exact h T1 T2 ⟨n1, by simpa using l1⟩ ⟨n2, by simpa using l2⟩
  · rintro n R _ _ ⟨T1, T2, n1, n2, l1, l2, rfl, x1, x2, x3, rfl⟩ N hN
    refine seq_to [some (.d (.scr ns)), some (.d (.lst (List.map D.str [w0, w1, w2, w3]))), some (.loc 0), some (.loc 1), some (.d (.int n)), some (.d (.int (n / 120))), x3] [.dn none (tN T1), .dn none (tN T2)] (fun K hK => by simpa using hK) ?_
    generalize n / 120 = q
    obtain ⟨m, em⟩ : ∃ m : Nat, (1 + q * 864691128455135233 % 1152921504606846975 : Int) = m := ⟨(1 + q * 864691128455135233 % 1152921504606846975 : Int).toNat, by omega⟩
    refine seq_to [some (.d (.scr ns)), some (.d (.lst (List.map D.str [w0, w1, w2, w3]))), some (.loc 0), some (.loc 1), some (.d (.int n)), some (.d (.int q)), some (.d (.int (m : Nat)))] [.dn none (tN T1), .dn none (tN T2)] (fun K hK => by
      rw [← em] at hK
      simpa using hK) ?_
    obtain ⟨x, hx, ax⟩ : ∃ x, x ∈ [w0, w1, w2, w3] ∧ atI [D.str w0, .str w1, .str w2, .str w3] (q % 4) = some (.str x) := by
      obtain ⟨y, h1, h2⟩ := at_mem (xs := [D.str w0, .str w1, .str w2, .str w3]) (i := q % 4) (by omega) (by simp; omega)
      simp at h2
      rcases h2 with rfl | rfl | rfl | rfl <;> exact ⟨_, by simp, h1⟩
    obtain ⟨z, az⟩ : ∃ z, atI [D.str (Str.ofString "#"), .str (Str.ofString "." ++ w0), .str (Str.ofString "." ++ w1)] (q % 3) = some (.str z) := by
      obtain ⟨y, h1, h2⟩ := at_mem (xs := [D.str (Str.ofString "#"), .str (Str.ofString "." ++ w0), .str (Str.ofString "." ++ w1)]) (i := q % 3) (by omega) (by simp; omega)
      simp at h2
      rcases h2 with rfl | rfl | rfl <;> exact ⟨_, h1⟩
    obtain ⟨k, ek⟩ : ∃ k : Nat, n / 2 % 60 = k := ⟨(n / 2 % 60).toNat, by omega⟩
    have s1 : (Str.ofString ".").length + w0.length ≤ 16777216 := by have := g0.2.1; have : (Str.ofString ".").length = 1 := (by decide +kernel); omega
    have s2 : (Str.ofString ".").length + w1.length ≤ 16777216 := by have := g1.2.1; have : (Str.ofString ".").length = 1 := (by decide +kernel); omega
    have p1 := putN_t T1 k x m
    have p2 := putN_t T2 k z m
    unfold tKey at p1 p2
    simp at l1 l2
    have key : ∀ (e : WE) (y : Str), Is e [some (.d (.scr ns)), some (.d (.lst (List.map D.str [w0, w1, w2, w3]))), some (.loc 0), some (.loc 1), some (.d (.int n)), some (.d (.int q)), some (.d (.int (m : Nat)))] [.dn none (tN T1), .dn none (tN T2)] (.d (.str y)) →
        Is (wTup (wCons (wOp (fI CR0 gMod) (wOp (fI CD gDiv) (wVar 4) (wC (.int 2))) (wC (.int 60))) (wCons e wNil))) [some (.d (.scr ns)), some (.d (.lst (List.map D.str [w0, w1, w2, w3]))), some (.loc 0), some (.loc 1), some (.d (.int n)), some (.d (.int q)), some (.d (.int (m : Nat)))] [.dn none (tN T1), .dn none (tN T2)] (.d (.tup [.int (k : Nat), .str y])) :=
      fun e y he => tup2_is (fun K hK => by rw [← ek] at hK; simpa using hK) he
    by_cases c : n % 2 = 0
    · refine ifS_T (fun K hK => by simpa [c] using hK) (nput_to 0 (tN T1) (tKey k x) (.d (.int (m : Nat))) (fun K hK => by simpa using hK) (fun K hK => by simpa using hK) (key _ _ fun K hK => by simpa [ax] using hK) (by simp) (by simp) (by rw [tN_len, sizeLine_eq]; omega) ?_)
      rw [putN_t]
      exact hN _ _ ⟨_, _, tPut_nodup n1 _ _ _, n2, by have := tPut_len T1 k x m; omega, by omega, rfl, _, _, _, rfl⟩
    · have c' : (n % 2 == 0) = false := by simpa using c
      refine ifS_F (fun K hK => by simpa [c'] using hK) (nput_to 1 (tN T2) (tKey k z) (.d (.int (m : Nat))) (fun K hK => by simpa using hK) (fun K hK => by simpa using hK) (key _ _ (ix_lst (ds := [D.str (Str.ofString "#"), .str (Str.ofString "." ++ w0), .str (Str.ofString "." ++ w1)]) (i := q % 3) (fun K hK => by
        simp [sizeLine_eq]
        exact ⟨s1, s2, hK⟩) (fun K hK => by simpa using hK) az)) (by simp) (by simp) (by rw [tN_len, sizeLine_eq]; omega) ?_)
      rw [putN_t]
      exact hN _ _ ⟨_, _, n1, tPut_nodup n2 _ _ _, by omega, by have := tPut_len T2 k z m; omega, rfl, _, _, _, rfl⟩
  · have := cutL_len ns (some 2) none; simp; omega
  · have := cutL_len ns (some 2) none; simp; omega
@[simp] def p__law_told : W → Sto → (W → Sto → Prop) → Prop := fun a mu Q => ∃ (l : Nat) (T : Tab), a = .loc l ∧ mu[l]? = some (.dn none (tN T)) ∧ (tKeys T).Nodup ∧ T.length ≤ 1000 ∧ Q (.loc mu.length) (mu ++ [.lst (tabL T)])
def w__law_told : WS := (wRet (wCall (fSortedR true) (wCons (wLockE (wLc false (wNKeys (wVar 0)) (wgName 1) wYes (wTup (wCons (wOp fIx (wVar 1) (wC (.int 0))) (wCons (wOp fIx (wVar 1) (wC (.int 1))) (wCons (wNGet (wVar 0) (wVar 1)) wNil)))) [1])) wNil)))
@[simp] def sp__law_told : VSp := sS1 p__law_told
theorem v__law_told : ∀ a mu Q, p__law_told a mu Q → w__law_told (evr Q) (startE ["_law_some", "_law_key"] [a]) mu := by
  intro a mu Q h
  obtain ⟨l, T, rfl, e, nd, hl, h⟩ := h
  have comp : Is (wLockE (wLc false (wNKeys (wVar 0)) (wgName 1) wYes (wTup (wCons (wOp fIx (wVar 1) (wC (.int 0))) (wCons (wOp fIx (wVar 1) (wC (.int 1))) (wCons (wNGet (wVar 0) (wVar 1)) wNil)))) [1])) [some (.loc l), none] mu (.d (.lst (T.map trD))) := by
    refine lockE_is e fun lk K hK => ?_
    have e1 := set_at (y := C.dn (some lk) (tN T)) e
    simp [e1, tN_len, sizeLine_eq]
    refine ⟨by omega, ?_⟩
    have et : (tN T).map (fun p => W.d p.1) = T.map (fun r => .d (tKey r.1 r.2.1)) := by simp [tN]
    rw [et]
    refine lc_A _ (fun r => .d (trD r)) e1 (fun r hr A hA => ?_) (by simpa using hK)
    have g1 := tGet_of nd (h := r.1) (w := r.2.1) (v := r.2.2) hr
    have g2 := valN_t T r.1 r.2.1
    rw [g1] at g2
    have ko := keyOk_t r.1 r.2.1
    have kt : tKey r.1 r.2.1 = .tup [.int (r.1 : Nat), .str r.2.1] := rfl
    rw [kt] at g2 ko ⊢
    simp [e1, g2, ko, sizeLine_eq]
    exact hA
  exact comp _ (sortedR_own h)
theorem keeps_dict (T : Tab) (rows : Nat) (w : Str) : keepsT T rows w = T.foldl (fun acc r => if r.2.1 = w ∧ rows.testBit r.1 = true then acc ||| r.2.2 else acc) 0 := rfl
@[simp] def p__law_kept : W → W → W → Sto → (W → Sto → Prop) → Prop := fun a b c mu Q => ∃ (l : Nat) (T : Tab) (h : Nat) (w : Str), a = .loc l ∧ b = .d (.int (h : Nat)) ∧ c = .d (.str w) ∧ mu[l]? = some (.dn none (tN T)) ∧ (tKeys T).Nodup ∧ T.length ≤ 1000 ∧ Q (.d (.int (keepsT T h w : Nat))) mu
def w__law_kept : WS := (wSeq (wAsg (wC (.int 0)) (wgName 3))
    (wSeq (wLock (wFor (wNKeys (wVar 0)) (wgTup 2 (wgCons (wgName 4) (wgCons (wgName 5) wgNil))) (wIfS (wAnd (wTest (wOp (fEq false) (wVar 5) (wVar 2))) (wTest (wOp (fEq false) (wOp (fI CR0 gMod) (wOp (fI (fun _ j => 0 ≤ j) fun i j => i / 2 ^ j.toNat) (wVar 1) (wVar 4)) (wC (.int 2))) (wC (.int 1))))) (wAsg (wOp (fI0 Builtin.bitOr) (wVar 3) (wNGet (wVar 0) (wTup (wCons (wVar 4) (wCons (wVar 5) wNil))))) (wgName 3)) wNext)))
    (wRet (wVar 3))))
@[simp] def sp__law_kept : VSp := sS3 p__law_kept
theorem v__law_kept : ∀ a b c mu Q, p__law_kept a b c mu Q → w__law_kept (evr Q) (startE ["_law_cells", "_law_rows", "_law_kind", "_law_total", "_law_row", "_law_other"] [a, b, c]) mu := by
  intro a b c mu Q hh
  obtain ⟨l, T, h, w, rfl, rfl, rfl, e, nd, hl, hh⟩ := hh
  unfold w__law_kept
  refine seq_to [some (.loc l), some (.d (.int (h : Nat))), some (.d (.str w)), some (.d (.int 0)), none, none] mu (fun K hK => by simpa using hK) ?_
  refine seq_go ⟨l, tN T, e, fun lk => ?_⟩
  have e1 := set_at (y := C.dn (some lk) (tN T)) e
  have et : (tN T).map (fun p => W.d p.1) = T.map (fun r => .d (tKey r.1 r.2.1)) := by simp [tN]
  simp only [wFor, wNKeys, wVar, List.getElem?_cons_zero, e1, tN_len, sizeLine_eq]
  refine ⟨by omega, ?_⟩
  rw [et]
  refine forL_S _ (fun R rh mu' => mu' = mu.set l (.dn (some lk) (tN T)) ∧ (∀ r ∈ R, r ∈ T) ∧ ∃ (acc : Nat) (x1 x2 : Option W), rh = [some (.loc l), some (.d (.int (h : Nat))), some (.d (.str w)), some (.d (.int (acc : Nat))), x1, x2] ∧
    R.foldl (fun acc r => if r.2.1 = w ∧ h.testBit r.1 = true then acc ||| r.2.2 else acc) acc = keepsT T h w) (fun _ _ _ ⟨q, _⟩ => by subst q; exact e1) ?_ ?_ ⟨rfl, fun _ h => h, 0, _, _, rfl, rfl⟩
  · rintro _ _ ⟨rfl, _, acc, x1, x2, rfl, eq⟩
    refine ⟨e1, ?_⟩
    rw [set_back e]
    rw [← eq] at hh
    simpa using hh
  · rintro ⟨a, b, c⟩ R _ _ ⟨rfl, hR, acc, x1, x2, rfl, eq⟩ N hN
    have g1 := tGet_of nd (h := a) (w := b) (v := c) (hR _ (by simp))
    have g2 := valN_t T a b
    rw [g1] at g2
    have hR' : ∀ r ∈ R, r ∈ T := fun r hr => hR r (by simp [hr])
    rw [List.foldl_cons] at eq
    have kt : tKey a b = .tup [.int (a : Nat), .str b] := rfl
    simp only [kt] at g2 ⊢
    refine tup2_to ?_
    by_cases c1 : b = w
    · subst c1
      by_cases c2 : h.testBit a = true
      · rw [if_pos ⟨rfl, c2⟩] at eq
        refine ifS_T (fun K hK => by simpa [int_bitB, c2] using hK) (asg_to (.d (.int ((acc ||| c : Nat) : Nat))) (fun K hK => by simpa [e1, g2, sizeLine_eq] using hK) (hN _ _ ⟨rfl, hR', _, _, _, rfl, eq⟩))
      · rw [if_neg fun z => c2 z.2] at eq
        refine ifS_F (fun K hK => by simpa [int_bitB, c2] using hK) (hN _ _ ⟨rfl, hR', _, _, _, rfl, eq⟩)
    · rw [if_neg fun z => c1 z.1] at eq
      refine ifS_F (fun K hK => by simpa [c1] using hK) (hN _ _ ⟨rfl, hR', _, _, _, rfl, eq⟩)
theorem trD_dep (r : TRow) : ddep (trD r) = 1 := by simp [trD]
theorem tabL_dep (T : Tab) : ddeps (tabL T) ≤ 1 := ddeps_le fun x hx => by obtain ⟨r, _, rfl⟩ := List.mem_map.mp hx; rw [trD_dep]; exact Nat.le_refl _
theorem tabL_flat (T : Tab) : dflats (tabL T) = true := by
  unfold tabL
  induction srtT T with
  | nil => rfl
  | cons r R ih => rw [List.map_cons]; simp [trD, ih]
def w_law : WS := (wSeq (wAsg (wCallP false sp__law_words [] (wCons (wCallP false sp__law_cell_at [] (wCons (wVar 0) (wCons (wC (.int 0)) wNil))) (wCons (wC (.int 4)) wNil))) (wgName 1))
    (wSeq (wAsg (wCallP true sp__law_filled [] (wCons (wVar 0) (wCons (wVar 1) wNil))) (wgTup 2 (wgCons (wgName 2) (wgCons (wgName 3) wgNil))))
    (wSeq (wAsg (wTup (wCons (wCallS sp__law_told [] (wCons (wVar 2) wNil)) (wCons (wCallS sp__law_told [] (wCons (wVar 3) wNil)) wNil))) (wgName 4))
    (wSeq (wAsg (wTup (wCons (wCall (fList false) (wCons (wOp fIx (wVar 4) (wC (.int 0))) wNil)) (wCons (wCall (fList false) (wCons (wOp fIx (wVar 4) (wC (.int 1))) wNil)) wNil))) (wgName 5))
    (wSeq (wAsg (wOp (fAdd false) (wLc false (wSeqI (wSl false (wVar 0) (wPart (wC (.int 2))) (wPart (wC (.int 12))))) (wgName 7) wYes (wOp (fI CR0 gMod) (wOp (fI CD gDiv) (wVar 7) (wC (.int 2))) (wC (.int 60))) [7]) (wLst false (wCons (wOp (fI CR0 gMod) (wCallP false sp__law_cell_at [] (wCons (wVar 0) (wCons (wC (.int 1)) wNil))) (wC (.int 60))) wNil))) (wgName 6))
    (wSeq (wFor (wSeqI (wVar 6)) (wgName 8) (wFor (wSeqI (wVar 1)) (wgName 9) (wIfS (wNot (wTru (wCallP false sp__law_same [] (wCons (wCallP false sp_holds [] (wCons (wVar 5) (wCons (wVar 8) (wCons (wVar 9) wNil)))) (wCons (wNGet2 (wVar 2) (wTup (wCons (wVar 8) (wCons (wVar 9) wNil))) (wC (.int 0))) wNil))))) (wRet (wC (.bl false))) wNext)))
    (wSeq (wAsg (wOp (fAdd false) (wLst false (wCons (wC (.int 0)) (wCons (wOp (fI0 fun i j => i - j) (wOp (fI CPow fun i j => i ^ j.toNat) (wC (.int 2)) (wC (.int 60))) (wC (.int 1))) (wCons (wOp (fI CR0 gMod) (wOp (fMul false) (wCallP false sp__law_cell_at [] (wCons (wVar 0) (wCons (wC (.int 1)) wNil))) (wC (.int 48271))) (wOp (fI CPow fun i j => i ^ j.toNat) (wC (.int 2)) (wC (.int 60)))) wNil)))) (wLc false (wSeqI (wVar 6)) (wgName 8) wYes (wOp (fI CShl fun i j => i * 2 ^ j.toNat) (wC (.int 1)) (wVar 8)) [8])) (wgName 10))
    (wSeq (wFor (wSeqI (wVar 10)) (wgName 11) (wFor (wSeqI (wLst false (wCons (wC (.str "#")) (wCons (wOp (fAdd false) (wC (.str ".")) (wOp fIx (wVar 1) (wC (.int 0)))) (wCons (wOp (fAdd false) (wC (.str ".")) (wOp fIx (wVar 1) (wC (.int 1)))) (wCons (wOp (fAdd false) (wC (.str ".")) (wOp fIx (wVar 1) (wC (.int 2)))) wNil)))))) (wgName 12) (wIfS (wNot (wTru (wCallP false sp__law_same [] (wCons (wCallP false sp_keeps [] (wCons (wVar 5) (wCons (wVar 11) (wCons (wVar 12) wNil)))) (wCons (wCallS sp__law_kept [] (wCons (wVar 3) (wCons (wVar 11) (wCons (wVar 12) wNil)))) wNil))))) (wRet (wC (.bl false))) wNext)))
    (wRet (wOp (fEq false) (wVar 5) (wVar 4)))))))))))
theorem v_law : ∀ (ns : List Int) (Q : W → Sto → Prop), ns.length ≤ 63 → (∀ mu, Q (.d (.bl true)) mu) → w_law (evr Q) (startE ["_law_script", "_law_words_here", "_law_names", "_law_cells", "_law_table", "_law_lent", "_law_homes", "_law_cell", "_law_home", "_law_name", "_law_sets", "_law_rows", "_law_kind"] [.d (.scr ns)]) [] := by
  intro ns Q hl h
  unfold w_law
  refine seq_R (fun rh mu => ∃ ws : List Str, ws.length = 4 ∧ (∀ w ∈ ws, goodW w) ∧ ws.Nodup ∧ mu = [] ∧ rh = [some (.d (.scr ns)), some (.d (.lst (ws.map D.str))), none, none, none, none, none, none, none, none, none, none, none]) (fun K hK => ?_) ?_
  · simp
    intro ws h1 h2 h3
    exact hK _ _ ⟨ws, h1, h2, h3, rfl, rfl⟩
  rintro _ _ ⟨ws, hw, hg, hn, rfl, rfl⟩
  obtain ⟨w0, w1, w2, w3, rfl⟩ : ∃ w0 w1 w2 w3, ws = [w0, w1, w2, w3] := by
    match ws, hw with
    | [a, b, c, d], _ => exact ⟨a, b, c, d, rfl⟩
  refine seq_R (fun rh mu => ∃ T1 T2 : Tab, tabsOk T1 63 ∧ tabsOk T2 63 ∧ mu = [.dn none (tN T1), .dn none (tN T2)] ∧ rh = [some (.d (.scr ns)), some (.d (.lst [.str w0, .str w1, .str w2, .str w3])), some (.loc 0), some (.loc 1), none, none, none, none, none, none, none, none, none]) (fun K hK => ?_) ?_
  · simp
    refine ⟨[w0, w1, w2, w3], rfl, hl, rfl, by simpa using hg, fun T1 T2 t1 t2 => ?_⟩
    exact hK _ _ ⟨T1, T2, t1, t2, rfl, rfl⟩
  rintro _ _ ⟨T1, T2, ⟨n1, l1⟩, ⟨n2, l2⟩, rfl, rfl⟩
  refine seq_to [some (.d (.scr ns)), some (.d (.lst [.str w0, .str w1, .str w2, .str w3])), some (.loc 0), some (.loc 1), some (.tup [.loc 2, .loc 3]), none, none, none, none, none, none, none, none] [.dn none (tN T1), .dn none (tN T2), .lst (tabL T1), .lst (tabL T2)] (fun K hK => ?_) ?_
  · simp
    refine ⟨n1, by omega, n2, by omega, by simp [sizeLine_eq], hK⟩
  refine seq_to [some (.d (.scr ns)), some (.d (.lst [.str w0, .str w1, .str w2, .str w3])), some (.loc 0), some (.loc 1), some (.tup [.loc 2, .loc 3]), some (.d (.tup [.lst (tabL T1), .lst (tabL T2)])), none, none, none, none, none, none, none] [.dn none (tN T1), .dn none (tN T2), .lst (tabL T1), .lst (tabL T2)] (fun K hK => ?_) ?_
  · simp [sizeLine_eq]
    exact hK
  obtain ⟨hs, eh⟩ : ∃ hs : List Nat, ((cutL ns (some 2) (some 12)).map fun c => c / 2 % 60) ++ [ns[1]?.getD 0 % 60] = hs.map fun n : Nat => (n : Int) := by
    refine ⟨(((cutL ns (some 2) (some 12)).map fun c => c / 2 % 60) ++ [ns[1]?.getD 0 % 60]).map Int.toNat, ?_⟩
    rw [List.map_map]
    refine ((List.map_congr_left fun x hx => ?_).trans (List.map_id _)).symm
    have : 0 ≤ x := by
      rcases List.mem_append.mp hx with h | h
      · obtain ⟨c, _, rfl⟩ := List.mem_map.mp h; omega
      · simp at h; omega
    show ((x.toNat : Nat) : Int) = x
    omega
  have hhl : hs.length ≤ 100 := by
    have := congrArg List.length eh
    simp at this
    have := cutL_len ns (some 2) (some 12)
    omega
  have hhs : ∀ n ∈ hs, n < 60 := fun n hn => by
    have : (n : Int) ∈ hs.map fun n : Nat => (n : Int) := List.mem_map.mpr ⟨n, hn, rfl⟩
    rw [← eh] at this
    rcases List.mem_append.mp this with h | h
    · obtain ⟨c, _, e⟩ := List.mem_map.mp h; omega
    · simp at h; omega
  refine seq_to [some (.d (.scr ns)), some (.d (.lst [.str w0, .str w1, .str w2, .str w3])), some (.loc 0), some (.loc 1), some (.tup [.loc 2, .loc 3]), some (.d (.tup [.lst (tabL T1), .lst (tabL T2)])), some (.d (.lst (hs.map fun n => .int (n : Nat)))), none, none, none, none, none, none] [.dn none (tN T1), .dn none (tN T2), .lst (tabL T1), .lst (tabL T2)] (fun K hK => ?_) ?_
  · have e2 : ((cutL ns (some 2) (some 12)).map fun c => D.int (c / 2 % 60)) ++ [D.int (ns[1]?.getD 0 % 60)] = hs.map fun n => .int (n : Nat) := by
      have := congrArg (List.map D.int) eh
      simpa [Function.comp_def] using this
    simp
    refine lc_A _ (fun c => .d (.int (c / 2 % 60))) trivial (fun x hx A hA => by simpa using hA) ?_
    have hc := cutL_len ns (some 2) (some 12)
    simp [asDs_mapf, sizeLine_eq]
    refine ⟨by omega, ?_⟩
    rw [e2]; exact hK
  have pt1 := (srtT_perm T1).symm
  have pt2 := (srtT_perm T2).symm
  let st : Sto := [.dn none (tN T1), .dn none (tN T2), .lst (tabL T1), .lst (tabL T2)]
  have sameB : ∀ {a b : WE} {rh : Ev} {n : Nat}, Is a rh st (.d (.int (n : Nat))) → Is b rh st (.d (.int (n : Nat))) → IsB (wNot (wTru (wCallP false sp__law_same [] (wCons a (wCons b wNil))))) rh st false := fun {a b rh n} ha hb K hK => by
    refine ha _ (hb _ ?_)
    simp [sp__law_same]
    exact ⟨⟨n, rfl⟩, hK⟩
  refine seq_R (fun rh mu => mu = st ∧ ∃ x1 x2 : Option W, rh = [some (.d (.scr ns)), some (.d (.lst [.str w0, .str w1, .str w2, .str w3])), some (.loc 0), some (.loc 1), some (.tup [.loc 2, .loc 3]), some (.d (.tup [.lst (tabL T1), .lst (tabL T2)])), some (.d (.lst (hs.map fun n => .int (n : Nat)))), none, x1, x2, none, none, none]) (fun K hK => ?_) ?_
  · refine for_lstM (f := fun n : Nat => D.int (n : Nat)) (fun K hK => by simpa using hK) ?_
    refine forL_S (fun n : Nat => .d (.int (n : Nat))) (fun _ rh mu => mu = st ∧ ∃ x1 x2 : Option W, rh = [some (.d (.scr ns)), some (.d (.lst [.str w0, .str w1, .str w2, .str w3])), some (.loc 0), some (.loc 1), some (.tup [.loc 2, .loc 3]), some (.d (.tup [.lst (tabL T1), .lst (tabL T2)])), some (.d (.lst (hs.map fun n => .int (n : Nat)))), none, x1, x2, none, none, none]) (fun _ _ _ _ => trivial) (fun _ _ h => hK _ _ h) ?_ ⟨rfl, _, _, rfl⟩
    rintro n R _ _ ⟨rfl, x1, x2, rfl⟩ N hN
    refine for_lst (ds := [.str w0, .str w1, .str w2, .str w3]) (fun K hK => by simpa using hK) ?_
    refine forL_S (fun w : D => .d w) (fun R rh mu => mu = st ∧ (∀ d ∈ R, ∃ w, d = .str w) ∧ ∃ x2 : Option W, rh = [some (.d (.scr ns)), some (.d (.lst [.str w0, .str w1, .str w2, .str w3])), some (.loc 0), some (.loc 1), some (.tup [.loc 2, .loc 3]), some (.d (.tup [.lst (tabL T1), .lst (tabL T2)])), some (.d (.lst (hs.map fun n => .int (n : Nat)))), none, some (.d (.int (n : Nat))), x2, none, none, none]) (fun _ _ _ _ => trivial) ?_ ?_ ⟨rfl, by simp, _, rfl⟩
    · rintro _ _ ⟨rfl, _, x2, rfl⟩
      exact hN _ _ ⟨rfl, _, _, rfl⟩
    · rintro d R _ _ ⟨rfl, hR, x2, rfl⟩ N' hN'
      obtain ⟨w, rfl⟩ := hR d (by simp)
      have hR' : ∀ d ∈ R, ∃ w, d = .str w := fun d hd => hR d (by simp [hd])
      refine ifS_F (sameB (n := tOf T1 n w) (fun K hK => ?_) (fun K hK => ?_)) (hN' _ _ ⟨rfl, hR', _, rfl⟩)
      · have e := tGet_perm pt1 n1 n w
        simp [sp_holds]
        refine ⟨srtT T1, rfl, n, rfl, ?_⟩
        unfold tOf at hK ⊢
        rw [← e]; exact hK
      · have g2 := valN_t T1 n w
        have kt : tKey n w = .tup [.int (n : Nat), .str w] := rfl
        rw [kt] at g2
        simp [st, g2, sizeLine_eq]
        unfold tOf at hK
        cases q : tGet T1 n w with
        | none => rw [q] at hK; simpa using hK
        | some v => rw [q] at hK; simpa using hK
  rintro _ _ ⟨rfl, x1, x2, rfl⟩
  obtain ⟨m, em⟩ : ∃ m : Nat, (ns[1]?.getD 0 * 48271 % 1152921504606846976 : Int) = m := ⟨_, (Int.toNat_of_nonneg (Int.emod_nonneg _ (by decide))).symm⟩
  refine seq_to [some (.d (.scr ns)), some (.d (.lst [.str w0, .str w1, .str w2, .str w3])), some (.loc 0), some (.loc 1), some (.tup [.loc 2, .loc 3]), some (.d (.tup [.lst (tabL T1), .lst (tabL T2)])), some (.d (.lst (hs.map fun n => .int (n : Nat)))), none, x1, x2, some (.d (.lst (([0, 1152921504606846975, m] ++ hs.map (fun h => 2 ^ h) : List Nat).map fun n => .int (n : Nat)))), none, none] st (fun K hK => ?_) ?_
  · refine asg_to (.d (.lst (([0, 1152921504606846975, m] ++ hs.map (fun h => 2 ^ h) : List Nat).map fun n => .int (n : Nat)))) (op_to (.d (.lst [.int 0, .int 1152921504606846975, .int (m : Nat)])) (.d (.lst (hs.map fun n => .int ((2 : Int) ^ n)))) _ (fun K hK => ?_) (fun K hK => ?_) (fun K hK => ?_)) hK
    · rw [← em] at hK
      simp [sizeLine_eq]
      simpa using hK
    · simp
      refine lc_A (fun n : Nat => W.d (.int (n : Nat))) (fun n => .d (.int ((2 : Int) ^ n))) trivial (fun x hx A hA => ?_) ?_
      · have := hhs x hx
        have sk : CShl 1 (x : Int) := shl63 (by omega)
        simpa [sk] using hA
      · simpa [asDs_mapf] using hK
    · simp [sizeLine_eq]
      refine ⟨by omega, ?_⟩
      simpa [Function.comp_def] using hK
  generalize ([0, 1152921504606846975, m] ++ hs.map (fun h => 2 ^ h) : List Nat) = S
  refine seq_R (fun rh mu => mu = st ∧ ∃ x1 x2 x3 x4 : Option W, rh = [some (.d (.scr ns)), some (.d (.lst [.str w0, .str w1, .str w2, .str w3])), some (.loc 0), some (.loc 1), some (.tup [.loc 2, .loc 3]), some (.d (.tup [.lst (tabL T1), .lst (tabL T2)])), some (.d (.lst (hs.map fun n => .int (n : Nat)))), none, x1, x2, some (.d (.lst (S.map fun n => .int (n : Nat)))), x3, x4]) (fun K hK => ?_) ?_
  · refine for_lstM (f := fun n : Nat => D.int (n : Nat)) (fun K hK => by simpa using hK) ?_
    refine forL_S (fun n : Nat => .d (.int (n : Nat))) (fun _ rh mu => mu = st ∧ ∃ x1 x2 x3 x4 : Option W, rh = [some (.d (.scr ns)), some (.d (.lst [.str w0, .str w1, .str w2, .str w3])), some (.loc 0), some (.loc 1), some (.tup [.loc 2, .loc 3]), some (.d (.tup [.lst (tabL T1), .lst (tabL T2)])), some (.d (.lst (hs.map fun n => .int (n : Nat)))), none, x1, x2, some (.d (.lst (S.map fun n => .int (n : Nat)))), x3, x4]) (fun _ _ _ _ => trivial) (fun _ _ h => hK _ _ h) ?_ ⟨rfl, _, _, _, _, rfl⟩
    rintro n R _ _ ⟨rfl, x1, x2, x3, x4, rfl⟩ N hN
    have sl : ∀ w ∈ [w0, w1, w2, w3], (Str.ofString ".").length + w.length ≤ 16777216 := fun w hw => by have := (hg w hw).2.1; have : (Str.ofString ".").length = 1 := (by decide +kernel); omega
    refine for_lst (ds := [.str (Str.ofString "#"), .str (Str.ofString "." ++ w0), .str (Str.ofString "." ++ w1), .str (Str.ofString "." ++ w2)]) (fun K hK => by
      simp [sizeLine_eq]
      exact ⟨sl w0 (by simp), sl w1 (by simp), sl w2 (by simp), hK⟩) ?_
    refine forL_S (fun w : D => .d w) (fun R rh mu => mu = st ∧ (∀ d ∈ R, ∃ w, d = .str w) ∧ ∃ x4 : Option W, rh = [some (.d (.scr ns)), some (.d (.lst [.str w0, .str w1, .str w2, .str w3])), some (.loc 0), some (.loc 1), some (.tup [.loc 2, .loc 3]), some (.d (.tup [.lst (tabL T1), .lst (tabL T2)])), some (.d (.lst (hs.map fun n => .int (n : Nat)))), none, x1, x2, some (.d (.lst (S.map fun n => .int (n : Nat)))), some (.d (.int (n : Nat))), x4]) (fun _ _ _ _ => trivial) ?_ ?_ ⟨rfl, by simp, _, rfl⟩
    · rintro _ _ ⟨rfl, _, x4, rfl⟩
      exact hN _ _ ⟨rfl, _, _, _, _, rfl⟩
    · rintro d R _ _ ⟨rfl, hR, x4, rfl⟩ N' hN'
      obtain ⟨w, rfl⟩ := hR d (by simp)
      have hR' : ∀ d ∈ R, ∃ w, d = .str w := fun d hd => hR d (by simp [hd])
      refine ifS_F (sameB (n := keepsT T2 n w) (fun K hK => ?_) (fun K hK => ?_)) (hN' _ _ ⟨rfl, hR', _, rfl⟩)
      · simp [sp_keeps]
        refine ⟨srtT T2, rfl, n, rfl, ?_⟩
        rw [← keeps_perm pt2]; exact hK
      · simp [st]
        exact ⟨T2, n, rfl, rfl, n2, by omega, hK⟩
  rintro _ _ ⟨rfl, x1, x2, x3, x4, rfl⟩
  have d1 := tabL_dep T1
  have d2 := tabL_dep T2
  have e1 := deqvs_refl (tabL T1) (by omega)
  have e2 := deqvs_refl (tabL T2) (by omega)
  have f1 : ∀ mu, Q (.d (.bl true)) mu := h
  refine ret_to (.d (.bl true)) (fun K hK => ?_) (f1 _)
  simp [st, e1, e2]
  exact ⟨by omega, hK⟩
end VL
namespace VLD
open PySem PySem.Spec PyProof.Rows L2 RZ VL
def top (i : Nat) : Stmt := PySem.Challenge.pw_slicewise_k20_holds_and_keeps.main.body.getD i (.Pass ⟨0, 0, 0, 0⟩)
structure Txt (K : KW) (mg : Str → Option Value) : Prop where
  n_len : mg "len" = none
  n_range : mg "range" = none
  n_str : mg "str" = none
  n_isinstance : mg "isinstance" = none
  n_int : mg "int" = none
  n_bool : mg "bool" = none
  n_list : mg "list" = none
  n_tuple : mg "tuple" = none
  n_zip : mg "zip" = none
  n_sorted : mg "sorted" = none
section
variable {P : Program} {K : KW} {mg : Str → Option Value} {base : Heap}
abbrev s_holds : Stmt := top 1
theorem sc_holds : FnScope ["table", "home", "name", "there", "word", "some"] ["table", "home", "name"] (defScope s_holds) := ⟨rfl, rfl, rfl, by decide +kernel, rfl, by decide +kernel, by decide +kernel⟩
theorem d_holds {f : Addr} {fd : FuncData} (F : Fun K "holds" "holds" s_holds f fd) (hm : mg "holds" = some (.ref f)) (T : Txt K mg) : Def P K.w K mg base "holds" 1 [] (pSp sp_holds) :=
  def_mk F hm sc_holds (F.binds (ps := ["table", "home", "name"]) fun _ _ _ _ _ _ us hl => match us, hl with | [_, _, _], _ => rfl) (fun _ _ _ h => len3 h) fun cdv A outer s H E y => ⟨w_holds, (vss_cons (vs_for PassesOwn.never rfl (vi_seq y (ve_ix y (ve_v y 0) ve_int)) (vk_tup y 3 (vks_cons (vk_name y 3 [3, 4, 5]) (vks_cons (vk_name y 4 [3, 4, 5]) (vks_cons (vk_name y 5 [3, 4, 5]) (vks_nil [3, 4, 5]))))) (vss_one (vs_if (VW.vt (vw_and (vt_cmp (c_eq y) (ve_v y 3) (ve_v y 1)) (vw_and1 (vt_cmp (c_eq y) (ve_v y 4) (ve_v y 2))))) (vss_one (vs_ret (ve_v y 5))) vss_nil)))
    (vss_one (vs_ret ve_int))), at3 v_holds⟩
abbrev s_keeps : Stmt := top 2
theorem sc_keeps : FnScope ["table", "rows", "kind", "total", "row", "word", "some"] ["table", "rows", "kind"] (defScope s_keeps) := ⟨rfl, rfl, rfl, by decide +kernel, rfl, by decide +kernel, by decide +kernel⟩
theorem d_keeps {f : Addr} {fd : FuncData} (F : Fun K "keeps" "keeps" s_keeps f fd) (hm : mg "keeps" = some (.ref f)) (T : Txt K mg) : Def P K.w K mg base "keeps" 1 [] (pSp sp_keeps) :=
  def_mk F hm sc_keeps (F.binds (ps := ["table", "rows", "kind"]) fun _ _ _ _ _ _ us hl => match us, hl with | [_, _, _], _ => rfl) (fun _ _ _ h => len3 h) fun cdv A outer s H E y => ⟨w_keeps, (vss_cons (vs_set y 3 ve_int)
    (vss_cons (vs_for PassesOwn.never rfl (vi_seq y (ve_ix y (ve_v y 0) ve_int)) (vk_tup y 3 (vks_cons (vk_name y 4 [4, 5, 6]) (vks_cons (vk_name y 5 [4, 5, 6]) (vks_cons (vk_name y 6 [4, 5, 6]) (vks_nil [4, 5, 6]))))) (vss_one (vs_if (VW.vt (vw_and (vt_cmp (c_eq y) (ve_v y 5) (ve_v y 2)) (vw_and1 (vt_cmp (c_eq y) (ve_and (ve_shr (ve_v y 1) (ve_v y 4)) ve_int) ve_int)))) (vss_one (vs_set y 3 (ve_or (ve_v y 3) (ve_v y 6)))) vss_nil)))
    (vss_one (vs_ret (ve_v y 3))))), at3 v_keeps⟩
abbrev s__law_cell_at : Stmt := top 4
theorem sc__law_cell_at : FnScope ["_law_script", "_law_k"] ["_law_script", "_law_k"] (defScope s__law_cell_at) := ⟨rfl, rfl, rfl, by decide +kernel, rfl, by decide +kernel, by decide +kernel⟩
theorem d__law_cell_at {f : Addr} {fd : FuncData} (F : Fun K "_law_cell_at" "_law_cell_at" s__law_cell_at f fd) (hm : mg "_law_cell_at" = some (.ref f)) (T : Txt K mg) : Def P K.w K mg base "_law_cell_at" 1 [] (pSp sp__law_cell_at) :=
  def_mk F hm sc__law_cell_at (F.binds (ps := ["_law_script", "_law_k"]) fun _ _ _ _ _ _ us hl => match us, hl with | [_, _], _ => rfl) (fun _ _ _ h => len2 h) fun cdv A outer s H E y => ⟨w__law_cell_at, (vss_cons (vs_if (vt_cmp (c_lt y) (ve_v y 1) (ve_len y T.n_len (va_cons (ve_v y 0) va_nil))) (vss_one (vs_ret (ve_ix y (ve_v y 0) (ve_v y 1)))) vss_nil)
    (vss_one (vs_ret ve_int))), at2 v__law_cell_at⟩
abbrev s__law_words : Stmt := top 5
theorem sc__law_words : FnScope ["_law_cell", "_law_many", "_law_letters", "_law_size", "_law_at", "_law_words_here", "_law_k", "_law_word", "_law_j", "_law_number"] ["_law_cell", "_law_many"] (defScope s__law_words) := ⟨rfl, rfl, rfl, by decide +kernel, rfl, by decide +kernel, by decide +kernel⟩
theorem d__law_words {f : Addr} {fd : FuncData} (F : Fun K "_law_words" "_law_words" s__law_words f fd) (hm : mg "_law_words" = some (.ref f)) (T : Txt K mg) : Def P K.w K mg base "_law_words" 1 [] (pSp sp__law_words) :=
  def_mk F hm sc__law_words (F.binds (ps := ["_law_cell", "_law_many"]) fun _ _ _ _ _ _ us hl => match us, hl with | [_, _], _ => rfl) (fun _ _ _ h => len2 h) fun cdv A outer s H E y => ⟨w__law_words, (vss_cons (vs_set y 2 ve_str)
    (vss_cons (vs_set y 0 (ve_mod (ve_v y 0) (ve_pow ve_int ve_int)))
    (vss_cons (vs_set y 3 (ve_add y false ve_int (ve_mod (ve_v y 0) ve_int)))
    (vss_cons (vs_set y 4 (ve_mod (ve_fdiv (ve_v y 0) ve_int) (ve_v y 3)))
    (vss_cons (vs_set y 5 (ve_lst true va_nil))
    (vss_cons (vs_for PassesOwn.never rfl (vi_rng1 y T.n_range (va_cons (ve_v y 1) va_nil)) (vk_name y 6 [6]) (vss_cons (vs_set y 7 ve_str)
    (vss_cons (vs_for PassesOwn.never rfl (vi_rng1 y T.n_range (va_cons (ve_v y 3) va_nil)) (vk_name y 8 [8]) (vss_cons (vs_set y 9 (ve_add y false (ve_fdiv (ve_fdiv (ve_v y 0) ve_int) (ve_add y false (ve_v y 8) ve_int)) (ve_mul false (ve_v y 8) (ve_v y 8))))
    (vss_cons (vs_if (vt_cmp (c_eq y) (ve_v y 8) (ve_v y 4)) (vss_one (vs_augAdd y 9 (ve_v y 6))) vss_nil)
    (vss_one (vs_set y 7 (ve_add y false (ve_v y 7) (ve_ix y (ve_v y 2) (ve_mod (ve_v y 9) ve_int))))))))
    (vss_one (vs_expr (ve_append y (ve_v y 5) (va_cons (ve_v y 7) va_nil)))))))
    (vss_cons (vs_if (vt_cmp (c_eq y) (ve_mod (ve_fdiv (ve_v y 0) ve_int) ve_int) ve_int) (vss_one (vs_asg (ve_add y false (ve_ix y (ve_v y 5) ve_int) (ve_ix y (ve_v y 2) (ve_mod (ve_fdiv (ve_v y 0) ve_int) ve_int))) (vg_subL (ve_v y 5) ve_int))) vss_nil)
    (vss_one (vs_ret (ve_v y 5)))))))))), at2 v__law_words⟩
abbrev s__law_same : Stmt := top 6
theorem sc__law_same : FnScope ["_law_found", "_law_due", "_law_one", "_law_other"] ["_law_found", "_law_due"] (defScope s__law_same) := ⟨rfl, rfl, rfl, by decide +kernel, rfl, by decide +kernel, by decide +kernel⟩
theorem d__law_same {f : Addr} {fd : FuncData} (F : Fun K "_law_same" "_law_same" s__law_same f fd) (hm : mg "_law_same" = some (.ref f)) (T : Txt K mg) : Def P K.w K mg base "_law_same" 1 [] (pSp sp__law_same) :=
  def_mk F hm sc__law_same (F.binds (ps := ["_law_found", "_law_due"]) fun _ _ _ _ _ _ us hl => match us, hl with | [_, _], _ => rfl) (fun _ _ _ h => len2 h) fun cdv A outer s H E y => ⟨w__law_same, (vss_cons (vs_if (vt_cmp (c_is y) (ve_v y 1) ve_non) (vss_one (vs_ret (ve_cmp (c_is y) (ve_v y 0) ve_non))) vss_nil)
    (vss_cons (vs_if (vt_truth y (ve_isi y T.n_isinstance (va_cons (ve_v y 1) (va_cons (ve_ty y T.n_str) va_nil)))) (vss_one (vs_ret (ve_andV (ve_isi y T.n_isinstance (va_cons (ve_v y 0) (va_cons (ve_ty y T.n_str) va_nil))) (ve_one (ve_cmp (c_eq y) (ve_v y 0) (ve_v y 1)))))) vss_nil)
    (vss_cons (vs_if (vt_truth y (ve_isi y T.n_isinstance (va_cons (ve_v y 1) (va_cons (ve_ty y T.n_int) va_nil)))) (vss_one (vs_ret (ve_andV (ve_isi y T.n_isinstance (va_cons (ve_v y 0) (va_cons (ve_ty y T.n_int) va_nil))) (ve_andV (ve_not y (ve_isi y T.n_isinstance (va_cons (ve_v y 0) (va_cons (ve_ty y T.n_bool) va_nil)))) (ve_one (ve_cmp (c_eq y) (ve_v y 0) (ve_v y 1))))))) vss_nil)
    (vss_cons (vs_if (VW.vt (vw_and (vt_truth y (ve_isi y T.n_isinstance (va_cons (ve_v y 1) (va_cons (ve_ty y T.n_list) va_nil)))) (vw_and1 (vt_not (vt_truth y (ve_isi y T.n_isinstance (va_cons (ve_v y 0) (va_cons (ve_ty y T.n_list) va_nil)))))))) (vss_one (vs_ret ve_bl)) vss_nil)
    (vss_cons (vs_if (VW.vt (vw_and (vt_truth y (ve_isi y T.n_isinstance (va_cons (ve_v y 1) (va_cons (ve_ty y T.n_tuple) va_nil)))) (vw_and1 (vt_not (vt_truth y (ve_isi y T.n_isinstance (va_cons (ve_v y 0) (va_cons (ve_ty y T.n_tuple) va_nil)))))))) (vss_one (vs_ret ve_bl)) vss_nil)
    (vss_cons (vs_if (vt_cmp (c_ne y) (ve_len y T.n_len (va_cons (ve_v y 0) va_nil)) (ve_len y T.n_len (va_cons (ve_v y 1) va_nil))) (vss_one (vs_ret ve_bl)) vss_nil)
    (vss_cons (vs_for PassesOwn.never rfl (vi_zip y T.n_zip (va_cons (ve_v y 0) (va_cons (ve_v y 1) va_nil))) (vk_tup y 2 (vks_cons (vk_name y 2 [2, 3]) (vks_cons (vk_name y 3 [2, 3]) (vks_nil [2, 3])))) (vss_one vs_never))
    (vss_one (vs_ret ve_bl))))))))), at2 v__law_same⟩
abbrev s__law_filled : Stmt := top 7
theorem sc__law_filled : FnScope ["_law_script", "_law_words_here", "_law_names", "_law_cells", "_law_cell", "_law_number", "_law_some"] ["_law_script", "_law_words_here"] (defScope s__law_filled) := ⟨rfl, rfl, rfl, by decide +kernel, rfl, by decide +kernel, by decide +kernel⟩
theorem d__law_filled {f : Addr} {fd : FuncData} (F : Fun K "_law_filled" "_law_filled" s__law_filled f fd) (hm : mg "_law_filled" = some (.ref f)) (T : Txt K mg) : Def P K.w K mg base "_law_filled" 1 [] (pSp sp__law_filled) :=
  def_mk F hm sc__law_filled (F.binds (ps := ["_law_script", "_law_words_here"]) fun _ _ _ _ _ _ us hl => match us, hl with | [_, _], _ => rfl) (fun _ _ _ h => len2 h) fun cdv A outer s H E y => ⟨w__law_filled, (vss_cons (vs_set y 2 (ve_nnew y))
    (vss_cons (vs_set y 3 (ve_nnew y))
    (vss_cons (vs_for PassesOwn.never rfl (vi_seq y (ve_slice y false (ve_v y 0) (vo_some ve_int) vo_none)) (vk_name y 4 [4]) (vss_cons (vs_set y 5 (ve_fdiv (ve_v y 4) ve_int))
    (vss_cons (vs_set y 6 (ve_add y false ve_int (ve_mod (ve_mul false (ve_v y 5) ve_int) (ve_sub (ve_pow ve_int ve_int) ve_int))))
    (vss_one (vs_if (vt_cmp (c_eq y) (ve_mod (ve_v y 4) ve_int) ve_int) (vss_one (vs_nput y (ve_v y 2) (ve_tup (va_cons (ve_mod (ve_fdiv (ve_v y 4) ve_int) ve_int) (va_cons (ve_ix y (ve_v y 1) (ve_mod (ve_v y 5) ve_int)) va_nil))) (ve_v y 6))) (vss_one (vs_nput y (ve_v y 3) (ve_tup (va_cons (ve_mod (ve_fdiv (ve_v y 4) ve_int) ve_int) (va_cons (ve_ix y (ve_lst false (va_cons ve_str (va_cons (ve_add y false ve_str (ve_ix y (ve_v y 1) ve_int)) (va_cons (ve_add y false ve_str (ve_ix y (ve_v y 1) ve_int)) va_nil)))) (ve_mod (ve_v y 5) ve_int)) va_nil))) (ve_v y 6))))))))
    (vss_one (vs_ret (ve_tup (va_cons (ve_v y 2) (va_cons (ve_v y 3) va_nil)))))))), at2 v__law_filled⟩
abbrev s__law_told : Stmt := top 8
theorem sc__law_told : FnScope ["_law_some", "_law_key"] ["_law_some"] (defScope s__law_told) := ⟨rfl, rfl, rfl, by decide +kernel, rfl, by decide +kernel, by decide +kernel⟩
theorem d__law_told {f : Addr} {fd : FuncData} (F : Fun K "_law_told" "_law_told" s__law_told f fd) (hm : mg "_law_told" = some (.ref f)) (T : Txt K mg) : Def P K.w K mg base "_law_told" 1 [] sp__law_told :=
  def_mk F hm sc__law_told (F.binds (ps := ["_law_some"]) fun _ _ _ _ _ _ us hl => match us, hl with | [_], _ => rfl) (fun _ _ _ h => lenS1 h) fun cdv A outer s H E y => ⟨w__law_told, (vss_one (vs_ret (ve_sortedR y true T.n_sorted (va_cons (ve_lock (ve_lc y false (own := [("_law_key", 1)]) (vi_nkeys y (ve_v y 0)) (fun _ => (blkOk_at (S := defScope s__law_told) (by decide +kernel))) (vk_name (YOk.blk y _) 1 [1]) vts_nil (ve_tup (va_cons (ve_ix (YOk.blk y _) (ve_v (YOk.blk y _) 1) ve_int) (va_cons (ve_ix (YOk.blk y _) (ve_v (YOk.blk y _) 1) ve_int) (va_cons (ve_nget (YOk.blk y _) (ve_v (YOk.blk y _) 0) (ve_v (YOk.blk y _) 1)) va_nil)))))) va_nil)))), atS1 v__law_told⟩
abbrev s__law_kept : Stmt := top 9
theorem sc__law_kept : FnScope ["_law_cells", "_law_rows", "_law_kind", "_law_total", "_law_row", "_law_other"] ["_law_cells", "_law_rows", "_law_kind"] (defScope s__law_kept) := ⟨rfl, rfl, rfl, by decide +kernel, rfl, by decide +kernel, by decide +kernel⟩
theorem d__law_kept {f : Addr} {fd : FuncData} (F : Fun K "_law_kept" "_law_kept" s__law_kept f fd) (hm : mg "_law_kept" = some (.ref f)) (T : Txt K mg) : Def P K.w K mg base "_law_kept" 1 [] sp__law_kept :=
  def_mk F hm sc__law_kept (F.binds (ps := ["_law_cells", "_law_rows", "_law_kind"]) fun _ _ _ _ _ _ us hl => match us, hl with | [_, _, _], _ => rfl) (fun _ _ _ h => lenS3 h) fun cdv A outer s H E y => ⟨w__law_kept, (vss_cons (vs_set y 3 ve_int)
    (vss_cons (vs_lock (vs_for PassesOwn.never rfl (vi_nkeys y (ve_v y 0)) (vk_tup y 2 (vks_cons (vk_name y 4 [4, 5]) (vks_cons (vk_name y 5 [4, 5]) (vks_nil [4, 5])))) (vss_one (vs_if (VW.vt (vw_and (vt_cmp (c_eq y) (ve_v y 5) (ve_v y 2)) (vw_and1 (vt_cmp (c_eq y) (ve_mod (ve_shr (ve_v y 1) (ve_v y 4)) ve_int) ve_int)))) (vss_one (vs_set y 3 (ve_or (ve_v y 3) (ve_nget y (ve_v y 0) (ve_tup (va_cons (ve_v y 4) (va_cons (ve_v y 5) va_nil))))))) vss_nil))))
    (vss_one (vs_ret (ve_v y 3))))), atS3 v__law_kept⟩
abbrev s_law : Stmt := top 10
theorem sc_law : FnScope ["_law_script", "_law_words_here", "_law_names", "_law_cells", "_law_table", "_law_lent", "_law_homes", "_law_cell", "_law_home", "_law_name", "_law_sets", "_law_rows", "_law_kind"] ["_law_script"] (defScope s_law) := ⟨rfl, rfl, rfl, by decide +kernel, rfl, by decide +kernel, by decide +kernel⟩
end
theorem d_law_ok {P : Program} {K : KW} {mg : Str → Option Value} {base : Heap} {f : Addr} {fd : FuncData} (F : Fun K "law" "law" s_law f fd) (T : Txt K mg) (d__law_words : Def P K.w K mg base "_law_words" 1 [] (pSp sp__law_words)) (d__law_cell_at : Def P K.w K mg base "_law_cell_at" 1 [] (pSp sp__law_cell_at)) (d__law_filled : Def P K.w K mg base "_law_filled" 1 [] (pSp sp__law_filled)) (d__law_told : Def P K.w K mg base "_law_told" 1 [] sp__law_told) (d__law_same : Def P K.w K mg base "_law_same" 1 [] (pSp sp__law_same)) (d_holds : Def P K.w K mg base "holds" 1 [] (pSp sp_holds)) (d__law_kept : Def P K.w K mg base "_law_kept" 1 [] sp__law_kept) (d_keeps : Def P K.w K mg base "keeps" 1 [] (pSp sp_keeps)) : FnOk P K.w K mg base CX0 2 f fd ["_law_script"] (toSp K (pSp lawSp)) :=
  fnv_ok F sc_law (fun _ _ _ h => lenL h) fun cdv A outer s H E y => ⟨w_law, (vss_cons (vs_set y 1 (ve_callP y false d__law_words (by decide) (va_cons (ve_callP y false d__law_cell_at (by decide) (va_cons (ve_v y 0) (va_cons ve_int va_nil))) (va_cons ve_int va_nil))))
    (vss_cons (vs_asg (ve_callP y true d__law_filled (by decide) (va_cons (ve_v y 0) (va_cons (ve_v y 1) va_nil))) (VK.vg (vk_tup y 2 (vks_cons (vk_name y 2 [2, 3]) (vks_cons (vk_name y 3 [2, 3]) (vks_nil [2, 3]))))))
    (vss_cons (vs_set y 4 (ve_tup (va_cons (ve_callS y d__law_told (by decide) (va_cons (ve_v y 2) va_nil)) (va_cons (ve_callS y d__law_told (by decide) (va_cons (ve_v y 3) va_nil)) va_nil))))
    (vss_cons (vs_set y 5 (ve_tup (va_cons (ve_list y false T.n_list (va_cons (ve_ix y (ve_v y 4) ve_int) va_nil)) (va_cons (ve_list y false T.n_list (va_cons (ve_ix y (ve_v y 4) ve_int) va_nil)) va_nil))))
    (vss_cons (vs_set y 6 (ve_add y false (ve_lc y false (own := [("_law_cell", 7)]) (vi_seq y (ve_slice y false (ve_v y 0) (vo_some ve_int) (vo_some ve_int))) (fun _ => (blkOk_at (S := defScope s_law) (by decide +kernel))) (vk_name (YOk.blk y _) 7 [7]) vts_nil (ve_mod (ve_fdiv (ve_v (YOk.blk y _) 7) ve_int) ve_int)) (ve_lst false (va_cons (ve_mod (ve_callP y false d__law_cell_at (by decide) (va_cons (ve_v y 0) (va_cons ve_int va_nil))) ve_int) va_nil))))
    (vss_cons (vs_for PassesOwn.never rfl (vi_seq y (ve_v y 6)) (vk_name y 8 [8]) (vss_one (vs_for PassesOwn.never rfl (vi_seq y (ve_v y 1)) (vk_name y 9 [9]) (vss_one (vs_if (vt_not (vt_truth y (ve_callP y false d__law_same (by decide) (va_cons (ve_callP y false d_holds (by decide) (va_cons (ve_v y 5) (va_cons (ve_v y 8) (va_cons (ve_v y 9) va_nil)))) (va_cons (ve_nget2 y (ve_v y 2) (ve_tup (va_cons (ve_v y 8) (va_cons (ve_v y 9) va_nil))) ve_int) va_nil))))) (vss_one (vs_ret ve_bl)) vss_nil)))))
    (vss_cons (vs_set y 10 (ve_add y false (ve_lst false (va_cons ve_int (va_cons (ve_sub (ve_pow ve_int ve_int) ve_int) (va_cons (ve_mod (ve_mul false (ve_callP y false d__law_cell_at (by decide) (va_cons (ve_v y 0) (va_cons ve_int va_nil))) ve_int) (ve_pow ve_int ve_int)) va_nil)))) (ve_lc y false (own := [("_law_home", 8)]) (vi_seq y (ve_v y 6)) (fun _ => (blkOk_at (S := defScope s_law) (by decide +kernel))) (vk_name (YOk.blk y _) 8 [8]) vts_nil (ve_shl ve_int (ve_v (YOk.blk y _) 8)))))
    (vss_cons (vs_for PassesOwn.never rfl (vi_seq y (ve_v y 10)) (vk_name y 11 [11]) (vss_one (vs_for PassesOwn.never rfl (vi_seq y (ve_lst false (va_cons ve_str (va_cons (ve_add y false ve_str (ve_ix y (ve_v y 1) ve_int)) (va_cons (ve_add y false ve_str (ve_ix y (ve_v y 1) ve_int)) (va_cons (ve_add y false ve_str (ve_ix y (ve_v y 1) ve_int)) va_nil)))))) (vk_name y 12 [12]) (vss_one (vs_if (vt_not (vt_truth y (ve_callP y false d__law_same (by decide) (va_cons (ve_callP y false d_keeps (by decide) (va_cons (ve_v y 5) (va_cons (ve_v y 11) (va_cons (ve_v y 12) va_nil)))) (va_cons (ve_callS y d__law_kept (by decide) (va_cons (ve_v y 3) (va_cons (ve_v y 11) (va_cons (ve_v y 12) va_nil)))) va_nil))))) (vss_one (vs_ret ve_bl)) vss_nil)))))
    (vss_one (vs_ret (ve_cmp (c_eq y) (ve_v y 5) (ve_v y 4)))))))))))), atL v_law⟩
theorem all_mk {P : Program} {w : World} {K : PySem.W.Frag} {h : Heap} {mg : Str → Option Value} {fa : Addr} (X : K.In h) (G : h.Ns mainGlobals mg) (hfa : mg "law" = some (.ref fa)) {f_holds f_keeps f__law_cell_at f__law_words f__law_same f__law_filled f__law_told f__law_kept f_law : Addr}
    {oc_holds kV_holds dc_holds pm_holds cd_holds ct_holds : Value} {od_holds an_holds : Option Addr} {sl_holds : Array (Option Value)}
    {oc_keeps kV_keeps dc_keeps pm_keeps cd_keeps ct_keeps : Value} {od_keeps an_keeps : Option Addr} {sl_keeps : Array (Option Value)}
    {oc__law_cell_at kV__law_cell_at dc__law_cell_at pm__law_cell_at cd__law_cell_at ct__law_cell_at : Value} {od__law_cell_at an__law_cell_at : Option Addr} {sl__law_cell_at : Array (Option Value)}
    {oc__law_words kV__law_words dc__law_words pm__law_words cd__law_words ct__law_words : Value} {od__law_words an__law_words : Option Addr} {sl__law_words : Array (Option Value)}
    {oc__law_same kV__law_same dc__law_same pm__law_same cd__law_same ct__law_same : Value} {od__law_same an__law_same : Option Addr} {sl__law_same : Array (Option Value)}
    {oc__law_filled kV__law_filled dc__law_filled pm__law_filled cd__law_filled ct__law_filled : Value} {od__law_filled an__law_filled : Option Addr} {sl__law_filled : Array (Option Value)}
    {oc__law_told kV__law_told dc__law_told pm__law_told cd__law_told ct__law_told : Value} {od__law_told an__law_told : Option Addr} {sl__law_told : Array (Option Value)}
    {oc__law_kept kV__law_kept dc__law_kept pm__law_kept cd__law_kept ct__law_kept : Value} {od__law_kept an__law_kept : Option Addr} {sl__law_kept : Array (Option Value)}
    {oc_law kV_law dc_law pm_law cd_law ct_law : Value} {od_law an_law : Option Addr} {sl_law : Array (Option Value)}
    (a_holds : PySem.W.nsIn K mainGlobals "holds" = some (some (.ref f_holds)))
    (l_holds : K.lookup f_holds = some ⟨oc_holds, od_holds, .func (PySem.W.fnOf "holds" "holds" (defArgs s_holds) (defBody s_holds) (defScope s_holds) .none kV_holds dc_holds pm_holds an_holds cd_holds ct_holds), sl_holds⟩)
    (c_holds : PySem.W.codeIn K cd_holds "holds" = true)
    (k_holds : PySem.W.keepIn K (.ref f_holds) = true)
    (a_keeps : PySem.W.nsIn K mainGlobals "keeps" = some (some (.ref f_keeps)))
    (l_keeps : K.lookup f_keeps = some ⟨oc_keeps, od_keeps, .func (PySem.W.fnOf "keeps" "keeps" (defArgs s_keeps) (defBody s_keeps) (defScope s_keeps) .none kV_keeps dc_keeps pm_keeps an_keeps cd_keeps ct_keeps), sl_keeps⟩)
    (c_keeps : PySem.W.codeIn K cd_keeps "keeps" = true)
    (k_keeps : PySem.W.keepIn K (.ref f_keeps) = true)
    (a__law_cell_at : PySem.W.nsIn K mainGlobals "_law_cell_at" = some (some (.ref f__law_cell_at)))
    (l__law_cell_at : K.lookup f__law_cell_at = some ⟨oc__law_cell_at, od__law_cell_at, .func (PySem.W.fnOf "_law_cell_at" "_law_cell_at" (defArgs s__law_cell_at) (defBody s__law_cell_at) (defScope s__law_cell_at) .none kV__law_cell_at dc__law_cell_at pm__law_cell_at an__law_cell_at cd__law_cell_at ct__law_cell_at), sl__law_cell_at⟩)
    (c__law_cell_at : PySem.W.codeIn K cd__law_cell_at "_law_cell_at" = true)
    (k__law_cell_at : PySem.W.keepIn K (.ref f__law_cell_at) = true)
    (a__law_words : PySem.W.nsIn K mainGlobals "_law_words" = some (some (.ref f__law_words)))
    (l__law_words : K.lookup f__law_words = some ⟨oc__law_words, od__law_words, .func (PySem.W.fnOf "_law_words" "_law_words" (defArgs s__law_words) (defBody s__law_words) (defScope s__law_words) .none kV__law_words dc__law_words pm__law_words an__law_words cd__law_words ct__law_words), sl__law_words⟩)
    (c__law_words : PySem.W.codeIn K cd__law_words "_law_words" = true)
    (k__law_words : PySem.W.keepIn K (.ref f__law_words) = true)
    (a__law_same : PySem.W.nsIn K mainGlobals "_law_same" = some (some (.ref f__law_same)))
    (l__law_same : K.lookup f__law_same = some ⟨oc__law_same, od__law_same, .func (PySem.W.fnOf "_law_same" "_law_same" (defArgs s__law_same) (defBody s__law_same) (defScope s__law_same) .none kV__law_same dc__law_same pm__law_same an__law_same cd__law_same ct__law_same), sl__law_same⟩)
    (c__law_same : PySem.W.codeIn K cd__law_same "_law_same" = true)
    (k__law_same : PySem.W.keepIn K (.ref f__law_same) = true)
    (a__law_filled : PySem.W.nsIn K mainGlobals "_law_filled" = some (some (.ref f__law_filled)))
    (l__law_filled : K.lookup f__law_filled = some ⟨oc__law_filled, od__law_filled, .func (PySem.W.fnOf "_law_filled" "_law_filled" (defArgs s__law_filled) (defBody s__law_filled) (defScope s__law_filled) .none kV__law_filled dc__law_filled pm__law_filled an__law_filled cd__law_filled ct__law_filled), sl__law_filled⟩)
    (c__law_filled : PySem.W.codeIn K cd__law_filled "_law_filled" = true)
    (k__law_filled : PySem.W.keepIn K (.ref f__law_filled) = true)
    (a__law_told : PySem.W.nsIn K mainGlobals "_law_told" = some (some (.ref f__law_told)))
    (l__law_told : K.lookup f__law_told = some ⟨oc__law_told, od__law_told, .func (PySem.W.fnOf "_law_told" "_law_told" (defArgs s__law_told) (defBody s__law_told) (defScope s__law_told) .none kV__law_told dc__law_told pm__law_told an__law_told cd__law_told ct__law_told), sl__law_told⟩)
    (c__law_told : PySem.W.codeIn K cd__law_told "_law_told" = true)
    (k__law_told : PySem.W.keepIn K (.ref f__law_told) = true)
    (a__law_kept : PySem.W.nsIn K mainGlobals "_law_kept" = some (some (.ref f__law_kept)))
    (l__law_kept : K.lookup f__law_kept = some ⟨oc__law_kept, od__law_kept, .func (PySem.W.fnOf "_law_kept" "_law_kept" (defArgs s__law_kept) (defBody s__law_kept) (defScope s__law_kept) .none kV__law_kept dc__law_kept pm__law_kept an__law_kept cd__law_kept ct__law_kept), sl__law_kept⟩)
    (c__law_kept : PySem.W.codeIn K cd__law_kept "_law_kept" = true)
    (k__law_kept : PySem.W.keepIn K (.ref f__law_kept) = true)
    (a_law : PySem.W.nsIn K mainGlobals "law" = some (some (.ref f_law)))
    (l_law : K.lookup f_law = some ⟨oc_law, od_law, .func (PySem.W.fnOf "law" "law" (defArgs s_law) (defBody s_law) (defScope s_law) .none kV_law dc_law pm_law an_law cd_law ct_law), sl_law⟩)
    (c_law : PySem.W.codeIn K cd_law "law" = true)
    (k_law : PySem.W.keepIn K (.ref f_law) = true)
    (n_len : PySem.W.nsIn K mainGlobals "len" = some none)
    (n_range : PySem.W.nsIn K mainGlobals "range" = some none)
    (n_str : PySem.W.nsIn K mainGlobals "str" = some none)
    (n_isinstance : PySem.W.nsIn K mainGlobals "isinstance" = some none)
    (n_int : PySem.W.nsIn K mainGlobals "int" = some none)
    (n_bool : PySem.W.nsIn K mainGlobals "bool" = some none)
    (n_list : PySem.W.nsIn K mainGlobals "list" = some none)
    (n_tuple : PySem.W.nsIn K mainGlobals "tuple" = some none)
    (n_zip : PySem.W.nsIn K mainGlobals "zip" = some none)
    (n_sorted : PySem.W.nsIn K mainGlobals "sorted" = some none)
    : ∃ fd : FuncData, (∀ (s : Shared) (u : Value), BindsTo s fd ⟨[u], []⟩ [("_law_script", u)]) ∧ ∀ base : Heap, K.In base → base.Ns mainGlobals mg → FnOk P w K mg base CX0 2 fa fd ["_law_script"] (toSp ⟨K, w⟩ (pSp lawSp)) := by
  have e := hfa.symm.trans (PySem.W.mg_of X G a_law)
  cases e
  have T : Txt ⟨K, w⟩ mg := ⟨PySem.W.mg_none_of X G n_len, PySem.W.mg_none_of X G n_range, PySem.W.mg_none_of X G n_str, PySem.W.mg_none_of X G n_isinstance, PySem.W.mg_none_of X G n_int, PySem.W.mg_none_of X G n_bool, PySem.W.mg_none_of X G n_list, PySem.W.mg_none_of X G n_tuple, PySem.W.mg_none_of X G n_zip, PySem.W.mg_none_of X G n_sorted⟩
  refine ⟨PySem.W.fnOf "law" "law" (defArgs s_law) (defBody s_law) (defScope s_law) .none kV_law dc_law pm_law an_law cd_law ct_law, fun s v => .of_eq rfl, fun base _ _ => ?_⟩
  have D_holds := d_holds (P := P) (K := ⟨K, w⟩) (base := base) (fun_mk (st := s_holds) l_holds c_holds k_holds) (PySem.W.mg_of X G a_holds) T
  have D_keeps := d_keeps (P := P) (K := ⟨K, w⟩) (base := base) (fun_mk (st := s_keeps) l_keeps c_keeps k_keeps) (PySem.W.mg_of X G a_keeps) T
  have D__law_cell_at := d__law_cell_at (P := P) (K := ⟨K, w⟩) (base := base) (fun_mk (st := s__law_cell_at) l__law_cell_at c__law_cell_at k__law_cell_at) (PySem.W.mg_of X G a__law_cell_at) T
  have D__law_words := d__law_words (P := P) (K := ⟨K, w⟩) (base := base) (fun_mk (st := s__law_words) l__law_words c__law_words k__law_words) (PySem.W.mg_of X G a__law_words) T
  have D__law_same := d__law_same (P := P) (K := ⟨K, w⟩) (base := base) (fun_mk (st := s__law_same) l__law_same c__law_same k__law_same) (PySem.W.mg_of X G a__law_same) T
  have D__law_filled := d__law_filled (P := P) (K := ⟨K, w⟩) (base := base) (fun_mk (st := s__law_filled) l__law_filled c__law_filled k__law_filled) (PySem.W.mg_of X G a__law_filled) T
  have D__law_told := d__law_told (P := P) (K := ⟨K, w⟩) (base := base) (fun_mk (st := s__law_told) l__law_told c__law_told k__law_told) (PySem.W.mg_of X G a__law_told) T
  have D__law_kept := d__law_kept (P := P) (K := ⟨K, w⟩) (base := base) (fun_mk (st := s__law_kept) l__law_kept c__law_kept k__law_kept) (PySem.W.mg_of X G a__law_kept) T
  exact d_law_ok (K := ⟨K, w⟩) (fun_mk (st := s_law) l_law c_law k_law) T D__law_words D__law_cell_at D__law_filled D__law_told D__law_same D_holds D__law_kept D_keeps
end VLD

open PySem PySem.W PyProof.Rows in
set_option maxRecDepth 100000 in
set_option maxHeartbeats 0 in
theorem PySem.Challenge.cw_slicewise_k20_holds_and_keeps_holds : PySem.Challenge.rw_slicewise_k20_holds_and_keeps.Holds := by
  w_on; o_law; k_head; (case hw => w_witness2)
  k_fill
  refine VL.law_walk (l := PySem.Challenge.rw_slicewise_k20_holds_and_keeps) (k := 2) (x := "_law_script") rfl rfl ⟨rfl, by decide, by decide⟩ (fun w h Y => PySem.W.kIn_of Y) ?F
  case F =>
    intro w mg fa h KX G hmg
    refine' VLD.all_mk KX G hmg ?a_holds ?l_holds ?c_holds ?k_holds ?a_keeps ?l_keeps ?c_keeps ?k_keeps ?a__law_cell_at ?l__law_cell_at ?c__law_cell_at ?k__law_cell_at ?a__law_words ?l__law_words ?c__law_words ?k__law_words ?a__law_same ?l__law_same ?c__law_same ?k__law_same ?a__law_filled ?l__law_filled ?c__law_filled ?k__law_filled ?a__law_told ?l__law_told ?c__law_told ?k__law_told ?a__law_kept ?l__law_kept ?c__law_kept ?k__law_kept ?a_law ?l_law ?c_law ?k_law ?n_len ?n_range ?n_str ?n_isinstance ?n_int ?n_bool ?n_list ?n_tuple ?n_zip ?n_sorted
    (case a_holds => k_is)
    (case l_holds => k_is)
    (case c_holds => k_is)
    (case k_holds => k_is)
    (case a_keeps => k_is)
    (case l_keeps => k_is)
    (case c_keeps => k_is)
    (case k_keeps => k_is)
    (case a__law_cell_at => k_is)
    (case l__law_cell_at => k_is)
    (case c__law_cell_at => k_is)
    (case k__law_cell_at => k_is)
    (case a__law_words => k_is)
    (case l__law_words => k_is)
    (case c__law_words => k_is)
    (case k__law_words => k_is)
    (case a__law_same => k_is)
    (case l__law_same => k_is)
    (case c__law_same => k_is)
    (case k__law_same => k_is)
    (case a__law_filled => k_is)
    (case l__law_filled => k_is)
    (case c__law_filled => k_is)
    (case k__law_filled => k_is)
    (case a__law_told => k_is)
    (case l__law_told => k_is)
    (case c__law_told => k_is)
    (case k__law_told => k_is)
    (case a__law_kept => k_is)
    (case l__law_kept => k_is)
    (case c__law_kept => k_is)
    (case k__law_kept => k_is)
    (case a_law => k_is)
    (case l_law => k_is)
    (case c_law => k_is)
    (case k_law => k_is)
    (case n_len => k_is)
    (case n_range => k_is)
    (case n_str => k_is)
    (case n_isinstance => k_is)
    (case n_int => k_is)
    (case n_bool => k_is)
    (case n_list => k_is)
    (case n_tuple => k_is)
    (case n_zip => k_is)
    (case n_sorted => k_is)
