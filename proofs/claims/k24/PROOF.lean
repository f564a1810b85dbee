import PyProof.Rows.All
import Wide.All
import OpenK.AllK
import Wide.FinOn
import HandS.ForMost
import HandS.Wide
import HandS.Flow
import HandS.AnyAll
import HandS.IsInst
import HandS.Conv
import KE.KDictKeyed
import KE.KDictWalk
import HandS.Deep
import HandS.WideBits
import HandS.Zip
import PyProof.StrLawsIn
import HandS.SetFor
import HandS.Strs
import HandS.SetKeys
import HandS.Rev
import HandS.RevTup
import HandS.SortRule
import HandS.Iter
import HandS.More
import HandS.Defaults
import HandS.TupLe
import KE.KDictSum
import KE.OsArith
import PySem.Challenge.RW_slicewise_k24_closed_tables
set_option Elab.async false
set_option linter.all false
set_option maxHeartbeats 4000000
set_option maxRecDepth 100000
namespace VL
open PySem PySem.Spec PyProof.Rows L2

/-- what stands of the module, and the world -/
structure KW where
  k : PySem.W.Frag
  w : World
instance : CoeOut KW PySem.W.Frag := ⟨KW.k⟩

/-! ### data -/
inductive D where
  | non | bl (b : Bool) | int (i : Int) | str (x : Str)
  | tup (xs : List D) | lst (xs : List D) | scr (ns : List Int)
inductive W where
  | d (x : D) | loc (k : Nat) | tup (ws : List W) | ty (n : String) | raw (a : Addr)
inductive C where
  | lst (xs : List D) | lstW (ws : List W) | ins (n : Str) (fs : List (Str × W)) | dk (kvs : List (Key × D)) | dl (ob : Obj) (gs : List (Key × V)) (kvs : List (Key × D)) | dn (lk : Option (Obj × List (NestedKey × Addr × V))) (kvs : List (D × W))
abbrev Sto := List C
abbrev Ev := List (Option W)

/-! ### pairs of lists -/
section
variable {A1 B1 : Type} {R S : A1 → B1 → Prop}
theorem pGetL : ∀ {xs : List A1} {ys : List B1}, Paired R xs ys → ∀ {i : Nat} {x : A1}, xs[i]? = some x → ∃ y, ys[i]? = some y ∧ R x y
  | _, _, .nil, i, x, e => by simp at e
  | _, _, .cons r t, 0, x, e => by simp at e; subst e; exact ⟨_, rfl, r⟩
  | _, _, .cons r t, i + 1, x, e => by
    obtain ⟨y, h1, h2⟩ := pGetL t (i := i) (x := x) (by simpa using e)
    exact ⟨y, by simpa using h1, h2⟩
theorem pApp : ∀ {xs xs' : List A1} {ys ys' : List B1}, Paired R xs ys → Paired R xs' ys' → Paired R (xs ++ xs') (ys ++ ys')
  | _, _, _, _, .nil, h => h
  | _, _, _, _, .cons r t, h => .cons r (pApp t h)
theorem pOne {x : A1} {y : B1} (h : R x y) : Paired R [x] [y] := .cons h .nil
theorem pSet {x : A1} {y : B1} (h : R x y) : ∀ {xs : List A1} {ys : List B1} (i : Nat), Paired R xs ys → Paired R (xs.set i x) (ys.set i y)
  | _, _, _, .nil => .nil
  | _, _, 0, .cons _ t => .cons h t
  | _, _, i + 1, .cons q t => .cons q (pSet h i t)
theorem pTake : ∀ {xs : List A1} {ys : List B1} (n : Nat), Paired R xs ys → Paired R (xs.take n) (ys.take n)
  | _, _, 0, _ => by simp; exact .nil
  | _, _, _ + 1, .nil => .nil
  | _, _, n + 1, .cons r t => .cons r (pTake n t)
theorem pDrop : ∀ {xs : List A1} {ys : List B1} (n : Nat), Paired R xs ys → Paired R (xs.drop n) (ys.drop n)
  | _, _, 0, r => r
  | _, _, _ + 1, .nil => .nil
  | _, _, n + 1, .cons _ t => pDrop n t
theorem pDropLast {xs : List A1} {ys : List B1} (h : Paired R xs ys) : Paired R xs.dropLast ys.dropLast := by
  rw [List.dropLast_eq_take, List.dropLast_eq_take, ← Paired.length h]
  exact pTake _ h
theorem pRep {xs : List A1} {ys : List B1} (h : Paired R xs ys) : ∀ k : Nat, Paired R (List.replicate k xs).flatten (List.replicate k ys).flatten
  | 0 => .nil
  | k + 1 => by
    rw [List.replicate_succ, List.replicate_succ, List.flatten_cons, List.flatten_cons]
    exact pApp h (pRep h k)
theorem pCut {xs : List A1} {ys : List B1} (h : Paired R xs ys) (i j : Nat) : Paired R ((xs.drop i).take j) ((ys.drop i).take j) := pTake j (pDrop i h)
end

/-! ### how data lie in the heap -/
def StrOk (x : Str) : Prop := PyData.strOk x = true ∧ x.length ≤ sizeLine
mutual
inductive RepD (K : KW) (F : Hp) : D → V → Prop
  | non : RepD K F .non .non
  | bl (b : Bool) : RepD K F (.bl b) (.bl b)
  | int (i : Int) : RepD K F (.int i) (.int i)
  | str (x : Str) : StrOk x → RepD K F (.str x) (.str x)
  | tup {xs : List D} {vs : List V} {a : Addr} : SqT K F a vs → vs.length ≤ sizeLine → RepDs K F xs vs → RepD K F (.tup xs) (.ref a)
  | lst {xs : List D} {vs : List V} {a : Addr} : Rd F a (.lst vs) → vs.length ≤ sizeLine → RepDs K F xs vs → RepD K F (.lst xs) (.ref a)
  | scr {ns : List Int} {a : Addr} : SqL K F a (ns.map V.int) → ns.length ≤ sizeLine → RepD K F (.scr ns) (.ref a)
inductive RepDs (K : KW) (F : Hp) : List D → List V → Prop
  | nil : RepDs K F [] []
  | cons {x : D} {v : V} {xs : List D} {vs : List V} : RepD K F x v → RepDs K F xs vs → RepDs K F (x :: xs) (v :: vs)
end
mutual
inductive RepW (K : KW) (F : Hp) (al : List Addr) : W → V → Prop
  | d {x : D} {v : V} : RepD K F x v → RepW K F al (.d x) v
  | loc {k : Nat} {a : Addr} : al[k]? = some a → RepW K F al (.loc k) (.ref a)
  | ty (n : String) : RepW K F al (.ty n) (.ty n)
  | raw (a : Addr) : RepW K F al (.raw a) (.ref a)
  | tup {ws : List W} {vs : List V} {a : Addr} : SqT K F a vs → vs.length ≤ sizeLine → RepWs K F al ws vs → RepW K F al (.tup ws) (.ref a)
inductive RepWs (K : KW) (F : Hp) (al : List Addr) : List W → List V → Prop
  | nil : RepWs K F al [] []
  | cons {x : W} {v : V} {xs : List W} {vs : List V} : RepW K F al x v → RepWs K F al xs vs → RepWs K F al (x :: xs) (v :: vs)
end
section
variable {K : KW} {F F' H H' G B : Hp} {al al' : List Addr} {mu mu' : Sto}
theorem RepDs.p : ∀ {xs : List D} {vs : List V}, RepDs K F xs vs → Paired (RepD K F) xs vs
  | [], _, .nil => .nil
  | _ :: _, _, .cons r t => .cons r (RepDs.p t)
theorem RepDs.of : ∀ {xs : List D} {vs : List V}, Paired (RepD K F) xs vs → RepDs K F xs vs
  | [], _, .nil => .nil
  | _ :: _, _, .cons r t => .cons r (RepDs.of t)
theorem RepWs.p : ∀ {xs : List W} {vs : List V}, RepWs K F al xs vs → Paired (RepW K F al) xs vs
  | [], _, .nil => .nil
  | _ :: _, _, .cons r t => .cons r (RepWs.p t)
theorem RepWs.of : ∀ {xs : List W} {vs : List V}, Paired (RepW K F al) xs vs → RepWs K F al xs vs
  | [], _, .nil => .nil
  | _ :: _, _, .cons r t => .cons r (RepWs.of t)
theorem rdMono {o : HO} {a : Addr} (h : Same F F') (r : Rd F a o) : Rd F' a o := by
  rcases r with r | ⟨u, r⟩
  · exact .inl (h _ _ r)
  · exact .inr ⟨u, h _ _ r⟩
theorem sqtMono {a : Addr} {vs : List V} (h : Same F F') (r : SqT K F a vs) : SqT K F' a vs := by
  rcases r with r | r
  · exact .inl (rdMono h r)
  · exact .inr r
theorem sqlMono {a : Addr} {vs : List V} (h : Same F F') (r : SqL K F a vs) : SqL K F' a vs := by
  rcases r with r | r
  · exact .inl (rdMono h r)
  · exact .inr r
mutual
theorem RepD.mono (h : Same F F') : ∀ {d : D} {v : V}, RepD K F d v → RepD K F' d v
  | _, _, .non => .non
  | _, _, .bl b => .bl b
  | _, _, .int i => .int i
  | _, _, .str x q => .str x q
  | _, _, .tup s z r => .tup (sqtMono h s) z (RepDs.mono h r)
  | _, _, .lst s z r => .lst (rdMono h s) z (RepDs.mono h r)
  | _, _, .scr s z => .scr (sqlMono h s) z
theorem RepDs.mono (h : Same F F') : ∀ {d : List D} {v : List V}, RepDs K F d v → RepDs K F' d v
  | _, _, .nil => .nil
  | _, _, .cons r t => .cons (RepD.mono h r) (RepDs.mono h t)
end
/-- the frozen part grows, new locations come behind -/
def Ext (F : Hp) (al : List Addr) (F' : Hp) (al' : List Addr) : Prop := Same F F' ∧ ∃ be, al' = al ++ be
theorem Ext.refl (F : Hp) (al : List Addr) : Ext F al F al := ⟨Same.refl F, [], by simp⟩
theorem Ext.trans {F1 F2 F3 : Hp} {a1 a2 a3 : List Addr} (h : Ext F1 a1 F2 a2) (g : Ext F2 a2 F3 a3) : Ext F1 a1 F3 a3 := by
  obtain ⟨s, b, rfl⟩ := h
  obtain ⟨s', b', rfl⟩ := g
  exact ⟨s.trans s', b ++ b', by simp⟩
theorem Ext.at {k : Nat} {a : Addr} (h : Ext F al F' al') (e : al[k]? = some a) : al'[k]? = some a := by
  obtain ⟨_, b, rfl⟩ := h
  rw [List.getElem?_append_left (by
    have := (List.getElem?_eq_some_iff.mp e).1
    exact this)]
  exact e
mutual
theorem RepW.mono (h : Ext F al F' al') : ∀ {d : W} {v : V}, RepW K F al d v → RepW K F' al' d v
  | _, _, .d r => .d (r.mono h.1)
  | _, _, .loc e => .loc (h.at e)
  | _, _, .ty n => .ty n
  | _, _, .raw a => .raw a
  | _, _, .tup s z r => .tup (sqtMono h.1 s) z (RepWs.mono h r)
theorem RepWs.mono (h : Ext F al F' al') : ∀ {d : List W} {v : List V}, RepWs K F al d v → RepWs K F' al' d v
  | _, _, .nil => .nil
  | _, _, .cons r t => .cons (RepW.mono h r) (RepWs.mono h t)
end

def tupO : HO → Bool
  | .tup _ => true
  | .frz _ (.tup _) => true
  | _ => false
/-- the class of this name stands at c -/
def clsAt (K : KW) (n : Str) (c : Addr) : Prop := PySem.W.nsIn K mainGlobals n = some (some (.ref c))
/-! ### dicts with tuples as keys -/
mutual
@[simp] def nkey : D → Option NestedKey
  | .int i => some (.num i)
  | .str x => some (.text x)
  | .tup xs => (nkeys xs).map .tup
  | .non | .bl _ | .lst _ | .scr _ => none
@[simp] def nkeys : List D → Option (List NestedKey)
  | [] => some []
  | x :: xs => match nkey x, nkeys xs with
    | some k, some ks => some (k :: ks)
    | _, _ => none
end
abbrev NL := List (NestedKey × Addr × V)
def entN (w : World) (x : NestedKey × Addr × Value) : DictEntry := ⟨x.1.hash w, .ref x.2.1, x.2.2⟩
abbrev NRel (p : NestedKey × Addr × V) (q : NestedKey × Addr × Value) : Prop := p.1 = q.1 ∧ p.2.1 = q.2.1 ∧ RelV p.2.2 q.2.2
/-- a dict with tuples as keys: the keys, where they stand, the values -/
def NdO (w : World) (d : Addr) (L : NL) : HO := .ext fun h => ((d == sysModules) = false ∧ L.length ≤ sizeLine ∧ (L.map (·.1)).Nodup) ∧ ∃ xs : List (NestedKey × Addr × Value), Paired NRel L xs ∧
  ∃ o es ep, h.get? d = some o ∧ o.ExactDict ∧ o.data = .dict es ep ∧ es.toList = xs.map (entN w)
/-- the lock's object, and its entries -/
abbrev Lk := Option (Obj × NL)
def lockO (w : World) (a : Addr) (lk : Lk) (L : NL) : HO := match lk with
  | some (ob, L') => .frz ob (NdO w a L')
  | none => NdO w a L
def lockL (lk : Lk) (L : NL) : NL := match lk with
  | some (_, L') => L'
  | none => L
/-- what a container is, at its address -/
inductive CRep (K : KW) (F : Hp) (al : List Addr) (a : Addr) : C → HO → Prop
  | lst {xs : List D} {vs : List V} : vs.length ≤ sizeLine → Paired (RepD K F) xs vs → CRep K F al a (.lst xs) (.lst vs)
  | lstW {ws : List W} {vs : List V} : vs.length ≤ sizeLine → Paired (RepW K F al) ws vs → CRep K F al a (.lstW ws) (.lst vs)
  | ins {n : Str} {c dx : Addr} {fs : List (Str × W)} {gs : List (Str × V)} : clsAt K n c → Paired (fun p q => p.1 = q.1 ∧ RepW K F al p.2 q.2) fs gs → CRep K F al a (.ins n fs) (.ins c dx gs)
  | dk {kvs : List (Key × D)} {gs : List (Key × V)} : Paired (fun p q => p.1 = q.1 ∧ RepD K F p.2 q.2) kvs gs → (∀ k ∈ kvs, ∀ x, k.1 = .inr x → StrOk x) → CRep K F al a (.dk kvs) (.dK gs)
  | dl {ob : Obj} {kvs : List (Key × D)} {gs : List (Key × V)} : Paired (fun p q => p.1 = q.1 ∧ RepD K F p.2 q.2) kvs gs → (∀ k ∈ kvs, ∀ x, k.1 = .inr x → StrOk x) → CRep K F al a (.dl ob gs kvs) (.frz ob (.dK gs))
  | dn {lk : Lk} {kvs : List (D × W)} {L : NL} : Paired (fun (p : D × W) (q : NestedKey × Addr × V) => (nkey p.1 = some q.1 ∧ q.1.depth ≤ 8) ∧ RepD K F p.1 (.ref q.2.1) ∧ RepW K F al p.2 q.2.2) kvs (lockL lk L) → CRep K F al a (.dn lk kvs) (lockO K.w a lk L)
theorem CRep.mono {a : Addr} (h : Ext F al F' al') {c : C} {o : HO} (r : CRep K F al a c o) : CRep K F' al' a c o := by
  cases r with
  | lst z r => exact .lst z (Paired.mapP r fun _ _ q => q.mono h.1)
  | lstW z r => exact .lstW z (Paired.mapP r fun _ _ q => q.mono h)
  | ins z r => exact .ins z (Paired.mapP r fun _ _ q => ⟨q.1, q.2.mono h⟩)
  | dk r q => exact .dk (Paired.mapP r fun _ _ q => ⟨q.1, q.2.mono h.1⟩) q
  | dl r q => exact .dl (Paired.mapP r fun _ _ q => ⟨q.1, q.2.mono h.1⟩) q
  | dn r => exact .dn (Paired.mapP r fun _ _ q => ⟨q.1, q.2.1.mono h.1, q.2.2.mono h⟩)
/-- a container's object may be written -/
theorem CRep.notTup {a : Addr} {c : C} {o : HO} (r : CRep K F al a c o) : tupO o = false := by
  cases r with
  | dn r => rename_i lk _ _; cases lk <;> rfl
  | _ => rfl

/-- the state: G what was frozen at the start, B what must stay, F what is frozen, H the heap, al the addresses of the containers mu -/
structure SRS (K : KW) (G B F H : Hp) (al : List Addr) (mu : Sto) : Prop where
  fz : Same F H
  bs : Same B H
  gf : Same G F
  fr : ∀ a o, F a = some o → G a = some o ∨ B a = none ∨ tupO o = true
  nd : al.Nodup
  len : al.length = mu.length
  st : ∀ (k : Nat) (c : C), mu[k]? = some c → ∃ a o, al[k]? = some a ∧ F a = none ∧ B a = none ∧ H a = some o ∧ CRep K F al a c o
theorem SRS.at {k : Nat} {c : C} {a : Addr} (s : SRS K G B F H al mu) (e : mu[k]? = some c) (ea : al[k]? = some a) : ∃ o, F a = none ∧ B a = none ∧ H a = some o ∧ CRep K F al a c o := by
  obtain ⟨a', o, e1, e2, e3, e4, e5⟩ := s.st k c e
  rw [ea] at e1; cases e1
  exact ⟨o, e2, e3, e4, e5⟩
theorem SRS.has {k : Nat} {a : Addr} (s : SRS K G B F H al mu) (ea : al[k]? = some a) : ∃ c, mu[k]? = some c := by
  have h1 := (List.getElem?_eq_some_iff.mp ea).1
  rw [s.len] at h1
  exact ⟨mu[k], by simp [h1]⟩
theorem sameN {H : Hp} {p : Addr} {o : HO} (h : H p = none) : Same H (upd H p o) := fun b u e => by
  rw [upd_ne (ne_of_none e h)]; exact e
theorem sameU {p : Addr} {o : HO} (h : Same F H) : Same (upd F p o) (upd H p o) := fun b u e => by
  by_cases q : b = p
  · subst q; rw [upd_same] at e ⊢; exact e
  · rw [upd_ne q] at e ⊢; exact h _ _ e
theorem sameNone {a : Addr} (h : Same F H) (e : H a = none) : F a = none := by
  cases q : F a with
  | none => rfl
  | some o => rw [h _ _ q] at e; cases e
/-- a new frozen object -/
theorem SRS.froz {p : Addr} {o : HO} (s : SRS K G B F H al mu) (hp : H p = none) : SRS K G B (upd F p o) (upd H p o) al mu where
  fz := sameU s.fz
  bs := s.bs.trans (sameN hp)
  gf := s.gf.trans (sameN (sameNone s.fz hp))
  fr := fun a u e => by
    by_cases q : a = p
    · subst q; exact .inr (.inl (sameNone s.bs hp))
    · rw [upd_ne q] at e; exact s.fr a u e
  nd := s.nd
  len := s.len
  st := fun k c e => by
    obtain ⟨a, u, e1, e2, e3, e4, e5⟩ := s.st k c e
    have ne : a ≠ p := ne_of_none e4 hp
    exact ⟨a, u, e1, by rw [upd_ne ne]; exact e2, e3, by rw [upd_ne ne]; exact e4, e5.mono ⟨sameN (sameNone s.fz hp), [], by simp⟩⟩
theorem SRS.frozX {p : Addr} {o : HO} (s : SRS K G B F H al mu) (hp : H p = none) : Ext F al (upd F p o) al := ⟨sameN (sameNone s.fz hp), [], by simp⟩
/-- a new container -/
theorem SRS.own {p : Addr} {o : HO} {c : C} (s : SRS K G B F H al mu) (hp : H p = none) (r : CRep K F al p c o) : SRS K G B F (upd H p o) (al ++ [p]) (mu ++ [c]) where
  fz := s.fz.trans (sameN hp)
  bs := s.bs.trans (sameN hp)
  gf := s.gf
  fr := s.fr
  nd := by
    refine List.nodup_append.mpr ⟨s.nd, by simp, fun a ha b hb e => ?_⟩
    subst e
    have e : a = p := by simpa using hb
    subst e
    obtain ⟨k, hk⟩ := List.mem_iff_getElem?.mp ha
    obtain ⟨c, hc⟩ := s.has hk
    obtain ⟨u, _, _, q, _⟩ := s.at hc hk
    rw [hp] at q; cases q
  len := by simp [s.len]
  st := fun k c' e => by
    by_cases hk : k < mu.length
    · rw [List.getElem?_append_left hk] at e
      obtain ⟨a, u, e1, e2, e3, e4, e5⟩ := s.st k c' e
      exact ⟨a, u, by rw [List.getElem?_append_left (by rw [s.len]; exact hk)]; exact e1, e2, e3, by rw [upd_ne (ne_of_none e4 hp)]; exact e4, e5.mono ⟨Same.refl F, [p], rfl⟩⟩
    · rw [List.getElem?_append_right (by omega)] at e
      have hz : k - mu.length = 0 := by
        have := (List.getElem?_eq_some_iff.mp e).1
        simp at this; omega
      rw [hz] at e
      have e' : c = c' := by simpa using e
      subst e'
      exact ⟨p, o, by rw [List.getElem?_append_right (by rw [s.len]; omega), s.len, hz]; rfl, sameNone s.fz hp, sameNone s.bs hp, upd_same, r.mono ⟨Same.refl F, [p], rfl⟩⟩
theorem SRS.ownX {p : Addr} : Ext F al F (al ++ [p]) := ⟨Same.refl F, [p], rfl⟩
theorem SRS.atNew {p : Addr} (s : SRS K G B F H al mu) : (al ++ [p])[mu.length]? = some p := by
  rw [List.getElem?_append_right (by rw [s.len]; omega), s.len]; simp
theorem nodup_ixs {l : List Addr} (h : l.Nodup) {i j : Nat} {a : Addr} (e1 : l[i]? = some a) (e2 : l[j]? = some a) : i = j := by
  obtain ⟨h1, q1⟩ := List.getElem?_eq_some_iff.mp e1
  obtain ⟨h2, q2⟩ := List.getElem?_eq_some_iff.mp e2
  rcases Nat.lt_trichotomy i j with q | q | q
  · exact absurd (q1.trans q2.symm) ((List.pairwise_iff_getElem.mp h) i j h1 h2 q)
  · exact q
  · exact absurd (q2.trans q1.symm) ((List.pairwise_iff_getElem.mp h) j i h2 h1 q)
/-- a container written -/
theorem SRS.put {k : Nat} {a : Addr} {o : HO} {c : C} (s : SRS K G B F H al mu) (ea : al[k]? = some a) (r : CRep K F al a c o) : SRS K G B F (upd H a o) al (mu.set k c) where
  fz := fun b u e => by
    obtain ⟨c0, hc⟩ := s.has ea
    obtain ⟨_, q, _, _, _⟩ := s.at hc ea
    rw [upd_ne (ne_of_none e q)]; exact s.fz _ _ e
  bs := fun b u e => by
    obtain ⟨c0, hc⟩ := s.has ea
    obtain ⟨_, _, q, _, _⟩ := s.at hc ea
    rw [upd_ne (ne_of_none e q)]; exact s.bs _ _ e
  gf := s.gf
  fr := s.fr
  nd := s.nd
  len := by simp [s.len]
  st := fun j c' e => by
    by_cases hj : j = k
    · subst hj
      obtain ⟨c0, hc⟩ := s.has ea
      have hl := (List.getElem?_eq_some_iff.mp hc).1
      rw [List.getElem?_set_self hl] at e
      cases e
      obtain ⟨_, q1, q2, _, _⟩ := s.at hc ea
      exact ⟨a, o, ea, q1, q2, upd_same, r⟩
    · rw [List.getElem?_set_ne (Ne.symm hj)] at e
      obtain ⟨b, u, e1, e2, e3, e4, e5⟩ := s.st j c' e
      have ne : b ≠ a := fun q => hj (nodup_ixs s.nd e1 (q ▸ ea))
      exact ⟨b, u, e1, e2, e3, by rw [upd_ne ne]; exact e4, e5⟩

/-- with the names -/
structure SR (K : KW) (G B F H : Hp) (al : List Addr) (rh : Ev) (si : L2.St) (mu : Sto) : Prop where
  s : SRS K G B F H al mu
  ln : rh.length = si.length
  env : ∀ (i : Nat) (w : W), rh[i]? = some (some w) → ∃ v, si[i]? = some (some v) ∧ RepW K F al w v
theorem SR.step {rh : Ev} {si : L2.St} (r : SR K G B F H al rh si mu) (x : Ext F al F' al') (s : SRS K G B F' H' al' mu') : SR K G B F' H' al' rh si mu' :=
  ⟨s, r.ln, fun i w e => by
    obtain ⟨v, e1, e2⟩ := r.env i w e
    exact ⟨v, e1, e2.mono x⟩⟩
theorem SR.set {rh : Ev} {si : L2.St} {i : Nat} {w : W} {v : V} (r : SR K G B F H al rh si mu) (h : RepW K F al w v) : SR K G B F H al (rh.set i (some w)) (si.set i (some v)) mu :=
  ⟨r.s, by simp [r.ln], fun j u e => by
    by_cases hj : j = i
    · subst hj
      by_cases hl : j < rh.length
      · rw [List.getElem?_set_self hl] at e
        cases e
        exact ⟨v, by rw [List.getElem?_set_self (by rw [← r.ln]; exact hl)], h⟩
      · rw [List.getElem?_eq_none (by simpa using hl)] at e; cases e
    · rw [List.getElem?_set_ne (Ne.symm hj)] at e ⊢
      exact r.env j u e⟩
@[simp] def wipeE (rh : Ev) : List Nat → Ev
  | [] => rh
  | v :: vs => (wipeE rh vs).set v none
theorem SR.wipe {rh : Ev} {si : L2.St} (r : SR K G B F H al rh si mu) : ∀ vs : List Nat, SR K G B F H al (wipeE rh vs) (wipe si vs) mu
  | [] => r
  | x :: vs => by
    have q := SR.wipe r vs
    refine ⟨q.s, by unfold wipeE L2.wipe; simp [q.ln], fun j u e => ?_⟩
    unfold wipeE at e
    unfold L2.wipe
    by_cases hj : j = x
    · subst hj
      by_cases hl : j < (wipeE rh vs).length
      · rw [List.getElem?_set_self hl] at e; cases e
      · rw [List.getElem?_eq_none (by simpa using hl)] at e; cases e
    · rw [List.getElem?_set_ne (Ne.symm hj)] at e ⊢
      exact q.env j u e
end

/-! ### the judgements -/
abbrev WE := Ev → Sto → (W → Sto → Prop) → Prop
abbrev WT := Ev → Sto → (Bool → Sto → Prop) → Prop
abbrev WA := Ev → Sto → (List W → Sto → Prop) → Prop
structure EV where
  nx : Ev → Sto → Prop
  rt : W → Sto → Prop
  bk : Ev → Sto → Prop := fun _ _ => False
  ct : Ev → Sto → Prop := fun _ _ => False
abbrev WS := EV → Ev → Sto → Prop
def Den (K : KW) (t : TE) (f : WE) : Prop := ∀ (G B F H : Hp) (al : List Addr) (rh : Ev) (si : L2.St) (mu : Sto) (Qd : W → Sto → Prop) (Q : VK), SR K G B F H al rh si mu → f rh mu Qd →
  (∀ F' H' al' mu' w v, Ext F al F' al' → SR K G B F' H' al' rh si mu' → RepW K F' al' w v → Qd w mu' → Q v H') → t si H Q
def DenT (K : KW) (t : TT) (f : WT) : Prop := ∀ (G B F H : Hp) (al : List Addr) (rh : Ev) (si : L2.St) (mu : Sto) (Qd : Bool → Sto → Prop) (Q : Bool → Hp → Prop), SR K G B F H al rh si mu → f rh mu Qd →
  (∀ F' H' al' mu' b, Ext F al F' al' → SR K G B F' H' al' rh si mu' → Qd b mu' → Q b H') → t si H Q
def DenA (K : KW) (t : TA) (f : WA) : Prop := ∀ (G B F H : Hp) (al : List Addr) (rh : Ev) (si : L2.St) (mu : Sto) (Qd : List W → Sto → Prop) (Q : List V → Hp → Prop), SR K G B F H al rh si mu → f rh mu Qd →
  (∀ F' H' al' mu' ws vs, Ext F al F' al' → SR K G B F' H' al' rh si mu' → Paired (RepW K F' al') ws vs → Qd ws mu' → Q vs H') → t si H Q
/-- what stands behind a statement -/
structure Beh (K : KW) (G B F : Hp) (al : List Addr) (V1 : EV) (D1 : Ends) : Prop where
  nx : ∀ F' H' al' rh si mu, Ext F al F' al' → SR K G B F' H' al' rh si mu → V1.nx rh mu → D1.nx si H'
  rt : ∀ F' H' al' mu w v, Ext F al F' al' → SRS K G B F' H' al' mu → RepW K F' al' w v → V1.rt w mu → D1.rt v H'
  bk : ∀ F' H' al' rh si mu, Ext F al F' al' → SR K G B F' H' al' rh si mu → V1.bk rh mu → D1.bk si H'
  ct : ∀ F' H' al' rh si mu, Ext F al F' al' → SR K G B F' H' al' rh si mu → V1.ct rh mu → D1.ct si H'
theorem Beh.mono {K : KW} {G B F F' : Hp} {al al' : List Addr} {V1 : EV} {D1 : Ends} (b : Beh K G B F al V1 D1) (x : Ext F al F' al') : Beh K G B F' al' V1 D1 :=
  ⟨fun _ _ _ _ _ _ y => b.nx _ _ _ _ _ _ (x.trans y), fun _ _ _ _ _ _ y => b.rt _ _ _ _ _ _ (x.trans y), fun _ _ _ _ _ _ y => b.bk _ _ _ _ _ _ (x.trans y), fun _ _ _ _ _ _ y => b.ct _ _ _ _ _ _ (x.trans y)⟩
def DenS (K : KW) (t : TS) (f : WS) : Prop := ∀ (G B F H : Hp) (al : List Addr) (rh : Ev) (si : L2.St) (mu : Sto) (V1 : EV) (D1 : Ends), SR K G B F H al rh si mu → f V1 rh mu → Beh K G B F al V1 D1 → t D1 si H
end VL
namespace VL
open PySem PySem.Spec PyProof.Rows L2

/-! ### a family of contexts -/
structure YOk {io : Type} (Y : io → Cx) (P : Program) (w : World) (K : KW) (mg : Str → Option Value) (base : Heap) (N : List Str) (k : Nat) : Prop where
  hP : ∀ i, (Y i).prog = P
  hw : ∀ i, (Y i).w = w
  hK : ∀ i, (Y i).K = K
  hmg : ∀ i, (Y i).mg = mg
  hbase : ∀ i, (Y i).base = base
  hN : ∀ i, (Y i).N = N
  nd : N.Nodup
  calm : ∀ i, (Y i).calm = true
  room : ∀ i, Room k (Y i).A
def VE {io : Type} (Y : io → Cx) (K : KW) (e : Expr) (f : WE) : Prop := ∃ t, (∀ i, PE (Y i) e t) ∧ Den K t f
def VT {io : Type} (Y : io → Cx) (K : KW) (e : Expr) (f : WT) : Prop := ∃ t, (∀ i, PT (Y i) e t) ∧ DenT K t f
def VW {io : Type} (Y : io → Cx) (K : KW) (e : Expr) (f : WT) : Prop := ∃ t, (∀ i, PW (Y i) e t) ∧ DenT K t f
def VA {io : Type} (Y : io → Cx) (K : KW) (es : List Expr) (f : WA) : Prop := ∃ t, (∀ i, PA (Y i) es t) ∧ DenA K t f

/-! ### plain data from a value, snapshots -/
mutual
@[simp] def asD : W → Option D
  | .d x => some x
  | .tup ws => (asDs ws).map .tup
  | _ => none
@[simp] def asDs : List W → Option (List D)
  | [] => some []
  | w :: ws => match asD w, asDs ws with
    | some x, some xs => some (x :: xs)
    | _, _ => none
end
mutual
@[simp] def snap (mu : Sto) : W → Option D
  | .d x => some x
  | .tup ws => (snaps mu ws).map .tup
  | .loc k => match mu[k]? with
    | some (.lst xs) => some (.lst xs)
    | some (.lstW ws) => (asDs ws).map .lst
    | _ => none
  | _ => none
@[simp] def snaps (mu : Sto) : List W → Option (List D)
  | [] => some []
  | w :: ws => match snap mu w, snaps mu ws with
    | some x, some xs => some (x :: xs)
    | _, _ => none
end
@[simp] def mkTup (ws : List W) : W := match asDs ws with
  | some xs => .d (.tup xs)
  | none => .tup ws
section
variable {K : KW} {G B F F' H H' : Hp} {al al' : List Addr} {mu mu' : Sto}
theorem RepDs.len {xs : List D} {vs : List V} (h : RepDs K F xs vs) : xs.length = vs.length := Paired.length h.p
mutual
theorem asD_rep : ∀ {w : W} {v : V} {x : D}, RepW K F al w v → asD w = some x → RepD K F x v
  | .d x, _, _, .d r, e => by cases e; exact r
  | .tup ws, _, _, .tup s z r, e => by
    unfold asD at e
    cases q : asDs ws with
    | none => rw [q] at e; cases e
    | some xs => rw [q] at e; cases e; exact .tup s z (asDs_rep r q)
  | .loc _, _, _, _, e => by cases e
  | .ty _, _, _, _, e => by cases e
  | .raw _, _, _, _, e => by cases e
theorem asDs_rep : ∀ {ws : List W} {vs : List V} {xs : List D}, RepWs K F al ws vs → asDs ws = some xs → RepDs K F xs vs
  | [], _, _, .nil, e => by cases e; exact .nil
  | w :: ws, _, _, .cons r t, e => by
    unfold asDs at e
    cases q : asD w with
    | none => rw [q] at e; cases e
    | some x =>
      cases q2 : asDs ws with
      | none => rw [q, q2] at e; cases e
      | some xs => rw [q, q2] at e; cases e; exact .cons (asD_rep r q) (asDs_rep t q2)
end
theorem SRS.lstAt {k : Nat} {a : Addr} {xs : List D} (s : SRS K G B F H al mu) (e : mu[k]? = some (.lst xs)) (ea : al[k]? = some a) : ∃ vs, H a = some (.lst vs) ∧ vs.length ≤ sizeLine ∧ Paired (RepD K F) xs vs := by
  obtain ⟨o, _, _, h, r⟩ := s.at e ea
  cases r with
  | lst z p => exact ⟨_, h, z, p⟩
theorem SRS.lstWAt {k : Nat} {a : Addr} {xs : List W} (s : SRS K G B F H al mu) (e : mu[k]? = some (.lstW xs)) (ea : al[k]? = some a) : ∃ vs, H a = some (.lst vs) ∧ vs.length ≤ sizeLine ∧ Paired (RepW K F al) xs vs := by
  obtain ⟨o, _, _, h, r⟩ := s.at e ea
  cases r with
  | lstW z p => exact ⟨_, h, z, p⟩
mutual
/-- a snapshot is read in the whole heap -/
theorem snap_rep (s : SRS K G B F H al mu) : ∀ {w : W} {v : V} {x : D}, RepW K F al w v → snap mu w = some x → RepD K H x v
  | .d x, _, _, .d r, e => by cases e; exact r.mono s.fz
  | .tup ws, _, _, .tup q z r, e => by
    unfold snap at e
    cases q1 : snaps mu ws with
    | none => rw [q1] at e; cases e
    | some xs => rw [q1] at e; cases e; exact .tup (sqtMono s.fz q) z (snaps_rep s r q1)
  | .loc k, _, _, .loc ea, e => by
    unfold snap at e
    cases q : mu[k]? with
    | none => rw [q] at e; cases e
    | some c =>
      cases c with
      | lst xs =>
        rw [q] at e; cases e
        obtain ⟨vs, h, z, p⟩ := s.lstAt q ea
        exact .lst (Rd.of h) z (.of (Paired.mapP p fun _ _ r => r.mono s.fz))
      | lstW ws =>
        rw [q] at e
        cases q2 : asDs ws with
        | none => simp only [q2] at e; cases e
        | some xs =>
          simp only [q2] at e; cases e
          obtain ⟨vs, h, z, p⟩ := s.lstWAt q ea
          exact .lst (Rd.of h) z ((asDs_rep (.of p) q2).mono s.fz)
      | _ => rw [q] at e; cases e
  | .ty _, _, _, _, e => by cases e
  | .raw _, _, _, _, e => by cases e
theorem snaps_rep (s : SRS K G B F H al mu) : ∀ {ws : List W} {vs : List V} {xs : List D}, RepWs K F al ws vs → snaps mu ws = some xs → RepDs K H xs vs
  | [], _, _, .nil, e => by cases e; exact .nil
  | w :: ws, _, _, .cons r t, e => by
    unfold snaps at e
    cases q : snap mu w with
    | none => rw [q] at e; cases e
    | some x =>
      cases q2 : snaps mu ws with
      | none => rw [q, q2] at e; cases e
      | some xs => rw [q, q2] at e; cases e; exact .cons (snap_rep s r q) (snaps_rep s t q2)
end

/-! ### new objects -/
/-- a new list: a container of its own, or frozen -/
@[simp] def newL (o : Bool) (xs : List D) (mu : Sto) (Q : W → Sto → Prop) : Prop := if o then Q (.loc mu.length) (mu ++ [.lst xs]) else Q (.d (.lst xs)) mu
theorem newL_ok {o : Bool} {xs : List D} {vs : List V} {Qd : W → Sto → Prop} {Q : VK} {rh : Ev} {si : L2.St} (s : SR K G B F H al rh si mu) (p : Paired (RepD K F) xs vs) (z : vs.length ≤ sizeLine) (h : newL o xs mu Qd)
    (k : ∀ F' H' al' mu' w v, Ext F al F' al' → SR K G B F' H' al' rh si mu' → RepW K F' al' w v → Qd w mu' → Q v H') : ∀ p, H p = none → Q (.ref p) (upd H p (.lst vs)) := fun b hb => by
  cases o with
  | true =>
    have x := SRS.ownX (F := F) (al := al) (p := b)
    exact k _ _ _ _ _ _ x (s.step x (s.s.own hb (.lst z p))) (.loc s.s.atNew) h
  | false =>
    have x := s.s.frozX (o := .lst vs) hb
    exact k _ _ _ _ _ _ x (s.step x (s.s.froz hb)) (.d (.lst (Rd.of upd_same) z ((RepDs.of p).mono x.1))) h
theorem newT_ok {ws : List W} {vs : List V} {Qd : W → Sto → Prop} {Q : VK} {rh : Ev} {si : L2.St} (s : SR K G B F H al rh si mu) (p : Paired (RepW K F al) ws vs) (z : vs.length ≤ sizeLine) (h : Qd (mkTup ws) mu)
    (k : ∀ F' H' al' mu' w v, Ext F al F' al' → SR K G B F' H' al' rh si mu' → RepW K F' al' w v → Qd w mu' → Q v H') : ∀ p, H p = none → Q (.ref p) (upd H p (.tup vs)) := fun b hb => by
  have x := s.s.frozX (o := .tup vs) hb
  refine k _ _ _ _ _ _ x (s.step x (s.s.froz hb)) ?_ h
  unfold mkTup
  cases q : asDs ws with
  | none => exact .tup (SqT.of upd_same) z ((RepWs.of p).mono x)
  | some xs => exact .d (.tup (SqT.of upd_same) z ((asDs_rep (.of p) q).mono x.1))
/-- a new list of values, some of them containers -/
@[simp] def newLW (o : Bool) (ws : List W) (mu : Sto) (Q : W → Sto → Prop) : Prop := match asDs ws with
  | some xs => newL o xs mu Q
  | none => Q (.loc mu.length) (mu ++ [.lstW ws])
theorem newLW_ok {o : Bool} {ws : List W} {vs : List V} {Qd : W → Sto → Prop} {Q : VK} {rh : Ev} {si : L2.St} (s : SR K G B F H al rh si mu) (p : Paired (RepW K F al) ws vs) (z : vs.length ≤ sizeLine) (h : newLW o ws mu Qd)
    (k : ∀ F' H' al' mu' w v, Ext F al F' al' → SR K G B F' H' al' rh si mu' → RepW K F' al' w v → Qd w mu' → Q v H') : ∀ p, H p = none → Q (.ref p) (upd H p (.lst vs)) := by
  unfold newLW at h
  cases q : asDs ws with
  | some xs => rw [q] at h; exact newL_ok s (asDs_rep (.of p) q).p z h k
  | none =>
    rw [q] at h
    intro b hb
    have x := SRS.ownX (F := F) (al := al) (p := b)
    exact k _ _ _ _ _ _ x (s.step x (s.s.own hb (.lstW z p))) (.loc s.s.atNew) h
end

/-! ### names and constants -/
@[simp] def wVar (i : Nat) : WE := fun rh mu Q => match rh[i]? with
  | some (some w) => Q w mu
  | _ => False
@[simp] def wC (x : D) : WE := fun _ mu Q => Q (.d x) mu
section
variable {io : Type} {Y : io → Cx} {P : Program} {w : World} {K : KW} {mg : Str → Option Value} {base : Heap} {N : List Str} {k : Nat} {pos : Pos}
theorem den_var {K : KW} (i : Nat) : Den K (tVar i) (wVar i) := fun G B F H al rh si mu Qd Q s h q => by
  unfold wVar at h
  split at h
  · rename_i w e
    obtain ⟨v, e1, r⟩ := s.env i w e
    exact ⟨v, e1, q F H al mu w v (Ext.refl _ _) s r h⟩
  · exact h.elim
theorem ve_v (y : YOk Y P w K mg base N k) (i : Nat) {x : Str} (hN : N[i]? = some x := by rfl) (hv : ∀ j, Vis (Y j).env.scope x := by first | exact fun _ => Or.inl rfl | exact fun _ => Or.inr (Or.inl rfl) | exact fun _ => Or.inr (Or.inr rfl))
    (hd : (x == ("__debug__" : Str)) = false := by decide) (hcd : (x == ("__classdict__" : Str)) = false := by decide) : VE Y K (.Name x pos) (wVar i) :=
  ⟨tVar i, fun j => pe_var (by rw [y.hN j]; exact hN) (hv j) hd hcd, den_var i⟩
theorem den_c {K : KW} {x : D} {v : V} (h : ∀ F, RepD K F x v) : Den K (tC v) (wC x) := fun G B F H al rh si mu Qd Q s hq q => q F H al mu _ v (Ext.refl _ _) s (.d (h F)) hq
theorem ve_int {i : Int} {j} : VE Y K (.Constant (.int i) j pos) (wC (.int i)) := ⟨_, fun _ => pe_int, den_c fun _ => .int i⟩
theorem ve_bl {b : Bool} {j} : VE Y K (.Constant (.bool b) j pos) (wC (.bl b)) := ⟨_, fun _ => pe_bl, den_c fun _ => .bl b⟩
theorem ve_non {j} : VE Y K (.Constant .none j pos) (wC .non) := ⟨_, fun _ => pe_non, den_c fun _ => .non⟩
theorem ve_str {x : Str} {j} (h : StrOk x := by exact ⟨by decide +kernel, by decide +kernel⟩) : VE Y K (.Constant (.str x) j pos) (wC (.str x)) := ⟨_, fun _ => pe_str, den_c fun _ => .str x h⟩
/-- a module's constant -/
theorem ve_globC (y : YOk Y P w K mg base N k) {x : Str} {d : D} {v : V} {u : Value} (hm : mg x = some u) (r : RelV v u) (h : ∀ F, RepD K F d v) (hg : ∀ j, Gl (Y j) x := by exact fun _ => rfl) (hd : (x == ("__debug__" : Str)) = false := by decide) : VE Y K (.Name x pos) (wC d) :=
  ⟨tC v, fun j => pe_glob (hg j) (by rw [y.hmg j]; exact hm) r hd, den_c h⟩
theorem ve_glob (y : YOk Y P w K mg base N k) {x : Str} {d : D} (h : ∃ v u, mg x = some u ∧ L2.RelV v u ∧ ∀ F, RepD K F d v) (hg : ∀ j, Gl (Y j) x := by exact fun _ => rfl) (hd : (x == ("__debug__" : Str)) = false := by decide) : VE Y K (.Name x pos) (wC d) := by
  obtain ⟨v, u, h1, h2, h3⟩ := h
  exact ve_globC y h1 h2 h3 hg hd
/-- a built-in type as a value -/
@[simp] def wTy (n : String) : WE := fun _ mu Q => Q (.ty n) mu
theorem ve_ty (y : YOk Y P w K mg base N k) {x : Str} {n : String} (hm : mg x = none) (hv : bootBuiltins x = some (.type n) := by decide +kernel) (hg : ∀ j, Gl (Y j) x := by exact fun _ => rfl) (hn : x ≠ "__name__" := by decide) (hd : (x == ("__debug__" : Str)) = false := by decide) : VE Y K (.Name x pos) (wTy n) :=
  ⟨tC (.ty n), fun j => pe_bltn (hg j) (by rw [y.hmg j]; exact hm) hv rfl hn hd, fun G B F H al rh si mu Qd Q s hq q => q F H al mu _ _ (Ext.refl _ _) s (.ty n) hq⟩
end

/-! ### operators -/
abbrev F2 := Sto → W → W → (W → Sto → Prop) → Prop
@[simp] def wOp (f : F2) (a b : WE) : WE := fun rh mu Q => a rh mu fun x mu1 => b rh mu1 fun y mu2 => f mu2 x y Q
def OpD (K : KW) (r : R2) (f : F2) : Prop := ∀ (G B F H : Hp) (al : List Addr) (rh : Ev) (si : L2.St) (mu : Sto) (x y : W) (vx vy : V) (Qd : W → Sto → Prop) (Q : VK), SR K G B F H al rh si mu → RepW K F al x vx → RepW K F al y vy → f mu x y Qd →
  (∀ F' H' al' mu' w v, Ext F al F' al' → SR K G B F' H' al' rh si mu' → RepW K F' al' w v → Qd w mu' → Q v H') → r vx vy H Q
section
variable {io : Type} {Y : io → Cx} {P : Program} {w : World} {K : KW} {mg : Str → Option Value} {base : Heap} {N : List Str} {k : Nat} {pos : Pos} {a b : Expr} {wa wb : WE}
theorem den_op {ta tb : TE} {r : R2} {f : F2} (hd : OpD K r f) (ha : Den K ta wa) (hb : Den K tb wb) : Den K (tOp r ta tb) (wOp f wa wb) := fun G B F H al rh si mu Qd Q s h q => by
  refine ha G B F H al rh si mu _ _ s h fun F1 H1 al1 mu1 x vx e1 s1 r1 h1 => ?_
  refine hb G B F1 H1 al1 rh si mu1 _ _ s1 h1 fun F2 H2 al2 mu2 y vy e2 s2 r2 h2 => ?_
  exact hd G B F2 H2 al2 rh si mu2 x y vx vy Qd Q s2 (r1.mono e2) r2 h2 fun F3 H3 al3 mu3 z vz e3 s3 r3 h3 => q F3 H3 al3 mu3 z vz ((e1.trans e2).trans e3) s3 r3 h3
theorem ve_op {op : Operator} {r : R2} {f : F2} (ho : ∀ i, OpR (Y i) (binaryOp op) r) (hd : OpD K r f) (ha : VE Y K a wa) (hb : VE Y K b wb) : VE Y K (.BinOp a op b pos) (wOp f wa wb) := by
  obtain ⟨ta, p1, d1⟩ := ha
  obtain ⟨tb, p2, d2⟩ := hb
  exact ⟨_, fun i => pe_op (ho i) (p1 i) (p2 i), den_op hd d1 d2⟩

/-- two ints -/
@[simp] def fI (C : Int → Int → Prop) (g : Int → Int → Int) : F2 := fun mu x y Q => match x, y with
  | .d (.int i), .d (.int j) => C i j ∧ Q (.d (.int (g i j))) mu
  | _, _ => False
@[simp] def fI0 (g : Int → Int → Int) : F2 := fun mu x y Q => match x, y with
  | .d (.int i), .d (.int j) => Q (.d (.int (g i j))) mu
  | _, _ => False
@[simp] def fB0 (g : Int → Int → Bool) : F2 := fun mu x y Q => match x, y with
  | .d (.int i), .d (.int j) => Q (.d (.bl (g i j))) mu
  | _, _ => False
theorem repInt {F : Hp} {al : List Addr} {i : Int} {v : V} (r : RepW K F al (.d (.int i)) v) : v = .int i := by
  cases r with
  | d r => cases r; rfl
theorem repStr {F : Hp} {al : List Addr} {x : Str} {v : V} (r : RepW K F al (.d (.str x)) v) : v = .str x ∧ StrOk x := by
  cases r with
  | d r => cases r with
    | str _ h => exact ⟨rfl, h⟩
theorem repBl {F : Hp} {al : List Addr} {x : Bool} {v : V} (r : RepW K F al (.d (.bl x)) v) : v = .bl x := by
  cases r with
  | d r => cases r; rfl
theorem repNon {F : Hp} {al : List Addr} {v : V} (r : RepW K F al (.d .non) v) : v = .non := by
  cases r with
  | d r => cases r; rfl
theorem opd_I {C : Int → Int → Prop} {g : Int → Int → Int} : OpD K (rI C fun i j => .int (g i j)) (fI C g) := fun G B F H al rh si mu x y vx vy Qd Q s r1 r2 h q => by
  unfold fI at h
  split at h
  · rename_i i j
    cases repInt r1
    cases repInt r2
    exact ⟨i, j, rfl, rfl, h.1, q F H al mu _ _ (Ext.refl _ _) s (.d (.int _)) h.2⟩
  · exact h.elim
theorem opd_I0 {g : Int → Int → Int} : OpD K (rI0 fun i j => .int (g i j)) (fI0 g) := fun G B F H al rh si mu x y vx vy Qd Q s r1 r2 h q => by
  unfold fI0 at h
  split at h
  · rename_i i j
    cases repInt r1
    cases repInt r2
    exact ⟨i, j, rfl, rfl, q F H al mu _ _ (Ext.refl _ _) s (.d (.int _)) h⟩
  · exact h.elim
theorem opd_B0 {g : Int → Int → Bool} : OpD K (rI0 fun i j => .bl (g i j)) (fB0 g) := fun G B F H al rh si mu x y vx vy Qd Q s r1 r2 h q => by
  unfold fB0 at h
  split at h
  · rename_i i j
    cases repInt r1
    cases repInt r2
    exact ⟨i, j, rfl, rfl, q F H al mu _ _ (Ext.refl _ _) s (.d (.bl _)) h⟩
  · exact h.elim
end
/-! ints of any size -/
def CM (i j : Int) : Prop := CMul i j ∨ CMulW i j
theorem CM.ok {i j : Int} (h : CM i j) : IntMulOk i j := h.elim CMul.ok CMulW.ok
def CD (_ j : Int) : Prop := j ≠ 0 ∧ j.natAbs.log2 < 9000
@[simp] def CR0 (_ j : Int) : Prop := j ≠ 0
def gDiv (i j : Int) : Int := if 0 < j then i / j else i.fdiv j
def gMod (i j : Int) : Int := if 0 < j then i % j else i.fmod j
theorem gDiv_eq (i j : Int) : gDiv i j = i.fdiv j := by
  unfold gDiv
  split
  · rw [Int.fdiv_eq_ediv_of_nonneg i (by omega)]
  · rfl
theorem gMod_eq (i j : Int) : gMod i j = i.fmod j := by
  unfold gMod
  split
  · rw [Int.fmod_eq_emod_of_nonneg i (by omega)]
  · rfl
section
variable {X : Cx}
theorem opr_mul : OpR X (binaryOp .Mult) (rI CM fun i j => .int (i * j)) := opI fun _ _ _ _ _ _ _ hc q => mul_int q hc.ok
theorem opr_div : OpR X (binaryOp .FloorDiv) (rI CD fun i j => .int (gDiv i j)) := opI fun i j _ _ _ _ _ hc q => by
  exact floordiv_int hc.1 (by rw [← gDiv_eq]; exact q) (.inl (PyProof.noPylong_of_log2 hc.2))
theorem opr_mod : OpR X (binaryOp .Mod) (rI CR0 fun i j => .int (gMod i j)) := opI fun i j _ _ _ _ _ hc q => by
  exact mod_int' hc (by rw [← gMod_eq]; exact q)
end
end VL
namespace VL
open PySem PySem.Spec PyProof.Rows L2

/-! ### lists that are read, by their ways -/
section
variable {X : Cx} {pins : List (Addr × Obj)} {si : L2.St} {H : Hp} {s : Shared} {l : Addr} {xs : List V}
theorem Inv_lstR (I : Inv X pins si H s) (h : Rd H l (.lst xs)) : xs.length ≤ sizeLine ∧ ∃ (its : List Value) (n : Nat), Vals xs its ∧ xs.length = its.length ∧ s.heap.get? l = some { cls := .type "list", data := .seq its.toArray n } := by
  obtain ⟨z, its, n, r, e⟩ := h.ok I.hok
  exact ⟨z, its, n, r, r.length, e⟩
end
section
variable {X : Cx}
def rCat2 : R2 := fun x y H Q => ∃ l b xs zs, x = .ref l ∧ y = .ref b ∧ Rd H l (.lst xs) ∧ Rd H b (.lst zs) ∧ xs.length + zs.length ≤ sizeLine ∧ ∀ p, H p = none → Q (.ref p) (upd H p (.lst (xs ++ zs)))
theorem opr_cat : OpR X (binaryOp .Add) rCat2 := by
  intro pins s σ H x y v u Q I rx ry h
  obtain ⟨l, b, xs, zs, rfl, rfl, hH, hB, hz, q⟩ := h
  cases rx
  cases ry
  obtain ⟨z, its, n, r, hl, e⟩ := Inv_lstR I hH
  obtain ⟨z2, its2, n2, r2, hl2, e2⟩ := Inv_lstR I hB
  refine PySem.P.add_list e e2 ?_ (by rw [List.size_toArray, List.size_toArray]; omega)
  have ea : its.toArray ++ its2.toArray = (its ++ its2).toArray := by simp
  rw [ea]
  exact ⟨.ref _, _, I.lnew (t' := s.toks) (r.append r2) (by rw [List.length_append]; omega), rfl, q _ I.fresh⟩
def rRep2 : R2 := fun x y H Q => ∃ l k xs, x = .ref l ∧ y = .int k ∧ Rd H l (.lst xs) ∧ -(2 ^ 63) ≤ k ∧ k < 2 ^ 63 ∧ xs.length * k.toNat ≤ sizeLine ∧
  ∀ p, H p = none → Q (.ref p) (upd H p (.lst (List.replicate k.toNat xs).flatten))
theorem opr_rep : OpR X (binaryOp .Mult) rRep2 := by
  intro pins s σ H x y v u Q I rx ry h
  obtain ⟨l, k, xs, rfl, rfl, hH, h1, h2, hz, q⟩ := h
  cases rx
  obtain ⟨t, rfl⟩ := ry
  obtain ⟨z, its, n, r, hl, e⟩ := Inv_lstR I hH
  have hlen : its.toArray.size * k.toNat ≤ sizeLine := by rw [List.size_toArray, ← hl]; exact hz
  have hcap : ¬ its.toArray.size * k.toNat > (2 ^ 63 - 1) / 8 := by
    have : (sizeLine : Nat) ≤ (2 ^ 63 - 1) / 8 := by decide
    omega
  have hfit : ¬ (!Builtin.List.listFitsIndex k) = true := by
    rw [fitsIndex_both h1 h2]
    exact Bool.false_ne_true
  have hlong : ¬ Builtin.List.listTooLong (its.toArray.size * k.toNat) = true := by
    rw [notLongL hlen]
    exact Bool.false_ne_true
  have hnew : List.foldl (fun x1 x2 => x1 ++ x2) #[] (List.replicate (if its.toArray.isEmpty = true then 0 else k.toNat) its.toArray) = (List.replicate k.toNat its).flatten.toArray := by
    have f0 : ∀ m : Nat, List.foldl (fun x1 x2 => x1 ++ x2) #[] (List.replicate m its.toArray) = (List.replicate m its).flatten.toArray := fun m => by
      have := foldl_rep its m []
      rw [List.nil_append] at this
      exact this
    rw [f0]
    cases its with
    | nil => simp
    | cons a r' => rw [if_neg (by simp)]
  refine wpAny_binaryOp_repeat_ref (T := "list") (U := "int") (by decide) ⟨_, e, rfl⟩ (fun s' => typeIs_int s' k t) noFill_list_mul F.fills_int_mul F.slot_int_rmul repeat_list F.slot_int_index.lookup
    (call_meets F.slot_int_rmul (typeIs_int s k t) F.entry_int_rmul (F.args_int_rmul_2 _ _) (int___rmul___int_list k t l its.toArray n)
      ⟨e, rfl, ⟨_, e, rfl⟩, call_meets F.slot_list_mul ⟨_, e, rfl⟩ F.entry_list_mul (F.args_list_mul_2 _ _) (AutoListH.list___mul___list_int_3 l its.toArray n k t hfit hcap hlong) ⟨e, ?_⟩⟩)
  rw [hnew]
  exact ⟨.ref _, _, I.lnew (t' := s.toks) (r.rep k.toNat) (by rw [PyProof.Rows.lm_len_rep_flat, Nat.mul_comm]; exact hz), rfl, q _ I.fresh⟩
theorem opr_add : OpR X (binaryOp .Add) (fun x y H Q => (∃ i j, x = .int i ∧ y = .int j ∧ Q (.int (i + j)) H) ∨ (∃ i j, x = .str i ∧ y = .str j ∧ i.length + j.length ≤ sizeLine ∧ Q (.str (i ++ j)) H) ∨ rCat2 x y H Q ∨ rCatT X.K x y H Q) :=
  op_add.or (op_add_str.or (opr_cat.or op_catT))
theorem opr_mulA : OpR X (binaryOp .Mult) (fun x y H Q => rI CM (fun i j => .int (i * j)) x y H Q ∨ rRep2 x y H Q) := opr_mul.or opr_rep
end

/-- the items of a list -/
@[simp] def lsD (mu : Sto) : W → Option (List D)
  | .d (.lst xs) => some xs
  | .loc k => match mu[k]? with
    | some (.lst xs) => some xs
    | _ => none
  | _ => none
section
variable {K : KW} {G B F F' H H' : Hp} {al al' : List Addr} {mu mu' : Sto} {rh : Ev} {si : L2.St}
theorem lsD_rep {w : W} {v : V} {xs : List D} (s : SRS K G B F H al mu) (r : RepW K F al w v) (e : lsD mu w = some xs) : ∃ a vs, v = .ref a ∧ Rd H a (.lst vs) ∧ vs.length ≤ sizeLine ∧ Paired (RepD K F) xs vs := by
  unfold lsD at e
  split at e
  · cases e
    cases r with
    | d r => cases r with
      | lst q z p => exact ⟨_, _, rfl, rdMono s.fz q, z, p.p⟩
  · rename_i k
    split at e
    · rename_i q
      cases e
      cases r with
      | loc ea =>
        obtain ⟨vs, h, z, p⟩ := s.lstAt q ea
        exact ⟨_, vs, rfl, Rd.of h, z, p⟩
    · cases e
  · cases e
theorem repTup {xs : List D} {v : V} (r : RepW K F al (.d (.tup xs)) v) : ∃ a vs, v = .ref a ∧ SqT K F a vs ∧ vs.length ≤ sizeLine ∧ Paired (RepD K F) xs vs := by
  cases r with
  | d r => cases r with
    | tup q z p => exact ⟨_, _, rfl, q, z, p.p⟩
theorem strOk_app {x y : Str} (hx : StrOk x) (hy : StrOk y) (h : x.length + y.length ≤ sizeLine) : StrOk (x ++ y) := by
  have e : (x ++ y).cps = x.cps ++ y.cps := rfl
  refine ⟨?_, ?_⟩
  · have h1 := hx.1
    have h2 := hy.1
    unfold PyData.strOk at h1 h2 ⊢
    rw [e, Array.all_append, h1, h2]; rfl
  · show (x ++ y).cps.size ≤ _
    rw [e, Array.size_append]; exact h
@[simp] def fAdd (o : Bool) : F2 := fun mu x y Q => match x, y with
  | .d (.int i), .d (.int j) => Q (.d (.int (i + j))) mu
  | .d (.str a), .d (.str b) => a.length + b.length ≤ sizeLine ∧ Q (.d (.str (a ++ b))) mu
  | .d (.tup xs), .d (.tup ys) => xs ≠ [] ∧ xs.length + ys.length ≤ sizeLine ∧ Q (.d (.tup (xs ++ ys))) mu
  | x, y => match lsD mu x, lsD mu y with
    | some xs, some ys => xs.length + ys.length ≤ sizeLine ∧ newL o (xs ++ ys) mu Q
    | _, _ => False
theorem opd_add (o : Bool) : OpD K (fun x y H Q => (∃ i j, x = .int i ∧ y = .int j ∧ Q (.int (i + j)) H) ∨ (∃ i j, x = .str i ∧ y = .str j ∧ i.length + j.length ≤ sizeLine ∧ Q (.str (i ++ j)) H) ∨ rCat2 x y H Q ∨ rCatT K x y H Q) (fAdd o) :=
  fun G B F H al rh si mu x y vx vy Qd Q s r1 r2 h q => by
  unfold fAdd at h
  split at h
  · cases repInt r1
    cases repInt r2
    exact .inl ⟨_, _, rfl, rfl, q F H al mu _ _ (Ext.refl _ _) s (.d (.int _)) h⟩
  · obtain ⟨rfl, h1⟩ := repStr r1
    obtain ⟨rfl, h2⟩ := repStr r2
    exact .inr (.inl ⟨_, _, rfl, rfl, h.1, q F H al mu _ _ (Ext.refl _ _) s (.d (.str _ (strOk_app h1 h2 h.1))) h.2⟩)
  · rename_i xs ys
    obtain ⟨a, vs, rfl, q1, z1, p1⟩ := repTup r1
    obtain ⟨b, us, rfl, q2, z2, p2⟩ := repTup r2
    obtain ⟨hn, hl, hq⟩ := h
    have e1 := Paired.length p1
    have e2 := Paired.length p2
    refine .inr (.inr (.inr ⟨a, b, vs, us, rfl, rfl, sqtMono s.s.fz q1, sqtMono s.s.fz q2, fun e => hn ?_, by omega, fun e => ?_, fun _ => ?_⟩))
    · subst e; cases p1; rfl
    · subst e
      cases p2
      rw [List.append_nil] at hq
      exact q F H al mu _ _ (Ext.refl _ _) s r1 hq
    · have hx := newT_ok (ws := (xs ++ ys).map W.d) (vs := vs ++ us) (Qd := fun _ mu => Qd (.d (.tup (xs ++ ys))) mu) (Q := Q) s
      intro p hp
      have x := s.s.frozX (o := .tup (vs ++ us)) hp
      exact q _ _ _ _ _ _ x (s.step x (s.s.froz hp)) (.d (.tup (SqT.of upd_same) (by rw [List.length_append]; omega) ((RepDs.of (pApp p1 p2)).mono x.1))) hq
  · split at h
    · rename_i e1 e2
      obtain ⟨a, vs, rfl, q1, z1, p1⟩ := lsD_rep s.s r1 e1
      obtain ⟨b, us, rfl, q2, z2, p2⟩ := lsD_rep s.s r2 e2
      have l1 := Paired.length p1
      have l2 := Paired.length p2
      exact .inr (.inr (.inl ⟨a, b, vs, us, rfl, rfl, q1, q2, by have := h.1; omega, newL_ok s (pApp p1 p2) (by rw [List.length_append]; have := h.1; omega) h.2 q⟩))
    · exact h.elim
@[simp] def fMul (o : Bool) : F2 := fun mu x y Q => match x, y with
  | .d (.int i), .d (.int j) => CM i j ∧ Q (.d (.int (i * j))) mu
  | x, .d (.int k) => match lsD mu x with
    | some xs => -(2 ^ 63) ≤ k ∧ k < 2 ^ 63 ∧ xs.length * k.toNat ≤ sizeLine ∧ newL o (List.replicate k.toNat xs).flatten mu Q
    | _ => False
  | _, _ => False
theorem opd_mul (o : Bool) : OpD K (fun x y H Q => rI CM (fun i j => .int (i * j)) x y H Q ∨ rRep2 x y H Q) (fMul o) := fun G B F H al rh si mu x y vx vy Qd Q s r1 r2 h q => by
  unfold fMul at h
  split at h
  · cases repInt r1
    cases repInt r2
    exact .inl ⟨_, _, rfl, rfl, h.1, q F H al mu _ _ (Ext.refl _ _) s (.d (.int _)) h.2⟩
  · cases repInt r2
    split at h
    · rename_i e1
      obtain ⟨a, vs, rfl, q1, z1, p1⟩ := lsD_rep s.s r1 e1
      have l1 := Paired.length p1
      obtain ⟨h1, h2, h3, h4⟩ := h
      exact .inr ⟨a, _, vs, rfl, rfl, q1, h1, h2, by rw [← l1]; exact h3, newL_ok s (pRep p1 _) (by rw [PyProof.Rows.lm_len_rep_flat, Nat.mul_comm, ← l1]; exact h3) h4 q⟩
    · exact h.elim
  · exact h.elim
end

/-! ### the operators, ready -/
section
variable {io : Type} {Y : io → Cx} {P : Program} {w : World} {K : KW} {mg : Str → Option Value} {base : Heap} {N : List Str} {k : Nat} {pos : Pos} {a b : Expr} {wa wb : WE}
theorem ve_add (y : YOk Y P w K mg base N k) (o : Bool) (ha : VE Y K a wa) (hb : VE Y K b wb) : VE Y K (.BinOp a .Add b pos) (wOp (fAdd o) wa wb) := ve_op (fun i => by rw [← y.hK i]; exact opr_add) (opd_add o) ha hb
theorem ve_sub (ha : VE Y K a wa) (hb : VE Y K b wb) : VE Y K (.BinOp a .Sub b pos) (wOp (fI0 fun i j => i - j) wa wb) := ve_op (fun i => op_sub) opd_I0 ha hb
theorem ve_mul (o : Bool) (ha : VE Y K a wa) (hb : VE Y K b wb) : VE Y K (.BinOp a .Mult b pos) (wOp (fMul o) wa wb) := ve_op (fun i => opr_mulA) (opd_mul o) ha hb
theorem ve_fdiv (ha : VE Y K a wa) (hb : VE Y K b wb) : VE Y K (.BinOp a .FloorDiv b pos) (wOp (fI CD gDiv) wa wb) := ve_op (fun i => opr_div) opd_I ha hb
theorem ve_mod (ha : VE Y K a wa) (hb : VE Y K b wb) : VE Y K (.BinOp a .Mod b pos) (wOp (fI CR0 gMod) wa wb) := ve_op (fun i => opr_mod) opd_I ha hb
theorem ve_pow (ha : VE Y K a wa) (hb : VE Y K b wb) : VE Y K (.BinOp a .Pow b pos) (wOp (fI CPow fun i j => i ^ j.toNat) wa wb) := ve_op (fun i => op_pow) opd_I ha hb
theorem ve_shl (ha : VE Y K a wa) (hb : VE Y K b wb) : VE Y K (.BinOp a .LShift b pos) (wOp (fI CShl fun i j => i * 2 ^ j.toNat) wa wb) := ve_op (fun i => op_shlW) opd_I ha hb
theorem ve_shr (ha : VE Y K a wa) (hb : VE Y K b wb) : VE Y K (.BinOp a .RShift b pos) (wOp (fI (fun _ j => 0 ≤ j) fun i j => i / 2 ^ j.toNat) wa wb) := ve_op (fun i => op_shr) opd_I ha hb
theorem ve_and (ha : VE Y K a wa) (hb : VE Y K b wb) : VE Y K (.BinOp a .BitAnd b pos) (wOp (fI0 Builtin.bitAnd) wa wb) := ve_op (fun i => op_and) opd_I0 ha hb
theorem ve_or (ha : VE Y K a wa) (hb : VE Y K b wb) : VE Y K (.BinOp a .BitOr b pos) (wOp (fI0 Builtin.bitOr) wa wb) := ve_op (fun i => op_or) opd_I0 ha hb
@[simp] def wUn (g : Int → Int) (a : WE) : WE := fun rh mu Q => a rh mu fun x mu1 => match x with
  | .d (.int i) => Q (.d (.int (g i))) mu1
  | _ => False
theorem ve_un {op : UnaryOp} {g : Int → Int} (ho : ∀ i, UnR (Y i) (unaryOp op) (rU fun i => .int (g i))) (ha : VE Y K a wa) : VE Y K (.UnaryOp op a pos) (wUn g wa) := by
  obtain ⟨ta, p1, d1⟩ := ha
  refine ⟨_, fun i => pe_un (ho i) (p1 i), fun G B F H al rh si mu Qd Q s h q => ?_⟩
  refine d1 G B F H al rh si mu _ _ s h fun F1 H1 al1 mu1 x vx e1 s1 r1 h1 => ?_
  split at h1
  · cases repInt r1
    exact ⟨_, rfl, q F1 H1 al1 mu1 _ _ e1 s1 (.d (.int _)) h1⟩
  · exact h1.elim
theorem ve_neg (ha : VE Y K a wa) : VE Y K (.UnaryOp .USub a pos) (wUn (fun i => -i) wa) := ve_un (fun _ => un_neg) ha
end

/-! ### equality of data -/
mutual
def deqv : D → D → Bool
  | .non, .non => true
  | .bl a, .bl b => a == b
  | .bl a, .int j => (if a then 1 else 0) == j
  | .int i, .bl b => i == (if b then 1 else 0)
  | .int i, .int j => i == j
  | .str x, .str y => x == y
  | .lst xs, .lst ys => deqvs xs ys
  | .tup xs, .tup ys => deqvs xs ys
  | .non, .bl _ | .non, .int _ | .non, .str _ | .non, .lst _ | .non, .tup _ => false
  | .bl _, .non | .bl _, .str _ | .bl _, .lst _ | .bl _, .tup _ => false
  | .int _, .non | .int _, .str _ | .int _, .lst _ | .int _, .tup _ => false
  | .str _, .non | .str _, .bl _ | .str _, .int _ | .str _, .lst _ | .str _, .tup _ => false
  | .lst _, .non | .lst _, .bl _ | .lst _, .int _ | .lst _, .str _ | .lst _, .tup _ => false
  | .tup _, .non | .tup _, .bl _ | .tup _, .int _ | .tup _, .str _ | .tup _, .lst _ => false
  | .scr _, _ => false
  | .non, .scr _ | .bl _, .scr _ | .int _, .scr _ | .str _, .scr _ | .lst _, .scr _ | .tup _, .scr _ => false
def deqvs : List D → List D → Bool
  | [], [] => true
  | x :: xs, y :: ys => deqv x y && deqvs xs ys
  | [], _ :: _ => false
  | _ :: _, [] => false
end
mutual
def toP : D → PyData
  | .non => .none
  | .bl b => .bool b
  | .int i => .int i
  | .str x => .str x
  | .lst xs => .list (toPs xs)
  | .tup xs => .tuple (toPs xs)
  | .scr _ => .dict []
def toPs : List D → List PyData
  | [] => []
  | x :: xs => toP x :: toPs xs
end
mutual
@[simp] def ddep : D → Nat
  | .lst xs | .tup xs => ddeps xs + 1
  | .non | .bl _ | .int _ | .str _ => 0
  | .scr _ => 1000
@[simp] def ddeps : List D → Nat
  | [] => 0
  | x :: xs => max (ddep x) (ddeps xs)
end
@[simp] theorem deqv_non_non : deqv .non .non = true := by simp only [deqv]
@[simp] theorem deqv_non_bl {b2 : Bool} : deqv .non (.bl b2) = false := by simp only [deqv]
@[simp] theorem deqv_non_int {i2 : Int} : deqv .non (.int i2) = false := by simp only [deqv]
@[simp] theorem deqv_non_str {x2 : Str} : deqv .non (.str x2) = false := by simp only [deqv]
@[simp] theorem deqv_non_lst {xs2 : List D} : deqv .non (.lst xs2) = false := by simp only [deqv]
@[simp] theorem deqv_non_tup {xs2 : List D} : deqv .non (.tup xs2) = false := by simp only [deqv]
@[simp] theorem deqv_bl_non {b1 : Bool} : deqv (.bl b1) .non = false := by simp only [deqv]
@[simp] theorem deqv_bl_bl {b1 : Bool} {b2 : Bool} : deqv (.bl b1) (.bl b2) = (b1 == b2) := by simp only [deqv]
@[simp] theorem deqv_bl_int {b1 : Bool} {i2 : Int} : deqv (.bl b1) (.int i2) = ((if b1 then 1 else 0) == i2) := by simp only [deqv]
@[simp] theorem deqv_bl_str {b1 : Bool} {x2 : Str} : deqv (.bl b1) (.str x2) = false := by simp only [deqv]
@[simp] theorem deqv_bl_lst {b1 : Bool} {xs2 : List D} : deqv (.bl b1) (.lst xs2) = false := by simp only [deqv]
@[simp] theorem deqv_bl_tup {b1 : Bool} {xs2 : List D} : deqv (.bl b1) (.tup xs2) = false := by simp only [deqv]
@[simp] theorem deqv_int_non {i1 : Int} : deqv (.int i1) .non = false := by simp only [deqv]
@[simp] theorem deqv_int_bl {i1 : Int} {b2 : Bool} : deqv (.int i1) (.bl b2) = (i1 == (if b2 then 1 else 0)) := by simp only [deqv]
@[simp] theorem deqv_int_int {i1 : Int} {i2 : Int} : deqv (.int i1) (.int i2) = (i1 == i2) := by simp only [deqv]
@[simp] theorem deqv_int_str {i1 : Int} {x2 : Str} : deqv (.int i1) (.str x2) = false := by simp only [deqv]
@[simp] theorem deqv_int_lst {i1 : Int} {xs2 : List D} : deqv (.int i1) (.lst xs2) = false := by simp only [deqv]
@[simp] theorem deqv_int_tup {i1 : Int} {xs2 : List D} : deqv (.int i1) (.tup xs2) = false := by simp only [deqv]
@[simp] theorem deqv_str_non {x1 : Str} : deqv (.str x1) .non = false := by simp only [deqv]
@[simp] theorem deqv_str_bl {x1 : Str} {b2 : Bool} : deqv (.str x1) (.bl b2) = false := by simp only [deqv]
@[simp] theorem deqv_str_int {x1 : Str} {i2 : Int} : deqv (.str x1) (.int i2) = false := by simp only [deqv]
@[simp] theorem deqv_str_str {x1 : Str} {x2 : Str} : deqv (.str x1) (.str x2) = (x1 == x2) := by simp only [deqv]
@[simp] theorem deqv_str_lst {x1 : Str} {xs2 : List D} : deqv (.str x1) (.lst xs2) = false := by simp only [deqv]
@[simp] theorem deqv_str_tup {x1 : Str} {xs2 : List D} : deqv (.str x1) (.tup xs2) = false := by simp only [deqv]
@[simp] theorem deqv_lst_non {xs1 : List D} : deqv (.lst xs1) .non = false := by simp only [deqv]
@[simp] theorem deqv_lst_bl {xs1 : List D} {b2 : Bool} : deqv (.lst xs1) (.bl b2) = false := by simp only [deqv]
@[simp] theorem deqv_lst_int {xs1 : List D} {i2 : Int} : deqv (.lst xs1) (.int i2) = false := by simp only [deqv]
@[simp] theorem deqv_lst_str {xs1 : List D} {x2 : Str} : deqv (.lst xs1) (.str x2) = false := by simp only [deqv]
@[simp] theorem deqv_lst_lst {xs1 : List D} {xs2 : List D} : deqv (.lst xs1) (.lst xs2) = deqvs xs1 xs2 := by simp only [deqv]
@[simp] theorem deqv_lst_tup {xs1 : List D} {xs2 : List D} : deqv (.lst xs1) (.tup xs2) = false := by simp only [deqv]
@[simp] theorem deqv_tup_non {xs1 : List D} : deqv (.tup xs1) .non = false := by simp only [deqv]
@[simp] theorem deqv_tup_bl {xs1 : List D} {b2 : Bool} : deqv (.tup xs1) (.bl b2) = false := by simp only [deqv]
@[simp] theorem deqv_tup_int {xs1 : List D} {i2 : Int} : deqv (.tup xs1) (.int i2) = false := by simp only [deqv]
@[simp] theorem deqv_tup_str {xs1 : List D} {x2 : Str} : deqv (.tup xs1) (.str x2) = false := by simp only [deqv]
@[simp] theorem deqv_tup_lst {xs1 : List D} {xs2 : List D} : deqv (.tup xs1) (.lst xs2) = false := by simp only [deqv]
@[simp] theorem deqv_tup_tup {xs1 : List D} {xs2 : List D} : deqv (.tup xs1) (.tup xs2) = deqvs xs1 xs2 := by simp only [deqv]
@[simp] theorem deqvs_nil : deqvs [] [] = true := by simp only [deqvs]
@[simp] theorem deqvs_cons {x y : D} {xs ys : List D} : deqvs (x :: xs) (y :: ys) = (deqv x y && deqvs xs ys) := by simp only [deqvs]
@[simp] theorem deqvs_nc {y : D} {ys : List D} : deqvs [] (y :: ys) = false := by simp only [deqvs]
@[simp] theorem deqvs_cn {y : D} {ys : List D} : deqvs (y :: ys) [] = false := by simp only [deqvs]
mutual
theorem deqv_refl : ∀ (d : D), ddep d < 1000 → deqv d d = true
  | .non, _ => by simp
  | .bl _, _ => by simp
  | .int _, _ => by simp
  | .str _, _ => by simp
  | .lst xs, h => by rw [deqv_lst_lst]; exact deqvs_refl xs (by simp only [ddep] at h; omega)
  | .tup xs, h => by rw [deqv_tup_tup]; exact deqvs_refl xs (by simp only [ddep] at h; omega)
  | .scr _, h => by simp at h
theorem deqvs_refl : ∀ (xs : List D), ddeps xs < 1000 → deqvs xs xs = true
  | [], _ => by simp
  | x :: xs, h => by
    simp only [ddeps] at h
    rw [deqvs_cons, deqv_refl x (by omega), deqvs_refl xs (by omega)]; rfl
end
mutual
theorem toP_eqv : ∀ x y : D, PyData.eqv (toP x) (toP y) = deqv x y
  | .non, y => by cases y <;> simp only [toP, PyData.eqv, deqv]
  | .bl _, y => by cases y <;> simp only [toP, PyData.eqv, deqv]
  | .int _, y => by cases y <;> simp only [toP, PyData.eqv, deqv]
  | .str _, y => by cases y <;> simp only [toP, PyData.eqv, deqv]
  | .lst xs, y => by cases y with
    | lst ys => simp only [toP, PyData.eqv, deqv]; exact toPs_eqv xs ys
    | _ => simp only [toP, PyData.eqv, deqv]
  | .tup xs, y => by cases y with
    | tup ys => simp only [toP, PyData.eqv, deqv]; exact toPs_eqv xs ys
    | _ => simp only [toP, PyData.eqv, deqv]
  | .scr _, y => by cases y <;> simp only [toP, PyData.eqv, deqv]
theorem toPs_eqv : ∀ xs ys : List D, PyData.eqvAll (toPs xs) (toPs ys) = deqvs xs ys
  | [], [] => by simp only [toPs, PyData.eqvAll, deqvs]
  | [], _ :: _ => by simp only [toPs, PyData.eqvAll, deqvs]
  | _ :: _, [] => by simp only [toPs, PyData.eqvAll, deqvs]
  | x :: xs, y :: ys => by simp only [toPs, PyData.eqvAll, deqvs, toP_eqv x y, toPs_eqv xs ys]
end
mutual
theorem toP_dep : ∀ x : D, (toP x).depth ≤ ddep x
  | .non => by simp only [toP, PyData.depth, ddep, Nat.le_refl]
  | .bl _ => by simp only [toP, PyData.depth, ddep, Nat.le_refl]
  | .int _ => by simp only [toP, PyData.depth, ddep, Nat.le_refl]
  | .str _ => by simp only [toP, PyData.depth, ddep, Nat.le_refl]
  | .lst xs => by simp only [toP, PyData.depth, ddep]; exact Nat.succ_le_succ (toPs_dep xs)
  | .tup xs => by simp only [toP, PyData.depth, ddep]; exact Nat.succ_le_succ (toPs_dep xs)
  | .scr _ => by simp only [toP, PyData.depth, PyData.depthKv, ddep]; omega
theorem toPs_dep : ∀ xs : List D, PyData.depthAll (toPs xs) ≤ ddeps xs
  | [] => by simp only [toPs, PyData.depthAll, ddeps, Nat.le_refl]
  | x :: xs => by
    simp only [toPs, PyData.depthAll, ddeps]
    have h1 := toP_dep x
    have h2 := toPs_dep xs
    omega
end
section
variable {K : KW} {G B F F' H H' : Hp} {al al' : List Addr} {mu mu' : Sto} {rh : Ev} {si : L2.St}
mutual
theorem rep_dp : ∀ {x : D} {v : V}, RepD K H x v → ddep x < 1000 → Dp K H v (toP x)
  | _, _, .non, _ => by unfold toP; exact .non
  | _, _, .bl b, _ => by unfold toP; exact .bl b
  | _, _, .int i, _ => by unfold toP; exact .int i
  | _, _, .str x _, _ => by unfold toP; exact .str x
  | _, _, .tup q _ r, h => by unfold toP; exact .tup q (reps_dp r (by unfold ddep at h; omega))
  | _, _, .lst q _ r, h => by unfold toP; exact .lst (.inl q) (reps_dp r (by unfold ddep at h; omega))
  | _, _, .scr _ _, h => by unfold ddep at h; omega
theorem reps_dp : ∀ {xs : List D} {vs : List V}, RepDs K H xs vs → ddeps xs < 1000 → DpAll K H vs (toPs xs)
  | _, _, .nil, _ => by unfold toPs; exact .nil
  | _, _, .cons r t, h => by unfold toPs; exact .cons (rep_dp r (by unfold ddeps at h; omega)) (reps_dp t (by unfold ddeps at h; omega))
end
mutual
theorem rep_lay : ∀ {x : D} {v : V}, RepD K H x v → ddep x < 1000 → (toP x).canLay0 = true
  | _, _, .non, _ => by simp only [toP, PyData.canLay0]
  | _, _, .bl b, _ => by simp only [toP, PyData.canLay0]
  | _, _, .int i, _ => by simp only [toP, PyData.canLay0]
  | _, _, .str x h, _ => by simp only [toP, PyData.canLay0]; exact h.1
  | _, _, .tup q _ r, h => by simp only [toP, PyData.canLay0]; exact reps_lay r (by unfold ddep at h; omega)
  | _, _, .lst q _ r, h => by simp only [toP, PyData.canLay0]; exact reps_lay r (by unfold ddep at h; omega)
  | _, _, .scr _ _, h => by unfold ddep at h; omega
theorem reps_lay : ∀ {xs : List D} {vs : List V}, RepDs K H xs vs → ddeps xs < 1000 → PyData.canLayAll0 (toPs xs) = true
  | _, _, .nil, _ => by simp only [toPs, PyData.canLayAll0]
  | _, _, .cons r t, h => by
    simp only [toPs, PyData.canLayAll0]
    rw [rep_lay r (by unfold ddeps at h; omega), reps_lay t (by unfold ddeps at h; omega)]; rfl
end
theorem rep_shaped {x : D} {v : V} (r : RepD K H x v) (h : ddep x ≤ 64) : SeqAt.shaped (toP x) = true := by
  unfold SeqAt.shaped
  rw [rep_lay r (by omega)]
  have := toP_dep x
  simp only [Bool.true_and, decide_eq_true_eq]
  omega
@[simp] def fEq (neg : Bool) : F2 := fun mu x y Q => match snap mu x, snap mu y with
  | some a, some b => ddep a ≤ 64 ∧ ddep b ≤ 64 ∧ Q (.d (.bl (if neg then !deqv a b else deqv a b))) mu
  | _, _ => False
theorem opd_eq : OpD K (rEqD K) (fEq false) := fun G B F H al rh si mu x y vx vy Qd Q s r1 r2 h q => by
  unfold fEq at h
  split at h
  · rename_i a b e1 e2
    have p1 := snap_rep s.s r1 e1
    have p2 := snap_rep s.s r2 e2
    exact ⟨_, _, rep_dp p1 (by have := h.1; omega), rep_dp p2 (by have := h.2.1; omega), rep_shaped p1 h.1, rep_shaped p2 h.2.1, by rw [toP_eqv]; exact q F H al mu _ _ (Ext.refl _ _) s (.d (.bl _)) h.2.2⟩
  · exact h.elim
theorem opd_ne : OpD K (rNeD K) (fEq true) := fun G B F H al rh si mu x y vx vy Qd Q s r1 r2 h q => by
  unfold fEq at h
  split at h
  · rename_i a b e1 e2
    have p1 := snap_rep s.s r1 e1
    have p2 := snap_rep s.s r2 e2
    exact ⟨_, _, rep_dp p1 (by have := h.1; omega), rep_dp p2 (by have := h.2.1; omega), rep_shaped p1 h.1, rep_shaped p2 h.2.1, by rw [toP_eqv]; exact q F H al mu _ _ (Ext.refl _ _) s (.d (.bl _)) h.2.2⟩
  · exact h.elim
/-- is None -/
@[simp] def fIs (neg : Bool) : F2 := fun mu x y Q => match y with
  | .d .non => Q (.d (.bl (match x with | .d .non => !neg | _ => neg))) mu
  | _ => False
theorem opd_isn : OpD K (fun x y H Q => y = .non ∧ Q (.bl (!decide (x = .non))) H) (fIs true) := fun G B F H al rh si mu x y vx vy Qd Q s r1 r2 h q => by
  unfold fIs at h
  split at h
  · cases repNon r2
    refine ⟨rfl, q F H al mu _ _ (Ext.refl _ _) s (.d ?_) h⟩
    cases r1 with
    | d r1 => cases r1 <;> exact .bl _
    | _ => exact .bl _
  · exact h.elim
end
end VL
namespace VL
open PySem PySem.Spec PyProof.Rows L2

section
variable {io : Type} {Y : io → Cx} {P : Program} {w : World} {K : KW} {mg : Str → Option Value} {base : Heap} {N : List Str} {k : Nat} {pos : Pos} {a b c : Expr} {wa wb wc : WE} {rest : List Expr}

/-! ### comparisons as values, as tests -/
@[simp] def wTest (f : WE) : WT := fun rh mu Q => f rh mu fun x mu1 => match x with
  | .d (.bl b) => Q b mu1
  | _ => False
theorem ve_cmpR {op : CmpOp} {r : R2} {f : F2} (ho : ∀ i, OpR (Y i) (compareOp op) r) (hd : OpD K r f) (ha : VE Y K a wa) (hb : VE Y K b wb) (hm : behindInMarks op b = false) : VE Y K (.Compare a [op] [b] pos) (wOp f wa wb) := by
  obtain ⟨ta, p1, d1⟩ := ha
  obtain ⟨tb, p2, d2⟩ := hb
  exact ⟨_, fun i => pe_cmpR (ho i) (p1 i) (p2 i) hm, den_op hd d1 d2⟩
theorem den_test {t : TE} {f : WE} (d : Den K t f) : DenT K (tTest t) (wTest f) := fun G B F H al rh si mu Qd Q s h q => by
  refine d G B F H al rh si mu _ _ s h fun F1 H1 al1 mu1 x vx e1 s1 r1 h1 => ?_
  split at h1
  · cases repBl r1
    exact ⟨_, rfl, q F1 H1 al1 mu1 _ e1 s1 h1⟩
  · exact h1.elim
theorem vt_cmpR {op : CmpOp} {r : R2} {f : F2} (ho : ∀ i, OpR (Y i) (compareOp op) r) (hd : OpD K r f) (ha : VE Y K a wa) (hb : VE Y K b wb) (hm : behindInMarks op b = false) : VT Y K (.Compare a [op] [b] pos) (wTest (wOp f wa wb)) := by
  obtain ⟨ta, p1, d1⟩ := ha
  obtain ⟨tb, p2, d2⟩ := hb
  exact ⟨_, fun i => pt_cmpR (ho i) (p1 i) (p2 i) hm, den_test (den_op hd d1 d2)⟩
/-- which comparison it is -/
inductive CmpK (Y : io → Cx) (K : KW) : CmpOp → F2 → Prop
  | mk {op : CmpOp} {r : R2} {f : F2} : (∀ i, OpR (Y i) (compareOp op) r) → OpD K r f → CmpK Y K op f
theorem c_eq (y : YOk Y P w K mg base N k) : CmpK Y K .Eq (fEq false) := .mk (fun i => by rw [← y.hK i]; exact op_eqD (y.room i).units) opd_eq
theorem c_ne (y : YOk Y P w K mg base N k) : CmpK Y K .NotEq (fEq true) := .mk (fun i => by rw [← y.hK i]; exact op_neD (y.room i).units) opd_ne
theorem c_lt (y : YOk Y P w K mg base N k) : CmpK Y K .Lt (fB0 fun i j => decide (i < j)) := .mk (fun i => op_lt) opd_B0
theorem c_gt (y : YOk Y P w K mg base N k) : CmpK Y K .Gt (fB0 fun i j => decide (j < i)) := .mk (fun i => op_gt) opd_B0
theorem c_isn (y : YOk Y P w K mg base N k) : CmpK Y K .IsNot (fIs true) := .mk (fun i => op_notN) opd_isn
theorem ve_cmp {op : CmpOp} {f : F2} (c : CmpK Y K op f) (ha : VE Y K a wa) (hb : VE Y K b wb) (hm : behindInMarks op b = false := by first | exact nomark _ | with_unfolding_all rfl) : VE Y K (.Compare a [op] [b] pos) (wOp f wa wb) := by
  obtain ⟨o, d⟩ := c
  exact ve_cmpR o d ha hb hm
theorem vt_cmp {op : CmpOp} {f : F2} (c : CmpK Y K op f) (ha : VE Y K a wa) (hb : VE Y K b wb) (hm : behindInMarks op b = false := by first | exact nomark _ | with_unfolding_all rfl) : VT Y K (.Compare a [op] [b] pos) (wTest (wOp f wa wb)) := by
  obtain ⟨o, d⟩ := c
  exact vt_cmpR o d ha hb hm
/-- by a truth value -/
def onBl (z : W) (A B : Prop) : Prop := match z with
  | .d (.bl true) => A
  | .d (.bl false) => B
  | _ => False
@[simp] theorem onBl_bl (c : Bool) (A B : Prop) : onBl (.d (.bl c)) A B = if c = true then A else B := by cases c <;> rfl
/-! ### truth -/
@[simp] def truW (mu : Sto) : W → Option Bool
  | .d .non => some false
  | .d (.bl b) => some b
  | .d (.int i) => some (i != 0)
  | .d (.str x) => some ((x.length : Int) != 0)
  | .d (.lst xs) => some (!xs.isEmpty)
  | .d (.tup xs) => some (!xs.isEmpty)
  | .d (.scr ns) => some (!ns.isEmpty)
  | .tup ws => some (!ws.isEmpty)
  | .loc k => match mu[k]? with
    | some (.lst xs) => some (!xs.isEmpty)
    | some (.lstW xs) => some (!xs.isEmpty)
    | _ => none
  | _ => none
theorem isEmpty_len {A1 B1 : Type} {xs : List A1} {ys : List B1} (h : xs.length = ys.length) : xs.isEmpty = ys.isEmpty := by
  cases xs <;> cases ys <;> simp at h ⊢
theorem truW_ok {G B F H : Hp} {al : List Addr} {mu : Sto} {x : W} {v : V} {q : Bool} (s : SRS K G B F H al mu) (r : RepW K F al x v) (e : truW mu x = some q) : TruV K v H q := by
  unfold truW at e
  split at e
  · cases e; cases repNon r; rfl
  · cases e; cases repBl r; rfl
  · cases e; cases repInt r; rfl
  · cases e; obtain ⟨rfl, h⟩ := repStr r; exact ⟨h.2, rfl⟩
  · cases e
    cases r with
    | d r => cases r with
      | lst q z p => exact .inl ⟨_, .inl (rdMono s.fz q), by rw [isEmpty_len p.len]⟩
  · cases e
    obtain ⟨a, vs, rfl, q, z, p⟩ := repTup r
    exact .inr (.inl ⟨_, sqtMono s.fz q, by rw [isEmpty_len (Paired.length p)]⟩)
  · cases e
    cases r with
    | d r => cases r with
      | scr q z => exact .inl ⟨_, sqlMono s.fz q, by rw [isEmpty_len (List.length_map (as := _) V.int)]⟩
  · cases e
    cases r with
    | tup q z p => exact .inr (.inl ⟨_, sqtMono s.fz q, by rw [isEmpty_len (Paired.length p.p)]⟩)
  · split at e
    · rename_i q
      cases e
      cases r with
      | loc ea =>
        obtain ⟨vs, h, z, p⟩ := s.lstAt q ea
        exact .inl ⟨vs, SqL.of h, by rw [isEmpty_len (Paired.length p)]⟩
    · rename_i q
      cases e
      cases r with
      | loc ea =>
        obtain ⟨vs, h, z, p⟩ := s.lstWAt q ea
        exact .inl ⟨vs, SqL.of h, by rw [isEmpty_len (Paired.length p)]⟩
    · cases e
  · cases e
@[simp] def wTru (f : WE) : WT := fun rh mu Q => f rh mu fun x mu1 => match truW mu1 x with
  | some b => Q b mu1
  | none => False
theorem vt_truth (y : YOk Y P w K mg base N k) (ha : VE Y K a wa) (he : ∀ i whole, isTrue a (Y i).env whole = (do let v ← whole; standAt a.pos; holding [v] (truthy v)) := by exact fun _ _ => rfl) : VT Y K a (wTru wa) := by
  obtain ⟨ta, p1, d1⟩ := ha
  refine ⟨fun σ H Q => ta σ H fun x H' => ∃ k, TruV K x H' k ∧ Q k H', fun i => by rw [← y.hK i]; exact pt_truth (p1 i) (he i), fun G B F H al rh si mu Qd Q s h q => ?_⟩
  refine d1 G B F H al rh si mu _ _ s h fun F1 H1 al1 mu1 x vx e1 s1 r1 h1 => ?_
  split at h1
  · rename_i b e
    exact ⟨b, truW_ok s1.s r1 e, q F1 H1 al1 mu1 b e1 s1 h1⟩
  · exact h1.elim

/-! ### and, or, not -/
@[simp] def wAnd (f g : WT) : WT := fun rh mu Q => f rh mu fun c mu1 => if c = true then g rh mu1 Q else Q false mu1
@[simp] def wOr (f g : WT) : WT := fun rh mu Q => f rh mu fun c mu1 => if c = true then Q true mu1 else g rh mu1 Q
@[simp] def wNot (f : WT) : WT := fun rh mu Q => f rh mu fun c mu1 => Q (!c) mu1
variable {fa fb : WT}
theorem VW.vt (h : VW Y K a fa) : VT Y K a fa := by
  obtain ⟨t, p, d⟩ := h
  exact ⟨t, fun i => (p i).pt, d⟩
theorem vw_and1 (ha : VT Y K a fa) : VW Y K (.BoolOp .And [a] pos) fa := by
  obtain ⟨t, p, d⟩ := ha
  exact ⟨t, fun i => pw_and1 (p i), d⟩
theorem vw_or1 (ha : VT Y K a fa) : VW Y K (.BoolOp .Or [a] pos) fa := by
  obtain ⟨t, p, d⟩ := ha
  exact ⟨t, fun i => pw_or1 (p i), d⟩
theorem vw_and (ha : VT Y K a fa) (hb : VW Y K (.BoolOp .And (b :: rest) pos) fb) : VW Y K (.BoolOp .And (a :: b :: rest) pos) (wAnd fa fb) := by
  obtain ⟨t, p, d⟩ := ha
  obtain ⟨u, p', d'⟩ := hb
  refine ⟨_, fun i => pw_and (p i) (p' i), fun G B F H al rh si mu Qd Q s h q => ?_⟩
  refine d G B F H al rh si mu _ _ s h fun F1 H1 al1 mu1 x e1 s1 h1 => ?_
  cases x with
  | true => exact iteT (d' G B F1 H1 al1 rh si mu1 Qd Q s1 (by simpa using h1) fun F2 H2 al2 mu2 z e2 => q F2 H2 al2 mu2 z (e1.trans e2))
  | false => exact iteF (q F1 H1 al1 mu1 false e1 s1 (by simpa using h1))
theorem vw_or (ha : VT Y K a fa) (hb : VW Y K (.BoolOp .Or (b :: rest) pos) fb) : VW Y K (.BoolOp .Or (a :: b :: rest) pos) (wOr fa fb) := by
  obtain ⟨t, p, d⟩ := ha
  obtain ⟨u, p', d'⟩ := hb
  refine ⟨_, fun i => pw_or (p i) (p' i), fun G B F H al rh si mu Qd Q s h q => ?_⟩
  refine d G B F H al rh si mu _ _ s h fun F1 H1 al1 mu1 x e1 s1 h1 => ?_
  cases x with
  | true => exact iteT (q F1 H1 al1 mu1 true e1 s1 (by simpa using h1))
  | false => exact iteF (d' G B F1 H1 al1 rh si mu1 Qd Q s1 (by simpa using h1) fun F2 H2 al2 mu2 z e2 => q F2 H2 al2 mu2 z (e1.trans e2))
theorem vt_not (ha : VT Y K a fa) : VT Y K (.UnaryOp .Not a pos) (wNot fa) := by
  obtain ⟨t, p, d⟩ := ha
  refine ⟨_, fun i => pt_not (p i), fun G B F H al rh si mu Qd Q s h q => ?_⟩
  exact d G B F H al rh si mu _ _ s h fun F1 H1 al1 mu1 x e1 s1 h1 => q F1 H1 al1 mu1 _ e1 s1 h1
/-- as values -/
@[simp] def wAndV (f g : WE) : WE := fun rh mu Q => f rh mu fun x mu1 => onBl x (g rh mu1 Q) (Q (.d (.bl false)) mu1)
@[simp] def wOrV (f g : WE) : WE := fun rh mu Q => f rh mu fun x mu1 => onBl x (Q (.d (.bl true)) mu1) (g rh mu1 Q)
theorem ve_one {op} (h : VE Y K a wa) : VE Y K (.BoolOp op [a] pos) wa := by
  obtain ⟨t, p, d⟩ := h
  exact ⟨t, fun i => pe_one (p i), d⟩
theorem ve_andV (ha : VE Y K a wa) (hb : VE Y K (.BoolOp .And (b :: rest) pos) wb) : VE Y K (.BoolOp .And (a :: b :: rest) pos) (wAndV wa wb) := by
  obtain ⟨t, p, d⟩ := ha
  obtain ⟨u, p', d'⟩ := hb
  refine ⟨_, fun i => pe_and (p i) (p' i), fun G B F H al rh si mu Qd Q s h q => ?_⟩
  refine d G B F H al rh si mu _ _ s h fun F1 H1 al1 mu1 x vx e1 s1 r1 h1 => ?_
  unfold onBl at h1
  split at h1
  · cases repBl r1
    exact ⟨true, rfl, iteT (d' G B F1 H1 al1 rh si mu1 Qd Q s1 h1 fun F2 H2 al2 mu2 z vz e2 => q F2 H2 al2 mu2 z vz (e1.trans e2))⟩
  · cases repBl r1
    exact ⟨false, rfl, iteF (q F1 H1 al1 mu1 _ _ e1 s1 r1 h1)⟩
  · exact h1.elim
theorem ve_orV (ha : VE Y K a wa) (hb : VE Y K (.BoolOp .Or (b :: rest) pos) wb) : VE Y K (.BoolOp .Or (a :: b :: rest) pos) (wOrV wa wb) := by
  obtain ⟨t, p, d⟩ := ha
  obtain ⟨u, p', d'⟩ := hb
  refine ⟨_, fun i => pe_or (p i) (p' i), fun G B F H al rh si mu Qd Q s h q => ?_⟩
  refine d G B F H al rh si mu _ _ s h fun F1 H1 al1 mu1 x vx e1 s1 r1 h1 => ?_
  unfold onBl at h1
  split at h1
  · cases repBl r1
    exact ⟨true, rfl, iteT (q F1 H1 al1 mu1 _ _ e1 s1 r1 h1)⟩
  · cases repBl r1
    exact ⟨false, rfl, iteF (d' G B F1 H1 al1 rh si mu1 Qd Q s1 h1 fun F2 H2 al2 mu2 z vz e2 => q F2 H2 al2 mu2 z vz (e1.trans e2))⟩
  · exact h1.elim
/-! ### argument lists, displays -/
@[simp] def wNil : WA := fun _ mu Q => Q [] mu
@[simp] def wCons (f : WE) (g : WA) : WA := fun rh mu Q => f rh mu fun x mu1 => g rh mu1 fun xs mu2 => Q (x :: xs) mu2
variable {es : List Expr} {ga : WA}
theorem va_nil : VA Y K [] wNil := ⟨_, fun _ => pa_nil, fun G B F H al rh si mu Qd Q s h q => q F H al mu [] [] (Ext.refl _ _) s .nil h⟩
theorem va_cons (ha : VE Y K a wa) (hr : VA Y K es ga) (hs : ∀ i, starEach (a :: es) (Y i).env = (false, eval a (Y i).env) :: starEach es (Y i).env := by exact fun _ => rfl) : VA Y K (a :: es) (wCons wa ga) := by
  obtain ⟨t, p, d⟩ := ha
  obtain ⟨u, p', d'⟩ := hr
  refine ⟨_, fun i => pa_cons (p i) (p' i) (hs i), fun G B F H al rh si mu Qd Q s h q => ?_⟩
  refine d G B F H al rh si mu _ _ s h fun F1 H1 al1 mu1 x vx e1 s1 r1 h1 => ?_
  exact d' G B F1 H1 al1 rh si mu1 _ _ s1 h1 fun F2 H2 al2 mu2 ws vs e2 s2 r2 h2 => q F2 H2 al2 mu2 _ _ (e1.trans e2) s2 (.cons (r1.mono e2) r2) h2
@[simp] def wTup (g : WA) : WE := fun rh mu Q => g rh mu fun ws mu1 => ws.length ≤ sizeLine ∧ Q (mkTup ws) mu1
@[simp] def wLst (o : Bool) (g : WA) : WE := fun rh mu Q => g rh mu fun ws mu1 => ws.length ≤ sizeLine ∧ newLW o ws mu1 Q
theorem ve_tup {x1} (h : VA Y K es ga) : VE Y K (.Tuple es x1 pos) (wTup ga) := by
  obtain ⟨t, p, d⟩ := h
  refine ⟨_, fun i => pe_tup (p i), fun G B F H al rh si mu Qd Q s h q => ?_⟩
  refine d G B F H al rh si mu _ _ s h fun F1 H1 al1 mu1 ws vs e1 s1 r1 h1 => ?_
  have l := Paired.length r1
  exact ⟨by have := h1.1; omega, newT_ok s1 r1 (by have := h1.1; omega) h1.2 fun F2 H2 al2 mu2 z vz e2 => q F2 H2 al2 mu2 z vz (e1.trans e2)⟩
theorem ve_lst (o : Bool) (h : VA Y K es ga) : VE Y K (.List es pos) (wLst o ga) := by
  obtain ⟨t, p, d⟩ := h
  refine ⟨_, fun i => pe_lst (p i), fun G B F H al rh si mu Qd Q s h q => ?_⟩
  refine d G B F H al rh si mu _ _ s h fun F1 H1 al1 mu1 ws vs e1 s1 r1 h1 => ?_
  have l := Paired.length r1
  exact ⟨by have := h1.1; omega, newLW_ok s1 r1 (by have := h1.1; omega) h1.2 fun F2 H2 al2 mu2 z vz e2 => q F2 H2 al2 mu2 z vz (e1.trans e2)⟩
end

/-! ### subscripts -/
/-- the items of a list, a tuple -/
@[simp] def seqW (mu : Sto) : W → Option (List W)
  | .d (.lst xs) => some (xs.map .d)
  | .d (.tup xs) => some (xs.map .d)
  | .d (.scr ns) => some (ns.map fun n => .d (.int n))
  | .tup ws => some ws
  | .loc k => match mu[k]? with
    | some (.lst xs) => some (xs.map .d)
    | some (.lstW ws) => some ws
    | _ => none
  | _ => none
section
variable {K : KW} {G B F F' H H' : Hp} {al al' : List Addr} {mu mu' : Sto} {rh : Ev} {si : L2.St}
theorem pMapD {xs : List D} {vs : List V} (p : Paired (RepD K F) xs vs) : Paired (RepW K F al) (xs.map .d) vs := by
  induction p with
  | nil => exact .nil
  | cons r t ih => exact .cons (.d r) ih
theorem pScr : ∀ ns : List Int, Paired (RepW K F al) (ns.map fun n => .d (.int n)) (ns.map V.int)
  | [] => .nil
  | n :: ns => .cons (.d (.int n)) (pScr ns)
theorem pScrD : ∀ ns : List Int, Paired (RepD K F) (ns.map D.int) (ns.map V.int)
  | [] => .nil
  | n :: ns => .cons (.int n) (pScrD ns)
/-- what is read of a sequence -/
theorem seqW_rep {x : W} {v : V} {ws : List W} (s : SRS K G B F H al mu) (r : RepW K F al x v) (e : seqW mu x = some ws) : ∃ a vs, v = .ref a ∧ (SqL K H a vs ∨ SqT K H a vs) ∧ vs.length ≤ sizeLine ∧ Paired (RepW K F al) ws vs := by
  unfold seqW at e
  split at e
  · cases e
    cases r with
    | d r => cases r with
      | lst q z p => exact ⟨_, _, rfl, .inl (.inl (rdMono s.fz q)), z, pMapD p.p⟩
  · cases e
    obtain ⟨a, vs, rfl, q, z, p⟩ := repTup r
    exact ⟨_, _, rfl, .inr (sqtMono s.fz q), z, pMapD p⟩
  · cases e
    cases r with
    | d r => cases r with
      | scr q z => exact ⟨_, _, rfl, .inl (sqlMono s.fz q), by rw [List.length_map]; exact z, pScr _⟩
  · cases e
    cases r with
    | tup q z p => exact ⟨_, _, rfl, .inr (sqtMono s.fz q), z, p.p⟩
  · split at e
    · rename_i q
      cases e
      cases r with
      | loc ea =>
        obtain ⟨vs, h, z, p⟩ := s.lstAt q ea
        exact ⟨_, vs, rfl, .inl (SqL.of h), z, pMapD p⟩
    · rename_i q
      cases e
      cases r with
      | loc ea =>
        obtain ⟨vs, h, z, p⟩ := s.lstWAt q ea
        exact ⟨_, vs, rfl, .inl (SqL.of h), z, p⟩
    · cases e
  · cases e
theorem ixN_len {A1 B1 : Type} {R : A1 → B1 → Prop} {xs : List A1} {ys : List B1} (p : Paired R xs ys) {i : Int} {x : A1} (h : atI xs i = some x) : ∃ y, atI ys i = some y ∧ R x y := by
  unfold atI at h ⊢
  rw [← Paired.length p]
  cases q : ixN xs.length i with
  | none => rw [q] at h; cases h
  | some j =>
    rw [q] at h
    exact pGetL p h
@[simp] def fIx : F2 := fun mu x y Q => match x, y with
  | .d (.str z), .d (.int i) => ∃ c, atI z.cps.toList i = some c ∧ Q (.d (.str ⟨#[c]⟩)) mu
  | .d (.lst xs), .d (.int i) => ∃ d, atI xs i = some d ∧ Q (.d d) mu
  | .d (.tup xs), .d (.int i) => ∃ d, atI xs i = some d ∧ Q (.d d) mu
  | x, .d (.int i) => match seqW mu x with
    | some ws => ∃ u, atI ws i = some u ∧ Q u mu
    | none => False
  | _, _ => False
theorem strOk_at {z : Str} {i : Int} {c : Nat} (h : StrOk z) (e : atI z.cps.toList i = some c) : StrOk ⟨#[c]⟩ := by
  unfold atI at e
  cases q : ixN z.cps.toList.length i with
  | none => rw [q] at e; cases e
  | some j =>
    rw [q] at e
    have e' : z.cps.toList[j]? = some c := e
    have hm := List.mem_of_getElem? e'
    have h1 := h.1
    unfold PyData.strOk at h1
    rw [Array.all_eq_true'] at h1
    have h2 := h1 c (by simpa using hm)
    exact ⟨by unfold PyData.strOk; simpa using h2, by show 1 ≤ sizeLine; decide⟩
theorem fIx_seq {x : W} {vx : V} {i : Int} {ws : List W} {u : W} {Q : VK} {Qd : W → Sto → Prop} (s : SR K G B F H al rh si mu) (r : RepW K F al x vx) (e : seqW mu x = some ws) (a : atI ws i = some u) (h : Qd u mu)
    (q : ∀ F' H' al' mu' w v, Ext F al F' al' → SR K G B F' H' al' rh si mu' → RepW K F' al' w v → Qd w mu' → Q v H') : rIx K vx (.int i) H Q := by
  obtain ⟨p, vs, rfl, hs, z, pr⟩ := seqW_rep s.s r e
  obtain ⟨v, e2, rv⟩ := ixN_len pr a
  have fin := q F H al mu u v (Ext.refl _ _) s rv h
  rcases hs with hs | hs
  · exact .inl ⟨p, vs, i, v, rfl, rfl, hs, e2, fin⟩
  · exact .inr (.inl ⟨p, vs, i, v, rfl, rfl, hs, e2, fin⟩)
theorem atI_map {A1 B1 : Type} {xs : List A1} {f : A1 → B1} {i : Int} {x : A1} (h : atI xs i = some x) : atI (xs.map f) i = some (f x) := by
  unfold atI at h ⊢
  rw [List.length_map]
  cases q : ixN xs.length i with
  | none => rw [q] at h; cases h
  | some j =>
    rw [q] at h
    have h' : xs[j]? = some x := h
    show (xs.map f)[j]? = some (f x)
    rw [List.getElem?_map, h']; rfl
theorem opd_ix : OpD K (rIx K) fIx := fun G B F H al rh si mu x y vx vy Qd Q s r1 r2 h q => by
  unfold fIx at h
  split at h
  · obtain ⟨rfl, hz⟩ := repStr r1
    cases repInt r2
    obtain ⟨c, e, h⟩ := h
    exact .inr (.inr ⟨_, _, c, rfl, rfl, hz.2, e, q F H al mu _ _ (Ext.refl _ _) s (.d (.str _ (strOk_at hz e))) h⟩)
  · cases repInt r2
    obtain ⟨d, e, h⟩ := h
    exact fIx_seq s r1 rfl (atI_map (f := W.d) e) h q
  · cases repInt r2
    obtain ⟨d, e, h⟩ := h
    exact fIx_seq s r1 rfl (atI_map (f := W.d) e) h q
  · cases repInt r2
    split at h
    · rename_i e
      obtain ⟨u, a, h⟩ := h
      exact fIx_seq s r1 e a h q
    · exact h.elim
  · exact h.elim
end
section
variable {io : Type} {Y : io → Cx} {P : Program} {w : World} {K : KW} {mg : Str → Option Value} {base : Heap} {N : List Str} {k : Nat} {pos : Pos} {a b c : Expr} {wa wb wc : WE}
theorem ve_ix (y : YOk Y P w K mg base N k) (ha : VE Y K a wa) (hb : VE Y K b wb) (hs : PlainIx b := by exact fun _ _ => rfl) : VE Y K (.Subscript a b pos) (wOp fIx wa wb) := by
  obtain ⟨ta, p1, d1⟩ := ha
  obtain ⟨tb, p2, d2⟩ := hb
  exact ⟨tOp (rIx K) ta tb, fun i => by rw [← y.hK i]; exact pe_ix ix_seq (p1 i) (p2 i) hs, den_op opd_ix d1 d2⟩

/-! ### slices -/
abbrev WO := Ev → Sto → (Option Int → Sto → Prop) → Prop
def DenO (K : KW) (t : TO) (f : WO) : Prop := ∀ (G B F H : Hp) (al : List Addr) (rh : Ev) (si : L2.St) (mu : Sto) (Qd : Option Int → Sto → Prop) (Q : Option Int → Hp → Prop), SR K G B F H al rh si mu → f rh mu Qd →
  (∀ F' H' al' mu' o, Ext F al F' al' → SR K G B F' H' al' rh si mu' → Qd o mu' → Q o H') → t si H Q
def VO (Y : io → Cx) (K : KW) (e : Option Expr) (f : WO) : Prop := ∃ t, (∀ i, PO (Y i) e t) ∧ DenO K t f
@[simp] def wNoPart : WO := fun _ mu Q => Q none mu
@[simp] def wPart (f : WE) : WO := fun rh mu Q => f rh mu fun x mu1 => match x with
  | .d (.int i) => Q (some i) mu1
  | _ => False
theorem vo_none : VO Y K none wNoPart := ⟨_, fun _ => po_none, fun G B F H al rh si mu Qd Q s h q => q F H al mu none (Ext.refl _ _) s h⟩
theorem vo_some (h : VE Y K a wa) : VO Y K (some a) (wPart wa) := by
  obtain ⟨t, p, d⟩ := h
  refine ⟨_, fun i => po_some (p i), fun G B F H al rh si mu Qd Q s h q => ?_⟩
  refine d G B F H al rh si mu _ _ s h fun F1 H1 al1 mu1 x vx e1 s1 r1 h1 => ?_
  split at h1
  · cases repInt r1
    exact ⟨_, rfl, q F1 H1 al1 mu1 _ e1 s1 h1⟩
  · exact h1.elim
/-- the items of xs[lo:hi] -/
def cutL {A1 : Type} (xs : List A1) (lo hi : Option Int) : List A1 := (xs.drop (HT.sIx xs.length 0 lo)).take (HT.sIx xs.length xs.length hi - HT.sIx xs.length 0 lo)
@[simp] def wSl (o : Bool) (f : WE) (l h : WO) : WE := fun rh mu Q => f rh mu fun x mu1 => l rh mu1 fun lo mu2 => h rh mu2 fun hi mu3 => match x with
  | .d (.str z) => Q (.d (.str (cutS z lo hi))) mu3
  | .d (.tup xs) => ¬ (HT.sIx xs.length 0 lo = 0 ∧ HT.sIx xs.length xs.length hi = xs.length) ∧ Q (.d (.tup (cutL xs lo hi))) mu3
  | .d (.scr ns) => newL o (cutL (ns.map D.int) lo hi) mu3 Q
  | x => match lsD mu3 x with
    | some xs => newL o (cutL xs lo hi) mu3 Q
    | none => False
theorem strOk_cut {z : Str} {lo hi : Option Int} (h : StrOk z) : StrOk (cutS z lo hi) := by
  refine ⟨?_, Nat.le_trans (cutS_length z lo hi) h.2⟩
  have h1 := h.1
  unfold PyData.strOk at h1 ⊢
  rw [Array.all_eq_true'] at h1 ⊢
  intro x hx
  refine h1 x ?_
  unfold cutS at hx
  have := List.mem_of_mem_drop (List.mem_of_mem_take (by simpa using hx))
  simpa using this
theorem cutP {A1 B1 : Type} {R : A1 → B1 → Prop} {xs : List A1} {ys : List B1} (p : Paired R xs ys) (lo hi : Option Int) : Paired R (cutL xs lo hi) (cutL ys lo hi) := by
  unfold cutL
  rw [← Paired.length p]
  exact pCut p _ _
theorem ve_slice (y : YOk Y P w K mg base N k) (o : Bool) {lo hi : Option Expr} {p2 : Pos} {fl fh : WO} (ha : VE Y K a wa) (hl : VO Y K lo fl) (hh : VO Y K hi fh) : VE Y K (.Subscript a (.Slice lo hi none p2) pos) (wSl o wa fl fh) := by
  obtain ⟨ta, p1, d1⟩ := ha
  obtain ⟨tl, p2, d2⟩ := hl
  obtain ⟨th, p3, d3⟩ := hh
  refine ⟨tSl (fun x lo hi H Q => rSlS x lo hi H Q ∨ rSlT K x lo hi H Q ∨ rSlL K x lo hi H Q) ta tl th, fun i => by rw [← y.hK i]; exact pe_slice (sl_str.or (sl_tup.or sl_list)) (p1 i) (p2 i) (p3 i), fun G B F H al rh si mu Qd Q s h q => ?_⟩
  refine d1 G B F H al rh si mu _ _ s h fun F1 H1 al1 mu1 x vx e1 s1 r1 h1 => ?_
  refine d2 G B F1 H1 al1 rh si mu1 _ _ s1 h1 fun F2 H2 al2 mu2 l e2 s2 h2 => ?_
  refine d3 G B F2 H2 al2 rh si mu2 _ _ s2 h2 fun F3 H3 al3 mu3 u e3 s3 h3 => ?_
  have r3 := r1.mono (e2.trans e3)
  have q3 := fun F' H' al' mu' w v (x : Ext F3 al3 F' al') => q F' H' al' mu' w v (((e1.trans e2).trans e3).trans x)
  split at h3
  · obtain ⟨rfl, hz⟩ := repStr r3
    exact .inl ⟨_, rfl, hz.2, q3 F3 H3 al3 mu3 _ _ (Ext.refl _ _) s3 (.d (.str _ (strOk_cut hz))) h3⟩
  · obtain ⟨b, vs, rfl, qt, z, pr⟩ := repTup r3
    have le := Paired.length pr
    refine .inr (.inl ⟨b, vs, rfl, sqtMono s3.s.fz qt, by rw [← le]; exact h3.1, fun p hp => ?_⟩)
    have x := s3.s.frozX (o := .tup (cutV vs l u)) hp
    refine q3 _ _ _ _ _ _ x (s3.step x (s3.s.froz hp)) (.d (.tup (SqT.of upd_same) ?_ ((RepDs.of (cutP pr l u)).mono x.1))) h3.2
    exact Nat.le_trans (cutV_length vs l u) z
  · cases r3 with
    | d r3 => cases r3 with
      | scr qt z => exact .inr (.inr ⟨_, _, rfl, sqlMono s3.s.fz qt, newL_ok s3 (cutP (pScrD _) l u) (Nat.le_trans (cutV_length _ l u) (by rw [List.length_map]; exact z)) h3 q3⟩)
  · split at h3
    · rename_i e4
      obtain ⟨b, vs, rfl, qt, z, pr⟩ := lsD_rep s3.s r3 e4
      exact .inr (.inr ⟨b, vs, rfl, .inl qt, newL_ok s3 (cutP pr l u) (Nat.le_trans (cutV_length vs l u) z) h3 q3⟩)
    · exact h3.elim
end
end VL
namespace VL
open PySem PySem.Spec PyProof.Rows L2

/-! ### built-in functions -/
abbrev FC := Sto → List W → (W → Sto → Prop) → Prop
@[simp] def wCall (f : FC) (g : WA) : WE := fun rh mu Q => g rh mu fun ws mu1 => f mu1 ws Q
def CallD (K : KW) (r : List V → Hp → VK → Prop) (f : FC) : Prop := ∀ (G B F H : Hp) (al : List Addr) (rh : Ev) (si : L2.St) (mu : Sto) (ws : List W) (vs : List V) (Qd : W → Sto → Prop) (Q : VK), SR K G B F H al rh si mu → Paired (RepW K F al) ws vs → f mu ws Qd →
  (∀ F' H' al' mu' w v, Ext F al F' al' → SR K G B F' H' al' rh si mu' → RepW K F' al' w v → Qd w mu' → Q v H') → r vs H Q
section
variable {io : Type} {Y : io → Cx} {P : Program} {w : World} {K : KW} {mg : Str → Option Value} {base : Heap} {N : List Str} {k : Nat} {pos p : Pos} {a b c e : Expr} {es : List Expr} {wa wb wc : WE} {ga : WA} {x : Str} {id T : String} {r : List V → Hp → VK → Prop} {f : FC}
theorem den_call {t : TA} (hd : CallD K r f) (ha : DenA K t ga) : Den K (tCB r t) (wCall f ga) := fun G B F H al rh si mu Qd Q s h q => by
  refine ha G B F H al rh si mu _ _ s h fun F1 H1 al1 mu1 ws vs e1 s1 r1 h1 => ?_
  exact hd G B F1 H1 al1 rh si mu1 ws vs Qd Q s1 r1 h1 fun F2 H2 al2 mu2 z vz e2 => q F2 H2 al2 mu2 z vz (e1.trans e2)
theorem ve_callB (y : YOk Y P w K mg base N k) (hc : ∀ i, CallR (Y i) (.builtin id) r) (hd : CallD K r f) (hm : mg x = none) (hv : bootBuiltins x = some (.builtin id)) (ha : VA Y K (e :: es) ga) (hg : ∀ j, Gl (Y j) x := by exact fun _ => rfl) (hn : x ≠ "__name__" := by decide) (hdb : (x == ("__debug__" : Str)) = false := by decide)
    (he : ∀ i, starEach (e :: es) (Y i).env = (false, eval e (Y i).env) :: starEach es (Y i).env := by exact fun _ => rfl) (hpl : ∀ i, (backTo pos (starEach es (Y i).env)).any (·.1) = false := by exact fun _ => rfl) : VE Y K (.Call (.Name x p) (e :: es) [] pos) (wCall f ga) := by
  obtain ⟨t, p1, d1⟩ := ha
  exact ⟨_, fun i => pe_callB (hc i) (hg i) (by rw [y.hmg i]; exact hm) hv (p1 i) hn hdb (he i) (hpl i), den_call hd d1⟩
theorem ve_callTy (y : YOk Y P w K mg base N k) (hc : ∀ i, CallR (Y i) (.type T) r) (hd : CallD K r f) (hm : mg x = none) (hv : bootBuiltins x = some (.type T)) (ha : VA Y K (e :: es) ga) (hg : ∀ j, Gl (Y j) x := by exact fun _ => rfl) (hn : x ≠ "__name__" := by decide) (hdb : (x == ("__debug__" : Str)) = false := by decide)
    (he : ∀ i, starEach (e :: es) (Y i).env = (false, eval e (Y i).env) :: starEach es (Y i).env := by exact fun _ => rfl) (hpl : ∀ i, (backTo pos (starEach es (Y i).env)).any (·.1) = false := by exact fun _ => rfl) : VE Y K (.Call (.Name x p) (e :: es) [] pos) (wCall f ga) := by
  obtain ⟨t, p1, d1⟩ := ha
  exact ⟨_, fun i => pe_callTy (hc i) (hg i) (by rw [y.hmg i]; exact hm) hv (p1 i) hn hdb (he i) (hpl i), den_call hd d1⟩
end

section
variable {K : KW} {G B F F' H H' : Hp} {al al' : List Addr} {mu mu' : Sto} {rh : Ev} {si : L2.St}
theorem pair1 {A1 B1 : Type} {R : A1 → B1 → Prop} {x : A1} {ys : List B1} (p : Paired R [x] ys) : ∃ y, ys = [y] ∧ R x y := by
  cases p with
  | cons r t => cases t; exact ⟨_, rfl, r⟩
theorem pair2 {A1 B1 : Type} {R : A1 → B1 → Prop} {x x' : A1} {ys : List B1} (p : Paired R [x, x'] ys) : ∃ y y', ys = [y, y'] ∧ R x y ∧ R x' y' := by
  cases p with
  | cons r t => obtain ⟨y', rfl, r'⟩ := pair1 t; exact ⟨_, _, rfl, r, r'⟩
/-- len -/
@[simp] def fLen : FC := fun mu ws Q => match ws with
  | [.d (.str z)] => Q (.d (.int z.length)) mu
  | [x] => match seqW mu x with
    | some us => Q (.d (.int us.length)) mu
    | none => False
  | _ => False
theorem cd_len : CallD K (fun xs H Q => ∃ x n, xs = [x] ∧ LenV K x H n ∧ Q (.int n) H) fLen := fun G B F H al rh si mu ws vs Qd Q s r0 h q => by
  unfold fLen at h
  split at h
  · obtain ⟨v, rfl, r⟩ := pair1 r0
    obtain ⟨rfl, hz⟩ := repStr r
    exact ⟨_, _, rfl, ⟨hz.2, rfl⟩, q F H al mu _ _ (Ext.refl _ _) s (.d (.int _)) h⟩
  · obtain ⟨v, rfl, r⟩ := pair1 r0
    split at h
    · rename_i us e
      obtain ⟨b, vs, rfl, hs, z, p⟩ := seqW_rep s.s r e
      have l := Paired.length p
      refine ⟨.ref b, vs.length, rfl, ?_, q F H al mu _ _ (Ext.refl _ _) s (.d ?_) h⟩
      · rcases hs with hs | hs
        · exact .inl ⟨vs, hs, rfl⟩
        · exact .inr ⟨vs, hs, rfl⟩
      · rw [l]; exact .int _
    · exact h.elim
  · exact h.elim
/-- list(x), tuple(x) -/
@[simp] def fList (o : Bool) : FC := fun mu ws Q => match ws with
  | [x] => match seqW mu x with
    | some us => newLW o us mu Q
    | none => False
  | _ => False
theorem cd_list (o : Bool) : CallD K (fun xs H Q => ∃ p ys, xs = [.ref p] ∧ (SqL K H p ys ∨ SqT K H p ys) ∧ ∀ l, H l = none → Q (.ref l) (upd H l (.lst ys))) (fList o) := fun G B F H al rh si mu ws vs Qd Q s r0 h q => by
  unfold fList at h
  split at h
  · obtain ⟨v, rfl, r⟩ := pair1 r0
    split at h
    · rename_i us e
      obtain ⟨b, vs, rfl, hs, z, p⟩ := seqW_rep s.s r e
      exact ⟨b, vs, rfl, hs, newLW_ok s p z h q⟩
    · exact h.elim
  · exact h.elim
@[simp] def fTuple : FC := fun mu ws Q => match ws with
  | [.d (.tup xs)] => Q (.d (.tup xs)) mu
  | [.tup us] => Q (.tup us) mu
  | [x] => match seqW mu x with
    | some us => Q (mkTup us) mu
    | none => False
  | _ => False
theorem cd_tuple : CallD K (fun xs H Q => ∃ p ys, xs = [.ref p] ∧ ((SqL K H p ys ∧ ∀ l, H l = none → Q (.ref l) (upd H l (.tup ys))) ∨ (SqT K H p ys ∧ Q (.ref p) H))) fTuple := fun G B F H al rh si mu ws vs Qd Q s r0 h q => by
  unfold fTuple at h
  split at h
  · obtain ⟨v, rfl, r⟩ := pair1 r0
    obtain ⟨b, vs, rfl, hs, z, p⟩ := repTup r
    exact ⟨b, vs, rfl, .inr ⟨sqtMono s.s.fz hs, q F H al mu _ _ (Ext.refl _ _) s r h⟩⟩
  · obtain ⟨v, rfl, r⟩ := pair1 r0
    cases r with
    | tup hs z p => exact ⟨_, _, rfl, .inr ⟨sqtMono s.s.fz hs, q F H al mu _ _ (Ext.refl _ _) s (.tup hs z p) h⟩⟩
  · rename_i x n1 n2
    obtain ⟨v, rfl, r⟩ := pair1 r0
    split at h
    · rename_i us e
      have nt : ∃ a vs, v = .ref a ∧ SqL K H a vs ∧ vs.length ≤ sizeLine ∧ Paired (RepW K F al) us vs := by
        unfold seqW at e
        split at e
        · cases e
          cases r with
          | d r => cases r with
            | lst q z p => exact ⟨_, _, rfl, .inl (rdMono s.s.fz q), z, pMapD p.p⟩
        · exact (n1 _ rfl).elim
        · cases e
          cases r with
          | d r => cases r with
            | scr q z => exact ⟨_, _, rfl, sqlMono s.s.fz q, by rw [List.length_map]; exact z, pScr _⟩
        · exact (n2 _ rfl).elim
        · split at e
          · rename_i q
            cases e
            cases r with
            | loc ea =>
              obtain ⟨vs, h, z, p⟩ := s.s.lstAt q ea
              exact ⟨_, vs, rfl, SqL.of h, z, pMapD p⟩
          · rename_i q
            cases e
            cases r with
            | loc ea =>
              obtain ⟨vs, h, z, p⟩ := s.s.lstWAt q ea
              exact ⟨_, vs, rfl, SqL.of h, z, p⟩
          · cases e
        · cases e
      obtain ⟨b, vs, rfl, hs, z, p⟩ := nt
      exact ⟨b, vs, rfl, .inl ⟨hs, newT_ok s p z h q⟩⟩
    · exact h.elim
  · exact h.elim
/-- int(x) of an int, a bool -/
@[simp] def fInt : FC := fun mu ws Q => match ws with
  | [.d (.int i)] => Q (.d (.int i)) mu
  | [.d (.bl b)] => Q (.d (.int (if b then 1 else 0))) mu
  | _ => False
theorem cd_int : CallD K (fun xs H Q => (∃ i, xs = [.int i] ∧ Q (.int i) H) ∨ ∃ k, xs = [.bl k] ∧ Q (.int (if k then 1 else 0)) H) fInt := fun G B F H al rh si mu ws vs Qd Q s r0 h q => by
  unfold fInt at h
  split at h
  · obtain ⟨v, rfl, r⟩ := pair1 r0
    cases repInt r
    exact .inl ⟨_, rfl, q F H al mu _ _ (Ext.refl _ _) s (.d (.int _)) h⟩
  · obtain ⟨v, rfl, r⟩ := pair1 r0
    cases repBl r
    exact .inr ⟨_, rfl, q F H al mu _ _ (Ext.refl _ _) s (.d (.int _)) h⟩
  · exact h.elim
/-- sum, any, all, min of a list -/
theorem ints_rep {ns : List Int} {vs : List V} (p : Paired (RepD K F) (ns.map D.int) vs) : vs = ns.map V.int := by
  induction ns generalizing vs with
  | nil => cases p; rfl
  | cons n ns ih => cases p with
    | cons r t => cases r; rw [ih t]; rfl
theorem bls_rep {ns : List Bool} {vs : List V} (p : Paired (RepD K F) (ns.map D.bl) vs) : vs = ns.map V.bl := by
  induction ns generalizing vs with
  | nil => cases p; rfl
  | cons n ns ih => cases p with
    | cons r t => cases r; rw [ih t]; rfl
def fSum : FC := fun mu ws Q => match ws with
  | [.d (.scr ns)] => Q (.d (.int ns.sum)) mu
  | [x] => match lsD mu x with
    | some xs => ∃ ns, xs = List.map D.int ns ∧ Q (.d (.int ns.sum)) mu
    | none => False
  | _ => False
theorem cd_sum : CallD K (rSum K) fSum := fun G B F H al rh si mu ws vs Qd Q s r0 h q => by
  unfold fSum at h
  split at h
  · obtain ⟨v, rfl, r⟩ := pair1 r0
    cases r with
    | d r => cases r with
      | scr hs z => exact ⟨_, _, rfl, sqlMono s.s.fz hs, q F H al mu _ _ (Ext.refl _ _) s (.d (.int _)) h⟩
  · obtain ⟨v, rfl, r⟩ := pair1 r0
    split at h
    · rename_i xs e
      obtain ⟨ns, rfl, h⟩ := h
      obtain ⟨a, vs, rfl, hs, z, p⟩ := lsD_rep s.s r e
      cases ints_rep p
      exact ⟨a, ns, rfl, .inl hs, q F H al mu _ _ (Ext.refl _ _) s (.d (.int _)) h⟩
    · exact h.elim
  · exact h.elim
def fAny (neg : Bool) : FC := fun mu ws Q => match ws with
  | [x] => match lsD mu x with
    | some xs => ∃ bs, xs = List.map D.bl bs ∧ Q (.d (.bl (if neg then bs.all id else bs.any id))) mu
    | none => False
  | _ => False
theorem cd_all : CallD K (rAll K) (fAny true) := fun G B F H al rh si mu ws vs Qd Q s r0 h q => by
  unfold fAny at h
  split at h
  · obtain ⟨v, rfl, r⟩ := pair1 r0
    split at h
    · rename_i xs e
      obtain ⟨ns, rfl, h⟩ := h
      obtain ⟨a, vs, rfl, hs, z, p⟩ := lsD_rep s.s r e
      cases bls_rep p
      exact ⟨a, ns, rfl, .inl hs, q F H al mu _ _ (Ext.refl _ _) s (.d (.bl _)) h⟩
    · exact h.elim
  · exact h.elim
/-- isinstance -/
@[simp] def isi (t n : String) : Bool := t == n || (t == "bool" && n == "int")
theorem isi_kit : ∀ t ∈ ["NoneType", "bool", "int", "str", "list", "tuple", "dict"], ∀ n ∈ ["int", "bool", "str", "tuple", "list"], kitB t n = some (isi t n) := by decide +kernel
@[simp] def tyName (mu : Sto) : W → Option String
  | .d .non => some "NoneType"
  | .d (.bl _) => some "bool"
  | .d (.int _) => some "int"
  | .d (.str _) => some "str"
  | .d (.lst _) => some "list"
  | .d (.tup _) => some "tuple"
  | .d (.scr _) => some "list"
  | .tup _ => some "tuple"
  | .loc k => match mu[k]? with
    | some (.lst _) => some "list"
    | some (.lstW _) => some "list"
    | some (.dk _) => some "dict"
    | _ => none
  | _ => none
@[simp] def fIsi : FC := fun mu ws Q => match ws with
  | [x, .ty n] => match tyName mu x with
    | some t => n ∈ ["int", "bool", "str", "tuple", "list"] ∧ Q (.d (.bl (isi t n))) mu
    | none => False
  | _ => False
theorem tyx_list {a : Addr} {vs : List V} (h : Rd H a (.lst vs)) : TyX K H (.ref a) (.type "list") := by
  rcases h with h | ⟨o, h⟩
  · exact .base (.lst h)
  · exact .base (.frz h)
theorem tyx_sql {a : Addr} {vs : List V} (h : SqL K H a vs) : TyX K H (.ref a) (.type "list") := by
  rcases h with h | ⟨o, its, n, h, h1, _⟩
  · exact tyx_list h
  · exact .kList h h1
theorem tyx_tup {a : Addr} {vs : List V} (h : SqT K H a vs) : TyX K H (.ref a) (.type "tuple") := by
  rcases h with (h | ⟨o, h⟩) | ⟨o, its, n, h, h1, _⟩
  · exact .base (.tup h)
  · exact .fTuple h
  · exact .kTuple h h1
theorem tyName_ok {x : W} {v : V} {t : String} (s : SRS K G B F H al mu) (r : RepW K F al x v) (e : tyName mu x = some t) : TyX K H v (.type t) ∧ t ∈ ["NoneType", "bool", "int", "str", "list", "tuple", "dict"] := by
  unfold tyName at e
  split at e
  · cases e; cases repNon r; exact ⟨.base .non, by decide⟩
  · cases e; cases repBl r; exact ⟨.base (.bl _), by decide⟩
  · cases e; cases repInt r; exact ⟨.base (.int _), by decide⟩
  · cases e; obtain ⟨rfl, _⟩ := repStr r; exact ⟨.base (.str _), by decide⟩
  · cases e
    cases r with
    | d r => cases r with
      | lst q z p => exact ⟨tyx_list (rdMono s.fz q), by decide⟩
  · cases e
    obtain ⟨a, vs, rfl, q, z, p⟩ := repTup r
    exact ⟨tyx_tup (sqtMono s.fz q), by decide⟩
  · cases e
    cases r with
    | d r => cases r with
      | scr q z => exact ⟨tyx_sql (sqlMono s.fz q), by decide⟩
  · cases e
    cases r with
    | tup q z p => exact ⟨tyx_tup (sqtMono s.fz q), by decide⟩
  · split at e
    · rename_i q
      cases e
      cases r with
      | loc ea =>
        obtain ⟨vs, h, z, p⟩ := s.lstAt q ea
        exact ⟨tyx_list (Rd.of h), by decide⟩
    · rename_i q
      cases e
      cases r with
      | loc ea =>
        obtain ⟨vs, h, z, p⟩ := s.lstWAt q ea
        exact ⟨tyx_list (Rd.of h), by decide⟩
    · rename_i q
      cases e
      cases r with
      | loc ea =>
        obtain ⟨o, _, _, h, c⟩ := s.at q ea
        cases c with
        | dk _ _ => exact ⟨.base (.dK h), by decide⟩
    · cases e
  · cases e
theorem cd_isi : CallD K (rIsi K) fIsi := fun G B F H al rh si mu ws vs Qd Q s r0 h q => by
  unfold fIsi at h
  split at h
  · rename_i n
    obtain ⟨v, u, rfl, r, r'⟩ := pair2 r0
    cases r' with
    | ty =>
      split at h
      · rename_i t e
        obtain ⟨ty, hm⟩ := tyName_ok s.s r e
        exact ⟨v, .ty n, .type t, .type n, _, rfl, .ty n, ty, kit_ty (isi_kit t hm n h.1), q F H al mu _ _ (Ext.refl _ _) s (.d (.bl _)) h.2⟩
      · exact h.elim
  · exact h.elim
end
section
variable {io : Type} {Y : io → Cx} {P : Program} {w : World} {K : KW} {mg : Str → Option Value} {base : Heap} {N : List Str} {k : Nat} {pos p : Pos} {a b c e e2 : Expr} {es : List Expr} {wa wb wc : WE} {ga : WA}
theorem ve_len (y : YOk Y P w K mg base N k) (hm : mg "len" = none) (ha : VA Y K [e] ga) (hg : ∀ j, Gl (Y j) "len" := by exact fun _ => rfl) (he : ∀ i, starEach [e] (Y i).env = (false, eval e (Y i).env) :: starEach [] (Y i).env := by exact fun _ => rfl) : VE Y K (.Call (.Name "len" p) [e] [] pos) (wCall fLen ga) :=
  ve_callB y (fun i => by rw [← y.hK i]; exact call_len) cd_len hm PySem.boot_len ha hg (by decide) (by decide) he
theorem ve_list (y : YOk Y P w K mg base N k) (o : Bool) (hm : mg "list" = none) (ha : VA Y K [e] ga) (hg : ∀ j, Gl (Y j) "list" := by exact fun _ => rfl) (he : ∀ i, starEach [e] (Y i).env = (false, eval e (Y i).env) :: starEach [] (Y i).env := by exact fun _ => rfl) : VE Y K (.Call (.Name "list" p) [e] [] pos) (wCall (fList o) ga) :=
  ve_callTy y (fun i => by rw [← y.hK i]; exact call_list_of) (cd_list o) hm (by decide +kernel) ha hg (by decide) (by decide) he
theorem ve_tuple (y : YOk Y P w K mg base N k) (hm : mg "tuple" = none) (ha : VA Y K [e] ga) (hg : ∀ j, Gl (Y j) "tuple" := by exact fun _ => rfl) (he : ∀ i, starEach [e] (Y i).env = (false, eval e (Y i).env) :: starEach [] (Y i).env := by exact fun _ => rfl) : VE Y K (.Call (.Name "tuple" p) [e] [] pos) (wCall fTuple ga) :=
  ve_callTy y (fun i => by rw [← y.hK i]; exact call_tuple_of) cd_tuple hm (by decide +kernel) ha hg (by decide) (by decide) he
theorem ve_toInt (y : YOk Y P w K mg base N k) (hm : mg "int" = none) (ha : VA Y K [e] ga) (hg : ∀ j, Gl (Y j) "int" := by exact fun _ => rfl) (he : ∀ i, starEach [e] (Y i).env = (false, eval e (Y i).env) :: starEach [] (Y i).env := by exact fun _ => rfl) : VE Y K (.Call (.Name "int" p) [e] [] pos) (wCall fInt ga) :=
  ve_callTy y (fun i => call_int1) cd_int hm (by decide +kernel) ha hg (by decide) (by decide) he
theorem ve_sum (y : YOk Y P w K mg base N k) (hm : mg "sum" = none) (ha : VA Y K [e] ga) (hg : ∀ j, Gl (Y j) "sum" := by exact fun _ => rfl) (he : ∀ i, starEach [e] (Y i).env = (false, eval e (Y i).env) :: starEach [] (Y i).env := by exact fun _ => rfl) : VE Y K (.Call (.Name "sum" p) [e] [] pos) (wCall fSum ga) :=
  ve_callB y (fun i => by rw [← y.hK i]; exact cr_sum (y.calm i)) cd_sum hm (by decide +kernel) ha hg (by decide) (by decide) he
theorem ve_all (y : YOk Y P w K mg base N k) (hm : mg "all" = none) (ha : VA Y K [e] ga) (hg : ∀ j, Gl (Y j) "all" := by exact fun _ => rfl) (he : ∀ i, starEach [e] (Y i).env = (false, eval e (Y i).env) :: starEach [] (Y i).env := by exact fun _ => rfl) : VE Y K (.Call (.Name "all" p) [e] [] pos) (wCall (fAny true) ga) :=
  ve_callB y (fun i => by rw [← y.hK i]; exact cr_all (y.calm i)) cd_all hm (by decide +kernel) ha hg (by decide) (by decide) he
theorem ve_isi (y : YOk Y P w K mg base N k) (hm : mg "isinstance" = none) (ha : VA Y K [e, e2] ga) (hg : ∀ j, Gl (Y j) "isinstance" := by exact fun _ => rfl) (he : ∀ i, starEach [e, e2] (Y i).env = (false, eval e (Y i).env) :: starEach [e2] (Y i).env := by exact fun _ => rfl) (hpl : ∀ i, (backTo pos (starEach [e2] (Y i).env)).any (·.1) = false := by exact fun _ => rfl) : VE Y K (.Call (.Name "isinstance" p) [e, e2] [] pos) (wCall fIsi ga) :=
  ve_callB y (fun i => by rw [← y.hK i]; exact call_isi) cd_isi hm (by decide +kernel) ha hg (by decide) (by decide) he hpl
end

/-! ### methods of lists -/
@[simp] def isL (mu : Sto) : W → Bool
  | .d (.lst _) => true
  | .loc k => match mu[k]? with
    | some (.lst _) => true
    | some (.lstW _) => true
    | _ => false
  | _ => false
abbrev FM := Sto → W → List W → (W → Sto → Prop) → Prop
@[simp] def wBM (f : FM) (o : WE) (g : WA) : WE := fun rh mu Q => o rh mu fun x mu1 => isL mu1 x = true ∧ g rh mu1 fun ws mu2 => f mu2 x ws Q
def MtD (K : KW) (r : V → List V → Hp → VK → Prop) (f : FM) : Prop := ∀ (G B F H : Hp) (al : List Addr) (rh : Ev) (si : L2.St) (mu : Sto) (x : W) (vx : V) (ws : List W) (vs : List V) (Qd : W → Sto → Prop) (Q : VK), SR K G B F H al rh si mu → RepW K F al x vx → Paired (RepW K F al) ws vs → f mu x ws Qd →
  (∀ F' H' al' mu' w v, Ext F al F' al' → SR K G B F' H' al' rh si mu' → RepW K F' al' w v → Qd w mu' → Q v H') → r vx vs H Q
section
variable {K : KW} {G B F F' H H' : Hp} {al al' : List Addr} {mu mu' : Sto} {rh : Ev} {si : L2.St}
theorem isL_ok {x : W} {v : V} (s : SRS K G B F H al mu) (r : RepW K F al x v) (e : isL mu x = true) : tyV K "list" v H := by
  unfold isL at e
  split at e
  · cases r with
    | d r => cases r with
      | lst q z p => exact .inl ⟨rfl, _, .inl (rdMono s.fz q)⟩
  · split at e
    · rename_i q
      cases r with
      | loc ea =>
        obtain ⟨vs, h, z, p⟩ := s.lstAt q ea
        exact .inl ⟨rfl, _, SqL.of h⟩
    · rename_i q
      cases r with
      | loc ea =>
        obtain ⟨vs, h, z, p⟩ := s.lstWAt q ea
        exact .inl ⟨rfl, _, SqL.of h⟩
    · cases e
  · cases e
/-- a list again -/
@[simp] def mkL (ws : List W) : C := match asDs ws with
  | some xs => .lst xs
  | none => .lstW ws
theorem mkL_rep {ws : List W} {vs : List V} (z : vs.length ≤ sizeLine) (p : Paired (RepW K F al) ws vs) {a : Addr} : CRep K F al a (mkL ws) (.lst vs) := by
  unfold mkL
  cases q : asDs ws with
  | none => exact .lstW z p
  | some xs => exact .lst z (asDs_rep (.of p) q).p
/-- xs.append(y) -/
@[simp] def fApp : FM := fun mu x ws Q => match x, ws with
  | .loc k, [y] => match mu[k]? with
    | some (.lst xs) => match y with
      | .d d => xs.length < sizeLine ∧ Q (.d .non) (mu.set k (.lst (xs ++ [d])))
      | y => xs.length < sizeLine ∧ Q (.d .non) (mu.set k (mkL (xs.map .d ++ [y])))
    | some (.lstW us) => us.length < sizeLine ∧ Q (.d .non) (mu.set k (.lstW (us ++ [y])))
    | _ => False
  | _, _ => False
theorem md_app : MtD K rAppend fApp := fun G B F H al rh si mu x vx ws vs Qd Q s r rw_ h q => by
  unfold fApp at h
  split at h
  · rename_i k y
    obtain ⟨v, rfl, r'⟩ := pair1 rw_
    cases r with
    | loc ea =>
      rename_i a
      split at h
      · rename_i xs e
        obtain ⟨vs, hH, z, p⟩ := s.s.lstAt e ea
        have l := Paired.length p
        split at h
        · rename_i d
          refine ⟨a, vs, v, rfl, rfl, hH, by have := h.1; omega, q F _ al _ _ _ (Ext.refl _ _) (s.step (Ext.refl _ _) (s.s.put ea (.lst ?_ (pApp p (pOne ?_))))) (.d .non) h.2⟩
          · rw [List.length_append, List.length_singleton]; have := h.1; omega
          · cases r' with
            | d r' => exact r'
        · refine ⟨a, vs, v, rfl, rfl, hH, by have := h.1; omega, q F _ al _ _ _ (Ext.refl _ _) (s.step (Ext.refl _ _) (s.s.put ea (mkL_rep ?_ (pApp (pMapD p) (pOne r'))))) (.d .non) h.2⟩
          rw [List.length_append, List.length_singleton]; have := h.1; omega
      · rename_i us e
        obtain ⟨vs, hH, z, p⟩ := s.s.lstWAt e ea
        have l := Paired.length p
        refine ⟨a, vs, v, rfl, rfl, hH, by have := h.1; omega, q F _ al _ _ _ (Ext.refl _ _) (s.step (Ext.refl _ _) (s.s.put ea (.lstW ?_ (pApp p (pOne r'))))) (.d .non) h.2⟩
        rw [List.length_append, List.length_singleton]; have := h.1; omega
      · exact h.elim
  · exact h.elim
/-- xs.pop() -/
@[simp] def fPop : FM := fun mu x ws Q => match x, ws with
  | .loc k, [] => match mu[k]? with
    | some (.lst xs) => ∃ d, xs.getLast? = some d ∧ Q (.d d) (mu.set k (.lst xs.dropLast))
    | some (.lstW us) => ∃ u, us.getLast? = some u ∧ Q u (mu.set k (.lstW us.dropLast))
    | _ => False
  | _, _ => False
theorem md_pop : MtD K rPop fPop := fun G B F H al rh si mu x vx ws vs Qd Q s r rw_ h q => by
  unfold fPop at h
  split at h
  · rename_i k
    cases rw_
    cases r with
    | loc ea =>
      rename_i a
      split at h
      · rename_i xs e
        obtain ⟨d, e1, h⟩ := h
        obtain ⟨vs, hH, z, p⟩ := s.s.lstAt e ea
        rw [List.getLast?_eq_getElem?] at e1
        obtain ⟨v, e2, rv⟩ := pGetL p e1
        have l := Paired.length p
        refine ⟨a, vs, v, rfl, rfl, hH, by rw [← l]; exact e2, q F _ al _ _ _ (Ext.refl _ _) (s.step (Ext.refl _ _) (s.s.put ea (.lst ?_ (pDropLast p)))) (.d rv) h⟩
        rw [List.length_dropLast]; omega
      · rename_i us e
        obtain ⟨d, e1, h⟩ := h
        obtain ⟨vs, hH, z, p⟩ := s.s.lstWAt e ea
        rw [List.getLast?_eq_getElem?] at e1
        obtain ⟨v, e2, rv⟩ := pGetL p e1
        have l := Paired.length p
        refine ⟨a, vs, v, rfl, rfl, hH, by rw [← l]; exact e2, q F _ al _ _ _ (Ext.refl _ _) (s.step (Ext.refl _ _) (s.s.put ea (.lstW ?_ (pDropLast p)))) rv h⟩
        rw [List.length_dropLast]; omega
      · exact h.elim
  · exact h.elim
/-- xs.extend(ys) -/
def rExtend2 : V → List V → Hp → VK → Prop := fun x vs H Q => ∃ l b xs zs, x = .ref l ∧ vs = [.ref b] ∧ H l = some (.lst xs) ∧ Rd H b (.lst zs) ∧ xs.length + zs.length ≤ sizeLine ∧ Q .non (upd H l (.lst (xs ++ zs)))
theorem mt_extend2 {X : Cx} : MtM X "list.extend" rExtend2 := by
  intro pins s σ H x vs v us Q I rx rv h
  obtain ⟨l, b, xs, zs, rfl, rfl, hH, hB, hz, q⟩ := h
  cases rx
  obtain ⟨u, rfl, ru⟩ := rv.one
  cases ru
  obtain ⟨z, its, n, r, hl, e⟩ := I.lstM hH
  obtain ⟨z2, its2, n2, r2, hl2, e2⟩ := Inv_lstR I hB
  have hsz : its.toArray.size + its2.toArray.size ≤ sizeLine := by rw [List.size_toArray, List.size_toArray]; omega
  have hlong : ¬ (!its.toArray.isEmpty && Builtin.List.listTooLong (its.toArray.size + its2.toArray.size)) = true := by
    rw [notLongL hsz, Bool.and_false]
    exact Bool.false_ne_true
  refine call_meets F.slot_list_extend ⟨_, e, rfl⟩ F.entry_list_extend (F.args_list_extend_2 _ _)
    (AutoSeq1.list_extend_list_list_0 l its.toArray n b its2.toArray n2 hlong (by rw [List.size_toArray]; omega) (by omega)) ⟨e, e2, ?_⟩
  refine ⟨.non, _, I.lset (its' := its ++ its2) hH e (by simp) (r.append r2) ?_, rfl, q⟩
  rw [List.length_append]
  omega
@[simp] def fExt : FM := fun mu x ws Q => match x, ws with
  | .loc k, [y] => match mu[k]?, lsD mu y with
    | some (.lst xs), some ys => xs.length + ys.length ≤ sizeLine ∧ Q (.d .non) (mu.set k (.lst (xs ++ ys)))
    | _, _ => False
  | _, _ => False
theorem md_ext : MtD K rExtend2 fExt := fun G B F H al rh si mu x vx ws vs Qd Q s r rw_ h q => by
  unfold fExt at h
  split at h
  · rename_i k y
    obtain ⟨v, rfl, r'⟩ := pair1 rw_
    cases r with
    | loc ea =>
      rename_i a
      split at h
      · rename_i xs ys e e'
        obtain ⟨vs, hH, z, p⟩ := s.s.lstAt e ea
        obtain ⟨b, us, rfl, hB, z', p'⟩ := lsD_rep s.s r' e'
        have l := Paired.length p
        have l' := Paired.length p'
        refine ⟨a, b, vs, us, rfl, rfl, hH, hB, by have := h.1; omega, q F _ al _ _ _ (Ext.refl _ _) (s.step (Ext.refl _ _) (s.s.put ea (.lst ?_ (pApp p p')))) (.d .non) h.2⟩
        rw [List.length_append]; have := h.1; omega
      · exact h.elim
  · exact h.elim
end
section
variable {io : Type} {Y : io → Cx} {P : Program} {w : World} {K : KW} {mg : Str → Option Value} {base : Heap} {N : List Str} {k : Nat} {cpos apos : Pos} {o e : Expr} {es : List Expr} {wo : WE} {ga : WA} {id : String} {name : Str} {r : V → List V → Hp → VK → Prop} {f : FM}
theorem ve_bm (y : YOk Y P w K mg base N k) (pa : PlainAttrs "list") (slot : Slot "list" name id) (hty : typeOf (.builtin id) = pure (.type "method_descriptor")) (hm : ∀ i, MtR (Y i) id r) (hd : MtD K r f) (ho : VE Y K o wo) (ha : VA Y K (e :: es) ga)
    (hbase : ∀ i, attributeBase o name (Y i).env (eval o (Y i).env) = eval o (Y i).env := by exact fun _ => rfl)
    (hfew : ∀ i, ((backTo cpos (starEach (e :: es) (Y i).env)).all (fun x => !x.1) && (backToKw cpos (keywordEach [] (Y i).env)).all (fun x => x.1.isSome)
      && decide ((e :: es).length + ([] : List Keyword).length + (if ([] : List Keyword).isEmpty then 0 else 1) < 30)) = true := by exact fun _ => rfl)
    (hline : (apos.endLine == cpos.line) = true := by rfl) (hs : ∀ i, starEach (e :: es) (Y i).env = (false, eval e (Y i).env) :: starEach es (Y i).env := by exact fun _ => rfl) (hplain : ∀ i, (backTo cpos (starEach es (Y i).env)).any (·.1) = false := by exact fun _ => rfl) :
    VE Y K (.Call (.Attribute o name apos) (e :: es) [] cpos) (wBM f wo ga) := by
  obtain ⟨t, p, d⟩ := ho
  obtain ⟨t2, p2, d2⟩ := ha
  refine ⟨tBM K "list" r t t2, fun i => by rw [← y.hK i]; exact pe_bm pa slot hty (hm i) (p i) (p2 i) (hbase i) (hfew i) hline (hs i) (hplain i), fun G B F H al rh si mu Qd Q s h q => ?_⟩
  refine d G B F H al rh si mu _ _ s h fun F1 H1 al1 mu1 x vx e1 s1 r1 h1 => ⟨isL_ok s1.s r1 h1.1, ?_⟩
  refine d2 G B F1 H1 al1 rh si mu1 _ _ s1 h1.2 fun F2 H2 al2 mu2 ws vs e2 s2 r2 h2 => ?_
  exact hd G B F2 H2 al2 rh si mu2 x vx ws vs Qd Q s2 (r1.mono e2) r2 h2 fun F3 H3 al3 mu3 z vz e3 => q F3 H3 al3 mu3 z vz ((e1.trans e2).trans e3)
theorem ve_bm0 (y : YOk Y P w K mg base N k) (pa : PlainAttrs "list") (slot : Slot "list" name id) (hty : typeOf (.builtin id) = pure (.type "method_descriptor")) (hm : ∀ i, MtR (Y i) id r) (hd : MtD K r f) (ho : VE Y K o wo)
    (hbase : ∀ i, attributeBase o name (Y i).env (eval o (Y i).env) = eval o (Y i).env := by exact fun _ => rfl) (hline : (apos.endLine == cpos.line) = true := by rfl) : VE Y K (.Call (.Attribute o name apos) [] [] cpos) (wBM f wo wNil) := by
  obtain ⟨t, p, d⟩ := ho
  refine ⟨tBM0 K "list" r t, fun i => by rw [← y.hK i]; exact pe_bm0 pa slot hty (hm i) (p i) (hbase i) hline, fun G B F H al rh si mu Qd Q s h q => ?_⟩
  refine d G B F H al rh si mu _ _ s h fun F1 H1 al1 mu1 x vx e1 s1 r1 h1 => ⟨isL_ok s1.s r1 h1.1, ?_⟩
  exact hd G B F1 H1 al1 rh si mu1 x vx [] [] Qd Q s1 r1 .nil h1.2 fun F3 H3 al3 mu3 z vz e3 => q F3 H3 al3 mu3 z vz (e1.trans e3)
theorem ve_append (y : YOk Y P w K mg base N k) (ho : VE Y K o wo) (ha : VA Y K [e] ga)
    (hbase : ∀ i, attributeBase o "append" (Y i).env (eval o (Y i).env) = eval o (Y i).env := by exact fun _ => rfl)
    (hfew : ∀ i, ((backTo cpos (starEach [e] (Y i).env)).all (fun x => !x.1) && (backToKw cpos (keywordEach [] (Y i).env)).all (fun x => x.1.isSome)
      && decide ([e].length + ([] : List Keyword).length + (if ([] : List Keyword).isEmpty then 0 else 1) < 30)) = true := by exact fun _ => rfl)
    (hline : (apos.endLine == cpos.line) = true := by rfl) (hs : ∀ i, starEach [e] (Y i).env = (false, eval e (Y i).env) :: starEach [] (Y i).env := by exact fun _ => rfl) :
    VE Y K (.Call (.Attribute o "append" apos) [e] [] cpos) (wBM fApp wo ga) := ve_bm y PySem.F.plainAttrs_list PySem.F.slot_list_append PySem.F.type_list_append (fun _ => mt_append) md_app ho ha hbase hfew hline hs
theorem ve_extend (y : YOk Y P w K mg base N k) (ho : VE Y K o wo) (ha : VA Y K [e] ga)
    (hbase : ∀ i, attributeBase o "extend" (Y i).env (eval o (Y i).env) = eval o (Y i).env := by exact fun _ => rfl)
    (hfew : ∀ i, ((backTo cpos (starEach [e] (Y i).env)).all (fun x => !x.1) && (backToKw cpos (keywordEach [] (Y i).env)).all (fun x => x.1.isSome)
      && decide ([e].length + ([] : List Keyword).length + (if ([] : List Keyword).isEmpty then 0 else 1) < 30)) = true := by exact fun _ => rfl)
    (hline : (apos.endLine == cpos.line) = true := by rfl) (hs : ∀ i, starEach [e] (Y i).env = (false, eval e (Y i).env) :: starEach [] (Y i).env := by exact fun _ => rfl) :
    VE Y K (.Call (.Attribute o "extend" apos) [e] [] cpos) (wBM fExt wo ga) := ve_bm y PySem.F.plainAttrs_list PySem.F.slot_list_extend PySem.F.type_list_extend (fun _ => mt_extend2) md_ext ho ha hbase hfew hline hs
theorem ve_pop (y : YOk Y P w K mg base N k) (ho : VE Y K o wo) (hbase : ∀ i, attributeBase o "pop" (Y i).env (eval o (Y i).env) = eval o (Y i).env := by exact fun _ => rfl) (hline : (apos.endLine == cpos.line) = true := by rfl) :
    VE Y K (.Call (.Attribute o "pop" apos) [] [] cpos) (wBM fPop wo wNil) := ve_bm0 y PySem.F.plainAttrs_list PySem.F.slot_list_pop PySem.F.type_list_pop (fun _ => mt_pop) md_pop ho hbase hline
end
end VL
namespace VL
open PySem PySem.Spec PyProof.Rows L2

abbrev un (X : Cx) : Unit → Cx := fun _ => X
def VS (X : Cx) (K : KW) (st : Stmt) (f : WS) : Prop := ∃ t, PS X st t ∧ DenS K t f
def VSs (X : Cx) (K : KW) (sts : List Stmt) (f : WS) : Prop := ∃ t, PSs X sts t ∧ DenS K t f

section
variable {X : Cx} {P : Program} {w : World} {K : KW} {mg : Str → Option Value} {base : Heap} {N : List Str} {k : Nat} {st : Stmt} {rest : List Stmt} {f g : WS} {e : Expr} {we : WE} {pos : Pos}
/-! ### blocks -/
@[simp] def wNext : WS := fun V rh mu => V.nx rh mu
@[simp] def wSeq (f g : WS) : WS := fun V rh mu => f { V with nx := g V } rh mu
theorem dens_next : DenS K tNext wNext := fun G B F H al rh si mu V1 D1 s h b => b.nx F H al rh si mu (Ext.refl _ _) s h
theorem vss_nil : VSs X K [] wNext := ⟨_, pss_nil, dens_next⟩
theorem vss_one (h : VS X K st f) : VSs X K [st] f := by
  obtain ⟨t, p, d⟩ := h
  exact ⟨t, pss_one p, d⟩
theorem vss_cons (h : VS X K st f) (hr : VSs X K rest g) : VSs X K (st :: rest) (wSeq f g) := by
  obtain ⟨t, p, d⟩ := h
  obtain ⟨u, p', d'⟩ := hr
  refine ⟨_, pss_cons p p', fun G B F H al rh si mu V1 D1 s h b => ?_⟩
  refine d G B F H al rh si mu _ _ s h ⟨fun F' H' al' rh' si' mu' x s' h' => ?_, b.rt, b.bk, b.ct⟩
  exact d' G B F' H' al' rh' si' mu' V1 D1 s' h' (b.mono x)
@[simp] def wDrop (a : WE) : WS := fun V rh mu => a rh mu fun _ mu1 => V.nx rh mu1
theorem vs_expr (he : VE (un X) K e we) (hs : swapsWith e none pos.line X.env = pure false := by rfl) : VS X K (.Expr e pos) (wDrop we) := by
  obtain ⟨t, p, d⟩ := he
  refine ⟨_, ps_expr (p ()) hs, fun G B F H al rh si mu V1 D1 s h b => ?_⟩
  exact d G B F H al rh si mu _ _ s h fun F1 H1 al1 mu1 x vx e1 s1 r1 h1 => b.nx F1 H1 al1 rh si mu1 e1 s1 h1
@[simp] def wRet (a : WE) : WS := fun V rh mu => a rh mu V.rt
theorem vs_ret (he : VE (un X) K e we) : VS X K (.Return (some e) pos) (wRet we) := by
  obtain ⟨t, p, d⟩ := he
  refine ⟨_, ps_ret (p ()), fun G B F H al rh si mu V1 D1 s h b => ?_⟩
  exact d G B F H al rh si mu _ _ s h fun F1 H1 al1 mu1 x vx e1 s1 r1 h1 => b.rt F1 H1 al1 mu1 x vx e1 s1.s r1 h1
@[simp] def wIfS (c : WT) (f g : WS) : WS := fun V rh mu => c rh mu fun b mu1 => if b = true then f V rh mu1 else g V rh mu1
theorem vs_if {c : Expr} {a b : List Stmt} {fc : WT} (hc : VT (un X) K c fc) (ha : VSs X K a f) (hb : VSs X K b g) : VS X K (.If c a b pos) (wIfS fc f g) := by
  obtain ⟨t, p, d⟩ := hc
  obtain ⟨t1, p1, d1⟩ := ha
  obtain ⟨t2, p2, d2⟩ := hb
  refine ⟨_, ps_if (p ()) p1 p2, fun G B F H al rh si mu V1 D1 s h b => ?_⟩
  refine d G B F H al rh si mu _ _ s h fun F1 H1 al1 mu1 x e1 s1 h1 => ?_
  cases x with
  | true => exact iteT (d1 G B F1 H1 al1 rh si mu1 V1 D1 s1 (by simpa using h1) (b.mono e1))
  | false => exact iteF (d2 G B F1 H1 al1 rh si mu1 V1 D1 s1 (by simpa using h1) (b.mono e1))

/-! ### targets -/
abbrev WG := W → Ev → Sto → (Ev → Sto → Prop) → Prop
abbrev WGs := List W → Ev → Sto → (Ev → Sto → Prop) → Prop
def DenG (K : KW) (t : TG) (f : WG) : Prop := ∀ (G B F H : Hp) (al : List Addr) (rh : Ev) (si : L2.St) (mu : Sto) (x : W) (v : V) (Qd : Ev → Sto → Prop) (Q : L2.St → Hp → Prop), SR K G B F H al rh si mu → RepW K F al x v → f x rh mu Qd →
  (∀ F' H' al' rh' si' mu', Ext F al F' al' → SR K G B F' H' al' rh' si' mu' → Qd rh' mu' → Q si' H') → t v si H Q
def DenGs (K : KW) (t : TGs) (f : WGs) : Prop := ∀ (G B F H : Hp) (al : List Addr) (rh : Ev) (si : L2.St) (mu : Sto) (x : List W) (v : List V) (Qd : Ev → Sto → Prop) (Q : L2.St → Hp → Prop), SR K G B F H al rh si mu → Paired (RepW K F al) x v → f x rh mu Qd →
  (∀ F' H' al' rh' si' mu', Ext F al F' al' → SR K G B F' H' al' rh' si' mu' → Qd rh' mu' → Q si' H') → t v si H Q
/-- it stores to the slots vs alone -/
def GKeep (vs : List Nat) (t : TG) : Prop := ∀ v σ H Q Q', (∀ σ' H', wipe σ' vs = wipe σ vs → Q σ' H' → Q' σ' H') → t v σ H Q → t v σ H Q'
def GKeeps (vs : List Nat) (t : TGs) : Prop := ∀ v σ H Q Q', (∀ σ' H', wipe σ' vs = wipe σ vs → Q σ' H' → Q' σ' H') → t v σ H Q → t v σ H Q'
def VG {io : Type} (Y : io → Cx) (K : KW) (tg : Expr) (f : WG) : Prop := ∃ t, (∀ i, PG (Y i) tg t) ∧ DenG K t f
def VK {io : Type} (Y : io → Cx) (K : KW) (tg : Expr) (f : WG) (vs : List Nat) : Prop := ∃ t, (∀ i, PG (Y i) tg t) ∧ DenG K t f ∧ GKeep vs t
def VKs {io : Type} (Y : io → Cx) (K : KW) (tg : List Expr) (f : WGs) (vs : List Nat) : Prop := ∃ t, (∀ i, PGs (Y i) tg t) ∧ DenGs K t f ∧ GKeeps vs t
theorem VK.vg {io : Type} {Y : io → Cx} {K : KW} {tg : Expr} {f : WG} {vs : List Nat} (h : VK Y K tg f vs) : VG Y K tg f := by
  obtain ⟨t, a, b, _⟩ := h
  exact ⟨t, a, b⟩
@[simp] def wgName (i : Nat) : WG := fun x rh mu Q => Q (rh.set i (some x)) mu
theorem wipe_set (σ : L2.St) (i : Nat) (x : Option V) : ∀ vs : List Nat, i ∈ vs → wipe (σ.set i x) vs = wipe σ vs
  | [], h => by cases h
  | v :: vs, h => by
    unfold wipe
    by_cases q : i = v
    · subst q
      have : ∀ us : List Nat, (wipe (σ.set i x) us).set i none = (wipe σ us).set i none := fun us => by
        induction us with
        | nil => show (σ.set i x).set i none = σ.set i none; rw [List.set_set]
        | cons u us ih =>
          unfold wipe
          by_cases z : u = i
          · subst z; rw [List.set_set, List.set_set, ih]
          · rw [List.set_comm _ _ z, List.set_comm _ _ z, ih]
      exact this vs
    · rw [wipe_set σ i x vs (by rcases List.mem_cons.mp h with z | z; exact absurd z q; exact z)]
section
variable {io : Type} {Y : io → Cx}
theorem den_gName (i : Nat) : DenG K (gName i) (wgName i) := fun G B F H al rh si mu x v Qd Q s r h q => q F H al _ _ mu (Ext.refl _ _) (s.set r) h
theorem vk_name (y : YOk Y P w K mg base N k) (i : Nat) {x : Str} (vs : List Nat) (hi : N[i]? = some x := by rfl) (hx : ∀ j, Loc (Y j).env.scope x := by first | exact fun _ => Or.inl rfl | exact fun _ => Or.inr rfl) (hf : ∀ j, (Y j).fn x = true ∨ (Y j).env.scope.names.lookup x = some .local := by first | exact fun _ => Or.inl rfl | exact fun _ => Or.inr rfl) (hv : i ∈ vs := by decide) :
    VK Y K (.Name x pos) (wgName i) vs :=
  ⟨_, fun j => pg_name (by rw [y.hN j]; exact y.nd) (by rw [y.hN j]; exact hi) (hx j) (hf j), den_gName i, fun v σ H Q Q' k h => k _ _ (wipe_set σ i _ vs hv) h⟩
@[simp] def wgNil : WGs := fun xs rh mu Q => match xs with
  | [] => Q rh mu
  | _ :: _ => False
@[simp] def wgCons (f : WG) (g : WGs) : WGs := fun xs rh mu Q => match xs with
  | x :: r => f x rh mu fun rh' mu' => g r rh' mu' Q
  | [] => False
theorem den_gNil : DenGs K gNil wgNil := fun G B F H al rh si mu x v Qd Q s r h q => by
  cases r with
  | nil => exact ⟨rfl, q F H al rh si mu (Ext.refl _ _) s h⟩
  | cons _ _ => exact h.elim
theorem den_gCons {t : TG} {u : TGs} {f : WG} {g : WGs} (d : DenG K t f) (d2 : DenGs K u g) : DenGs K (gCons t u) (wgCons f g) := fun G B F H al rh si mu x v Qd Q s r h q => by
  unfold wgCons at h
  split at h
  · cases r with
    | cons r rr =>
      refine ⟨_, _, rfl, d G B F H al rh si mu _ _ _ _ s r h fun F1 H1 al1 rh1 si1 mu1 e1 s1 h1 => ?_⟩
      exact d2 G B F1 H1 al1 rh1 si1 mu1 _ _ _ _ s1 (Paired.mapP rr fun _ _ z => z.mono e1) h1 fun F2 H2 al2 rh2 si2 mu2 e2 => q F2 H2 al2 rh2 si2 mu2 (e1.trans e2)
  · exact h.elim
theorem vks_nil (vs : List Nat) : VKs Y K [] wgNil vs := ⟨_, fun _ => pgs_nil, den_gNil, fun v σ H Q Q' k h => ⟨h.1, k _ _ rfl h.2⟩⟩
theorem vks_cons {es : List Expr} {fg : WG} {fgs : WGs} {vs : List Nat} (h1 : VK Y K e fg vs) (h2 : VKs Y K es fgs vs) (hs : ∀ i, (assignEach (e :: es) (Y i).env).map (·.2) = assign e (Y i).env :: (assignEach es (Y i).env).map (·.2) := by exact fun _ => rfl) : VKs Y K (e :: es) (wgCons fg fgs) vs := by
  obtain ⟨t, p, d, kp⟩ := h1
  obtain ⟨t2, p2, d2, kp2⟩ := h2
  refine ⟨_, fun i => pgs_cons (p i) (p2 i) (hs i), den_gCons d d2, fun v σ H Q Q' k h => ?_⟩
  obtain ⟨x, r, rfl, h⟩ := h
  exact ⟨x, r, rfl, kp x σ H _ _ (fun σ1 H1 w1 h1 => kp2 r σ1 H1 Q Q' (fun σ' H' w2 q => k σ' H' (w2.trans w1) q) h1) h⟩
/-- (a, b, ..) = a tuple -/
@[simp] def wgTup (n : Nat) (g : WGs) : WG := fun x rh mu Q => match x with
  | .d (.tup xs) => xs.length = n ∧ g (xs.map .d) rh mu Q
  | .tup ws => ws.length = n ∧ g ws rh mu Q
  | _ => False
theorem den_gTup {t : TGs} {g : WGs} (n : Nat) (d : DenGs K t g) : DenG K (gTup K n t) (wgTup n g) := fun G B F H al rh si mu x v Qd Q s r h q => by
  unfold wgTup at h
  split at h
  · obtain ⟨a, vs, rfl, hs, z, p⟩ := repTup r
    exact ⟨a, vs, rfl, sqtMono s.s.fz hs, by rw [← Paired.length p]; exact h.1, d G B F H al rh si mu _ _ _ _ s (pMapD p) h.2 q⟩
  · cases r with
    | tup hs z p => exact ⟨_, _, rfl, sqtMono s.s.fz hs, by rw [← Paired.length p.p]; exact h.1, d G B F H al rh si mu _ _ _ _ s p.p h.2 q⟩
  · exact h.elim
theorem vk_tup (y : YOk Y P w K mg base N k) {es : List Expr} {kk : Nat} {g : WGs} (n : Nat) {vs : List Nat} (h : VKs Y K es g vs) (hn : ∀ i, (assignEach es (Y i).env).length = n := by exact fun _ => rfl) (hst : ∀ i, (assignEach es (Y i).env).findIdx? (·.1) = none := by exact fun _ => rfl) : VK Y K (.Tuple es kk pos) (wgTup n g) vs := by
  obtain ⟨t, p, d, kp⟩ := h
  refine ⟨gTup K n t, fun i => by rw [← y.hK i]; exact pg_tup (y.calm i) (p i) (hn i) (hst i), den_gTup n d, fun v σ H Q Q' k h => ?_⟩
  obtain ⟨a, xs, e, hs, l, h⟩ := h
  exact ⟨a, xs, e, hs, l, kp xs σ H Q Q' k h⟩
/-- o[i] = .. of a list -/
abbrev FSet := Sto → W → W → W → (Sto → Prop) → Prop
def SetD (K : KW) (t : TSet) (f : FSet) : Prop := ∀ (G B F H : Hp) (al : List Addr) (rh : Ev) (si : L2.St) (mu : Sto) (o i x : W) (vo vi v : V) (Qd : Sto → Prop) (Q : Hp → Prop), SR K G B F H al rh si mu → RepW K F al o vo → RepW K F al i vi → RepW K F al x v → f mu o i x Qd →
  (∀ F' H' al' mu', Ext F al F' al' → SR K G B F' H' al' rh si mu' → Qd mu' → Q H') → t vo vi v H Q
@[simp] def fSetL : FSet := fun mu o i x Q => match o, i with
  | .loc k, .d (.int n) => match mu[k]? with
    | some (.lst xs) => ∃ j, ixN xs.length n = some j ∧ match x with
      | .d d => Q (mu.set k (.lst (xs.set j d)))
      | x => Q (mu.set k (mkL ((xs.map .d).set j x)))
    | some (.lstW ws) => ∃ j, ixN ws.length n = some j ∧ Q (mu.set k (.lstW (ws.set j x)))
    | _ => False
  | _, _ => False
theorem sd_list : SetD K rSetL fSetL := fun G B F H al rh si mu o i x vo vi v Qd Q s ro ri rx h q => by
  unfold fSetL at h
  split at h
  · rename_i k n
    cases repInt ri
    cases ro with
    | loc ea =>
      rename_i a
      split at h
      · rename_i xs e
        obtain ⟨j, e1, h⟩ := h
        obtain ⟨vs, hH, z, p⟩ := s.s.lstAt e ea
        have l := Paired.length p
        split at h
        · rename_i d
          have rd : RepD K F d v := by cases rx with | d r => exact r
          exact ⟨a, vs, n, j, rfl, rfl, hH, by rw [← l]; exact e1, q F _ al _ (Ext.refl _ _) (s.step (Ext.refl _ _) (s.s.put ea (.lst (by rw [List.length_set]; exact z) (pSet rd j p)))) h⟩
        · exact ⟨a, vs, n, j, rfl, rfl, hH, by rw [← l]; exact e1, q F _ al _ (Ext.refl _ _) (s.step (Ext.refl _ _) (s.s.put ea (mkL_rep (by rw [List.length_set]; exact z) (pSet rx j (pMapD p))))) h⟩
      · rename_i ws e
        obtain ⟨j, e1, h⟩ := h
        obtain ⟨vs, hH, z, p⟩ := s.s.lstWAt e ea
        have l := Paired.length p
        exact ⟨a, vs, n, j, rfl, rfl, hH, by rw [← l]; exact e1, q F _ al _ (Ext.refl _ _) (s.step (Ext.refl _ _) (s.s.put ea (.lstW (by rw [List.length_set]; exact z) (pSet rx j p)))) h⟩
      · exact h.elim
  · exact h.elim
@[simp] def wgSub (f : FSet) (o i : WE) : WG := fun x rh mu Q => o rh mu fun ov mu1 => i rh mu1 fun iv mu2 => f mu2 ov iv x fun mu3 => Q rh mu3
theorem vg_sub {o i : Expr} {wo wi : WE} {t : TSet} {f : FSet} (ho : VE Y K o wo) (hi : VE Y K i wi) (hs : ∀ j, PSet (Y j) t) (hd : SetD K t f)
    (ha : ∀ j v, assign (.Subscript o i pos) (Y j).env v = (do
      let ov ← holding [v] (eval o (Y j).env)
      let iv ← holding [v, ov] (eval i (Y j).env)
      standAt pos
      holding [v, ov, iv] (setItem ov iv v)
      release [v, ov, iv] []) := by exact fun _ _ => rfl) : VG Y K (.Subscript o i pos) (wgSub f wo wi) := by
  obtain ⟨t1, p1, d1⟩ := ho
  obtain ⟨t2, p2, d2⟩ := hi
  refine ⟨_, fun j => pg_sub (p1 j) (p2 j) (hs j) (ha j), fun G B F H al rh si mu x v Qd Q s r h q => ?_⟩
  refine d1 G B F H al rh si mu _ _ s h fun F1 H1 al1 mu1 ov vo e1 s1 r1 h1 => ?_
  refine d2 G B F1 H1 al1 rh si mu1 _ _ s1 h1 fun F2 H2 al2 mu2 iv vi e2 s2 r2 h2 => ?_
  exact hd G B F2 H2 al2 rh si mu2 ov iv x vo vi v _ _ s2 (r1.mono e2) r2 (r.mono (e1.trans e2)) h2 fun F3 H3 al3 mu3 e3 s3 h3 => q F3 H3 al3 rh si mu3 ((e1.trans e2).trans e3) s3 h3
theorem vg_subL {o i : Expr} {wo wi : WE} (ho : VE Y K o wo) (hi : VE Y K i wi)
    (ha : ∀ j v, assign (.Subscript o i pos) (Y j).env v = (do
      let ov ← holding [v] (eval o (Y j).env)
      let iv ← holding [v, ov] (eval i (Y j).env)
      standAt pos
      holding [v, ov, iv] (setItem ov iv v)
      release [v, ov, iv] []) := by exact fun _ _ => rfl) : VG Y K (.Subscript o i pos) (wgSub fSetL wo wi) := vg_sub ho hi (fun _ => set_list) sd_list ha
end

/-! ### assignments -/
@[simp] def wAsg (a : WE) (g : WG) : WS := fun V rh mu => a rh mu fun x mu1 => g x rh mu1 V.nx
theorem den_asg {te : TE} {g : TG} {fg : WG} (d : Den K te we) (d2 : DenG K g fg) : DenS K (tAsg te g) (wAsg we fg) := fun G B F H al rh si mu V1 D1 s h b => by
  refine d G B F H al rh si mu _ _ s h fun F1 H1 al1 mu1 x vx e1 s1 r1 h1 => ?_
  exact d2 G B F1 H1 al1 rh si mu1 x vx _ _ s1 r1 h1 fun F2 H2 al2 rh2 si2 mu2 e2 s2 h2 => b.nx F2 H2 al2 rh2 si2 mu2 (e1.trans e2) s2 h2
theorem vs_set (y : YOk (un X) P w K mg base N k) (i : Nat) {x : Str} {pos' : Pos} (he : VE (un X) K e we) (hi : N[i]? = some x := by rfl) (hx : Loc X.env.scope x := by first | exact Or.inl rfl | exact Or.inr rfl) (hs : swapsWith e (some (.Name x pos')) pos.line X.env = pure false := by rfl)
    (hf : X.fn x = true ∨ X.env.scope.names.lookup x = some .local := by first | exact .inl rfl | exact .inr rfl) : VS X K (.Assign [.Name x pos'] e pos) (wAsg we (wgName i)) := by
  obtain ⟨t, p, d⟩ := he
  exact ⟨_, ps_set (by have q := y.hN (); show X.N.Nodup; rw [show X.N = N from q]; exact y.nd) (by have q := y.hN (); rw [show X.N = N from q]; exact hi) hx (p ()) hs hf, den_asg d (den_gName i)⟩
theorem vs_asg {tg : Expr} {fg : WG} (he : VE (un X) K e we) (hg : VG (un X) K tg fg) (hs : swapsWithSole [tg] e pos.line X.env = pure false := by rfl) (hw : swappedStores [tg] e X.env = pure none := by rfl)
    (h1 : (assignEach [tg] X.env).map (·.2) = [assign tg X.env] := by rfl) : VS X K (.Assign [tg] e pos) (wAsg we fg) := by
  obtain ⟨t, p, d⟩ := he
  obtain ⟨t2, p2, d2⟩ := hg
  exact ⟨_, ps_asg (p ()) (p2 ()) hs hw h1, den_asg d d2⟩
/-- x op= e -/
@[simp] def wAug (f : F2) (i : Nat) (a : WE) : WS := fun V rh mu => wVar i rh mu fun x _ => a rh mu fun y mu1 => f mu1 x y fun z mu2 => V.nx (rh.set i (some z)) mu2
theorem vs_aug (y : YOk (un X) P w K mg base N k) (i : Nat) {x : Str} {op : Operator} {ti : TIp} {f : F2} {pos' : Pos} (he : VE (un X) K e we) (ho : PIp X op ti) (hd : OpD K ti f) (hi : N[i]? = some x := by rfl) (hx : Loc X.env.scope x := by first | exact Or.inl rfl | exact Or.inr rfl)
    (hf : X.fn x = true ∨ X.env.scope.names.lookup x = some .local := by first | exact .inl rfl | exact .inr rfl) : VS X K (.AugAssign (.Name x pos') op e pos) (wAug f i we) := by
  obtain ⟨t, p, d⟩ := he
  have q := y.hN ()
  refine ⟨_, ps_aug (by rw [show X.N = N from q]; exact y.nd) (by rw [show X.N = N from q]; exact hi) hx (p ()) ho hf, fun G B F H al rh si mu V1 D1 s h b => ?_⟩
  unfold wAug wVar at h
  split at h
  · rename_i w0 e0
    obtain ⟨v, e1, r⟩ := s.env i w0 e0
    refine ⟨v, e1, d G B F H al rh si mu _ _ s h fun F1 H1 al1 mu1 z vz x1 s1 r1 h1 => ?_⟩
    exact hd G B F1 H1 al1 rh si mu1 w0 z v vz _ _ s1 (r.mono x1) r1 h1 fun F2 H2 al2 mu2 u vu x2 s2 r2 h2 => b.nx F2 H2 al2 _ _ mu2 (x1.trans x2) (s2.set r2) h2
  · exact h.elim
theorem vs_augAdd (y : YOk (un X) P w K mg base N k) (i : Nat) {x : Str} {pos' : Pos} (he : VE (un X) K e we) (hi : N[i]? = some x := by rfl) (hx : Loc X.env.scope x := by first | exact Or.inl rfl | exact Or.inr rfl)
    (hf : X.fn x = true ∨ X.env.scope.names.lookup x = some .local := by first | exact .inl rfl | exact .inr rfl) : VS X K (.AugAssign (.Name x pos') .Add e pos) (wAug (fI0 fun a b => a + b) i we) := vs_aug y i he ip_add opd_I0 hi hx hf
/-! ### while -/
def wWhile (c : WT) (b : WS) : WS := fun V rh mu => ∃ I : Nat → Ev → Sto → Prop, (∃ m, I m rh mu) ∧ ∀ m rh mu, I m rh mu → c rh mu fun t mu1 =>
  if t = true then b { V with nx := fun rh' mu' => ∃ m', m' < m ∧ I m' rh' mu', ct := fun rh' mu' => ∃ m', m' < m ∧ I m' rh' mu', bk := V.nx } rh mu1 else V.nx rh mu1
theorem vs_while {c : Expr} {body : List Stmt} {fc : WT} (hp : PassesOwn (model X.prog X.w) X.A X.env X.xe) (hc : VT (un X) K c fc) (hb : VSs X K body f) : VS X K (.While c body [] pos) (wWhile fc f) := by
  obtain ⟨t, p, d⟩ := hc
  obtain ⟨u, p', d'⟩ := hb
  refine ⟨_, ps_while hp (p ()) p', fun G B F H al rh si mu V1 D1 s h b => ?_⟩
  obtain ⟨I, ⟨m0, i0⟩, turn⟩ := h
  refine ⟨fun m σ H1 => ∃ F1 al1 rh1 mu1, Ext F al F1 al1 ∧ SR K G B F1 H1 al1 rh1 σ mu1 ∧ I m rh1 mu1, ⟨m0, F, al, rh, mu, Ext.refl _ _, s, i0⟩, ?_⟩
  rintro m σ H1 ⟨F1, al1, rh1, mu1, e1, s1, i1⟩
  refine d G B F1 H1 al1 rh1 σ mu1 _ _ s1 (turn m rh1 mu1 i1) fun F2 H2 al2 mu2 x e2 s2 h2 => ?_
  cases x with
  | false => exact iteF (b.nx F2 H2 al2 rh1 σ mu2 (e1.trans e2) s2 (by simpa using h2))
  | true =>
    refine iteT ⟨fun σ' H' => ∃ m', m' < m ∧ ∃ F1 al1 rh1 mu1, Ext F al F1 al1 ∧ SR K G B F1 H' al1 rh1 σ' mu1 ∧ I m' rh1 mu1, fun _ _ z => z, ?_⟩
    have again : ∀ F' H' al' rh' si' mu', Ext F2 al2 F' al' → SR K G B F' H' al' rh' si' mu' → (∃ m', m' < m ∧ I m' rh' mu') → ∃ m', m' < m ∧ ∃ F1 al1 rh1 mu1, Ext F al F1 al1 ∧ SR K G B F1 H' al1 rh1 si' mu1 ∧ I m' rh1 mu1 := by
      rintro F' H' al' rh' si' mu' x s' ⟨m', hm, i'⟩
      exact ⟨m', hm, F', al', rh', mu', (e1.trans e2).trans x, s', i'⟩
    refine d' G B F2 H2 al2 rh1 σ mu2 _ _ s2 (by simpa using h2) ⟨again, ?_, ?_, again⟩
    · exact fun F' H' al' mu' w v x => b.rt F' H' al' mu' w v ((e1.trans e2).trans x)
    · exact fun F' H' al' rh' si' mu' x => b.nx F' H' al' rh' si' mu' ((e1.trans e2).trans x)

/-! ### what a loop walks: its items, and what must hold at each turn -/
abbrev WI := Ev → Sto → (List W → (Sto → Prop) → Sto → Prop) → Prop
structure ItD (K : KW) (F : Hp) (al : List Addr) (J : It) (items : List W) (chk : Sto → Prop) : Prop where
  sz : items.length ≤ sizeLine
  go : ∀ (i : Nat) (x : W) G B F' H al' mu, Ext F al F' al' → SRS K G B F' H al' mu → chk mu → items[i]? = some x → J.go i H
  yld : ∀ (i : Nat) (x : W) G B F' H al' mu v H', Ext F al F' al' → SRS K G B F' H al' mu → chk mu → items[i]? = some x → J.yld i H v H' → ∃ F2, Ext F' al' F2 al' ∧ SRS K G B F2 H' al' mu ∧ RepW K F2 al' x v
  stop : ∀ G B F' H al' mu, Ext F al F' al' → SRS K G B F' H al' mu → chk mu → J.stop items.length H
def DenI (K : KW) (t : TI) (f : WI) : Prop := ∀ (G B F H : Hp) (al : List Addr) (rh : Ev) (si : L2.St) (mu : Sto) (Qd : List W → (Sto → Prop) → Sto → Prop) (R : It → Hp → Prop), SR K G B F H al rh si mu → f rh mu Qd →
  (∀ F' H' al' mu' J items chk, Ext F al F' al' → SR K G B F' H' al' rh si mu' → ItD K F' al' J items chk → Qd items chk mu' → R J H') → t si H R
def VI {io : Type} (Y : io → Cx) (K : KW) (tg e : Expr) (f : WI) : Prop := ∃ t, (∀ i, PI (Y i) tg e t) ∧ DenI K t f
/-- the turns -/
@[simp] def forL (chk : Sto → Prop) (g : WG) (b : WS) (V : EV) : List W → Ev → Sto → Prop
  | [], rh, mu => chk mu ∧ V.nx rh mu
  | x :: xs, rh, mu => chk mu ∧ g x rh mu fun rh' mu' => b { V with nx := forL chk g b V xs, ct := forL chk g b V xs, bk := V.nx } rh' mu'
@[simp] def wFor (it : WI) (g : WG) (b : WS) : WS := fun V rh mu => it rh mu fun items chk mu1 => forL chk g b V items rh mu1
theorem vs_for {tg iter : Expr} {body : List Stmt} {fi : WI} {fg : WG} {vs : List Nat} (hp : PassesOwn (model X.prog X.w) X.A X.env X.xe) (hc : X.calm = true) (hi : VI (un X) K tg iter fi) (hg : VK (un X) K tg fg vs) (hb : VSs X K body f)
    (hs : ∀ x, foldedSetIterable iter X.env x = pure x := by intro _; rfl) : VS X K (.For tg iter body [] pos) (wFor fi fg f) := by
  obtain ⟨t, p, d⟩ := hi
  obtain ⟨t2, p2, d2, _⟩ := hg
  obtain ⟨u, p', d'⟩ := hb
  refine ⟨_, ps_for hp hc (p ()) (p2 ()) p' hs, fun G B F H al rh si mu V1 D1 s h b => ?_⟩
  refine d G B F H al rh si mu _ _ s h fun F0 H0 al0 mu0 J items chk e0 s0 it h0 => ?_
  refine ⟨fun i m σ H1 => m = items.length - i ∧ i ≤ items.length ∧ ∃ F1 al1 rh1 mu1, Ext F0 al0 F1 al1 ∧ SR K G B F1 H1 al1 rh1 σ mu1 ∧ forL chk fg f V1 (items.drop i) rh1 mu1, ⟨_, rfl, Nat.zero_le _, F0, al0, rh, mu0, Ext.refl _ _, s0, h0⟩, ?_⟩
  rintro i m σ H1 ⟨rfl, hi, F1, al1, rh1, mu1, e1, s1, h1⟩
  by_cases hlt : i < items.length
  · have ed : items.drop i = items[i] :: items.drop (i + 1) := List.drop_eq_getElem_cons hlt
    rw [ed] at h1
    have ei : items[i]? = some items[i] := by simp [hlt]
    obtain ⟨hchk, h1⟩ := h1
    refine .inr ⟨it.go i _ G B F1 H1 al1 mu1 e1 s1.s hchk ei, fun σ' H' => i + 1 ≤ items.length ∧ ∃ F1 al1 rh1 mu1, Ext F0 al0 F1 al1 ∧ SR K G B F1 H' al1 rh1 σ' mu1 ∧ forL chk fg f V1 (items.drop (i + 1)) rh1 mu1, fun σ' H' z => ⟨items.length - (i + 1), by omega, rfl, z.1, z.2⟩, fun x H' y => ?_⟩
    obtain ⟨F2, e2, s2, r2⟩ := it.yld i _ G B F1 H1 al1 mu1 x H' e1 s1.s hchk ei y
    refine d2 G B F2 H' al1 rh1 σ mu1 _ _ _ _ (s1.step e2 s2) r2 h1 fun F3 H3 al3 rh3 si3 mu3 e3 s3 h3 => ?_
    have ex := (e1.trans e2).trans e3
    have again : ∀ F' H' al' rh' si' mu', Ext F3 al3 F' al' → SR K G B F' H' al' rh' si' mu' → forL chk fg f V1 (items.drop (i + 1)) rh' mu' → i + 1 ≤ items.length ∧ ∃ F1 al1 rh1 mu1, Ext F0 al0 F1 al1 ∧ SR K G B F1 H' al1 rh1 si' mu1 ∧ forL chk fg f V1 (items.drop (i + 1)) rh1 mu1 :=
      fun F' H' al' rh' si' mu' x s' h' => ⟨hlt, F', al', rh', mu', ex.trans x, s', h'⟩
    exact d' G B F3 H3 al3 rh3 si3 mu3 _ _ s3 h3 ⟨again, fun F' H' al' mu' w v x => b.rt F' H' al' mu' w v ((e0.trans ex).trans x), fun F' H' al' rh' si' mu' x => b.nx F' H' al' rh' si' mu' ((e0.trans ex).trans x), again⟩
  · have e : i = items.length := by omega
    subst e
    rw [List.drop_length] at h1
    exact .inl ⟨it.stop G B F1 H1 al1 mu1 e1 s1.s h1.1, b.nx F1 H1 al1 rh1 σ mu1 (e0.trans e1) s1 h1.2⟩
end
end VL
namespace VL
open PySem PySem.Spec PyProof.Rows L2 RZ

/-! ### what is walked -/
section
variable {X : Cx} {tg : Expr}
/-- a list, a tuple, a text -/
def iAny (K : PySem.W.Frag) (tl : TE) : TI := fun σ H R => tl σ H fun x H1 => (∃ a, x = .ref a ∧ (∃ xs, SqL K H1 a xs) ∧ R (Itl K a) H1) ∨ (∃ a, x = .ref a ∧ (∃ xs, SqT K H1 a xs) ∧ R (Itt K a) H1)
theorem pi_any {l : Expr} {tl : TE} (hl : PE X l tl) : PI X tg l (iAny X.K tl) := by
  refine ⟨fun pins s σ H R I h => ?_⟩
  refine thn (hl.run pins s σ H _ I h) fun v s1 ⟨x, H1, I1, r1, q1⟩ => ?_
  rcases q1 with q1 | q1
  · obtain ⟨a, e, ⟨xs, hq⟩, q⟩ := q1
    subst e
    cases r1
    obtain ⟨its, rv, p, hz⟩ := I1.list hq
    refine wpAny_pyIter_list p.isList ?_
    refine ⟨s1.heap.objs.size, [s1.heap.objs.size], _, _, H1, rfl, I1.kept (t' := s1.toks) fun b o e => Heap.get?_push_of_some _ e, turn_list a _, ⟨_, Heap.get?_push_size _ rfl, rfl, rfl⟩, fun b hb => ?_, q⟩
    have e : b = s1.heap.objs.size := by simpa using hb
    subst e
    exact I1.fpOk (Nat.le_refl _) (I1.hok.fresh (Nat.le_refl _))
  · obtain ⟨a, e, ⟨xs, hq⟩, q⟩ := q1
    subst e
    cases r1
    obtain ⟨its, rv, p, hz⟩ := I1.tuple hq
    refine wpAny_pyIter_tuple (show s1.heap.IsTuple a its.toArray from p) ?_
    refine ⟨s1.heap.objs.size, [s1.heap.objs.size], _, _, H1, rfl, I1.kept (t' := s1.toks) fun b o e => Heap.get?_push_of_some _ e, turn_tuple a _, ⟨_, Heap.get?_push_size _ rfl, rfl, rfl⟩, fun b hb => ?_, q⟩
    have e : b = s1.heap.objs.size := by simpa using hb
    subst e
    exact I1.fpOk (Nat.le_refl _) (I1.hok.fresh (Nat.le_refl _))
end
/-- the sequence stays while it is walked -/
@[simp] def chkW (x : W) (ws : List W) : Sto → Prop := match x with
  | .loc _ => fun mu => seqW mu x = some ws
  | _ => fun _ => True
@[simp] def wSeqI (a : WE) : WI := fun rh mu Q => a rh mu fun x mu1 => match seqW mu1 x with
  | some ws => Q ws (chkW x ws) mu1
  | none => False
section
variable {io : Type} {Y : io → Cx} {P : Program} {w : World} {K : KW} {mg : Str → Option Value} {base : Heap} {N : List Str} {k : Nat} {pos p tpos : Pos} {a b e e2 tg : Expr} {wa wb : WE} {ga : WA} {elts : List Expr} {kk : Nat}
theorem seqW_kind {x : W} {v : V} {ws : List W} {G B F H : Hp} {al : List Addr} {mu : Sto} (s : SRS K G B F H al mu) (r : RepW K F al x v) (e : seqW mu x = some ws) : ∃ (b : Addr) (vs : List V), v = .ref b ∧ vs.length = ws.length ∧ vs.length ≤ sizeLine ∧
    ((∀ G' B' F' H' al' mu', Ext F al F' al' → SRS K G' B' F' H' al' mu' → chkW x ws mu' → ∃ us, SqL K H' b us ∧ Paired (RepW K F' al') ws us) ∨ (∀ G' B' F' H' al' mu', Ext F al F' al' → SRS K G' B' F' H' al' mu' → chkW x ws mu' → ∃ us, SqT K H' b us ∧ Paired (RepW K F' al') ws us)) := by
  cases x with
  | loc k =>
    cases r with
    | loc ea =>
      rename_i a
      obtain ⟨b, vs, e1, hs, z, p⟩ := seqW_rep s (.loc ea) e
      cases e1
      refine ⟨a, vs, rfl, (Paired.length p).symm, z, .inl fun G' B' F' H' al' mu' x s' c => ?_⟩
      have c' : seqW mu' (.loc k) = some ws := c
      unfold seqW at c'
      simp only at c'
      split at c'
      · rename_i q
        cases c'
        obtain ⟨us, h, z, p⟩ := s'.lstAt q (x.at ea)
        exact ⟨us, SqL.of h, pMapD p⟩
      · rename_i q
        cases c'
        obtain ⟨us, h, z, p⟩ := s'.lstWAt q (x.at ea)
        exact ⟨us, SqL.of h, p⟩
      · cases c'
  | d x =>
    cases x with
    | lst xs =>
      cases e
      cases r with
      | d r => cases r with
        | lst q z p => exact ⟨_, _, rfl, by rw [List.length_map, p.len], z, .inl fun G' B' F' H' al' mu' x s' c => ⟨_, .inl (rdMono (x.1.trans s'.fz) q), pMapD (Paired.mapP p.p fun _ _ z => z.mono x.1)⟩⟩
    | tup xs =>
      cases e
      obtain ⟨b, vs, rfl, q, z, p⟩ := repTup r
      exact ⟨b, vs, rfl, by rw [List.length_map, Paired.length p], z, .inr fun G' B' F' H' al' mu' x s' c => ⟨_, sqtMono (x.1.trans s'.fz) q, pMapD (Paired.mapP p fun _ _ z => z.mono x.1)⟩⟩
    | scr ns =>
      cases e
      cases r with
      | d r => cases r with
        | scr q z => exact ⟨_, ns.map V.int, rfl, by simp, by simpa using z, .inl fun G' B' F' H' al' mu' x s' c => ⟨_, sqlMono (x.1.trans s'.fz) q, pScr _⟩⟩
    | _ => cases e
  | tup us =>
    cases e
    cases r with
    | tup q z p => exact ⟨_, _, rfl, (Paired.length p.p).symm, z, .inr fun G' B' F' H' al' mu' x s' c => ⟨_, sqtMono (x.1.trans s'.fz) q, Paired.mapP p.p fun _ _ z => z.mono x⟩⟩
  | ty n => cases e
  | raw a => cases e
theorem vi_seq (y : YOk Y P w K mg base N k) (ha : VE Y K a wa) : VI Y K tg a (wSeqI wa) := by
  obtain ⟨t, p1, d1⟩ := ha
  refine ⟨iAny K t, fun i => by rw [← y.hK i]; exact pi_any (p1 i), fun G B F H al rh si mu Qd R s h q => ?_⟩
  refine d1 G B F H al rh si mu _ _ s h fun F1 H1 al1 mu1 x vx e1 s1 r1 h1 => ?_
  split at h1
  · rename_i ws e
    obtain ⟨b, vs, rfl, hl, z, hk⟩ := seqW_kind s1.s r1 e
    have c0 : chkW x ws mu1 := by
      unfold chkW
      split
      · exact e
      · trivial
    rcases hk with hk | hk
    · obtain ⟨us0, hs0, p0⟩ := hk G B F1 H1 al1 mu1 (Ext.refl _ _) s1.s c0
      refine .inl ⟨b, rfl, ⟨us0, hs0⟩, q F1 H1 al1 mu1 _ ws _ e1 s1 ⟨by omega, ?_, ?_, ?_⟩ h1⟩
      · intro i x G' B' F' H' al' mu' ex s' c ei
        obtain ⟨us, hs, p⟩ := hk G' B' F' H' al' mu' ex s' c
        obtain ⟨v, ev, rv⟩ := pGetL p ei
        exact ⟨us, v, hs, ev⟩
      · intro i x G' B' F' H' al' mu' v H'' ex s' c ei yl
        obtain ⟨us, hs, p⟩ := hk G' B' F' H' al' mu' ex s' c
        obtain ⟨v', ev, rv⟩ := pGetL p ei
        obtain ⟨rfl, yl⟩ := yl
        have := yl us hs
        rw [ev] at this
        cases this
        exact ⟨F', Ext.refl _ _, s', rv⟩
      · intro G' B' F' H' al' mu' ex s' c
        obtain ⟨us, hs, p⟩ := hk G' B' F' H' al' mu' ex s' c
        exact ⟨us, hs, by rw [← Paired.length p]; exact Nat.le_refl _⟩
    · obtain ⟨us0, hs0, p0⟩ := hk G B F1 H1 al1 mu1 (Ext.refl _ _) s1.s c0
      refine .inr ⟨b, rfl, ⟨us0, hs0⟩, q F1 H1 al1 mu1 _ ws _ e1 s1 ⟨by omega, ?_, ?_, ?_⟩ h1⟩
      · intro i x G' B' F' H' al' mu' ex s' c ei
        obtain ⟨us, hs, p⟩ := hk G' B' F' H' al' mu' ex s' c
        obtain ⟨v, ev, rv⟩ := pGetL p ei
        exact ⟨us, v, hs, ev⟩
      · intro i x G' B' F' H' al' mu' v H'' ex s' c ei yl
        obtain ⟨us, hs, p⟩ := hk G' B' F' H' al' mu' ex s' c
        obtain ⟨v', ev, rv⟩ := pGetL p ei
        obtain ⟨rfl, yl⟩ := yl
        have := yl us hs
        rw [ev] at this
        cases this
        exact ⟨F', Ext.refl _ _, s', rv⟩
      · intro G' B' F' H' al' mu' ex s' c
        obtain ⟨us, hs, p⟩ := hk G' B' F' H' al' mu' ex s' c
        exact ⟨us, hs, by rw [← Paired.length p]; exact Nat.le_refl _⟩
  · exact h1.elim

/-- a range -/
def rngW : Int → Nat → List W
  | _, 0 => []
  | lo, n + 1 => .d (.int lo) :: rngW (lo + 1) n
theorem rngW_len : ∀ (lo : Int) (n : Nat), (rngW lo n).length = n
  | _, 0 => rfl
  | lo, n + 1 => by rw [rngW, List.length_cons, rngW_len]
theorem rngW_get : ∀ (lo : Int) (n i : Nat), i < n → (rngW lo n)[i]? = some (.d (.int (lo + i)))
  | _, 0, _, h => by omega
  | lo, n + 1, 0, _ => by simp [rngW]
  | lo, n + 1, i + 1, h => by
    rw [rngW, List.getElem?_cons_succ, rngW_get (lo + 1) n i (by omega)]
    congr 3; omega
theorem it_rng {F : Hp} {al : List Addr} {lo : Int} {n : Nat} (h : n ≤ sizeLine) : ItD K F al (Itr lo n) (rngW lo n) fun _ => True where
  sz := by rw [rngW_len]; exact h
  go := fun i x G B F' H al' mu _ _ _ e => by
    have := (List.getElem?_eq_some_iff.mp e).1
    rw [rngW_len] at this; exact this
  yld := fun i x G B F' H al' mu v H' _ s _ e yl => by
    have l := (List.getElem?_eq_some_iff.mp e).1
    rw [rngW_len] at l
    rw [rngW_get lo n i l] at e
    cases e
    obtain ⟨rfl, rfl⟩ := yl
    exact ⟨F', Ext.refl _ _, s, .d (.int _)⟩
  stop := fun G B F' H al' mu _ _ _ => by
    show n ≤ (rngW lo n).length
    rw [rngW_len]; exact Nat.le_refl _
@[simp] def wRng1 (g : WA) : WI := fun rh mu Q => g rh mu fun ws mu1 => match ws with
  | [.d (.int j)] => j ≤ 1000000 ∧ -(2 ^ 62) ≤ j ∧ Q (rngW 0 j.toNat) (fun _ => True) mu1
  | _ => False
theorem vi_rng1 (y : YOk Y P w K mg base N k) (hm : mg "range" = none) (ha : VA Y K [a] ga) (hg : ∀ j, Gl (Y j) "range" := by exact fun _ => rfl) (hs : ∀ i, starEach [a] (Y i).env = [(false, eval a (Y i).env)] := by exact fun _ => rfl) : VI Y K tg (.Call (.Name "range" p) [a] [] pos) (wRng1 ga) := by
  obtain ⟨t, p1, d1⟩ := ha
  refine ⟨_, fun i => pi_range1 (hg i) (by rw [y.hmg i]; exact hm) (p1 i) (hs i), fun G B F H al rh si mu Qd R s h q => ?_⟩
  refine d1 G B F H al rh si mu _ _ s h fun F1 H1 al1 mu1 ws vs e1 s1 r1 h1 => ?_
  split at h1
  · obtain ⟨v, rfl, r⟩ := pair1 r1
    cases repInt r
    have l : sizeLine = 16777216 := sizeLine_eq
    exact ⟨_, rfl, h1.2.1, by have := h1.1; omega, q F1 H1 al1 mu1 _ _ _ e1 s1 (it_rng (by have := h1.1; omega)) h1.2.2⟩
  · exact h1.elim
/-- enumerate, zip: each turn's tuple is a new one -/
theorem tup2_new {G B F H : Hp} {al : List Addr} {mu : Sto} {x x' : W} {v v' : V} {T : Addr} (s : SRS K G B F H al mu) (r : RepW K F al x v) (r' : RepW K F al x' v') (hT : H T = none) : ∃ F2, Ext F al F2 al ∧ SRS K G B F2 (upd H T (.tup [v, v'])) al mu ∧ RepW K F2 al (mkTup [x, x']) (.ref T) := by
  have e := s.frozX (o := .tup [v, v']) hT
  refine ⟨_, e, s.froz hT, ?_⟩
  have z : ([v, v'] : List V).length ≤ sizeLine := by show 2 ≤ sizeLine; decide
  have p : Paired (RepW K F al) [x, x'] [v, v'] := .cons r (.cons r' .nil)
  unfold mkTup
  cases q : asDs [x, x'] with
  | none => exact .tup (SqT.of upd_same) z ((RepWs.of p).mono e)
  | some xs => exact .d (.tup (SqT.of upd_same) z ((asDs_rep (.of p) q).mono e.1))
@[simp] def enumW : Nat → List W → List W
  | _, [] => []
  | n, x :: xs => mkTup [.d (.int n), x] :: enumW (n + 1) xs
theorem enumW_len : ∀ (n : Nat) (xs : List W), (enumW n xs).length = xs.length
  | _, [] => rfl
  | n, x :: xs => by rw [enumW, List.length_cons, enumW_len, List.length_cons]
theorem enumW_get : ∀ (n : Nat) (xs : List W) (i : Nat) (z : W), (enumW n xs)[i]? = some z → ∃ x, xs[i]? = some x ∧ z = mkTup [.d (.int ((n + i : Nat) : Int)), x]
  | _, [], i, z, h => by simp [enumW] at h
  | n, x :: xs, 0, z, h => by simp [enumW] at h; exact ⟨x, by simp, by rw [← h]; rfl⟩
  | n, x :: xs, i + 1, z, h => by
    rw [enumW, List.getElem?_cons_succ] at h
    obtain ⟨y, h1, h2⟩ := enumW_get (n + 1) xs i z h
    exact ⟨y, by simpa using h1, by rw [h2]; congr 5; omega⟩
@[simp] def wEnum (g : WA) : WI := fun rh mu Q => g rh mu fun ws mu1 => match ws with
  | [x] => isL mu1 x = true ∧ match seqW mu1 x with
    | some us => Q (enumW 0 us) (chkW x us) mu1
    | none => False
  | _ => False
theorem isL_sqL {G B F H : Hp} {al : List Addr} {mu : Sto} {x : W} {v : V} {ws : List W} (s : SRS K G B F H al mu) (r : RepW K F al x v) (e : seqW mu x = some ws) (l : isL mu x = true) : ∃ (b : Addr) (vs : List V), v = .ref b ∧ vs.length = ws.length ∧ vs.length ≤ sizeLine ∧ SqL K H b vs ∧
    (∀ G' B' F' H' al' mu', Ext F al F' al' → SRS K G' B' F' H' al' mu' → chkW x ws mu' → ∃ us, SqL K H' b us ∧ Paired (RepW K F' al') ws us) := by
  cases x with
  | loc k =>
    cases r with
    | loc ea =>
      rename_i a
      obtain ⟨b, vs, e1, hs, z, p⟩ := seqW_rep s (.loc ea) e
      cases e1
      have main : ∀ G' B' F' H' al' mu', Ext F al F' al' → SRS K G' B' F' H' al' mu' → chkW (.loc k) ws mu' → ∃ us, SqL K H' a us ∧ Paired (RepW K F' al') ws us := fun G' B' F' H' al' mu' x s' c => by
        have c' : seqW mu' (.loc k) = some ws := c
        unfold seqW at c'
        simp only at c'
        split at c'
        · rename_i q
          cases c'
          obtain ⟨us, h, z, p⟩ := s'.lstAt q (x.at ea)
          exact ⟨us, SqL.of h, pMapD p⟩
        · rename_i q
          cases c'
          obtain ⟨us, h, z, p⟩ := s'.lstWAt q (x.at ea)
          exact ⟨us, SqL.of h, p⟩
        · cases c'
      obtain ⟨us, h1, h2⟩ := main G B F H al mu (Ext.refl _ _) s e
      have le := Paired.length h2
      refine ⟨a, us, rfl, le.symm, ?_, h1, main⟩
      rw [← le, Paired.length p]; exact z
  | d x =>
    cases x with
    | lst xs =>
      cases e
      cases r with
      | d r => cases r with
        | lst q z p => exact ⟨_, _, rfl, by rw [List.length_map, p.len], z, .inl (rdMono s.fz q), fun G' B' F' H' al' mu' x s' c => ⟨_, .inl (rdMono (x.1.trans s'.fz) q), pMapD (Paired.mapP p.p fun _ _ z => z.mono x.1)⟩⟩
    | _ => first | (cases l; done) | (cases e; done)
  | tup us => cases l
  | ty n => cases e
  | raw a => cases e
theorem vi_enum (y : YOk Y P w K mg base N k) (hm : mg "enumerate" = none) (ha : VA Y K [e] ga) (hg : ∀ j, Gl (Y j) "enumerate" := by exact fun _ => rfl) (hs : ∀ i, starEach [e] (Y i).env = [(false, eval e (Y i).env)] := by exact fun _ => rfl) : VI Y K (.Tuple elts kk tpos) (.Call (.Name "enumerate" p) [e] [] pos) (wEnum ga) := by
  obtain ⟨t, p1, d1⟩ := ha
  refine ⟨iEnum K t, fun i => by rw [← y.hK i]; exact pi_enum (hg i) (by rw [y.hmg i]; exact hm) (p1 i) (hs i), fun G B F H al rh si mu Qd R s h q => ?_⟩
  refine d1 G B F H al rh si mu _ _ s h fun F1 H1 al1 mu1 ws vs e1 s1 r1 h1 => ?_
  split at h1
  · rename_i x
    obtain ⟨v, rfl, r⟩ := pair1 r1
    obtain ⟨hl, h1⟩ := h1
    split at h1
    · rename_i us e
      obtain ⟨b, vs, rfl, hle, z, hq, main⟩ := isL_sqL s1.s r e hl
      refine ⟨b, vs, rfl, hq, q F1 H1 al1 mu1 _ _ (chkW x us) e1 s1 ⟨by rw [enumW_len]; omega, ?_, ?_, ?_⟩ h1⟩
      · intro i x G' B' F' H' al' mu' ex s' c ei
        obtain ⟨ys, hs, p⟩ := main G' B' F' H' al' mu' ex s' c
        obtain ⟨x0, h2, rfl⟩ := enumW_get _ _ _ _ ei
        obtain ⟨v, ev, rv⟩ := pGetL p h2
        exact ⟨ys, v, hs, ev⟩
      · intro i x G' B' F' H' al' mu' v H'' ex s' c ei yl
        obtain ⟨ys, hs, p⟩ := main G' B' F' H' al' mu' ex s' c
        obtain ⟨x0, h2, rfl⟩ := enumW_get _ _ _ _ ei
        obtain ⟨v', ev, rv⟩ := pGetL p h2
        obtain ⟨T, x1, rfl, hT, rfl, yl⟩ := yl
        have := yl ys hs
        rw [ev] at this
        cases this
        rw [Nat.zero_add]
        exact tup2_new s' (.d (.int _)) rv hT
      · intro G' B' F' H' al' mu' ex s' c
        obtain ⟨ys, hs, p⟩ := main G' B' F' H' al' mu' ex s' c
        exact ⟨ys, hs, by rw [enumW_len, ← Paired.length p]; exact Nat.le_refl _⟩
    · exact h1.elim
  · exact h1.elim
@[simp] def zipW : List W → List W → List W
  | x :: xs, y :: ys => mkTup [x, y] :: zipW xs ys
  | _, _ => []
theorem zipW_len : ∀ xs ys : List W, (zipW xs ys).length = min xs.length ys.length
  | [], ys => by simp [zipW]
  | _ :: _, [] => by simp [zipW]
  | x :: xs, y :: ys => by rw [zipW, List.length_cons, zipW_len, List.length_cons, List.length_cons]; omega
theorem zipW_get : ∀ (xs ys : List W) (i : Nat) (z : W), (zipW xs ys)[i]? = some z → ∃ x y, xs[i]? = some x ∧ ys[i]? = some y ∧ z = mkTup [x, y]
  | [], ys, i, z, h => by simp [zipW] at h
  | _ :: _, [], i, z, h => by simp [zipW] at h
  | x :: xs, y :: ys, 0, z, h => by simp [zipW] at h; exact ⟨x, y, by simp, by simp, h.symm⟩
  | x :: xs, y :: ys, i + 1, z, h => by
    rw [zipW, List.getElem?_cons_succ] at h
    obtain ⟨a, b, h1, h2, h3⟩ := zipW_get xs ys i z h
    exact ⟨a, b, by simpa using h1, by simpa using h2, h3⟩
/-- both lists, or both tuples -/
@[simp] def isT : W → Bool
  | .d (.tup _) => true
  | .tup _ => true
  | _ => false
@[simp] def wZip (g : WA) : WI := fun rh mu Q => g rh mu fun ws mu1 => match ws with
  | [x, x'] => ((isL mu1 x = true ∧ isL mu1 x' = true) ∨ (isT x = true ∧ isT x' = true)) ∧ match seqW mu1 x, seqW mu1 x' with
    | some us, some us' => Q (zipW us us') (fun mu => chkW x us mu ∧ chkW x' us' mu) mu1
    | _, _ => False
  | _ => False
theorem isT_sqT {G B F H : Hp} {al : List Addr} {mu : Sto} {x : W} {v : V} {ws : List W} (s : SRS K G B F H al mu) (r : RepW K F al x v) (e : seqW mu x = some ws) (l : isT x = true) : ∃ (b : Addr) (vs : List V), v = .ref b ∧ vs.length = ws.length ∧ vs.length ≤ sizeLine ∧ SqT K H b vs ∧
    (∀ G' B' F' H' al' mu', Ext F al F' al' → SRS K G' B' F' H' al' mu' → ∃ us, SqT K H' b us ∧ Paired (RepW K F' al') ws us) := by
  cases x with
  | loc k => cases l
  | d x =>
    cases x with
    | tup xs =>
      cases e
      obtain ⟨b, vs, rfl, q, z, p⟩ := repTup r
      exact ⟨b, vs, rfl, by rw [List.length_map, Paired.length p], z, sqtMono s.fz q, fun G' B' F' H' al' mu' x s' => ⟨_, sqtMono (x.1.trans s'.fz) q, pMapD (Paired.mapP p fun _ _ z => z.mono x.1)⟩⟩
    | _ => cases l
  | tup us =>
    cases e
    cases r with
    | tup q z p => exact ⟨_, _, rfl, (Paired.length p.p).symm, z, sqtMono s.fz q, fun G' B' F' H' al' mu' x s' => ⟨_, sqtMono (x.1.trans s'.fz) q, Paired.mapP p.p fun _ _ z => z.mono x⟩⟩
  | ty n => cases e
  | raw a => cases e
theorem vi_zip (y : YOk Y P w K mg base N k) (hm : mg "zip" = none) (ha : VA Y K [e, e2] ga) (hg : ∀ j, Gl (Y j) "zip" := by exact fun _ => rfl)
    (hs : ∀ i, starEach [e, e2] (Y i).env = (false, eval e (Y i).env) :: starEach [e2] (Y i).env := by exact fun _ => rfl) (hpl : ∀ i, (backTo pos (starEach [e2] (Y i).env)).any (·.1) = false := by exact fun _ => rfl) : VI Y K (.Tuple elts kk tpos) (.Call (.Name "zip" p) [e, e2] [] pos) (wZip ga) := by
  obtain ⟨t, p1, d1⟩ := ha
  refine ⟨iZipA K t, fun i => by rw [← y.hK i]; exact pi_zipA (hg i) (by rw [y.hmg i]; exact hm) (p1 i) (hs i) (hpl i), fun G B F H al rh si mu Qd R s h q => ?_⟩
  refine d1 G B F H al rh si mu _ _ s h fun F1 H1 al1 mu1 ws vs e1 s1 r1 h1 => ?_
  split at h1
  · rename_i x x'
    obtain ⟨v, v', rfl, r, r'⟩ := pair2 r1
    obtain ⟨hl, h1⟩ := h1
    split at h1
    · rename_i us us' e e'
      rcases hl with ⟨l1, l2⟩ | ⟨l1, l2⟩
      · obtain ⟨b, vs, rfl, hle, z, hq, main⟩ := isL_sqL s1.s r e l1
        obtain ⟨b', vs', rfl, hle', z', hq', main'⟩ := isL_sqL s1.s r' e' l2
        refine ⟨b, b', vs, vs', rfl, .inl ⟨hq, hq', q F1 H1 al1 mu1 _ _ _ e1 s1 ⟨by rw [zipW_len]; omega, ?_, ?_, ?_⟩ h1⟩⟩
        · intro i x0 G' B' F' H' al' mu' ex s' c ei
          obtain ⟨ys, hs, p⟩ := main G' B' F' H' al' mu' ex s' c.1
          obtain ⟨ys', hs', p'⟩ := main' G' B' F' H' al' mu' ex s' c.2
          obtain ⟨a1, a2, h2, h3, rfl⟩ := zipW_get _ _ _ _ ei
          obtain ⟨v, ev, rv⟩ := pGetL p h2
          obtain ⟨v', ev', rv'⟩ := pGetL p' h3
          exact ⟨ys, ys', v, v', hs, hs', ev, ev'⟩
        · intro i x0 G' B' F' H' al' mu' v H'' ex s' c ei yl
          obtain ⟨ys, hs, p⟩ := main G' B' F' H' al' mu' ex s' c.1
          obtain ⟨ys', hs', p'⟩ := main' G' B' F' H' al' mu' ex s' c.2
          obtain ⟨a1, a2, h2, h3, rfl⟩ := zipW_get _ _ _ _ ei
          obtain ⟨v, ev, rv⟩ := pGetL p h2
          obtain ⟨v', ev', rv'⟩ := pGetL p' h3
          obtain ⟨T, w1, w2, rfl, hT, rfl, yl1, yl2⟩ := yl
          have q1 := yl1 ys hs
          have q2 := yl2 ys' hs'
          rw [ev] at q1; rw [ev'] at q2
          cases q1; cases q2
          exact tup2_new s' rv rv' hT
        · intro G' B' F' H' al' mu' ex s' c
          obtain ⟨ys, hs, p⟩ := main G' B' F' H' al' mu' ex s' c.1
          obtain ⟨ys', hs', p'⟩ := main' G' B' F' H' al' mu' ex s' c.2
          exact ⟨ys, ys', hs, hs', by rw [zipW_len, ← Paired.length p, ← Paired.length p']; omega⟩
      · obtain ⟨b, vs, rfl, hle, z, hq, main⟩ := isT_sqT s1.s r e l1
        obtain ⟨b', vs', rfl, hle', z', hq', main'⟩ := isT_sqT s1.s r' e' l2
        refine ⟨b, b', vs, vs', rfl, .inr ⟨hq, hq', q F1 H1 al1 mu1 _ _ _ e1 s1 ⟨by rw [zipW_len]; omega, ?_, ?_, ?_⟩ h1⟩⟩
        · intro i x0 G' B' F' H' al' mu' ex s' c ei
          obtain ⟨ys, hs, p⟩ := main G' B' F' H' al' mu' ex s'
          obtain ⟨ys', hs', p'⟩ := main' G' B' F' H' al' mu' ex s'
          obtain ⟨a1, a2, h2, h3, rfl⟩ := zipW_get _ _ _ _ ei
          obtain ⟨v, ev, rv⟩ := pGetL p h2
          obtain ⟨v', ev', rv'⟩ := pGetL p' h3
          exact ⟨ys, ys', v, v', hs, hs', ev, ev'⟩
        · intro i x0 G' B' F' H' al' mu' v H'' ex s' c ei yl
          obtain ⟨ys, hs, p⟩ := main G' B' F' H' al' mu' ex s'
          obtain ⟨ys', hs', p'⟩ := main' G' B' F' H' al' mu' ex s'
          obtain ⟨a1, a2, h2, h3, rfl⟩ := zipW_get _ _ _ _ ei
          obtain ⟨v, ev, rv⟩ := pGetL p h2
          obtain ⟨v', ev', rv'⟩ := pGetL p' h3
          obtain ⟨T, w1, w2, rfl, hT, rfl, yl1, yl2⟩ := yl
          have q1 := yl1 ys hs
          have q2 := yl2 ys' hs'
          rw [ev] at q1; rw [ev'] at q2
          cases q1; cases q2
          exact tup2_new s' rv rv' hT
        · intro G' B' F' H' al' mu' ex s' c
          obtain ⟨ys, hs, p⟩ := main G' B' F' H' al' mu' ex s'
          obtain ⟨ys', hs', p'⟩ := main' G' B' F' H' al' mu' ex s'
          exact ⟨ys, ys', hs, hs', by rw [zipW_len, ← Paired.length p, ← Paired.length p']; omega⟩
    · exact h1.elim
  · exact h1.elim
/-- a text, sign by sign -/
@[simp] def sgnW (z : Str) : List W := z.cps.toList.map fun c => .d (.str ⟨#[c]⟩)
@[simp] def wStrI (a : WE) : WI := fun rh mu Q => a rh mu fun x mu1 => match x with
  | .d (.str z) => Q (sgnW z) (fun _ => True) mu1
  | _ => False
theorem vi_str (ha : VE Y K a wa) : VI Y K tg a (wStrI wa) := by
  obtain ⟨t, p1, d1⟩ := ha
  refine ⟨_, fun i => pi_str (p1 i), fun G B F H al rh si mu Qd R s h q => ?_⟩
  refine d1 G B F H al rh si mu _ _ s h fun F1 H1 al1 mu1 x vx e1 s1 r1 h1 => ?_
  split at h1
  · rename_i z
    obtain ⟨rfl, hz⟩ := repStr r1
    have hlen : (sgnW z).length = z.cps.size := by simp [sgnW]
    refine ⟨z, rfl, q F1 H1 al1 mu1 _ _ _ e1 s1 ⟨by rw [hlen]; exact hz.2, ?_, ?_, ?_⟩ h1⟩
    · intro i x G' B' F' H' al' mu' _ _ _ ei
      have := (List.getElem?_eq_some_iff.mp ei).1
      rw [hlen] at this; exact this
    · intro i x G' B' F' H' al' mu' v H'' _ s' _ ei yl
      obtain ⟨rfl, c, hc, rfl⟩ := yl
      unfold sgnW at ei
      rw [List.getElem?_map, Array.getElem?_toList, hc] at ei
      cases ei
      refine ⟨F', Ext.refl _ _, s', .d (.str _ ?_)⟩
      refine strOk_at (z := z) (i := (i : Int)) hz (atI_nat (by rw [Array.getElem?_toList]; exact hc))
    · intro G' B' F' H' al' mu' _ _ _
      show z.cps.size ≤ _
      rw [hlen]; exact Nat.le_refl _
  · exact h1.elim
end
end VL
namespace VL
open PySem PySem.Spec PyProof.Rows L2 RZ

/-! ### an object beside: kept by what must stay -/
section
variable {K : KW} {G B F F' H H' : Hp} {al al' : List Addr} {mu mu' : Sto} {p : Addr} {o o' : HO}
theorem SRS.guard (s : SRS K G B F H al mu) (hH : H p = some o) (hF : F p = none) (hal : p ∉ al) : SRS K G (upd B p o) F H al mu where
  fz := s.fz
  bs := fun a u e => by
    by_cases q : a = p
    · subst q; rw [upd_same] at e; cases e; exact hH
    · rw [upd_ne q] at e; exact s.bs _ _ e
  gf := s.gf
  fr := fun a u e => by
    have ne : a ≠ p := ne_of_none e hF
    rw [upd_ne ne]; exact s.fr a u e
  nd := s.nd
  len := s.len
  st := fun k c e => by
    obtain ⟨a, u, e1, e2, e3, e4, e5⟩ := s.st k c e
    have ne : a ≠ p := fun z => hal (z ▸ List.mem_of_getElem? e1)
    exact ⟨a, u, e1, e2, by rw [upd_ne ne]; exact e3, e4, e5⟩
theorem SRS.unguard (s : SRS K G (upd B p o) F H al mu) (hB : B p = none) : SRS K G B F H al mu ∧ H p = some o ∧ p ∉ al where
  left := {
    fz := s.fz
    bs := fun a u e => s.bs _ _ (by rw [upd_ne (ne_of_none e hB)]; exact e)
    gf := s.gf
    fr := fun a u e => by
      rcases s.fr a u e with q | q | q
      · exact .inl q
      · refine .inr (.inl ?_)
        by_cases z : a = p
        · subst z; exact hB
        · rw [upd_ne z] at q; exact q
      · exact .inr (.inr q)
    nd := s.nd
    len := s.len
    st := fun k c e => by
      obtain ⟨a, u, e1, e2, e3, e4, e5⟩ := s.st k c e
      refine ⟨a, u, e1, e2, ?_, e4, e5⟩
      by_cases z : a = p
      · subst z; exact hB
      · rw [upd_ne z] at e3; exact e3 }
  right := ⟨s.bs _ _ upd_same, fun h => by
    obtain ⟨k, hk⟩ := List.mem_iff_getElem?.mp h
    obtain ⟨c, hc⟩ := s.has hk
    obtain ⟨_, _, q, _, _⟩ := s.at hc hk
    rw [upd_same] at q; cases q⟩
/-- it may be written -/
theorem SRS.beside (s : SRS K G B F H al mu) (hB : B p = none) (hF : F p = none) (hal : p ∉ al) : SRS K G B F (upd H p o') al mu where
  fz := fun a u e => by rw [upd_ne (ne_of_none e hF)]; exact s.fz _ _ e
  bs := fun a u e => by rw [upd_ne (ne_of_none e hB)]; exact s.bs _ _ e
  gf := s.gf
  fr := s.fr
  nd := s.nd
  len := s.len
  st := fun k c e => by
    obtain ⟨a, u, e1, e2, e3, e4, e5⟩ := s.st k c e
    have ne : a ≠ p := fun z => hal (z ▸ List.mem_of_getElem? e1)
    exact ⟨a, u, e1, e2, e3, by rw [upd_ne ne]; exact e4, e5⟩
theorem SRS.frozAt (s : SRS K G B F H al mu) (hH : H p = some o) (hF : F p = none) (hB : B p = none) (hal : p ∉ al) : SRS K G B (upd F p o) H al mu where
  fz := fun a u e => by
    by_cases q : a = p
    · subst q; rw [upd_same] at e; cases e; exact hH
    · rw [upd_ne q] at e; exact s.fz _ _ e
  bs := s.bs
  gf := s.gf.trans (sameN hF)
  fr := fun a u e => by
    by_cases q : a = p
    · subst q; exact .inr (.inl hB)
    · rw [upd_ne q] at e; exact s.fr a u e
  nd := s.nd
  len := s.len
  st := fun k c e => by
    obtain ⟨a, u, e1, e2, e3, e4, e5⟩ := s.st k c e
    have ne : a ≠ p := fun z => hal (z ▸ List.mem_of_getElem? e1)
    exact ⟨a, u, e1, by rw [upd_ne ne]; exact e2, e3, e4, e5.mono ⟨sameN hF, [], by simp⟩⟩
theorem SRS.ownAt {c : C} (s : SRS K G B F H al mu) (hH : H p = some o) (hF : F p = none) (hB : B p = none) (hal : p ∉ al) (r : CRep K F al p c o) : SRS K G B F H (al ++ [p]) (mu ++ [c]) where
  fz := s.fz
  bs := s.bs
  gf := s.gf
  fr := s.fr
  nd := List.nodup_append.mpr ⟨s.nd, by simp, fun a ha b hb e => by
    have z : b = p := by simpa using hb
    exact hal (z ▸ e ▸ ha)⟩
  len := by simp [s.len]
  st := fun k c' e => by
    by_cases hk : k < mu.length
    · rw [List.getElem?_append_left hk] at e
      obtain ⟨a, u, e1, e2, e3, e4, e5⟩ := s.st k c' e
      exact ⟨a, u, by rw [List.getElem?_append_left (by rw [s.len]; exact hk)]; exact e1, e2, e3, e4, e5.mono ⟨Same.refl F, [p], rfl⟩⟩
    · rw [List.getElem?_append_right (by omega)] at e
      have hz : k - mu.length = 0 := by
        have := (List.getElem?_eq_some_iff.mp e).1
        simp at this; omega
      rw [hz] at e
      have e' : c = c' := by simpa using e
      subst e'
      exact ⟨p, o, by rw [List.getElem?_append_right (by rw [s.len]; omega), s.len, hz]; rfl, hF, hB, hH, r.mono ⟨Same.refl F, [p], rfl⟩⟩
/-- a list that stands already becomes ours -/
theorem newLW_at {o : Bool} {ws : List W} {vs : List V} {Qd : W → Sto → Prop} {Q : L2.VK} {rh : Ev} {si : L2.St} (s : SR K G B F H al rh si mu) (pr : Paired (RepW K F al) ws vs) (z : vs.length ≤ sizeLine) (hH : H p = some (.lst vs)) (hF : F p = none) (hB : B p = none) (hal : p ∉ al) (h : newLW o ws mu Qd)
    (k : ∀ F' H' al' mu' w v, Ext F al F' al' → SR K G B F' H' al' rh si mu' → RepW K F' al' w v → Qd w mu' → Q v H') : Q (.ref p) H := by
  unfold newLW at h
  have x := SRS.ownX (F := F) (al := al) (p := p)
  cases q : asDs ws with
  | some xs =>
    rw [q] at h
    have pd := (asDs_rep (.of pr) q).p
    unfold newL at h
    cases o with
    | true => exact k _ _ _ _ _ _ x (s.step x (s.s.ownAt hH hF hB hal (.lst z pd))) (.loc s.s.atNew) h
    | false =>
      have x : Ext F al (upd F p (.lst vs)) al := ⟨sameN hF, [], by simp⟩
      exact k _ _ _ _ _ _ x (s.step x (s.s.frozAt hH hF hB hal)) (.d (.lst (Rd.of upd_same) z ((RepDs.of pd).mono x.1))) h
  | none =>
    rw [q] at h
    exact k _ _ _ _ _ _ x (s.step x (s.s.ownAt hH hF hB hal (.lstW z pr))) (.loc s.s.atNew) h
end

/-! ### comprehensions -/
@[simp] def lcL (chk : Sto → Prop) (g : WG) (tt : WT) (te : WE) (rh : Ev) : List W → List W → Sto → (List W → Sto → Prop) → Prop
  | [], acc, mu, Q => chk mu ∧ Q acc mu
  | x :: xs, acc, mu, Q => chk mu ∧ g x rh mu fun rh' mu1 => tt rh' mu1 fun b mu2 => if b = true then te rh' mu2 fun y mu3 => lcL chk g tt te rh xs (acc ++ [y]) mu3 Q else lcL chk g tt te rh xs acc mu2 Q
@[simp] def wLc (o : Bool) (it : WI) (g : WG) (tt : WT) (te : WE) (vs : List Nat) : WE := fun rh mu Q => it rh mu fun items chk mu1 => lcL chk g tt te (wipeE rh vs) items [] mu1 fun ws mu2 => newLW o ws mu2 Q
theorem wipe_wipe (σ : L2.St) (vs : List Nat) : ∀ us : List Nat, (∀ u ∈ us, u ∈ vs) → wipe (wipe σ us) vs = wipe σ vs
  | [], _ => rfl
  | u :: us, h => by
    show wipe ((wipe σ us).set u none) vs = _
    rw [wipe_set _ u none vs (h u (by simp))]
    exact wipe_wipe σ vs us fun x hx => h x (by simp [hx])
def VTs {io : Type} (Y : io → Cx) (K : KW) (ifs : List Expr) (f : WT) : Prop := ∃ t, (∀ i, PTs (Y i) ifs t) ∧ DenT K t f
@[simp] def wYes : WT := fun _ mu Q => Q true mu
section
variable {io : Type} {Y : io → Cx} {P : Program} {w : World} {K : KW} {mg : Str → Option Value} {base : Heap} {N : List Str} {k : Nat} {pos : Pos} {c elt tg iter : Expr} {ifs : List Expr} {fc : WT}
theorem vts_nil : VTs Y K [] wYes := ⟨_, fun _ => pts_nil, fun G B F H al rh si mu Qd Q s h q => q F H al mu true (Ext.refl _ _) s h⟩
theorem vts_one (h : VT Y K c fc) : VTs Y K [c] fc := by
  obtain ⟨t, p, d⟩ := h
  exact ⟨t, fun i => pts_one (p i), d⟩
/-- the contexts of a comprehension's block -/
abbrev BlkIx (io : Type) := io × Shared × Hp × Addr × List (Str × Addr) × List Addr
abbrev blkY (Y : io → Cx) (scope : Scope) : BlkIx io → Cx := fun j => (Y j.1).blk j.2.1 j.2.2.1 scope (compEnvC scope j.2.2.2.2.1 j.2.2.2.1 (Y j.1).env) j.2.2.2.2.2
theorem YOk.blk (y : YOk Y P w K mg base N k) (scope : Scope) : YOk (blkY Y scope) P w K mg base N k :=
  ⟨fun j => y.hP j.1, fun j => y.hw j.1, fun j => y.hK j.1, fun j => y.hmg j.1, fun j => y.hbase j.1, fun j => y.hN j.1, y.nd, fun j => y.calm j.1, fun j => y.room j.1⟩
theorem den_lc (o : Bool) {wi : TI} {g : TG} {tt : TT} {te : TE} {vs : List Nat} {fi : WI} {fg : WG} {ft : WT} {fe : WE} (di : DenI K wi fi) (dg : DenG K g fg) (kg : GKeep vs g) (dt : DenT K tt ft) (de : Den K te fe) : Den K (tLc wi g tt te vs) (wLc o fi fg ft fe vs) := fun G B F H al rh si mu Qd Q s h q => by
  refine di G B F H al rh si mu _ _ s h fun F0 H0 al0 mu0 J items chk e0 s0 it h0 => ?_
  intro D hD
  have hB : B D = none := sameNone s0.s.bs hD
  have hF0 : F0 D = none := sameNone s0.s.fz hD
  have hG : G D = none := sameNone (s0.s.gf) hF0
  refine ⟨fun i m H1 => m = items.length - i ∧ i ≤ items.length ∧ ∃ F1 al1 mu1 acc vs1, Ext F0 al0 F1 al1 ∧ SRS K G (upd B D (.lst vs1)) F1 H1 al1 mu1 ∧ F1 D = none ∧ Paired (RepW K F1 al1) acc vs1 ∧ vs1.length ≤ i ∧ lcL chk fg ft fe (wipeE rh vs) (items.drop i) acc mu1 fun ws mu2 => newLW o ws mu2 Qd, ⟨_, rfl, Nat.zero_le _, F0, al0, mu0, [], [], Ext.refl _ _, ?_, hF0, .nil, Nat.le_refl _, h0⟩, ?_⟩
  · have s1 : SRS K G B F0 (upd H0 D (.lst [])) al0 mu0 := s0.s.beside hB hF0 (fun z => by
      obtain ⟨k, hk⟩ := List.mem_iff_getElem?.mp z
      obtain ⟨c, hc⟩ := s0.s.has hk
      obtain ⟨_, _, _, q, _⟩ := s0.s.at hc hk
      rw [hD] at q; cases q)
    exact s1.guard upd_same hF0 (fun z => by
      obtain ⟨k, hk⟩ := List.mem_iff_getElem?.mp z
      obtain ⟨c, hc⟩ := s0.s.has hk
      obtain ⟨_, _, _, q, _⟩ := s0.s.at hc hk
      rw [hD] at q; cases q)
  rintro i m H1 ⟨rfl, hi, F1, al1, mu1, acc, vs1, e1, s1, hF1, pa, hl, h1⟩
  by_cases hlt : i < items.length
  · have ed : items.drop i = items[i] :: items.drop (i + 1) := List.drop_eq_getElem_cons hlt
    rw [ed] at h1
    have ei : items[i]? = some items[i] := by simp [hlt]
    obtain ⟨hchk, h1⟩ := h1
    refine .inr ⟨it.go i _ _ _ F1 H1 al1 mu1 e1 s1 hchk ei, fun H' => i + 1 ≤ items.length ∧ ∃ F1 al1 mu1 acc vs1, Ext F0 al0 F1 al1 ∧ SRS K G (upd B D (.lst vs1)) F1 H' al1 mu1 ∧ F1 D = none ∧ Paired (RepW K F1 al1) acc vs1 ∧ vs1.length ≤ i + 1 ∧ lcL chk fg ft fe (wipeE rh vs) (items.drop (i + 1)) acc mu1 fun ws mu2 => newLW o ws mu2 Qd,
      fun H' z => ⟨items.length - (i + 1), by omega, rfl, z.1, z.2⟩, fun x H' y => ?_⟩
    obtain ⟨F2, e2, s2, r2⟩ := it.yld i _ _ _ F1 H1 al1 mu1 x H' e1 s1 hchk ei y
    -- the new list is no frozen thing
    have noF : ∀ {F' H' : Hp} {al' : List Addr} {mu' : Sto}, SRS K G (upd B D (.lst vs1)) F' H' al' mu' → F' D = none := fun {F' H' al' mu'} s' => by
      cases q : F' D with
      | none => rfl
      | some u =>
        rcases s'.fr D u q with z | z | z
        · rw [hG] at z; cases z
        · rw [upd_same] at z; cases z
        · have := s'.fz _ _ q
          rw [s'.bs _ _ upd_same] at this
          cases this
          cases z
    have sw : SR K G (upd B D (.lst vs1)) F2 H' al1 (wipeE rh vs) (wipe si vs) mu1 := by
      have a := (s0.wipe vs)
      exact ⟨s2, a.ln, fun j u e => by
        obtain ⟨v, q1, q2⟩ := a.env j u e
        exact ⟨v, q1, q2.mono (e1.trans e2)⟩⟩
    refine kg x (wipe si vs) H' (fun σ2 H2 => tt σ2 H2 fun b H3 => if b = true then te σ2 H3 fun y H4 => ∃ acc, H4 D = some (.lst acc) ∧ acc.length < sizeLine ∧ _ else _) _ (fun σ' H'' w' z => ⟨w'.trans (wipe_wipe si vs vs fun _ z => z), z⟩) ?_
    refine dg G _ F2 H' al1 _ _ mu1 _ _ _ _ sw r2 h1 fun F3 H3 al3 rh3 si3 mu3 e3 s3 h3 => ?_
    refine dt G _ F3 H3 al3 rh3 si3 mu3 _ _ s3 h3 fun F4 H4 al4 mu4 b e4 s4 h4 => ?_
    cases b with
    | false =>
      refine iteF ⟨hlt, F4, al4, mu4, acc, vs1, ((e1.trans e2).trans e3).trans e4, s4.s, noF s4.s, Paired.mapP pa fun _ _ z => z.mono ((e2.trans e3).trans e4), by omega, ?_⟩
      simpa using h4
    | true =>
      refine iteT (de G _ F4 H4 al4 rh3 si3 mu4 _ _ s4 (by simpa using h4) fun F5 H5 al5 mu5 u v e5 s5 r5 h5 => ?_)
      obtain ⟨s6, hD5, hal5⟩ := s5.s.unguard hB
      have ex := (((e2.trans e3).trans e4).trans e5)
      refine ⟨vs1, hD5, by have := it.sz; omega, hlt, F5, al5, mu5, acc ++ [u], vs1 ++ [v], e1.trans ex, ?_, noF s5.s, pApp (Paired.mapP pa fun _ _ z => z.mono ex) (pOne r5), by rw [List.length_append, List.length_singleton]; omega, h5⟩
      exact (s6.beside hB (noF s5.s) hal5).guard upd_same (noF s5.s) hal5
  · have e : i = items.length := by omega
    subst e
    rw [List.drop_length] at h1
    obtain ⟨s2, hD1, hal1⟩ := s1.unguard hB
    refine .inl ⟨it.stop _ _ F1 H1 al1 mu1 e1 s1 h1.1, ?_⟩
    exact newLW_at (s0.step e1 s2) pa (by have := it.sz; omega) hD1 hF1 hB hal1 h1.2 fun F' H' al' mu' w v x => q F' H' al' mu' w v ((e0.trans e1).trans x)
theorem ve_lc (y : YOk Y P w K mg base N k) (o : Bool) {scope : Scope} {own : List (Str × Nat)} {fi : WI} {fg : WG} {ft : WT} {fe : WE} (hi : VI Y K tg iter fi) (ok : ∀ i, BlkOk N (Y i).env.scope scope own)
    (hg : VK (blkY Y scope) K tg fg (own.map (·.2))) (ht : VTs (blkY Y scope) K ifs ft) (he : VE (blkY Y scope) K elt fe) (hs : ∀ i x, foldedSetIterable iter (Y i).env x = pure x := by exact fun _ _ => rfl) :
    VE Y K (.ListComp elt [⟨tg, iter, ifs, 0⟩] scope pos) (wLc o fi fg ft fe (own.map (·.2))) := by
  obtain ⟨t1, p1, d1⟩ := hi
  obtain ⟨t2, p2, d2, kp⟩ := hg
  obtain ⟨t3, p3, d3⟩ := ht
  obtain ⟨t4, p4, d4⟩ := he
  refine ⟨_, fun i => pe_lc (y.calm i) (by rw [y.hN i]; exact y.nd) (p1 i) (by rw [y.hN i]; exact ok i) (fun s H C cl fp => p2 (i, s, H, C, cl, fp)) (fun s H C cl fp => p3 (i, s, H, C, cl, fp)) (fun s H C cl fp => p4 (i, s, H, C, cl, fp)) (hs i), den_lc o d1 d2 kp d3 d4⟩
end
section
variable {X : Cx} {P : Program} {w : World} {K : KW} {mg : Str → Option Value} {base : Heap} {N : List Str} {k : Nat} {pos spos : Pos} {c elt tg iter : Expr} {ifs : List Expr} {fc : WT}
/-- name = [..] on one line -/
theorem vs_setLc (y : YOk (un X) P w K mg base N k) (o : Bool) (i : Nat) {x : Str} {py : Pos} {scope : Scope} {own : List (Str × Nat)} {fi : WI} {fg : WG} {ft : WT} {fe : WE} (hsw : swapsWith (.ListComp elt [⟨tg, iter, ifs, 0⟩] scope pos) (some (.Name x py)) spos.line X.env = pure true)
    (hi : VI (un X) K tg iter fi) (ok : BlkOk N X.env.scope scope own)
    (hg : VK (blkY (un X) scope) K tg fg (own.map (·.2))) (ht : VTs (blkY (un X) scope) K ifs ft) (he : VE (blkY (un X) scope) K elt fe) (hix : N[i]? = some x := by rfl) (hyl : X.env.scope.names.lookup x = some .local := by rfl) (hs : ∀ x, foldedSetIterable iter X.env x = pure x := by exact fun _ => rfl) :
    VS X K (.Assign [.Name x py] (.ListComp elt [⟨tg, iter, ifs, 0⟩] scope pos) spos) (wAsg (wLc o fi fg ft fe (own.map (·.2))) (wgName i)) := by
  obtain ⟨t1, p1, d1⟩ := hi
  obtain ⟨t2, p2, d2, kp⟩ := hg
  obtain ⟨t3, p3, d3⟩ := ht
  obtain ⟨t4, p4, d4⟩ := he
  have q := y.hN ()
  refine ⟨_, ps_setLc (i := i) (y.calm ()) (by rw [show X.N = N from q]; exact y.nd) (by rw [show X.N = N from q]; exact hix) hyl hsw (p1 ()) (by rw [show X.N = N from q]; exact ok) (fun s H C cl fp => p2 ((), s, H, C, cl, fp)) (fun s H C cl fp => p3 ((), s, H, C, cl, fp)) (fun s H C cl fp => p4 ((), s, H, C, cl, fp)) hs, den_asg (den_lc o d1 d2 kp d3 d4) (den_gName i)⟩
end

/-! ### promises -/
abbrev VSp := List W → Sto → (W → Sto → Prop) → Prop
def toSp (K : KW) (sp : VSp) : Sp := fun vs H Q _ => ∃ (B F : Hp) (al : List Addr) (mu : Sto) (ws : List W) (Qd : W → Sto → Prop), SRS K F B F H al mu ∧ Paired (RepW K F al) ws vs ∧ sp ws mu Qd ∧
  ∀ F' H' al' mu' u v, Ext F al F' al' → SRS K F B F' H' al' mu' → RepW K F' al' u v → Qd u mu' → Q v H'
@[simp] def startE (N : List Str) (ws : List W) : Ev := ws.map some ++ List.replicate (N.length - ws.length) none
abbrev bX (P : Program) (w : World) (K : KW) (mg : Str → Option Value) (base : Heap) (N : List Str) (qual : Str) (scope : Scope) (f : Addr) (cdv : Value) (A : Around) (outer : List Env) (s : Shared) (H : Hp) (E : XK) : Cx := (cxOf CX0 P w K mg base N qual scope f cdv A outer s H E).nox
section
variable {P : Program} {w : World} {K : KW} {mg : Str → Option Value} {base : Heap}
theorem bX_ok {N ps : List Str} {qual : Str} {scope : Scope} {f : Addr} {cdv : Value} {A : Around} {outer : List Env} {s : Shared} {H : Hp} {E : XK} {k : Nat} (S : FnScope N ps scope) (hr : Room k (A.deeper (envOfC qual scope s.heap.objs.size f cdv))) :
    YOk (un (bX P w K mg base N qual scope f cdv A outer s H E)) P w K mg base N k := ⟨fun _ => rfl, fun _ => rfl, fun _ => rfl, fun _ => rfl, fun _ => rfl, fun _ => rfl, S.nd, fun _ => rfl, fun _ => hr⟩
theorem start_sr {N : List Str} {G B F H : Hp} {al : List Addr} {mu : Sto} {ws : List W} {vs : List V} (s : SRS K G B F H al mu) (p : Paired (RepW K F al) ws vs) : SR K G B F H al (startE N ws) (L2.start N vs) mu := by
  have l := Paired.length p
  refine ⟨s, by unfold startE L2.start; simp [l], fun i u e => ?_⟩
  unfold startE at e
  unfold L2.start
  by_cases hi : i < ws.length
  · rw [List.getElem?_append_left (by simpa using hi), List.getElem?_map] at e
    cases q : ws[i]? with
    | none => rw [q] at e; cases e
    | some z =>
      rw [q] at e
      cases e
      obtain ⟨v, h1, h2⟩ := pGetL p q
      exact ⟨v, by rw [List.getElem?_append_left (by rw [List.length_map, ← l]; exact hi), List.getElem?_map, h1]; rfl, h2⟩
  · rw [List.getElem?_append_right (by simpa using hi), List.getElem?_replicate] at e
    split at e <;> cases e
/-- THE RULE for a def -/
theorem fnv_ok {x qual : Str} {st : Stmt} {f : Addr} {fd : FuncData} {N ps : List Str} {k : Nat} {sp : VSp} (F : Fun K x qual st f fd) (S : FnScope N ps (defScope st)) (hlen : ∀ ws mu Q, sp ws mu Q → ws.length = ps.length)
    (body : ∀ (cdv : Value) (A : Around) (outer : List Env) (s : Shared) (H : Hp) (E : XK), YOk (un (bX P w K mg base N qual (defScope st) f cdv A outer s H E)) P w K mg base N k →
      ∃ g, VSs (bX P w K mg base N qual (defScope st) f cdv A outer s H E) K (defBody st) g ∧ ∀ ws mu Q, sp ws mu Q → g { nx := fun _ mu => Q (.d .non) mu, rt := Q } (startE N ws) mu) : FnOk P w K mg base CX0 (k + 1) f fd ps (toSp K sp) := by
  refine F.ok S (fun vs H Q E h => ?_) (fun cdv A outer s H vs Q E hr h => ?_)
  · obtain ⟨B, F, al, mu, ws, Qd, s, p, h, _⟩ := h
    rw [← Paired.length p]; exact hlen _ _ _ h
  · obtain ⟨B, F, al, mu, ws, Qd, s', p, h, q⟩ := h
    obtain ⟨g, ⟨t, ht, d⟩, hg⟩ := body cdv A outer s H E (bX_ok S hr)
    refine ⟨t, ht, d F B F H al _ _ mu _ _ (start_sr s' p) (hg ws mu Qd h) ⟨fun F' H' al' rh si mu' x s2 h2 => q F' H' al' mu' _ _ x s2.s (.d .non) h2, fun F' H' al' mu' u v x s2 r h2 => q F' H' al' mu' u v x s2 r h2, fun _ _ _ _ _ _ _ _ z => z.elim, fun _ _ _ _ _ _ _ _ z => z.elim⟩⟩
end
end VL
namespace VL
open PySem PySem.Spec PyProof.Rows L2 RZ

/-! ### a snapshot in any heap that has what is read -/
mutual
@[simp] def dflat : D → Bool
  | .lst _ => false
  | .scr _ => false
  | .tup xs => dflats xs
  | _ => true
@[simp] def dflats : List D → Bool
  | [] => true
  | x :: xs => dflat x && dflats xs
end
mutual
@[simp] def wflat : W → Bool
  | .d x => dflat x
  | .tup ws => wflats ws
  | _ => true
@[simp] def wflats : List W → Bool
  | [] => true
  | x :: xs => wflat x && wflats xs
end
@[simp] def cflat : C → Bool
  | .lst xs => dflats xs
  | .lstW ws => wflats ws
  | .ins _ fs => wflats (fs.map (·.2))
  | .dk kvs => dflats (kvs.map (·.2))
  | .dl _ _ kvs => dflats (kvs.map (·.2))
  | .dn _ kvs => wflats (kvs.map (·.2))
mutual
@[simp] def snapF (mu : Sto) : W → Option D
  | .d x => if dflat x then some x else none
  | .tup ws => (snapFs mu ws).map .tup
  | .loc k => match mu[k]? with
    | some (.lst xs) => if dflats xs then some (.lst xs) else none
    | _ => none
  | _ => none
@[simp] def snapFs (mu : Sto) : List W → Option (List D)
  | [] => some []
  | w :: ws => match snapF mu w, snapFs mu ws with
    | some x, some xs => some (x :: xs)
    | _, _ => none
end
section
variable {K : KW} {G B F F' F2 H H' Fc : Hp} {al al' : List Addr} {mu mu' : Sto}
/-- what F2 must have of F: all, or the tuples -/
def Tups (F F2 : Hp) : Prop := ∀ a o, F a = some o → tupO o = true → F2 a = some o
theorem Tups.sqT {a : Addr} {vs : List V} (h : Tups F F2) (r : SqT K F a vs) : SqT K F2 a vs := by
  rcases r with (r | ⟨o, r⟩) | r
  · exact .inl (.inl (h _ _ r rfl))
  · exact .inl (.inr ⟨o, h _ _ r rfl⟩)
  · exact .inr r
mutual
theorem flat_rep (h : Tups F F2) : ∀ {x : D} {v : V}, RepD K F x v → dflat x = true → RepD K F2 x v
  | _, _, .non, _ => .non
  | _, _, .bl b, _ => .bl b
  | _, _, .int i, _ => .int i
  | _, _, .str x q, _ => .str x q
  | _, _, .tup s z r, e => .tup (h.sqT s) z (flats_rep h r (by simpa [dflat] using e))
  | _, _, .lst s z r, e => by simp [dflat] at e
  | _, _, .scr s z, e => by simp [dflat] at e
theorem flats_rep (h : Tups F F2) : ∀ {x : List D} {v : List V}, RepDs K F x v → dflats x = true → RepDs K F2 x v
  | _, _, .nil, _ => .nil
  | _, _, .cons r t, e => by
    have e' := e
    unfold dflats at e'
    rw [Bool.and_eq_true] at e'
    exact .cons (flat_rep h r e'.1) (flats_rep h t e'.2)
end
mutual
theorem snap_in (s : SRS K G B F H al mu) (h1 : Same F F2) (h2 : ∀ a ∈ al, ∀ o, H a = some o → F2 a = some o) : ∀ {w : W} {v : V} {x : D}, RepW K F al w v → snap mu w = some x → RepD K F2 x v
  | .d x, _, _, .d r, e => by cases e; exact r.mono h1
  | .tup ws, _, _, .tup q z r, e => by
    unfold snap at e
    cases q1 : snaps mu ws with
    | none => rw [q1] at e; cases e
    | some xs => rw [q1] at e; cases e; exact .tup (sqtMono h1 q) z (snaps_in s h1 h2 r q1)
  | .loc k, _, _, .loc ea, e => by
    unfold snap at e
    cases q : mu[k]? with
    | none => rw [q] at e; cases e
    | some c =>
      cases c with
      | lst xs =>
        rw [q] at e; cases e
        obtain ⟨vs, h, z, p⟩ := s.lstAt q ea
        exact .lst (Rd.of (h2 _ (List.mem_of_getElem? ea) _ h)) z (.of (Paired.mapP p fun _ _ r => r.mono h1))
      | lstW ws =>
        rw [q] at e
        cases q2 : asDs ws with
        | none => simp only [q2] at e; cases e
        | some xs =>
          simp only [q2] at e; cases e
          obtain ⟨vs, h, z, p⟩ := s.lstWAt q ea
          exact .lst (Rd.of (h2 _ (List.mem_of_getElem? ea) _ h)) z ((asDs_rep (.of p) q2).mono h1)
      | _ => rw [q] at e; cases e
  | .ty _, _, _, _, e => by cases e
  | .raw _, _, _, _, e => by cases e
theorem snaps_in (s : SRS K G B F H al mu) (h1 : Same F F2) (h2 : ∀ a ∈ al, ∀ o, H a = some o → F2 a = some o) : ∀ {ws : List W} {vs : List V} {xs : List D}, RepWs K F al ws vs → snaps mu ws = some xs → RepDs K F2 xs vs
  | [], _, _, .nil, e => by cases e; exact .nil
  | w :: ws, _, _, .cons r t, e => by
    unfold snaps at e
    cases q : snap mu w with
    | none => rw [q] at e; cases e
    | some x =>
      cases q2 : snaps mu ws with
      | none => rw [q, q2] at e; cases e
      | some xs => rw [q, q2] at e; cases e; exact .cons (snap_in s h1 h2 r q) (snaps_in s h1 h2 t q2)
end
mutual
theorem snapF_in (s : SRS K G B F H al mu) (h1 : Tups F F2) (h2 : ∀ a ∈ al, ∀ o, H a = some o → F2 a = some o) : ∀ {w : W} {v : V} {x : D}, RepW K F al w v → snapF mu w = some x → RepD K F2 x v
  | .d x, _, _, .d r, e => by
    unfold snapF at e
    split at e
    · cases e; exact flat_rep h1 r (by assumption)
    · cases e
  | .tup ws, _, _, .tup q z r, e => by
    unfold snapF at e
    cases q1 : snapFs mu ws with
    | none => rw [q1] at e; cases e
    | some xs => rw [q1] at e; cases e; exact .tup (h1.sqT q) z (snapFs_in s h1 h2 r q1)
  | .loc k, _, _, .loc ea, e => by
    unfold snapF at e
    cases q : mu[k]? with
    | none => rw [q] at e; cases e
    | some c =>
      cases c with
      | lst xs =>
        rw [q] at e
        simp only at e
        split at e
        · cases e
          obtain ⟨vs, h, z, p⟩ := s.lstAt q ea
          exact .lst (Rd.of (h2 _ (List.mem_of_getElem? ea) _ h)) z (flats_rep h1 (.of p) (by assumption))
        · cases e
      | _ => rw [q] at e; cases e
  | .ty _, _, _, _, e => by cases e
  | .raw _, _, _, _, e => by cases e
theorem snapFs_in (s : SRS K G B F H al mu) (h1 : Tups F F2) (h2 : ∀ a ∈ al, ∀ o, H a = some o → F2 a = some o) : ∀ {ws : List W} {vs : List V} {xs : List D}, RepWs K F al ws vs → snapFs mu ws = some xs → RepDs K F2 xs vs
  | [], _, _, .nil, e => by cases e; exact .nil
  | w :: ws, _, _, .cons r t, e => by
    unfold snapFs at e
    cases q : snapF mu w with
    | none => rw [q] at e; cases e
    | some x =>
      cases q2 : snapFs mu ws with
      | none => rw [q, q2] at e; cases e
      | some xs => rw [q, q2] at e; cases e; exact .cons (snapF_in s h1 h2 r q) (snapFs_in s h1 h2 t q2)
end

/-! ### coming back from a call -/
theorem SRS.fresh (s' : SRS K Fc H F' H' al' mu') {a : Addr} (h : a ∈ al') : H a = none := by
  obtain ⟨k, hk⟩ := List.mem_iff_getElem?.mp h
  obtain ⟨c, hc⟩ := s'.has hk
  obtain ⟨_, _, q, _, _⟩ := s'.at hc hk
  exact q
theorem ret_frz (s : SRS K G B F H al mu) (s' : SRS K Fc H F' H' al' mu') (ha : Same F F2) (hb : Same F2 H') (hc : ∀ a o, F2 a = some o → F a = some o ∨ H a = none ∨ tupO o = true) : SRS K G B F2 H' al mu ∧ Ext F al F2 al where
  left := {
    fz := hb
    bs := s.bs.trans s'.bs
    gf := s.gf.trans ha
    fr := fun a o e => by
      rcases hc a o e with q | q | q
      · exact s.fr a o q
      · exact .inr (.inl (sameNone s.bs q))
      · exact .inr (.inr q)
    nd := s.nd
    len := s.len
    st := fun k c e => by
      obtain ⟨a, o, e1, e2, e3, e4, e5⟩ := s.st k c e
      refine ⟨a, o, e1, ?_, e3, s'.bs _ _ e4, e5.mono ⟨ha, [], by simp⟩⟩
      cases q : F2 a with
      | none => rfl
      | some u =>
        rcases hc a u q with z | z | z
        · rw [e2] at z; cases z
        · rw [e4] at z; cases z
        · have := hb _ _ q
          rw [s'.bs _ _ e4] at this
          cases this
          rw [e5.notTup] at z; cases z }
  right := ⟨ha, [], by simp⟩
/-- with the callee's containers frozen -/
def plusC (F2 H' : Hp) (al' : List Addr) : Hp := fun a => if a ∈ al' then H' a else F2 a
theorem plusC_ok (s : SRS K G B F H al mu) (s' : SRS K Fc H F' H' al' mu') (ha : Same F F2) (hb : Same F2 H') (hc : ∀ a o, F2 a = some o → F a = some o ∨ H a = none ∨ tupO o = true) :
    Same F (plusC F2 H' al') ∧ Same (plusC F2 H' al') H' ∧ (∀ a o, plusC F2 H' al' a = some o → F a = some o ∨ H a = none ∨ tupO o = true) ∧ Same F2 (plusC F2 H' al') ∧ ∀ a ∈ al', ∀ o, H' a = some o → plusC F2 H' al' a = some o := by
  have key : Same F2 (plusC F2 H' al') := fun a o e => by
    unfold plusC
    split
    · exact hb _ _ e
    · exact e
  refine ⟨ha.trans key, fun a o e => ?_, fun a o e => ?_, key, fun a hm o e => by unfold plusC; rw [if_pos hm]; exact e⟩
  · unfold plusC at e
    split at e
    · exact e
    · exact hb _ _ e
  · unfold plusC at e
    split at e
    · rename_i hm
      exact .inr (.inl (s'.fresh hm))
    · exact hc a o e
/-- F and the tuples of F' -/
def cutT (F F' : Hp) : Hp := fun a => match F a with
  | some o => some o
  | none => match F' a with
    | some o => if tupO o then some o else none
    | none => none
theorem cutT_ok (s : SRS K G B F H al mu) (s' : SRS K H H F' H' al' mu') : Same F (cutT F F') ∧ Same (cutT F F') H' ∧ (∀ a o, cutT F F' a = some o → F a = some o ∨ H a = none ∨ tupO o = true) ∧ Tups F' (cutT F F') := by
  have FF : Same F F' := s.fz.trans s'.gf
  refine ⟨fun a o e => by unfold cutT; rw [e], fun a o e => ?_, fun a o e => ?_, fun a o e t => ?_⟩
  · unfold cutT at e
    split at e
    · cases e; exact s'.bs _ _ (s.fz _ _ (by assumption))
    · split at e
      · split at e
        · cases e; exact s'.fz _ _ (by assumption)
        · cases e
      · cases e
  · unfold cutT at e
    split at e
    · cases e; exact .inl (by assumption)
    · split at e
      · split at e
        · cases e; exact .inr (.inr (by assumption))
        · cases e
      · cases e
  · unfold cutT
    split
    · rename_i u q
      rw [FF _ _ q] at e; exact e
    · rw [e]; simp [t]
theorem same_ok (s : SRS K G B F H al mu) (s' : SRS K F H F' H' al' mu') : Same F F' ∧ Same F' H' ∧ ∀ a o, F' a = some o → F a = some o ∨ H a = none ∨ tupO o = true := ⟨s'.gf, s'.fz, s'.fr⟩

/-! ### the callee's containers become ours -/
mutual
@[simp] def shiftW (n : Nat) : W → W
  | .loc k => .loc (n + k)
  | .tup ws => .tup (shiftWs n ws)
  | w => w
@[simp] def shiftWs (n : Nat) : List W → List W
  | [] => []
  | w :: ws => shiftW n w :: shiftWs n ws
end
@[simp] def shiftC (n : Nat) : C → C
  | .lstW ws => .lstW (shiftWs n ws)
  | .ins c fs => .ins c (fs.map fun p => (p.1, shiftW n p.2))
  | .dn lk kvs => .dn lk (kvs.map fun p => (p.1, shiftW n p.2))
  | c => c
mutual
theorem shift_rep (h : Same F F2 ∨ Tups F F2) : ∀ {w : W} {v : V}, RepW K F al' w v → (Same F F2 ∨ wflat w = true) → RepW K F2 (al ++ al') (shiftW al.length w) v
  | _, _, .d r, e => by
    unfold shiftW
    rcases e with e | e
    · exact .d (r.mono e)
    · rcases h with h | h
      · exact .d (r.mono h)
      · exact .d (flat_rep h r (by simpa [wflat] using e))
  | _, _, .loc ea, _ => by
    unfold shiftW
    refine .loc ?_
    rw [List.getElem?_append_right (by omega)]
    simpa using ea
  | _, _, .ty n, _ => by unfold shiftW; exact .ty n
  | _, _, .raw a, _ => by unfold shiftW; exact .raw a
  | _, _, .tup s z r, e => by
    unfold shiftW
    refine .tup ?_ z (shifts_rep h r (e.imp id fun q => by simpa [wflat] using q))
    rcases h with h | h
    · exact sqtMono h s
    · exact h.sqT s
theorem shifts_rep (h : Same F F2 ∨ Tups F F2) : ∀ {w : List W} {v : List V}, RepWs K F al' w v → (Same F F2 ∨ wflats w = true) → RepWs K F2 (al ++ al') (shiftWs al.length w) v
  | _, _, .nil, _ => by unfold shiftWs; exact .nil
  | _, _, .cons r t, e => by
    unfold shiftWs
    exact .cons (shift_rep h r (e.imp id fun q => by unfold wflats at q; rw [Bool.and_eq_true] at q; exact q.1)) (shifts_rep h t (e.imp id fun q => by unfold wflats at q; rw [Bool.and_eq_true] at q; exact q.2))
end
theorem flats_mem : ∀ {xs : List D}, dflats xs = true → ∀ x ∈ xs, dflat x = true
  | [], _, x, h => by cases h
  | y :: ys, e, x, h => by
    unfold dflats at e
    rw [Bool.and_eq_true] at e
    rcases List.mem_cons.mp h with rfl | h
    · exact e.1
    · exact flats_mem e.2 x h
theorem wflats_mem : ∀ {xs : List W}, wflats xs = true → ∀ x ∈ xs, wflat x = true
  | [], _, x, h => by cases h
  | y :: ys, e, x, h => by
    unfold wflats at e
    rw [Bool.and_eq_true] at e
    rcases List.mem_cons.mp h with rfl | h
    · exact e.1
    · exact wflats_mem e.2 x h
theorem mapPm {A1 B1 : Type} {R S : A1 → B1 → Prop} : ∀ {xs : List A1} {ys : List B1}, Paired R xs ys → (∀ x ∈ xs, ∀ y, R x y → S x y) → Paired S xs ys
  | _, _, .nil, _ => .nil
  | _, _, .cons r t, h => .cons (h _ (by simp) _ r) (mapPm t fun x hx => h x (by simp [hx]))
theorem mapPmap {A1 B1 C1 : Type} {R : A1 → B1 → Prop} {S : C1 → B1 → Prop} (f : A1 → C1) : ∀ {xs : List A1} {ys : List B1}, Paired R xs ys → (∀ x ∈ xs, ∀ y, R x y → S (f x) y) → Paired S (xs.map f) ys
  | _, _, .nil, _ => .nil
  | _, _, .cons r t, h => .cons (h _ (by simp) _ r) (mapPmap f t fun x hx => h x (by simp [hx]))
mutual
theorem nkey_flat : ∀ {d : D} {k : NestedKey}, nkey d = some k → dflat d = true
  | .int _, _, _ => rfl
  | .str _, _, _ => rfl
  | .tup xs, k, h => by
    unfold nkey at h
    cases q : nkeys xs with
    | none => rw [q] at h; cases h
    | some ks => unfold dflat; exact nkeys_flat q
  | .non, _, h => by cases h
  | .bl _, _, h => by cases h
  | .lst _, _, h => by cases h
  | .scr _, _, h => by cases h
theorem nkeys_flat : ∀ {d : List D} {k : List NestedKey}, nkeys d = some k → dflats d = true
  | [], _, _ => rfl
  | x :: xs, k, h => by
    unfold nkeys at h
    cases q : nkey x with
    | none => rw [q] at h; cases h
    | some k1 =>
      cases q2 : nkeys xs with
      | none => rw [q, q2] at h; cases h
      | some ks => unfold dflats; rw [nkey_flat q, nkeys_flat q2]; rfl
end
theorem shiftC_rep (h : Same F F2 ∨ Tups F F2) {c : C} {o : HO} {a : Addr} (r : CRep K F al' a c o) (e : Same F F2 ∨ cflat c = true) : CRep K F2 (al ++ al') a (shiftC al.length c) o := by
  have dd : ∀ {x : D} {v : V}, RepD K F x v → (Same F F2 ∨ dflat x = true) → RepD K F2 x v := fun r e => by
    rcases e with e | e
    · exact r.mono e
    · rcases h with h | h
      · exact r.mono h
      · exact flat_rep h r e
  cases r with
  | lst z p => exact .lst z (mapPm p fun x hx v r => dd r (e.imp id fun q => flats_mem (by simpa [cflat] using q) x hx))
  | lstW z p => exact .lstW z (shifts_rep h (.of p) (e.imp id fun q => by simpa [cflat] using q)).p
  | ins z p =>
    refine .ins z (mapPmap _ p fun x hx v r => ⟨r.1, shift_rep h r.2 (e.imp id fun q => ?_)⟩)
    exact wflats_mem (show wflats _ = true from q) _ (List.mem_map.mpr ⟨x, hx, rfl⟩)
  | dk p q0 =>
    refine .dk (mapPm p fun x hx v r => ⟨r.1, dd r.2 (e.imp id fun q => ?_)⟩) q0
    exact flats_mem (show dflats _ = true from q) _ (List.mem_map.mpr ⟨x, hx, rfl⟩)
  | dl p q0 =>
    refine .dl (mapPm p fun x hx v r => ⟨r.1, dd r.2 (e.imp id fun q => ?_)⟩) q0
    exact flats_mem (show dflats _ = true from q) _ (List.mem_map.mpr ⟨x, hx, rfl⟩)
  | dn p =>
    refine .dn (mapPmap _ p fun x hx v r => ⟨r.1, dd r.2.1 (.inr (nkey_flat r.1.1)), shift_rep h r.2.2 (e.imp id fun q => ?_)⟩)
    exact wflats_mem (show wflats _ = true from q) _ (List.mem_map.mpr ⟨x, hx, rfl⟩)
theorem ret_own (s : SRS K G B F H al mu) (s' : SRS K Fc H F' H' al' mu') (ha : Same F F2) (hb : Same F2 H') (hc : ∀ a o, F2 a = some o → F a = some o ∨ H a = none ∨ tupO o = true) (hn : ∀ a ∈ al', F2 a = none) (h : Same F' F2 ∨ Tups F' F2) (hf : Same F' F2 ∨ mu'.all cflat = true) :
    SRS K G B F2 H' (al ++ al') (mu ++ mu'.map (shiftC mu.length)) ∧ Ext F al F2 (al ++ al') := by
  obtain ⟨s1, x1⟩ := ret_frz s s' ha hb hc
  refine ⟨⟨s1.fz, s1.bs, s1.gf, s1.fr, ?_, by simp [s1.len, s'.len], fun k c e => ?_⟩, ⟨ha, al', rfl⟩⟩
  · refine List.nodup_append.mpr ⟨s.nd, s'.nd, fun a h1 b h2 e => ?_⟩
    subst e
    obtain ⟨k, hk⟩ := List.mem_iff_getElem?.mp h1
    obtain ⟨c, hc⟩ := s.has hk
    obtain ⟨_, _, _, q, _⟩ := s.at hc hk
    rw [s'.fresh h2] at q; cases q
  · by_cases hk : k < mu.length
    · rw [List.getElem?_append_left hk] at e
      obtain ⟨a, o, e1, e2, e3, e4, e5⟩ := s1.st k c e
      exact ⟨a, o, by rw [List.getElem?_append_left (by rw [s1.len]; exact hk)]; exact e1, e2, e3, e4, e5.mono ⟨Same.refl F2, al', rfl⟩⟩
    · rw [List.getElem?_append_right (by omega), List.getElem?_map] at e
      cases q : mu'[k - mu.length]? with
      | none => rw [q] at e; cases e
      | some c' =>
        rw [q] at e
        cases e
        obtain ⟨a, o, e1, e2, e3, e4, e5⟩ := s'.st _ c' q
        have hm := List.mem_of_getElem? e1
        refine ⟨a, o, by rw [List.getElem?_append_right (by rw [s1.len]; omega), s1.len]; exact e1, hn a hm, sameNone s.bs e3, e4, ?_⟩
        rw [← s.len]
        exact shiftC_rep h e5 (hf.imp id fun z => List.all_eq_true.mp z _ (List.mem_of_getElem? q))
end

/-! ### calls of defs -/
abbrev PSp := List D → (W → Sto → Prop) → Prop
/-- a def that gets data alone -/
@[simp] def pSp (sp : PSp) : VSp := fun ws mu Q => mu = [] ∧ ∃ ds, ws = List.map W.d ds ∧ sp ds Q
@[simp] def allD (ws : List W) : Bool := ws.all fun w => match w with
  | .d _ => true
  | _ => false
/-- what comes back: frozen -/
@[simp] def backF (a : Bool) (w : W) (mu' mu : Sto) (Q : W → Sto → Prop) : Prop := match (if a then snap mu' w else snapF mu' w) with
  | some x => Q (.d x) mu
  | none => False
/-- .. our own -/
@[simp] def backO (a : Bool) (w : W) (mu' mu : Sto) (Q : W → Sto → Prop) : Prop := (a || (wflat w && mu'.all cflat)) = true ∧ Q (shiftW mu.length w) (mu ++ mu'.map (shiftC mu.length))
@[simp] def wCallP (o : Bool) (sp : PSp) (dds : List D) (g : WA) : WE := fun rh mu Q => g rh mu fun ws mu1 => match snaps mu1 ws with
  | some ds => sp (ds ++ dds) fun w mu' => if o then backO (allD ws) w mu' mu1 Q else backF (allD ws) w mu' mu1 Q
  | none => False
section
variable {K : KW} {G B F F' F2 H H' Fc : Hp} {al al' : List Addr} {mu mu' : Sto}
theorem allD_reps : ∀ {ws : List W} {vs : List V} {ds : List D}, Paired (RepW K F al) ws vs → allD ws = true → snaps mu ws = some ds → RepDs K F ds vs
  | [], _, _, .nil, _, e => by cases e; exact .nil
  | w :: ws, _, ds, .cons r t, a, e => by
    unfold allD at a
    rw [List.all_cons, Bool.and_eq_true] at a
    cases w with
    | d x =>
      unfold snaps at e
      cases q : snaps mu ws with
      | none => simp only [q] at e; split at e <;> simp_all
      | some xs =>
        simp only [q] at e
        have : ds = x :: xs := by simp only [snap] at e; cases e; rfl
        subst this
        cases r with
        | d r => exact .cons r (allD_reps t a.2 q)
    | _ => simp at a
theorem pMapDs {ds : List D} {vs : List V} (p : RepDs K F ds vs) : Paired (RepW K F al) (ds.map W.d) vs := pMapD p.p
theorem SRS.none {B F H : Hp} (s : SRS K G B F H al mu) : SRS K F H F H [] [] := ⟨s.fz, Same.refl H, Same.refl F, fun a o e => .inl e, by simp, rfl, fun k c e => by simp at e⟩
theorem SRS.none' {B F H : Hp} (s : SRS K G B F H al mu) : SRS K H H H H [] [] := ⟨Same.refl H, Same.refl H, Same.refl H, fun a o e => .inl e, by simp, rfl, fun k c e => by simp at e⟩
/-- a call of a def that gets data alone -/
theorem callP_ok {o : Bool} {sp : PSp} {dds : List D} {dvs : List V} (hdd : ∀ F, RepDs K F dds dvs) {ws : List W} {vs : List V} {rh : Ev} {si : L2.St} {Qd : W → Sto → Prop} {Q : L2.VK} {E : XK} (s : SR K G B F H al rh si mu) (r : Paired (RepW K F al) ws vs)
    (h : match snaps mu ws with
      | some ds => sp (ds ++ dds) fun w mu' => if o then backO (allD ws) w mu' mu Qd else backF (allD ws) w mu' mu Qd
      | Option.none => False)
    (q : ∀ F' H' al' mu' w v, Ext F al F' al' → SR K G B F' H' al' rh si mu' → RepW K F' al' w v → Qd w mu' → Q v H') : toSp K (pSp sp) (vs ++ dvs) H Q E := by
  split at h
  · rename_i ds e
    -- behind the call
    have fin : ∀ (Fc F' H' : Hp) (al' : List Addr) (mu' : Sto) (u : W) (v : V), (Fc = F ∧ allD ws = true ∨ Fc = H ∧ allD ws = false) → SRS K Fc H F' H' al' mu' → RepW K F' al' u v → (if o then backO (allD ws) u mu' mu Qd else backF (allD ws) u mu' mu Qd) → Q v H' := by
      intro Fc F' H' al' mu' u v hF s' ru hb
      have al'N : ∀ a ∈ al', F' a = Option.none := fun a ha => by
        obtain ⟨k, hk⟩ := List.mem_iff_getElem?.mp ha
        obtain ⟨c, hc⟩ := s'.has hk
        obtain ⟨_, z, _, _, _⟩ := s'.at hc hk
        exact z
      rcases hF with ⟨rfl, ha⟩ | ⟨rfl, ha⟩
      · obtain ⟨a1, a2, a3⟩ := same_ok s.s s'
        rw [ha] at hb
        cases o with
        | false =>
          simp only [Bool.false_eq_true, if_false] at hb
          unfold backF at hb
          rw [if_pos rfl] at hb
          split at hb
          · rename_i x ex
            obtain ⟨b1, b2, b3, b4, b5⟩ := plusC_ok s.s s' a1 a2 a3
            obtain ⟨s2, x2⟩ := ret_frz s.s s' b1 b2 b3
            exact q _ _ _ _ _ _ x2 (s.step x2 s2) (.d (snap_in s' b4 b5 ru ex)) hb
          · exact hb.elim
        | true =>
          simp only [if_true] at hb
          obtain ⟨hf, hb⟩ := hb
          obtain ⟨s2, x2⟩ := ret_own s.s s' a1 a2 a3 al'N (.inl (Same.refl _)) (.inl (Same.refl _))
          have rr : RepW K F' (al ++ al') (shiftW al.length u) v := shift_rep (.inl (Same.refl _)) ru (.inl (Same.refl _))
          rw [s.s.len] at rr
          exact q _ _ _ _ _ _ x2 (s.step x2 s2) rr hb
      · obtain ⟨a1, a2, a3, a4⟩ := cutT_ok s.s s'
        rw [ha] at hb
        cases o with
        | false =>
          simp only [Bool.false_eq_true, if_false] at hb
          unfold backF at hb
          rw [if_neg (by simp)] at hb
          split at hb
          · rename_i x ex
            obtain ⟨b1, b2, b3, b4, b5⟩ := plusC_ok s.s s' a1 a2 a3
            obtain ⟨s2, x2⟩ := ret_frz s.s s' b1 b2 b3
            exact q _ _ _ _ _ _ x2 (s.step x2 s2) (.d (snapF_in s' (fun a u e t => b4 _ _ (a4 a u e t)) b5 ru ex)) hb
          · exact hb.elim
        | true =>
          simp only [if_true] at hb
          obtain ⟨hf, hb⟩ := hb
          rw [Bool.false_or, Bool.and_eq_true] at hf
          have hn : ∀ a ∈ al', cutT F F' a = Option.none := fun a ha => by
            have z1 := sameNone s.s.fz (s'.fresh ha)
            have z2 := al'N a ha
            unfold cutT
            rw [z1, z2]
          obtain ⟨s2, x2⟩ := ret_own s.s s' a1 a2 a3 hn (.inr a4) (.inr hf.2)
          have rr : RepW K (cutT F F') (al ++ al') (shiftW al.length u) v := shift_rep (.inr a4) ru (.inr hf.1)
          rw [s.s.len] at rr
          exact q _ _ _ _ _ _ x2 (s.step x2 s2) rr hb
    cases ha : allD ws with
    | true =>
      have rd := allD_reps r ha e
      refine ⟨H, F, [], [], _, _, s.s.none, pMapDs (.of (pApp rd.p (hdd F).p)), ⟨rfl, _, rfl, h⟩, fun F' H' al' mu' u v x s' ru hb => fin F F' H' al' mu' u v (.inl ⟨rfl, ha⟩) s' ru hb⟩
    | false =>
      have rd := snaps_rep s.s (.of r) e
      refine ⟨H, H, [], [], _, _, s.s.none', pMapDs (.of (pApp rd.p (hdd H).p)), ⟨rfl, _, rfl, h⟩, fun F' H' al' mu' u v x s' ru hb => fin H F' H' al' mu' u v (.inr ⟨rfl, ha⟩) s' ru hb⟩
  · exact h.elim
end
end VL
namespace VL
open PySem PySem.Spec PyProof.Rows L2 RZ

/-- a def of the module, as it is called with dds for the last parameters -/
def Def (P : Program) (w : World) (K : KW) (mg : Str → Option Value) (base : Heap) (x : Str) (k : Nat) (dds : List D) (sp : VSp) : Prop :=
  ∃ (f : Addr) (fd : FuncData) (ps : List Str) (ds : List Value) (dvs : List V), mg x = some (.ref f) ∧ PySem.W.keepIn K (.ref f) = true ∧ Binds K fd ps ds ∧ Vals dvs ds ∧ (∀ F, RepDs K F dds dvs) ∧ FnOk P w K mg base CX0 k f fd ps (toSp K sp)
/-- the store handed on -/
@[simp] def wCallS (sp : VSp) (dds : List D) (g : WA) : WE := fun rh mu Q => g rh mu fun ws mu1 => sp (ws ++ dds.map .d) mu1 Q
section
variable {K : KW} {G B F F' F2 H H' : Hp} {al al' : List Addr} {mu mu' : Sto} {rh : Ev} {si : L2.St}
/-- all but the containers must stay -/
def but (H : Hp) (al : List Addr) : Hp := fun a => if a ∈ al then none else H a
theorem callS_ok {sp : VSp} {dds : List D} {dvs : List V} (hdd : ∀ F, RepDs K F dds dvs) {ws : List W} {vs : List V} {Qd : W → Sto → Prop} {Q : L2.VK} {E : XK} (s : SR K G B F H al rh si mu) (r : Paired (RepW K F al) ws vs) (h : sp (ws ++ dds.map .d) mu Qd)
    (q : ∀ F' H' al' mu' w v, Ext F al F' al' → SR K G B F' H' al' rh si mu' → RepW K F' al' w v → Qd w mu' → Q v H') : toSp K sp (vs ++ dvs) H Q E := by
  have inAl : ∀ {a : Addr}, a ∈ al → B a = none ∧ F a = none := fun {a} hm => by
    obtain ⟨k, hk⟩ := List.mem_iff_getElem?.mp hm
    obtain ⟨c, hc⟩ := s.s.has hk
    obtain ⟨_, z1, z2, _, _⟩ := s.s.at hc hk
    exact ⟨z2, z1⟩
  have s0 : SRS K F (but H al) F H al mu := {
    fz := s.s.fz
    bs := fun a o e => by
      unfold but at e
      split at e
      · cases e
      · exact e
    gf := Same.refl F
    fr := fun a o e => .inl e
    nd := s.s.nd
    len := s.s.len
    st := fun k c e => by
      obtain ⟨a, o, e1, e2, e3, e4, e5⟩ := s.s.st k c e
      exact ⟨a, o, e1, e2, by unfold but; rw [if_pos (List.mem_of_getElem? e1)], e4, e5⟩ }
  refine ⟨but H al, F, al, mu, _, Qd, s0, pApp r (pMapDs (hdd F)), h, fun F' H' al' mu' u v x s' ru hq => ?_⟩
  have bN : ∀ {a : Addr}, but H al a = none → B a = none := fun {a} z => by
    unfold but at z
    split at z
    · exact (inAl (by assumption)).1
    · exact sameNone s.s.bs z
  have s2 : SRS K G B F' H' al' mu' := {
    fz := s'.fz
    bs := fun a o e => s'.bs _ _ (by
      unfold but
      rw [if_neg fun hm => by rw [(inAl hm).1] at e; cases e]
      exact s.s.bs _ _ e)
    gf := s.s.gf.trans s'.gf
    fr := fun a o e => by
      rcases s'.fr a o e with z | z | z
      · exact s.s.fr a o z
      · exact .inr (.inl (bN z))
      · exact .inr (.inr z)
    nd := s'.nd
    len := s'.len
    st := fun k c e => by
      obtain ⟨a, o, e1, e2, e3, e4, e5⟩ := s'.st k c e
      exact ⟨a, o, e1, e2, bN e3, e4, e5⟩ }
  exact q F' H' al' mu' u v x (s.step x s2) ru hq
end
section
variable {io : Type} {Y : io → Cx} {P : Program} {w : World} {K : KW} {mg : Str → Option Value} {base : Heap} {N : List Str} {k j : Nat} {pos p : Pos} {e : Expr} {es : List Expr} {ga : WA} {x : Str} {dds : List D}
theorem fnOk_at {f : Addr} {fd : FuncData} {ps : List Str} {sp : Sp} (y : YOk Y P w K mg base N k) (F : FnOk P w K mg base CX0 j f fd ps sp) (i : io) : FnOk (Y i).prog (Y i).w (Y i).K (Y i).mg (Y i).base CX0 j f fd ps sp := by
  rw [y.hP i, y.hw i, y.hK i, y.hmg i, y.hbase i]; exact F
theorem binds_at {fd : FuncData} {ps : List Str} {ds : List Value} (y : YOk Y P w K mg base N k) (F : Binds K fd ps ds) (i : io) : Binds (Y i).K fd ps ds := by
  rw [y.hK i]; exact F
/-- f(e, ..) of data -/
theorem ve_callP (y : YOk Y P w K mg base N k) (o : Bool) {sp : PSp} (d : Def P w K mg base x j dds (pSp sp)) (hj : j ≤ k) (ha : VA Y K (e :: es) ga) (hg : ∀ i, Gl (Y i) x := by exact fun _ => rfl) (hdb : (x == ("__debug__" : Str)) = false := by decide)
    (he : ∀ i, starEach (e :: es) (Y i).env = (false, eval e (Y i).env) :: starEach es (Y i).env := by exact fun _ => rfl) (hpl : ∀ i, (backTo pos (starEach es (Y i).env)).any (·.1) = false := by exact fun _ => rfl) : VE Y K (.Call (.Name x p) (e :: es) [] pos) (wCallP o sp dds ga) := by
  obtain ⟨f, fd, ps, ds, dvs, hm, hk, hb, hd, hdd, F⟩ := d
  obtain ⟨t, p1, d1⟩ := ha
  refine ⟨tCall (toSp K (pSp sp)) dvs E0 t, fun i => pe_call (fnOk_at y F i) ((y.room i).mono hj) (hg i) (by rw [y.hmg i]; exact hm) (by rw [y.hK i]; exact hk) (binds_at y hb i) hd pass0 (p1 i) hdb (he i) (hpl i), fun G B F H al rh si mu Qd Q s h q => ?_⟩
  refine d1 G B F H al rh si mu _ _ s h fun F1 H1 al1 mu1 ws vs e1 s1 r1 h1 => ?_
  exact callP_ok hdd s1 r1 h1 fun F2 H2 al2 mu2 z vz e2 => q F2 H2 al2 mu2 z vz (e1.trans e2)
/-- f(e, ..) with containers -/
theorem ve_callS (y : YOk Y P w K mg base N k) {sp : VSp} (d : Def P w K mg base x j dds sp) (hj : j ≤ k) (ha : VA Y K (e :: es) ga) (hg : ∀ i, Gl (Y i) x := by exact fun _ => rfl) (hdb : (x == ("__debug__" : Str)) = false := by decide)
    (he : ∀ i, starEach (e :: es) (Y i).env = (false, eval e (Y i).env) :: starEach es (Y i).env := by exact fun _ => rfl) (hpl : ∀ i, (backTo pos (starEach es (Y i).env)).any (·.1) = false := by exact fun _ => rfl) : VE Y K (.Call (.Name x p) (e :: es) [] pos) (wCallS sp dds ga) := by
  obtain ⟨f, fd, ps, ds, dvs, hm, hk, hb, hd, hdd, F⟩ := d
  obtain ⟨t, p1, d1⟩ := ha
  refine ⟨tCall (toSp K sp) dvs E0 t, fun i => pe_call (fnOk_at y F i) ((y.room i).mono hj) (hg i) (by rw [y.hmg i]; exact hm) (by rw [y.hK i]; exact hk) (binds_at y hb i) hd pass0 (p1 i) hdb (he i) (hpl i), fun G B F H al rh si mu Qd Q s h q => ?_⟩
  refine d1 G B F H al rh si mu _ _ s h fun F1 H1 al1 mu1 ws vs e1 s1 r1 h1 => ?_
  exact callS_ok hdd s1 r1 h1 fun F2 H2 al2 mu2 z vz e2 => q F2 H2 al2 mu2 z vz (e1.trans e2)
end
section
variable {P : Program} {w : World} {K : KW} {mg : Str → Option Value} {base : Heap}
/-- a def that stands behind the top -/
theorem def_mk {x qual : Str} {st : Stmt} {f : Addr} {fd : FuncData} {N ps : List Str} {k : Nat} {sp : VSp} (F : Fun K x qual st f fd) (hm : mg x = some (.ref f)) (S : FnScope N ps (defScope st)) (hb : Binds K fd ps []) (hlen : ∀ ws mu Q, sp ws mu Q → ws.length = ps.length)
    (body : ∀ (cdv : Value) (A : Around) (outer : List Env) (s : Shared) (H : Hp) (E : XK), YOk (un (bX P w K mg base N qual (defScope st) f cdv A outer s H E)) P w K mg base N k →
      ∃ g, VSs (bX P w K mg base N qual (defScope st) f cdv A outer s H E) K (defBody st) g ∧ ∀ ws mu Q, sp ws mu Q → g { nx := fun _ mu => Q (.d .non) mu, rt := Q } (startE N ws) mu) : Def P w K mg base x (k + 1) [] sp :=
  ⟨f, fd, ps, [], [], hm, F.kp, hb, .nil, fun _ => .nil, fnv_ok F S hlen body⟩
/-- the law's own promise -/
def lawSp : PSp := fun ds Q => ∃ ns, ds = [.scr ns] ∧ ns.length ≤ 63 ∧ ∀ mu, Q (.d (.bl true)) mu
end
end VL
namespace VL
open PySem PySem.Spec PyProof.Rows L2 RZ
theorem law_sp {K : KW} {H : Hp} {a : Addr} {ns : List Int} (hl : ns.length ≤ 63) (h : SqL K H a (ns.map V.int)) : toSp K (pSp lawSp) [.ref a] H (fun v _ => v = .bl true) fun _ _ _ => False := by
  refine ⟨H, H, [], [], [.d (.scr ns)], fun w _ => w = .d (.bl true), ⟨Same.refl H, Same.refl H, Same.refl H, fun _ _ e => .inl e, by simp, rfl, fun k c e => by simp at e⟩, .cons (.d (.scr h (Nat.le_trans hl (by decide)))) .nil, ⟨rfl, [.scr ns], rfl, ns, rfl, hl, fun _ => rfl⟩, fun F' H' al' mu' u v x s r e => ?_⟩
  subst e
  cases r with
  | d r => cases r; rfl
theorem law_walk {l : PySem.W.OpenLaw} {q : Program} {loose : List Str} {XP : (Str → Option Value) → Heap → Prop} {YP : World → Heap → Prop} {d : DefRec} {K : Params → PySem.W.Frag} {k : Nat} {x : Str} (hn : l.most = some 63) (hdf : d.params.defaults = []) (hr : Room k callerA)
    (hY : ∀ (w : World) (h : Heap), YP w h → (K w.params).In h)
    (F : ∀ (w : World) (mg : Str → Option Value) (fa : Addr) (h : Heap), (K w.params).In h → h.Ns mainGlobals mg → mg d.name = some (.ref fa) →
      ∃ fd : FuncData, (∀ (s : Shared) (u : Value), BindsTo s fd ⟨[u], []⟩ [(x, u)]) ∧
        ∀ base : Heap, (K w.params).In base → base.Ns mainGlobals mg → FnOk l.prog w (K w.params) mg base CX0 k fa fd [x] (toSp ⟨K w.params, w⟩ (pSp lawSp))) :
    PySem.W.WalkO q loose XP YP l.row.toRowW d [] (fun f vs => PySem.call f vs) :=
  L2.walk_of (CX := fun _ => CX0) (sp := fun w => toSp ⟨K w.params, w⟩ (pSp lawSp)) hn (by decide) hdf hr hY F (fun _ _ _ _ hl _ hS => law_sp hl hS) fun _ _ _ _ _ z => z
end VL
namespace VL
open PySem PySem.Spec PyProof.Rows L2 RZ

/-! ### reckoning with the values -/
@[simp] def evr (Q : W → Sto → Prop) : EV := { nx := fun _ mu => Q (.d .non) mu, rt := Q }
@[simp] def sp0 (g : (W → Sto → Prop) → Prop) : PSp := fun ds Q => match ds with
  | [] => g Q
  | _ => False
@[simp] def sp1 (g : D → (W → Sto → Prop) → Prop) : PSp := fun ds Q => match ds with
  | [a] => g a Q
  | _ => False
@[simp] def sp2 (g : D → D → (W → Sto → Prop) → Prop) : PSp := fun ds Q => match ds with
  | [a, b] => g a b Q
  | _ => False
@[simp] def sp3 (g : D → D → D → (W → Sto → Prop) → Prop) : PSp := fun ds Q => match ds with
  | [a, b, c] => g a b c Q
  | _ => False
@[simp] def sp4 (g : D → D → D → D → (W → Sto → Prop) → Prop) : PSp := fun ds Q => match ds with
  | [a, b, c, d] => g a b c d Q
  | _ => False
theorem len1 {g} {ws : List W} {mu : Sto} {Q} (h : pSp (sp1 g) ws mu Q) : ws.length = 1 := by
  obtain ⟨_, ds, rfl, h⟩ := h
  unfold sp1 at h
  split at h
  · rfl
  · exact h.elim
theorem len2 {g} {ws : List W} {mu : Sto} {Q} (h : pSp (sp2 g) ws mu Q) : ws.length = 2 := by
  obtain ⟨_, ds, rfl, h⟩ := h
  unfold sp2 at h
  split at h
  · rfl
  · exact h.elim
theorem len3 {g} {ws : List W} {mu : Sto} {Q} (h : pSp (sp3 g) ws mu Q) : ws.length = 3 := by
  obtain ⟨_, ds, rfl, h⟩ := h
  unfold sp3 at h
  split at h
  · rfl
  · exact h.elim
theorem len4 {g} {ws : List W} {mu : Sto} {Q} (h : pSp (sp4 g) ws mu Q) : ws.length = 4 := by
  obtain ⟨_, ds, rfl, h⟩ := h
  unfold sp4 at h
  split at h
  · rfl
  · exact h.elim
theorem lenL {ws : List W} {mu : Sto} {Q} (h : pSp lawSp ws mu Q) : ws.length = 1 := by
  obtain ⟨_, ds, rfl, ns, rfl, _⟩ := h
  rfl
/-- from the promise to the body -/
theorem at0 {g} {f : WS} {N : List Str} (v : ∀ Q, g Q → f (evr Q) (startE N []) []) : ∀ ws mu Q, pSp (sp0 g) ws mu Q → f { nx := fun _ mu => Q (.d .non) mu, rt := Q } (startE N ws) mu := fun ws mu Q h => by
  obtain ⟨rfl, ds, rfl, h⟩ := h
  unfold sp0 at h
  split at h
  · exact v _ h
  · exact h.elim
theorem at1 {g} {f : WS} {N : List Str} (v : ∀ a Q, g a Q → f (evr Q) (startE N [.d a]) []) : ∀ ws mu Q, pSp (sp1 g) ws mu Q → f { nx := fun _ mu => Q (.d .non) mu, rt := Q } (startE N ws) mu := fun ws mu Q h => by
  obtain ⟨rfl, ds, rfl, h⟩ := h
  unfold sp1 at h
  split at h
  · exact v _ _ h
  · exact h.elim
theorem at2 {g} {f : WS} {N : List Str} (v : ∀ a b Q, g a b Q → f (evr Q) (startE N [.d a, .d b]) []) : ∀ ws mu Q, pSp (sp2 g) ws mu Q → f { nx := fun _ mu => Q (.d .non) mu, rt := Q } (startE N ws) mu := fun ws mu Q h => by
  obtain ⟨rfl, ds, rfl, h⟩ := h
  unfold sp2 at h
  split at h
  · exact v _ _ _ h
  · exact h.elim
theorem at3 {g} {f : WS} {N : List Str} (v : ∀ a b c Q, g a b c Q → f (evr Q) (startE N [.d a, .d b, .d c]) []) : ∀ ws mu Q, pSp (sp3 g) ws mu Q → f { nx := fun _ mu => Q (.d .non) mu, rt := Q } (startE N ws) mu := fun ws mu Q h => by
  obtain ⟨rfl, ds, rfl, h⟩ := h
  unfold sp3 at h
  split at h
  · exact v _ _ _ _ h
  · exact h.elim
theorem at4 {g} {f : WS} {N : List Str} (v : ∀ a b c d Q, g a b c d Q → f (evr Q) (startE N [.d a, .d b, .d c, .d d]) []) : ∀ ws mu Q, pSp (sp4 g) ws mu Q → f { nx := fun _ mu => Q (.d .non) mu, rt := Q } (startE N ws) mu := fun ws mu Q h => by
  obtain ⟨rfl, ds, rfl, h⟩ := h
  unfold sp4 at h
  split at h
  · exact v _ _ _ _ _ h
  · exact h.elim
theorem atL {f : WS} {N : List Str} (v : ∀ (ns : List Int) (Q : W → Sto → Prop), ns.length ≤ 63 → (∀ mu, Q (.d (.bl true)) mu) → f (evr Q) (startE N [.d (.scr ns)]) []) : ∀ ws mu Q, pSp lawSp ws mu Q → f { nx := fun _ mu => Q (.d .non) mu, rt := Q } (startE N ws) mu := fun ws mu Q h => by
  obtain ⟨rfl, ds, rfl, ns, rfl, hl, h⟩ := h
  exact v ns Q hl h

/-! ### numbers -/
@[simp] theorem gDiv_pos {i j : Int} (h : 0 < j) : gDiv i j = i / j := by unfold gDiv; rw [if_pos h]
@[simp] theorem gMod_pos {i j : Int} (h : 0 < j) : gMod i j = i % j := by unfold gMod; rw [if_pos h]
theorem log2_lt_of' {n a : Nat} (h0 : 0 < a) (h : n < 2 ^ a) : n.log2 < a := PySem.Flt.log2_lt_of h0 h
theorem CD_of {i j : Int} (h0 : j ≠ 0) (h1 : j.natAbs < 2 ^ 8000) : CD i j := ⟨h0, Nat.lt_of_lt_of_le (log2_lt_of' (by decide) h1) (by decide)⟩
@[simp] theorem CD_lit {i j : Int} (h0 : 0 < j) (h1 : j < 2 ^ 250) : CD i j ↔ True := ⟨fun _ => trivial, fun _ => ⟨by omega, by
  have h : j.natAbs < 2 ^ 250 := by
    have e : ((2 : Int) ^ 250) = ((2 ^ 250 : Nat) : Int) := by decide
    rw [e] at h1; omega
  exact Nat.lt_of_lt_of_le (log2_lt_of' (by decide) h) (by decide)⟩⟩
theorem CM_r {i j : Int} (h0 : -(2 ^ 64) < j) (h1 : j < 2 ^ 64) : CM i j := .inl (.inr ⟨h0, h1⟩)
theorem CM_l {i j : Int} (h0 : -(2 ^ 64) < i) (h1 : i < 2 ^ 64) : CM i j := .inl (.inl ⟨h0, h1⟩)
theorem CM_w {i j : Int} {a b : Nat} (h0 : i.natAbs < 2 ^ (a + 1)) (h1 : j.natAbs < 2 ^ (b + 1)) (h : a + b < 999990) : CM i j := .inr (by
  have x := log2_lt_of' (Nat.succ_pos _) h0
  have y := log2_lt_of' (Nat.succ_pos _) h1
  unfold CMulW
  omega)
@[simp] theorem CM_lit {i j : Int} (h0 : -(2 ^ 64) < j) (h1 : j < 2 ^ 64) : CM i j ↔ True := ⟨fun _ => trivial, fun _ => CM_r h0 h1⟩
@[simp] theorem CM_lit' {i j : Int} (h0 : -(2 ^ 64) < i) (h1 : i < 2 ^ 64) : CM i j ↔ True := ⟨fun _ => trivial, fun _ => CM_l h0 h1⟩
@[simp] theorem CM_lit2 {i j : Int} (h0 : -(2 ^ 250) < i) (h1 : i < 2 ^ 250) (h2 : -(2 ^ 250) < j) (h3 : j < 2 ^ 250) : CM i j ↔ True := ⟨fun _ => trivial, fun _ => by
  have e : ((2 : Int) ^ 250) = ((2 ^ 250 : Nat) : Int) := by decide
  rw [e] at h0 h1 h2 h3
  exact CM_w (a := 249) (b := 249) (by omega) (by omega) (by decide)⟩
@[simp] theorem CPow_lit {i j : Int} (h0 : 0 ≤ j) (h1 : j ≤ 1000000) (h2 : -(2 ^ 63) < i) (h3 : i < 2 ^ 63) : CPow i j ↔ True := ⟨fun _ => trivial, fun _ => ⟨h0, h1, by omega⟩⟩

/-! ### texts -/
theorem ofString_inj {a b : String} (h : Str.ofString a = Str.ofString b) : a = b := by
  have h1 : (Str.ofString a).cps.toList = (Str.ofString b).cps.toList := by rw [h]
  unfold Str.ofString at h1
  simp only at h1
  rw [cpsOfBytes_string, cpsOfBytes_string] at h1
  have h2 : a.toList = b.toList := by
    refine (List.map_inj_right (f := Char.toNat) fun x y e => ?_).mp h1
    exact Char.toNat_inj.mp e
  exact String.toList_inj.mp h2
@[simp] theorem str_beq (a b : String) : ((Str.ofString a) == (Str.ofString b)) = (a == b) := by
  rw [Bool.eq_iff_iff]
  simp only [beq_iff_eq]
  exact ⟨ofString_inj, fun h => by rw [h]⟩
@[simp] theorem str_eq (a b : String) : (Str.ofString a = Str.ofString b) ↔ (a = b) := ⟨ofString_inj, fun h => by rw [h]⟩

/-! ### lists of data -/
@[simp] theorem asDs_map : ∀ xs : List D, asDs (xs.map W.d) = some xs
  | [] => rfl
  | x :: xs => by simp [asDs_map xs]
@[simp] theorem asDs_mapf {A1 : Type} (f : A1 → D) : ∀ xs : List A1, asDs (xs.map fun x => W.d (f x)) = some (xs.map f)
  | [] => rfl
  | x :: xs => by simp [asDs_mapf f xs]
@[simp] theorem ddeps_int : ∀ ns : List Int, ddeps (ns.map D.int) = 0
  | [] => rfl
  | _ :: ns => by simp [ddeps_int ns]
theorem ddeps_le {n : Nat} : ∀ {xs : List D}, (∀ x ∈ xs, ddep x ≤ n) → ddeps xs ≤ n
  | [], _ => by simp
  | x :: xs, h => by
    have h1 := h x (by simp)
    have h2 := ddeps_le (xs := xs) fun y hy => h y (by simp [hy])
    simp only [ddeps]
    omega

theorem at_mem {A1 : Type} {xs : List A1} {i : Int} (h0 : 0 ≤ i) (h1 : i < xs.length) : ∃ x, atI xs i = some x ∧ x ∈ xs := by
  refine ⟨xs[i.toNat]'(by omega), ?_, List.getElem_mem _⟩
  unfold atI ixN
  rw [if_pos h0, if_pos h1]
  show xs[i.toNat]? = _
  simp
theorem at_nat {A1 : Type} {xs : List A1} {i : Int} (h0 : 0 ≤ i) (h1 : i < xs.length) : atI xs i = xs[i.toNat]? := by
  unfold atI ixN
  rw [if_pos h0, if_pos h1]; rfl
theorem at_getD {A1 : Type} {xs : List A1} {i : Int} (d : A1) (h0 : 0 ≤ i) (h1 : i < xs.length) : atI xs i = some (xs.getD i.toNat d) := by
  rw [at_nat h0 h1, List.getD_eq_getElem?_getD]
  have : i.toNat < xs.length := by omega
  simp [this]
theorem cutL_len {A1 : Type} (xs : List A1) (lo hi : Option Int) : (cutL xs lo hi).length ≤ xs.length := by
  unfold cutL
  rw [List.length_take, List.length_drop]; omega
@[simp] theorem cutL_map {A1 B1 : Type} (f : A1 → B1) (xs : List A1) (lo hi : Option Int) : cutL (xs.map f) lo hi = (cutL xs lo hi).map f := by
  unfold cutL
  rw [List.length_map, List.map_drop.symm, List.map_take.symm]
/-! ### comprehensions of data -/
theorem lc_pure {chk : Sto → Prop} {g : WG} {tt : WT} {te : WE} {rh : Ev} {mu : Sto} {Q : List W → Sto → Prop} (r : W → Option W) (hc : chk mu) : ∀ {items acc : List W},
    (∀ x ∈ items, ∀ (A : W → Sto → Prop) (B : Sto → Prop), (match r x with | some y => A y mu | none => B mu) → g x rh mu fun rh' mu1 => tt rh' mu1 fun b mu2 => if b = true then te rh' mu2 A else B mu2) →
    Q (acc ++ items.filterMap r) mu → lcL chk g tt te rh items acc mu Q
  | [], acc, _, h => ⟨hc, by simpa using h⟩
  | x :: xs, acc, H, h => by
    refine ⟨hc, H x (by simp) _ _ ?_⟩
    split
    · rename_i y e
      refine lc_pure r hc (fun z hz => H z (by simp [hz])) ?_
      rw [List.filterMap_cons, e] at h
      simpa using h
    · rename_i e
      refine lc_pure r hc (fun z hz => H z (by simp [hz])) ?_
      rw [List.filterMap_cons, e] at h
      exact h
theorem lc_D {chk : Sto → Prop} {g : WG} {tt : WT} {te : WE} {rh : Ev} {mu : Sto} {Q : List W → Sto → Prop} {ds : List D} (r : D → Option D) (hc : chk mu)
    (H : ∀ x ∈ ds, ∀ (A : W → Sto → Prop) (B : Sto → Prop), (match r x with | some y => A (.d y) mu | none => B mu) → g (.d x) rh mu fun rh' mu1 => tt rh' mu1 fun b mu2 => if b = true then te rh' mu2 A else B mu2)
    (h : Q ((ds.filterMap r).map W.d) mu) : lcL chk g tt te rh (ds.map W.d) [] mu Q := by
  refine lc_pure (fun w => match w with | .d x => (r x).map W.d | _ => none) hc (fun x hx A B q => ?_) ?_
  · obtain ⟨d, hd, rfl⟩ := List.mem_map.mp hx
    refine H d hd A B ?_
    cases e : r d with
    | none => simp only [e, Option.map_none] at q ⊢; exact q
    | some y => simp only [e, Option.map_some] at q ⊢; exact q
  · have e : (ds.map W.d).filterMap (fun w => match w with | .d x => (r x).map W.d | _ => none) = (ds.filterMap r).map W.d := by
      rw [List.filterMap_map, List.map_filterMap]
      rfl
    rw [List.nil_append, e]
    exact h
/-- .. without a test -/
theorem lc_M {chk : Sto → Prop} {g : WG} {te : WE} {rh : Ev} {mu : Sto} {Q : List W → Sto → Prop} {ds : List D} (f : D → D) (hc : chk mu)
    (H : ∀ x ∈ ds, ∀ (A : W → Sto → Prop), A (.d (f x)) mu → g (.d x) rh mu fun rh' mu1 => te rh' mu1 A)
    (h : Q ((ds.map f).map W.d) mu) : lcL chk g wYes te rh (ds.map W.d) [] mu Q :=
  lc_D (fun x => some (f x)) hc (fun x hx A B q => by simpa using H x hx A q) (by rw [List.filterMap_eq_map']; exact h)

/-! ### an item of a displayed list -/
@[simp] theorem at_c0 {A1 : Type} (x : A1) (xs : List A1) : atI (x :: xs) 0 = some x := by
  rw [at_nat (by omega) (by simp)]; rfl
@[simp] theorem at_c1 {A1 : Type} (x y : A1) (xs : List A1) : atI (x :: y :: xs) 1 = some y := by
  rw [at_nat (by omega) (by simp; omega)]; rfl
@[simp] theorem at_c2 {A1 : Type} (x y z : A1) (xs : List A1) : atI (x :: y :: z :: xs) 2 = some z := by
  rw [at_nat (by omega) (by simp; omega)]; rfl
@[simp] theorem at_c3 {A1 : Type} (x y z u : A1) (xs : List A1) : atI (x :: y :: z :: u :: xs) 3 = some u := by
  rw [at_nat (by omega) (by simp; omega)]; rfl
/-! ### loops by an invariant -/
theorem forL_inv {chk : Sto → Prop} {g : WG} {b : WS} {V : EV} (I : Ev → Sto → Prop) (hc : ∀ rh mu, I rh mu → chk mu) (hend : ∀ rh mu, I rh mu → V.nx rh mu) : ∀ {items : List W} {rh : Ev} {mu : Sto},
    (∀ x ∈ items, ∀ rh mu, I rh mu → ∀ N : Ev → Sto → Prop, (∀ rh mu, I rh mu → N rh mu) → g x rh mu fun rh' mu' => b { V with nx := N, ct := N, bk := V.nx } rh' mu') → I rh mu → forL chk g b V items rh mu
  | [], _, _, _, h => ⟨hc _ _ h, hend _ _ h⟩
  | x :: xs, rh, mu, H, h => ⟨hc _ _ h, H x (by simp) _ _ h _ fun rh mu h1 => forL_inv I hc hend (fun y hy => H y (by simp [hy])) h1⟩
theorem forL_rem {chk : Sto → Prop} {g : WG} {b : WS} {V : EV} (I : List W → Ev → Sto → Prop) (hc : ∀ xs rh mu, I xs rh mu → chk mu) (hend : ∀ rh mu, I [] rh mu → V.nx rh mu)
    (H : ∀ x xs rh mu, I (x :: xs) rh mu → ∀ N : Ev → Sto → Prop, (∀ rh mu, I xs rh mu → N rh mu) → g x rh mu fun rh' mu' => b { V with nx := N, ct := N, bk := V.nx } rh' mu') : ∀ {items : List W} {rh : Ev} {mu : Sto}, I items rh mu → forL chk g b V items rh mu
  | [], _, _, h => ⟨hc _ _ _ h, hend _ _ h⟩
  | x :: xs, rh, mu, h => ⟨hc _ _ _ h, H x xs _ _ h _ fun rh mu h1 => forL_rem I hc hend H h1⟩
theorem forL_idx {chk : Sto → Prop} {g : WG} {b : WS} {V : EV} (I : Nat → Ev → Sto → Prop) (hc : ∀ i rh mu, I i rh mu → chk mu) {items : List W} (hend : ∀ rh mu, I items.length rh mu → V.nx rh mu)
    (H : ∀ i x, items[i]? = some x → ∀ rh mu, I i rh mu → ∀ N : Ev → Sto → Prop, (∀ rh mu, I (i + 1) rh mu → N rh mu) → g x rh mu fun rh' mu' => b { V with nx := N, ct := N, bk := V.nx } rh' mu') {rh : Ev} {mu : Sto} (h : I 0 rh mu) : forL chk g b V items rh mu := by
  refine forL_rem (fun xs rh mu => ∃ i, xs = items.drop i ∧ i ≤ items.length ∧ I i rh mu) (fun _ _ _ ⟨i, _, _, h⟩ => hc i _ _ h) (fun rh mu ⟨i, e, l, h⟩ => ?_) (fun x xs rh mu ⟨i, e, l, h⟩ N hN => ?_) ⟨0, by simp, Nat.zero_le _, h⟩
  · have : items.length ≤ i := by
      have := congrArg List.length e; simp at this; omega
    obtain rfl : i = items.length := by omega
    exact hend _ _ h
  · have hi : i < items.length := by
      have := congrArg List.length e; simp at this; omega
    rw [List.drop_eq_getElem_cons hi] at e
    injection e with e1 e2
    subst e1
    exact H i _ (List.getElem?_eq_getElem hi) _ _ h N fun rh mu h1 => hN _ _ ⟨i + 1, e2, hi, h1⟩
/-- a range from nought -/
theorem forL_rng {chk : Sto → Prop} {g : WG} {b : WS} {V : EV} {n : Nat} (I : Nat → Ev → Sto → Prop) (hc : ∀ i rh mu, I i rh mu → chk mu) (hend : ∀ rh mu, I n rh mu → V.nx rh mu)
    (H : ∀ i, i < n → ∀ rh mu, I i rh mu → ∀ N : Ev → Sto → Prop, (∀ rh mu, I (i + 1) rh mu → N rh mu) → g (.d (.int i)) rh mu fun rh' mu' => b { V with nx := N, ct := N, bk := V.nx } rh' mu') {rh : Ev} {mu : Sto} (h : I 0 rh mu) : forL chk g b V (rngW 0 n) rh mu := by
  refine forL_idx I hc (fun rh mu h => hend rh mu (by rw [rngW_len] at h; exact h)) (fun i x e rh mu h N hN => ?_) h
  have hi : i < n := by
    have := (List.getElem?_eq_some_iff.mp e).1; rw [rngW_len] at this; exact this
  rw [rngW_get 0 n i hi] at e
  injection e with e; subst e
  rw [Int.zero_add]
  exact H i hi rh mu h N hN
/-! ### comprehensions: a filter; results of a kind -/
theorem blkOk_at {N : List Str} {S S' scope : Scope} {own : List (Str × Nat)} (h : blkC N S scope own = true) (e : S' = S := by rfl) : BlkOk N S' scope own := e ▸ blkOk_by h
/-! ### bits -/
theorem bit_bool {a : Int} : (Builtin.bitAnd a 1) = a % 2 := by
  have := bitAnd_m1 a
  exact this
end VL
namespace VL
open PySem PySem.Spec PyProof.Rows L2 RZ
/-! ### in, not in -/
@[simp] def flatD : D → Bool
  | .non | .bl _ | .int _ | .str _ => true
  | _ => false
def inD (a : D) (ds : List D) : Bool := ds.any fun z => deqv z a
@[simp] theorem inD_nil (a : D) : inD a [] = false := rfl
@[simp] theorem inD_cons (a x : D) (xs : List D) : inD a (x :: xs) = (deqv x a || inD a xs) := rfl
def subS (i j : Str) : Bool := !(Builtin.Str.occurrences j i 0 j.length 1).isEmpty
@[simp] def fInS (neg : Bool) : F2 := fun mu x y Q => match x, y with
  | .d (.str a), .d (.str b) => Q (.d (.bl (if neg then !subS a b else subS a b))) mu
  | _, _ => False
@[simp] theorem subS_one (c : Nat) (j : Str) : subS ⟨#[c]⟩ j = decide (c ∈ j.cps.toList) := PySem.StrLaws.found_one j c
section
variable {io : Type} {Y : io → Cx} {P : Program} {w : World} {K : KW} {mg : Str → Option Value} {base : Heap} {N : List Str} {k : Nat}
theorem opd_inS : OpD K (fun x y H Q => ∃ i j, x = .str i ∧ y = .str j ∧ Q (.bl (!(Builtin.Str.occurrences j i 0 j.length 1).isEmpty)) H) (fInS false) := fun G B F H al rh si mu x y vx vy Qd Q s r1 r2 h q => by
  unfold fInS at h
  split at h
  · obtain ⟨rfl, _⟩ := repStr r1
    obtain ⟨rfl, _⟩ := repStr r2
    exact ⟨_, _, rfl, rfl, q F H al mu _ _ (Ext.refl _ _) s (.d (.bl _)) h⟩
  · exact h.elim
theorem c_inS (y : YOk Y P w K mg base N k) : CmpK Y K .In (fInS false) := .mk (fun i => op_in_str) opd_inS
end

/-! ### methods of texts with one argument -/
section
variable {io : Type} {Y : io → Cx} {P : Program} {w : World} {K : KW} {mg : Str → Option Value} {base : Heap} {N : List Str} {k : Nat} {o e : Expr} {wo we : WE} {apos pos : Pos}
@[simp] def wM1 (f : F2) (o e : WE) : WE := fun rh mu Q => o rh mu fun x mu1 => match x with
  | .d (.str a) => e rh mu1 fun y mu2 => f mu2 (.d (.str a)) y Q
  | _ => False
@[simp] def fStarts : F2 := fun mu x y Q => match x, y with
  | .d (.str a), .d (.str b) => Q (.d (.bl (Txt.startswith a b))) mu
  | _, _ => False
theorem den_m1 {r : V → List V → Hp → L2.VK → Prop} {f : F2} {to te : TE} (hd : OpD K (fun x y H Q => r x [y] H Q) f) (d1 : Den K to wo) (d2 : Den K te we) : Den K (tM1 r to te) (wM1 f wo we) := fun G B F H al rh si mu Qd Q s h q => by
  refine d1 G B F H al rh si mu _ _ s h fun F1 H1 al1 mu1 x vx e1 s1 r1 h1 => ?_
  split at h1
  · obtain ⟨rfl, hx⟩ := repStr r1
    refine ⟨⟨_, rfl⟩, ?_⟩
    refine d2 G B F1 H1 al1 rh si mu1 _ _ s1 h1 fun F2 H2 al2 mu2 y vy e2 s2 r2 h2 => ?_
    exact hd G B F2 H2 al2 rh si mu2 _ y _ vy Qd Q s2 (r1.mono e2) r2 h2 fun F3 H3 al3 mu3 z vz e3 => q F3 H3 al3 mu3 z vz ((e1.trans e2).trans e3)
  · exact h1.elim
theorem opd_starts : OpD K (fun x y H Q => ∃ a b, x = .str a ∧ [y] = [.str b] ∧ Q (.bl (Txt.startswith a b)) H) fStarts := fun G B F H al rh si mu x y vx vy Qd Q s r1 r2 h q => by
  unfold fStarts at h
  split at h
  · obtain ⟨rfl, _⟩ := repStr r1
    obtain ⟨rfl, _⟩ := repStr r2
    exact ⟨_, _, rfl, rfl, q F H al mu _ _ (Ext.refl _ _) s (.d (.bl _)) h⟩
  · exact h.elim
theorem ve_m1 {id : String} {name : Str} {r : V → List V → Hp → L2.VK → Prop} {f : F2} (slot : Slot "str" name id) (ty : typeOf (.builtin id) = pure (.type "method_descriptor")) (rule : ∀ i, MtR (Y i) id r) (hd : OpD K (fun x y H Q => r x [y] H Q) f) (ho : VE Y K o wo) (he : VE Y K e we)
    (hs : ∀ i, starEach [e] (Y i).env = [(false, eval e (Y i).env)] := by exact fun _ => rfl) (hbase : ∀ i, attributeBase o name (Y i).env (eval o (Y i).env) = eval o (Y i).env := by exact fun _ => rfl) (hline : (apos.endLine == pos.line) = true := by rfl) :
    VE Y K (.Call (.Attribute o name apos) [e] [] pos) (wM1 f wo we) := by
  obtain ⟨t1, p1, d1⟩ := ho
  obtain ⟨t2, p2, d2⟩ := he
  exact ⟨_, fun i => pe_m1 slot ty (rule i) (p1 i) (p2 i) (hs i) (hbase i) hline, den_m1 hd d1 d2⟩
theorem ve_starts (ho : VE Y K o wo) (he : VE Y K e we) (hs : ∀ i, starEach [e] (Y i).env = [(false, eval e (Y i).env)] := by exact fun _ => rfl)
    (hbase : ∀ i, attributeBase o "startswith" (Y i).env (eval o (Y i).env) = eval o (Y i).env := by exact fun _ => rfl) (hline : (apos.endLine == pos.line) = true := by rfl) : VE Y K (.Call (.Attribute o "startswith" apos) [e] [] pos) (wM1 fStarts wo we) :=
  ve_m1 F.slot_str_startswith F.type_str_startswith (fun _ => mt_startswith) opd_starts ho he hs hbase hline
end
end VL
namespace VL
open PySem PySem.Spec PyProof.Rows L2 RZ
/-! ### promises over values and the store -/
@[simp] def sS1 (g : W → Sto → (W → Sto → Prop) → Prop) : VSp := fun ws mu Q => match ws with
  | [a] => g a mu Q
  | _ => False
@[simp] def sS2 (g : W → W → Sto → (W → Sto → Prop) → Prop) : VSp := fun ws mu Q => match ws with
  | [a, b] => g a b mu Q
  | _ => False
@[simp] def sS3 (g : W → W → W → Sto → (W → Sto → Prop) → Prop) : VSp := fun ws mu Q => match ws with
  | [a, b, c] => g a b c mu Q
  | _ => False
@[simp] def sS4 (g : W → W → W → W → Sto → (W → Sto → Prop) → Prop) : VSp := fun ws mu Q => match ws with
  | [a, b, c, d] => g a b c d mu Q
  | _ => False
@[simp] def sS5 (g : W → W → W → W → W → Sto → (W → Sto → Prop) → Prop) : VSp := fun ws mu Q => match ws with
  | [a, b, c, d, e] => g a b c d e mu Q
  | _ => False
theorem lenS1 {g} {ws : List W} {mu : Sto} {Q} (h : sS1 g ws mu Q) : ws.length = 1 := by
  unfold sS1 at h
  split at h
  · rfl
  · exact h.elim
theorem lenS2 {g} {ws : List W} {mu : Sto} {Q} (h : sS2 g ws mu Q) : ws.length = 2 := by
  unfold sS2 at h
  split at h
  · rfl
  · exact h.elim
theorem lenS3 {g} {ws : List W} {mu : Sto} {Q} (h : sS3 g ws mu Q) : ws.length = 3 := by
  unfold sS3 at h
  split at h
  · rfl
  · exact h.elim
theorem lenS4 {g} {ws : List W} {mu : Sto} {Q} (h : sS4 g ws mu Q) : ws.length = 4 := by
  unfold sS4 at h
  split at h
  · rfl
  · exact h.elim
theorem lenS5 {g} {ws : List W} {mu : Sto} {Q} (h : sS5 g ws mu Q) : ws.length = 5 := by
  unfold sS5 at h
  split at h
  · rfl
  · exact h.elim
theorem atS1 {g} {f : WS} {N : List Str} (v : ∀ a mu Q, g a mu Q → f (evr Q) (startE N [a]) mu) : ∀ ws mu Q, sS1 g ws mu Q → f { nx := fun _ mu => Q (.d .non) mu, rt := Q } (startE N ws) mu := fun ws mu Q h => by
  unfold sS1 at h
  split at h
  · exact v _ _ _ h
  · exact h.elim
theorem atS2 {g} {f : WS} {N : List Str} (v : ∀ a b mu Q, g a b mu Q → f (evr Q) (startE N [a, b]) mu) : ∀ ws mu Q, sS2 g ws mu Q → f { nx := fun _ mu => Q (.d .non) mu, rt := Q } (startE N ws) mu := fun ws mu Q h => by
  unfold sS2 at h
  split at h
  · exact v _ _ _ _ h
  · exact h.elim
theorem atS3 {g} {f : WS} {N : List Str} (v : ∀ a b c mu Q, g a b c mu Q → f (evr Q) (startE N [a, b, c]) mu) : ∀ ws mu Q, sS3 g ws mu Q → f { nx := fun _ mu => Q (.d .non) mu, rt := Q } (startE N ws) mu := fun ws mu Q h => by
  unfold sS3 at h
  split at h
  · exact v _ _ _ _ _ h
  · exact h.elim
theorem atS4 {g} {f : WS} {N : List Str} (v : ∀ a b c d mu Q, g a b c d mu Q → f (evr Q) (startE N [a, b, c, d]) mu) : ∀ ws mu Q, sS4 g ws mu Q → f { nx := fun _ mu => Q (.d .non) mu, rt := Q } (startE N ws) mu := fun ws mu Q h => by
  unfold sS4 at h
  split at h
  · exact v _ _ _ _ _ _ h
  · exact h.elim
theorem atS5 {g} {f : WS} {N : List Str} (v : ∀ a b c d e mu Q, g a b c d e mu Q → f (evr Q) (startE N [a, b, c, d, e]) mu) : ∀ ws mu Q, sS5 g ws mu Q → f { nx := fun _ mu => Q (.d .non) mu, rt := Q } (startE N ws) mu := fun ws mu Q h => by
  unfold sS5 at h
  split at h
  · exact v _ _ _ _ _ _ _ h
  · exact h.elim

/-! ### {} -/
section
variable {io : Type} {Y : io → Cx} {P : Program} {w : World} {K : KW} {mg : Str → Option Value} {base : Heap} {N : List Str} {k : Nat} {pos : Pos}
end
@[simp] theorem atI_comp {A1 : Type} (f : A1 → D) (xs : List A1) (i : Int) : atI (xs.map (W.d ∘ f)) i = (atI (xs.map f) i).map W.d := by
  unfold atI
  simp only [List.length_map]
  cases ixN xs.length i with
  | none => rfl
  | some j =>
    show (xs.map (W.d ∘ f))[j]? = ((xs.map f)[j]?).map W.d
    simp [Function.comp_def]
@[simp] theorem len_sign (c : Nat) : Str.length ⟨#[c]⟩ = 1 := rfl
theorem ite_of {c : Prop} [Decidable c] {a b : Prop} (h1 : c → a) (h2 : ¬ c → b) : if c then a else b := by
  by_cases h : c
  · rw [if_pos h]; exact h1 h
  · rw [if_neg h]; exact h2 h
theorem sum_ints {ns : List Int} {mu : Sto} {Q : W → Sto → Prop} (h : Q (.d (.int ns.sum)) mu) : fSum mu [.d (.lst (ns.map D.int))] Q := ⟨ns, rfl, h⟩
end VL
namespace VL
open PySem PySem.Spec PyProof.Rows L2 RZ
/-! ### own classes -/
theorem clsAt.uniq {K : KW} {n : Str} {c c' : Addr} (h : clsAt K n c) (h' : clsAt K n c') : c = c' := by
  unfold clsAt at h h'
  rw [h] at h'
  injection h' with h'
  injection h' with h'
  injection h' with h'
@[simp] def getI (mu : Sto) : W → Option (Str × List (Str × W))
  | .loc k => match mu[k]? with
    | some (.ins n fs) => some (n, fs)
    | _ => none
  | _ => none
theorem getI_eq {mu : Sto} {x : W} {n : Str} {fs : List (Str × W)} (h : getI mu x = some (n, fs)) : ∃ k, x = .loc k ∧ mu[k]? = some (.ins n fs) := by
  cases x with
  | loc k =>
    simp only [getI] at h
    split at h
    · rename_i n' fs' e
      injection h with h
      cases h
      exact ⟨k, rfl, e⟩
    · cases h
  | _ => cases h
section
variable {K : KW} {G B F H : Hp} {al : List Addr} {mu : Sto}
theorem ins_rep {x : W} {v : V} {n : Str} {fs : List (Str × W)} (s : SRS K G B F H al mu) (r : RepW K F al x v) (e : getI mu x = some (n, fs)) :
    ∃ k a c dx gs, x = .loc k ∧ mu[k]? = some (.ins n fs) ∧ al[k]? = some a ∧ v = .ref a ∧ H a = some (.ins c dx gs) ∧ clsAt K n c ∧ Paired (fun p q => p.1 = q.1 ∧ RepW K F al p.2 q.2) fs gs := by
  obtain ⟨k, rfl, ek⟩ := getI_eq e
  cases r with
  | loc ea =>
    obtain ⟨o, _, _, ho, cr⟩ := s.at ek ea
    cases cr with
    | ins z p => exact ⟨k, _, _, _, _, rfl, ek, ea, rfl, ho, z, p⟩
theorem flds_get {f : Str} {w : W} : ∀ {fs : List (Str × W)} {gs : List (Str × V)}, Paired (fun p q => p.1 = q.1 ∧ RepW K F al p.2 q.2) fs gs → fs.lookup f = some w → ∃ v, gs.lookup f = some v ∧ RepW K F al w v
  | _, _, .nil, e => by cases e
  | (g, x) :: _, (g', y) :: _, .cons r t, e => by
    obtain ⟨r1, r2⟩ := r
    simp only at r1 r2
    subst r1
    unfold List.lookup at e ⊢
    split at e
    · injection e with e
      subst e
      exact ⟨y, rfl, r2⟩
    · exact flds_get t e
theorem flds_none {f : Str} : ∀ {fs : List (Str × W)} {gs : List (Str × V)}, Paired (fun p q => p.1 = q.1 ∧ RepW K F al p.2 q.2) fs gs → fs.lookup f = none → gs.lookup f = none
  | _, _, .nil, _ => rfl
  | (g, x) :: _, (g', y) :: _, .cons r t, e => by
    obtain ⟨r1, r2⟩ := r
    simp only at r1 r2
    subst r1
    unfold List.lookup at e ⊢
    split at e
    · cases e
    · exact flds_none t e
@[simp] def putW (f : Str) (w : W) : List (Str × W) → List (Str × W)
  | [] => [(f, w)]
  | (g, x) :: r => if g = f then (g, w) :: r else (g, x) :: putW f w r
theorem flds_put {f : Str} {w : W} {v : V} (rw : RepW K F al w v) : ∀ {fs : List (Str × W)} {gs : List (Str × V)}, Paired (fun p q => p.1 = q.1 ∧ RepW K F al p.2 q.2) fs gs → Paired (fun p q => p.1 = q.1 ∧ RepW K F al p.2 q.2) (putW f w fs) (putF f v gs)
  | _, _, .nil => .cons ⟨rfl, rw⟩ .nil
  | (g, x) :: _, (g', y) :: _, .cons r t => by
    obtain ⟨r1, r2⟩ := r
    simp only at r1 r2
    subst r1
    unfold putW putF
    split
    · exact .cons ⟨rfl, rw⟩ t
    · exact .cons ⟨rfl, r2⟩ (flds_put rw t)
end
section
variable {io : Type} {Y : io → Cx} {P : Program} {w : World} {K : KW} {mg : Str → Option Value} {base : Heap} {N : List Str} {k j : Nat} {pos p apos : Pos} {a e o : Expr} {es : List Expr} {wa we wo : WE} {ga : WA} {x m : Str}
/-- the classes ns, none of which has the name f as an attribute of its own -/
def Flds (K : KW) (ns : List Str) (f : Str) : Prop := ∀ n ∈ ns, ∃ C, clsAt K n C ∧ Cls K C ∧ NoAttr K C f
theorem flds_nil {f : Str} : Flds K [] f := fun n h => by cases h
theorem flds_cons {n : Str} {ns : List Str} {f : Str} (h : ∃ C, clsAt K n C ∧ Cls K C ∧ NoAttr K C f) (t : Flds K ns f) : Flds K (n :: ns) f := fun m hm => by
  rcases List.mem_cons.mp hm with rfl | hm
  · exact h
  · exact t m hm
@[simp] def wFld (ns : List Str) (f : Str) (a : WE) : WE := fun rh mu Q => a rh mu fun x mu1 => match getI mu1 x with
  | some (n, fs) => ns.contains n = true ∧ (match fs.lookup f with
    | some u => Q u mu1
    | none => False)
  | none => False
/-- e.f -/
theorem ve_fld (y : YOk Y P w K mg base N k) {ns : List Str} {f : Str} (T : Flds K ns f) (ha : VE Y K a wa) (hb : ∀ i, attributeBase a f (Y i).env (eval a (Y i).env) = eval a (Y i).env := by exact fun _ => rfl) : VE Y K (.Attribute a f pos) (wFld ns f wa) := by
  obtain ⟨t, p1, d⟩ := ha
  refine ⟨tFld K t f, fun i => by have := pe_fld (pos := pos) (p1 i) (hb i); rw [y.hK i] at this; exact this, fun G B F H al rh si mu Qd Q s h q => ?_⟩
  refine d G B F H al rh si mu _ _ s h fun F1 H1 al1 mu1 u v e1 s1 r1 h1 => ?_
  split at h1
  · rename_i n fs eI
    obtain ⟨hn, h1⟩ := h1
    obtain ⟨k', a', c, dx, gs, rfl, ek, ea, rfl, eo, ec, pr⟩ := ins_rep s1.s r1 eI
    obtain ⟨C, c1, c2, c3⟩ := T n (by simpa using hn)
    obtain rfl := c1.uniq ec
    split at h1
    · rename_i u' el
      obtain ⟨v', ev, rv⟩ := flds_get pr el
      exact ⟨a', C, dx, gs, v', rfl, eo, c2, c3, ev, q F1 H1 al1 mu1 _ _ e1 s1 rv h1⟩
    · exact h1.elim
  · exact h1.elim
/-- f : the def at f keeps the promise sp -/
def FDef (P : Program) (w : World) (K : KW) (mg : Str → Option Value) (base : Heap) (f : Addr) (j : Nat) (sp : VSp) : Prop := ∃ fd ps, Binds K fd ps [] ∧ FnOk P w K mg base CX0 j f fd ps (toSp K sp)
/-- the method m of the class n -/
def MDef (P : Program) (w : World) (K : KW) (mg : Str → Option Value) (base : Heap) (n m : Str) (j : Nat) (sp : VSp) : Prop := ∃ C f, clsAt K n C ∧ Cls K C ∧ Meth K C m f ∧ FDef P w K mg base f j sp
abbrev MTab := List (Str × VSp)
def MTabOk (P : Program) (w : World) (K : KW) (mg : Str → Option Value) (base : Heap) (m : Str) (j : Nat) (tab : MTab) : Prop := ∀ n sp, tab.lookup n = some sp → MDef P w K mg base n m j sp
theorem mtab_nil {j : Nat} : MTabOk P w K mg base m j [] := fun n sp e => by cases e
theorem mtab_cons {n : Str} {sp : VSp} {i j : Nat} {tab : MTab} (d : MDef P w K mg base n m i sp) (hi : i ≤ j) (t : MTabOk P w K mg base m j tab) : MTabOk P w K mg base m j ((n, sp) :: tab) := fun n' sp' e => by
  unfold List.lookup at e
  split at e
  · rename_i q
    injection e with e
    subst e
    have : n' = n := by simpa using q
    subst this
    obtain ⟨C, f, c1, c2, c3, fd, ps, hb, F⟩ := d
    exact ⟨C, f, c1, c2, c3, fd, ps, hb, F.mono hi⟩
  · exact t n' sp' e
@[simp] def wMeth (tab : MTab) (m : Str) (o : WE) (g : WA) : WE := fun rh mu Q => o rh mu fun x mu1 => match getI mu1 x with
  | some (n, fs) => (fs.lookup m).isNone = true ∧ (match tab.lookup n with
    | some sp => g rh mu1 fun ws mu2 => sp (x :: ws) mu2 Q
    | none => False)
  | none => False
def tMD (P : Program) (w : World) (K : PySem.W.Frag) (mg : Str → Option Value) (base : Heap) (m : Str) (j : Nat) (to : TE) (t : TA) : TE := fun σ H Q => to σ H fun x H1 => ∃ a C dx fs f fd ps sp, x = .ref a ∧ H1 a = some (.ins C dx fs) ∧ Cls K C ∧ Meth K C m f ∧ fs.lookup m = none ∧
  Binds K fd ps [] ∧ FnOk P w K mg base CX0 j f fd ps sp ∧ t σ H1 fun vs H2 => sp (x :: vs) H2 Q E0
theorem pe_md {X : Cx} {to : TE} {t : TA} {pl : Sem Bool} (he : PE X o to) (hr : Room j X.A) (ha : PA X (e :: es) t)
    (hst : starEach (e :: es) X.env = (false, eval e X.env) :: starEach es X.env) (hpl : (backTo pos (starEach es X.env)).any (·.1) = false)
    (ht : eval (.Call (.Attribute o m apos) (e :: es) [] pos) X.env = (do
      let ov ← eval o X.env
      standAt apos.atName
      let (f, first) ← holding [ov] (getMethod ov m pl)
      callWith pos f first (backTo pos (starEach (e :: es) X.env)) (backToKw pos (keywordEach [] X.env)))) :
    PE X (.Call (.Attribute o m apos) (e :: es) [] pos) (tMD X.prog X.w X.K X.mg X.base m j to t) := by
  refine ⟨fun pins s σ H Q I h => ?_⟩
  refine PySem.W.methodCall_KW (pl := pl) (thn (he.run pins s σ H _ I h) fun u s1 ⟨x, H1, I1, rx, a, C, dx, fs, f, fd, ps, sp, ex, ea, c, hm, l, hb, F, q⟩ => ?_) ht
  subst ex
  obtain rfl : u = Value.ref a := rx
  refine getmeth_ok I1 ea c hm l ?_
  refine PySem.W.callWith_K (first := [.ref a]) (h₀ := X.base) I.ok.mod.kin hm.kp (thn (ha.run pos pins s1 σ H1 _ I1 q) fun us s2 ⟨vs, H2, I2, r, q2⟩ => ⟨I2.kIn, ?_⟩) hst hpl
  exact run_fn (us := .ref a :: us) (vs := .ref a :: vs) F hr hb .nil pass0 I2 (.cons rfl r) (by simpa using q2)
theorem pe_md0 {X : Cx} {to : TE} {pl : Sem Bool} (he : PE X o to) (hr : Room j X.A)
    (ht : eval (.Call (.Attribute o m apos) [] [] pos) X.env = (do
      let ov ← eval o X.env
      standAt apos.atName
      let (f, first) ← holding [ov] (getMethod ov m pl)
      callWith pos f first (backTo pos (starEach [] X.env)) (backToKw pos (keywordEach [] X.env)))) :
    PE X (.Call (.Attribute o m apos) [] [] pos) (tMD X.prog X.w X.K X.mg X.base m j to tNil) := by
  refine ⟨fun pins s σ H Q I h => ?_⟩
  refine PySem.W.methodCall_KW (pl := pl) (thn (he.run pins s σ H _ I h) fun u s1 ⟨x, H1, I1, rx, a, C, dx, fs, f, fd, ps, sp, ex, ea, c, hm, l, hb, F, q⟩ => ?_) ht
  subst ex
  obtain rfl : u = Value.ref a := rx
  refine getmeth_ok I1 ea c hm l ?_
  exact PySem.W.callWith_K0 (first := [.ref a]) I1.kIn hm.kp (run_fn (us := [.ref a]) (vs := [.ref a]) F hr hb .nil pass0 I1 (.cons rfl .nil) (by simpa [tNil] using q))
theorem den_md {to : TE} {t : TA} {tab : MTab} (T : MTabOk P w K mg base m j tab) (d : Den K to wo) (d2 : DenA K t ga) : Den K (tMD P w K mg base m j to t) (wMeth tab m wo ga) := fun G B F H al rh si mu Qd Q s h q => by
  refine d G B F H al rh si mu _ _ s h fun F1 H1 al1 mu1 u v e1 s1 r1 h1 => ?_
  split at h1
  · rename_i n fs eI
    obtain ⟨hl, h1⟩ := h1
    obtain ⟨k', a', c, dx, gs, rfl, ek, ea, rfl, eo, ec, pr⟩ := ins_rep s1.s r1 eI
    split at h1
    · rename_i sp es
      obtain ⟨C, f, c1, c2, c3, fd, ps, hb, Ff⟩ := T n sp es
      obtain rfl := c1.uniq ec
      refine ⟨a', C, dx, gs, f, fd, ps, toSp K sp, rfl, eo, c2, c3, flds_none pr (by simpa using hl), hb, Ff, ?_⟩
      refine d2 G B F1 H1 al1 rh si mu1 _ _ s1 h1 fun F2 H2 al2 mu2 ws vs e2 s2 r2 h2 => ?_
      have := callS_ok (K := K) (dds := []) (dvs := []) (fun _ => .nil) (ws := .loc k' :: ws) (vs := .ref a' :: vs) (Q := Q) (E := E0) s2 (.cons (r1.mono e2) r2) (by simpa using h2) fun F3 H3 al3 mu3 z vz e3 => q F3 H3 al3 mu3 z vz ((e1.trans e2).trans e3)
      simpa using this
    · exact h1.elim
  · exact h1.elim
/-- o.m(e, ..), by the object's class -/
theorem ve_meth (y : YOk Y P w K mg base N k) {tab : MTab} (T : MTabOk P w K mg base m j tab) (hj : j ≤ k) (ho : VE Y K o wo) (ha : VA Y K (e :: es) ga) (pl : io → Sem Bool)
    (hst : ∀ i, starEach (e :: es) (Y i).env = (false, eval e (Y i).env) :: starEach es (Y i).env := by exact fun _ => rfl) (hpl : ∀ i, (backTo pos (starEach es (Y i).env)).any (·.1) = false := by exact fun _ => rfl)
    (ht : ∀ i, eval (.Call (.Attribute o m apos) (e :: es) [] pos) (Y i).env = (do
      let ov ← eval o (Y i).env
      standAt apos.atName
      let (f, first) ← holding [ov] (getMethod ov m (pl i))
      callWith pos f first (backTo pos (starEach (e :: es) (Y i).env)) (backToKw pos (keywordEach [] (Y i).env))) := by exact fun _ => rfl) : VE Y K (.Call (.Attribute o m apos) (e :: es) [] pos) (wMeth tab m wo ga) := by
  obtain ⟨t1, p1, d1⟩ := ho
  obtain ⟨t2, p2, d2⟩ := ha
  refine ⟨_, fun i => ?_, den_md T d1 d2⟩
  have := pe_md (p1 i) ((y.room i).mono hj) (p2 i) (hst i) (hpl i) (ht i)
  rw [y.hP i, y.hw i, y.hK i, y.hmg i, y.hbase i] at this
  exact this
theorem ve_meth0 (y : YOk Y P w K mg base N k) {tab : MTab} (T : MTabOk P w K mg base m j tab) (hj : j ≤ k) (ho : VE Y K o wo) (pl : io → Sem Bool)
    (ht : ∀ i, eval (.Call (.Attribute o m apos) [] [] pos) (Y i).env = (do
      let ov ← eval o (Y i).env
      standAt apos.atName
      let (f, first) ← holding [ov] (getMethod ov m (pl i))
      callWith pos f first (backTo pos (starEach [] (Y i).env)) (backToKw pos (keywordEach [] (Y i).env))) := by exact fun _ => rfl) : VE Y K (.Call (.Attribute o m apos) [] [] pos) (wMeth tab m wo wNil) := by
  obtain ⟨t1, p1, d1⟩ := ho
  refine ⟨_, fun i => ?_, den_md T d1 (t := tNil) (fun G B F H al rh si mu Qd Q s h q => q F H al mu [] [] (Ext.refl _ _) s .nil h)⟩
  have := pe_md0 (p1 i) ((y.room i).mono hj) (ht i)
  rw [y.hP i, y.hw i, y.hK i, y.hmg i, y.hbase i] at this
  exact this
/-- the class x is made by an __init__ that keeps sp -/
def CDef (P : Program) (w : World) (K : KW) (mg : Str → Option Value) (base : Heap) (x : Str) (j : Nat) (sp : VSp) : Prop := ∃ C f, clsAt K x C ∧ mg x = some (.ref C) ∧ Mk K C f ∧ FDef P w K mg base f j sp
@[simp] def wMake (n : Str) (sp : VSp) (g : WA) : WE := fun rh mu Q => g rh mu fun ws mu1 => sp (.loc mu1.length :: ws) (mu1 ++ [.ins n []]) fun u mu2 => match u with
  | .d .non => Q (.loc mu1.length) mu2
  | _ => False
theorem ve_make0 (y : YOk Y P w K mg base N k) {sp : VSp} (d : CDef P w K mg base x j sp) (hj : j + 1 ≤ k) (hg : ∀ i, Gl (Y i) x := by exact fun _ => rfl) (hdb : (x == ("__debug__" : Str)) = false := by decide) : VE Y K (.Call (.Name x p) [] [] pos) (wMake x sp wNil) := by
  obtain ⟨C, f, c1, c2, M, fd, ps, hb, Ff⟩ := d
  refine ⟨tMake C (toSp K sp) [] E0 tNil, fun i => pe_make0 (by rw [y.hK i]; exact M) (fnOk_at y Ff i) ((y.room i).mono hj) (hg i) (by rw [y.hmg i]; exact c2) (binds_at y hb i) .nil pass0 hdb, fun G B F H al rh si mu Qd Q s h q => ?_⟩
  intro a dx na ndx ne
  have x2 := s.s.frozX (o := .own a) ndx
  have s2 := s.s.froz (o := .own a) ndx
  have na2 : (upd H dx (.own a)) a = none := by rw [upd_ne (Ne.symm ne)]; exact na
  have x3 := SRS.ownX (F := upd F dx (.own a)) (al := al) (p := a)
  have s3 := s2.own (c := .ins x []) na2 (CRep.ins (dx := dx) c1 .nil)
  have x23 := x2.trans x3
  have rr : RepW K (upd F dx (.own a)) (al ++ [a]) (.loc mu.length) (.ref a) := .loc s2.atNew
  have := callS_ok (K := K) (dds := []) (dvs := []) (fun _ => .nil) (ws := [.loc mu.length]) (vs := [.ref a]) (Q := fun v H2 => v = .non ∧ Q (.ref a) H2) (E := E0) (s.step x23 s3) (.cons rr .nil) (by simpa using h)
    fun F4 H4 al4 mu4 z vz e4 s4 r4 h4 => by
      split at h4
      · exact ⟨by cases r4 with | d r => cases r; rfl, q F4 H4 al4 mu4 _ _ (x23.trans e4) s4 (rr.mono e4) h4⟩
      · exact h4.elim
  simpa using this
end
section
variable {X : Cx} {P : Program} {w : World} {K : KW} {mg : Str → Option Value} {base : Heap} {N : List Str} {k : Nat} {pos pos' : Pos} {o e : Expr} {wo we : WE}
@[simp] def wFldS (ns : List Str) (f : Str) (o e : WE) : WS := fun V rh mu => e rh mu fun u mu1 => o rh mu1 fun x mu2 => match x with
  | .loc k => (match mu2[k]? with
    | some (.ins n fs) => ns.contains n = true ∧ fs.length < 1000 ∧ V.nx rh (mu2.set k (.ins n (putW f u fs)))
    | _ => False)
  | _ => False
/-- o.f = e -/
theorem vs_fld (y : YOk (un X) P w K mg base N k) {ns : List Str} {f : Str} (T : Flds K ns f) (ho : VE (un X) K o wo) (he : VE (un X) K e we) (hs : swapsWith e (some (.Attribute o f pos')) pos.line X.env = pure false := by rfl) : VS X K (.Assign [.Attribute o f pos'] e pos) (wFldS ns f wo we) := by
  obtain ⟨t1, p1, d1⟩ := ho
  obtain ⟨t2, p2, d2⟩ := he
  refine ⟨sFld K t1 t2 f, by have := ps_fld (p1 ()) (p2 ()) hs; rw [show X.K = K from y.hK ()] at this; exact this, fun G B F H al rh si mu V1 D1 s h b => ?_⟩
  refine d2 G B F H al rh si mu _ _ s h fun F1 H1 al1 mu1 u v e1 s1 r1 h1 => ?_
  refine d1 G B F1 H1 al1 rh si mu1 _ _ s1 h1 fun F2 H2 al2 mu2 x vx e2 s2 r2 h2 => ?_
  split at h2
  · rename_i k'
    split at h2
    · rename_i n fs ek
      obtain ⟨hn, hl, h2⟩ := h2
      obtain ⟨_, a', c, dx, gs, ex, _, ea, rfl, eo, ec, pr⟩ := ins_rep (x := .loc k') (n := n) (fs := fs) s2.s r2 (by simp [ek])
      cases ex
      obtain ⟨C, c1, c2, c3⟩ := T n (by simpa using hn)
      obtain rfl := c1.uniq ec
      refine ⟨a', C, dx, gs, rfl, eo, c2, c3, by rw [← Paired.length pr]; exact hl, ?_⟩
      have s3 := s2.s.put (c := .ins n (putW f u fs)) ea (CRep.ins (dx := dx) c1 (flds_put (r1.mono e2) pr))
      exact b.nx _ _ _ _ _ _ (e1.trans e2) (s2.step (Ext.refl _ _) s3) h2
    · exact h2.elim
  · exact h2.elim
end
section
variable {P : Program} {w : World} {K : KW} {mg : Str → Option Value} {base : Heap}
/-- a method, an __init__ -/
theorem fdef_mk {x qual : Str} {st : Stmt} {f : Addr} {fd : FuncData} {N ps : List Str} {k : Nat} {sp : VSp} (F : Fun K x qual st f fd) (S : FnScope N ps (defScope st)) (hb : Binds K fd ps []) (hlen : ∀ ws mu Q, sp ws mu Q → ws.length = ps.length)
    (body : ∀ (cdv : Value) (A : Around) (outer : List Env) (s : Shared) (H : Hp) (E : XK), YOk (un (bX P w K mg base N qual (defScope st) f cdv A outer s H E)) P w K mg base N k →
      ∃ g, VSs (bX P w K mg base N qual (defScope st) f cdv A outer s H E) K (defBody st) g ∧ ∀ ws mu Q, sp ws mu Q → g { nx := fun _ mu => Q (.d .non) mu, rt := Q } (startE N ws) mu) : FDef P w K mg base f (k + 1) sp :=
  ⟨fd, ps, hb, fnv_ok F S hlen body⟩
end
end VL
namespace VL
open PySem PySem.Spec PyProof.Rows L2 RZ
/-! ### sets of keys of any kind, their order left open -/
theorem paired_perm {A1 B1 : Type} {R : A1 → B1 → Prop} {xs ys : List A1} (p : ys.Perm xs) : ∀ {us : List B1}, Paired R xs us → ∃ vs, vs.Perm us ∧ Paired R ys vs := by
  induction p with
  | nil => intro us h; exact ⟨us, .refl _, h⟩
  | cons x q ih =>
    intro us h
    cases h with
    | cons r t =>
      obtain ⟨vs, p1, p2⟩ := ih t
      exact ⟨_ :: vs, p1.cons _, .cons r p2⟩
  | swap x y l =>
    intro us h
    cases h with
    | cons r t =>
      cases t with
      | cons r2 t2 => exact ⟨_, .swap _ _ _, .cons r2 (.cons r t2)⟩
  | trans _ _ ih1 ih2 =>
    intro us h
    obtain ⟨vs, p1, p2⟩ := ih2 h
    obtain ⟨ws, p3, p4⟩ := ih1 p2
    exact ⟨ws, p3.trans p1, p4⟩
section
variable {P : Program} {w : World} {T : Type} [DecidableEq T] {knd : PySem.KeyKind P w T}
def Pe (knd : PySem.KeyKind P w T) (e : Int × Value) (k : T) : Prop := knd.is k e.2 = true ∧ e.1 = knd.hash k ∧ e.2.scannable = true
def SetG (knd : PySem.KeyKind P w T) (h : Heap) (a : Addr) (L : List T) : Prop :=
  ∃ o es ep t, h.get? a = some o ∧ o.ExactSet ∧ o.data = .set es ep t ∧ (∃ L', L'.Perm L ∧ Paired (Pe knd) es.toList L') ∧ L.Nodup ∧ es.size < scanBound ∧ t.fits es.size = true ∧ Ris t.place.toList ∧ (w.params.followText "set-order" = true ∨ t.led = true)
theorem pe_elems : ∀ {es : List (Int × Value)} {L : List T}, Paired (Pe knd) es L → ElemsOf knd es
  | _, _, .nil => fun e h => by cases h
  | _, _, .cons r t => fun e h => by
    rcases List.mem_cons.mp h with q | q
    · rw [q]; exact ⟨⟨_, r.1, r.2.1⟩, r.2.2⟩
    · exact pe_elems t e q
theorem pe_mem : ∀ {es : List (Int × Value)} {L : List T}, Paired (Pe knd) es L → ∀ k, k ∈ L ↔ ∃ e ∈ es, knd.is k e.2 = true
  | _, _, .nil, k => by simp
  | _, _, .cons r t, k => by
    have ih := pe_mem t k
    rw [List.mem_cons, ih]
    constructor
    · rintro (rfl | ⟨e, h1, h2⟩)
      · exact ⟨_, List.mem_cons_self, r.1⟩
      · exact ⟨e, List.mem_cons_of_mem _ h1, h2⟩
    · rintro ⟨e, h1, h2⟩
      rcases List.mem_cons.mp h1 with q | q
      · subst q; exact .inl (knd.inj _ _ _ h2 r.1)
      · exact .inr ⟨e, q, h2⟩
theorem SetG.at {h h' : Heap} {a : Addr} {L : List T} (R : SetG knd h a L) (k : ∀ o, h.get? a = some o → h'.get? a = some o) : SetG knd h' a L := by
  obtain ⟨o, es, ep, t, ho, r⟩ := R
  exact ⟨o, es, ep, t, k o ho, r⟩
variable {A : Around} {E : Value → Shared → Prop} {s : Shared} {a : Addr}
theorem setG_add_tail {g : Bool → Sem Unit} (hg : ∀ (b : Bool) (s₁ : Shared) (Q' : Unit → Shared → Prop), Q' () s₁ → wpAny (model P w) A (g b) Q' E s₁)
    {o : Obj} {es : Array (Int × Value)} {ep : Nat} {t : SetTable} (ho : s.heap.get? a = some o) (hex : o.ExactSet) (hd : o.data = .set es ep t)
    {es1 : Array (Int × Value)} {t2 : SetTable} {L : List T} (g1 : ∃ L', L'.Perm L ∧ Paired (Pe knd) es1.toList L') (nd1 : L.Nodup)
    (hb1 : es1.size < scanBound) (hf2 : t2.fits es1.size = true) (hr : Ris t2.place.toList) (hl : w.params.followText "set-order" = true ∨ t2.led = true) {wasDummy : Bool} {R : Option Bool → Shared → Prop}
    (hR : ∀ h', Heap.SameBut a s.heap h' → SetG knd h' a L → R (some true) { s with heap := h' }) :
    wpAny (model P w) A (do
        storeSet a es1 t2
        if (!wasDummy && t2.tooFull) = true then do
            g (relayAll t2 es1 (SetTable.grown es1.size)).2.2
            storeSet a (relayAll t2 es1 (SetTable.grown es1.size)).1 (relayAll t2 es1 (SetTable.grown es1.size)).2.1
            pure (some true)
          else pure (some true)) R E s := by
  refine wpAny_bind (wpAny_storeSet_of ho hd ?_ (fits_of_scanBound hb1))
  have ho1 := store_at (es' := es1) (t' := t2) ho hd
  have sb1 := Heap.SameBut.update s.heap a (Obj.putSet es1 t2)
  split
  · have pm := relayAll_perm t2 es1 (SetTable.grown es1.size)
    have hf3 := relayAll_fits t2 es1 (SetTable.grown es1.size)
    have hr3 := relayAll_ris t2 es1 (SetTable.grown es1.size)
    have hl3 := relayAll_led t2 es1 (SetTable.grown es1.size)
    generalize relayAll t2 es1 (SetTable.grown es1.size) = Z at pm hf3 hr3 hl3 ⊢
    obtain ⟨es2, t3, gave⟩ := Z
    dsimp only at pm hf3 hr3 hl3 ⊢
    have hsz : es2.size = es1.size := by rw [← Array.length_toList, pm.length_eq, Array.length_toList]
    have hb2 : es2.size < scanBound := by rw [hsz]; exact hb1
    refine wpAny_bind (hg _ _ _ ?_)
    refine wpAny_bind (wpAny_storeSet_of ho1 rfl ?_ (fits_of_scanBound hb2))
    have ho2 := store_at (es' := es2) (t' := t3) ho1 rfl
    obtain ⟨L', q1, q2⟩ := g1
    obtain ⟨L2, q3, q4⟩ := paired_perm pm q2
    refine wpAny_pure (hR _ (sb1.trans (Heap.SameBut.update _ a _)) ?_)
    exact ⟨_, es2, _, t3, ho2, hex, rfl, ⟨L2, q3.trans q1, q4⟩, nd1, hb2, hf3, hr3, hl.imp id fun z => by rw [hl3]; exact z⟩
  · exact wpAny_pure (hR _ sb1 ⟨_, es1, _, t2, ho1, hex, rfl, g1, nd1, hb1, hf2, hr, hl⟩)
theorem setG_add_hashed {k : T} {v : Value} {L : List T} {Q : Bool → Shared → Prop} (hkey : knd.is k v = true) (hsc : v.scannable = true) (R : SetG knd s.heap a L) (room : L.length + 1 < scanBound)
    (hQ : ∀ h' b, Heap.SameBut a s.heap h' → SetG knd h' a (if k ∈ L then L else k :: L) → Q b { s with heap := h' }) :
    wpAny (model P w) A (setAddHashed a v (knd.hash k)) Q E s := by
  obtain ⟨o, es, ep, t, ho, hex, hd, ⟨L', pL, pr⟩, nd, hb, hf, hr, hl⟩ := R
  have hel : ElemsOf knd es.toList := pe_elems pr
  have hn : es.size = L.length := by rw [← pL.length_eq, ← Paired.length pr, Array.length_toList]
  unfold setAddHashed setAddHashedIn
  refine wpAny_holding (wpAny_bind (wpAny_setState_of ho hd hf ?_))
  dsimp only
  rw [byScan_of hsc hb hel]
  simp only [↓reduceIte]
  unfold setAddByScan
  refine wpAny_bind ?_
  refine wpAny_bind (wpAny_rule ?_)
  refine wpAny_bind (wpAny_setScan_of hkey ho hd hf hel ?_)
  cases hfi : List.findIdx? (fun e => knd.is k e.2) es.toList with
  | some j =>
    dsimp only
    obtain ⟨hj, pj, _⟩ := List.findIdx?_eq_some_iff_getElem.mp hfi
    have hSk : k ∈ L := pL.mem_iff.mp ((pe_mem pr k).2 ⟨es.toList[j], List.getElem_mem hj, pj⟩)
    refine wpAny_pure (wpAny_pure ?_)
    have q := hQ s.heap false (Heap.SameBut.refl a s.heap)
    rw [if_pos hSk] at q
    exact q ⟨o, es, ep, t, ho, hex, hd, ⟨L', pL, pr⟩, nd, hb, hf, hr, hl⟩
  | none =>
    dsimp only
    have hnk : k ∉ L := fun z => by
      obtain ⟨e, he, q⟩ := (pe_mem pr k).1 (pL.mem_iff.mpr z)
      have c := List.findIdx?_eq_none_iff.mp hfi e he
      rw [q] at c
      cases c
    have hgw : ∀ (b : Bool) {s₁ : Shared} {Q' : Unit → Shared → Prop}, Q' () s₁ → wpAny (model P w) A (match b with | true => rule "set.scan.the-table-gave-way" | false => pure ()) Q' E s₁ :=
      fun b s₁ Q' q => by cases b <;> first | exact wpAny_pure q | exact wpAny_rule q
    have pm := layNew_perm t es (knd.hash k) v
    have hf1 := layNew_fits t es (knd.hash k) v
    have hr1 := layNew_ris t es (knd.hash k) v hr
    have hl1 := layNew_led t es (knd.hash k) v
    generalize layNew t es (knd.hash k) v = Z at pm hf1 hr1 hl1 ⊢
    obtain ⟨es1, t1, wasDummy, gave⟩ := Z
    dsimp only at pm hf1 hr1 hl1 ⊢
    rw [Array.toList_push] at pm
    have pc : es1.toList.Perm ((knd.hash k, v) :: es.toList) := pm.trans (List.perm_append_singleton _ _)
    obtain ⟨L1, p1, p2⟩ := paired_perm pc (Paired.cons (F := Pe knd) (a := (knd.hash k, v)) (b := k) ⟨hkey, rfl, hsc⟩ pr)
    have pl1 : L1.Perm (k :: L) := p1.trans (pL.cons k)
    have nd1 : (k :: L).Nodup := List.nodup_cons.mpr ⟨hnk, nd⟩
    have hsz : es1.size = L.length + 1 := by rw [← Array.length_toList, pc.length_eq, List.length_cons, Array.length_toList, hn]
    have hb1 : es1.size < scanBound := by rw [hsz]; exact room
    have hled : w.params.followText "set-order" = true ∨ t1.led = true := hl.imp id fun z => by rw [hl1]; exact z
    have fin : ∀ h', Heap.SameBut a s.heap h' → SetG knd h' a (k :: L) → Q true { s with heap := h' } := fun h' sb r => by
      have q := hQ h' true sb
      rw [if_neg hnk] at q
      exact q r
    refine wpAny_bind (hgw _ ?_)
    split
    · refine wpAny_bind ?_
      rw [hashByValue_scannable 8 hsc]
      refine wpAny_pure ?_
      refine setG_add_tail (knd := knd) ?_ ho hex hd ⟨L1, pl1, p2⟩ nd1 hb1 ?_ ?_ ?_ ?_
      · intro b s₁ Q' q; cases b <;> first | exact wpAny_pure q | exact wpAny_rule q
      · first | (split <;> first | exact hf1 | exact SetTable.fits_plain_off hf1) | exact hf1
      · first | (split <;> exact hr1) | exact hr1
      · first | (split <;> exact hled) | exact hled
      · intro h' sb r; dsimp only; exact wpAny_pure (fin h' sb r)
    · refine wpAny_bind (wpAny_pure ?_)
      simp only [↓reduceIte]
      refine setG_add_tail (knd := knd) ?_ ho hex hd ⟨L1, pl1, p2⟩ nd1 hb1 hf1 hr1 hled ?_
      · intro b s₁ Q' q; cases b <;> first | exact wpAny_pure q | exact wpAny_rule q
      · intro h' sb r; dsimp only; exact wpAny_pure (fin h' sb r)
/-- the members that have come -/
def dedup (L : List T) : List T → List T
  | [] => L
  | k :: ks => dedup (if k ∈ L then L else k :: L) ks
theorem dedup_mem : ∀ (ks L : List T) (k : T), k ∈ dedup L ks ↔ k ∈ L ∨ k ∈ ks
  | [], L, k => by simp [dedup]
  | j :: ks, L, k => by
    rw [dedup, dedup_mem ks]
    split
    · rename_i h
      simp only [List.mem_cons]
      constructor
      · rintro (q | q)
        · exact .inl q
        · exact .inr (.inr q)
      · rintro (q | rfl | q)
        · exact .inl q
        · exact .inl h
        · exact .inr q
    · simp only [List.mem_cons]
      constructor
      · rintro ((rfl | q) | q)
        · exact .inr (.inl rfl)
        · exact .inl q
        · exact .inr (.inr q)
      · rintro (q | rfl | q)
        · exact .inl (.inr q)
        · exact .inl (.inl rfl)
        · exact .inr q
theorem dedup_len : ∀ (ks L : List T), (dedup L ks).length ≤ L.length + ks.length
  | [], L => by simp [dedup]
  | j :: ks, L => by
    rw [dedup]
    have h1 := dedup_len ks (if j ∈ L then L else j :: L)
    have h2 : (if j ∈ L then L else j :: L).length ≤ L.length + 1 := by split <;> simp
    simp only [List.length_cons]
    omega
theorem dedup_nodup : ∀ (ks L : List T), L.Nodup → (dedup L ks).Nodup
  | [], L, h => h
  | j :: ks, L, h => by
    rw [dedup]
    refine dedup_nodup ks _ ?_
    split
    · exact h
    · rename_i q; exact List.nodup_cons.mpr ⟨q, h⟩
theorem dedup_app : ∀ (ks ls L : List T), dedup L (ks ++ ls) = dedup (dedup L ks) ls
  | [], ls, L => rfl
  | j :: ks, ls, L => by rw [List.cons_append, dedup, dedup]; exact dedup_app ks ls _
def Kv (knd : PySem.KeyKind P w T) (v : Value) (k : T) : Prop := knd.is k v = true ∧ v.scannable = true
theorem set_update_G {R : Result → Shared → Prop} {I : Addr} {fp wr : List Addr} {G : Array GenState → Array GenState → Prop} {n : Nat} {Pv : Nat → Value → Prop} {St : Nat → Shared → Prop}
    (W : WalksS P w A.in1 I fp wr G n Pv St) (S : Addr) (hSf : S ∉ fp) (ks : List T) (hn : n = ks.length) (hb : ks.length + 1 < scanBound) (hval : ∀ i v, Pv i v → ∃ k, ks[i]? = some k ∧ Kv knd v k) :
    ∀ (k i : Nat) (s : Shared), n - i = k → i ≤ n → St i s → SetG knd s.heap S (dedup [] (ks.take i)) →
      (∀ s', Moved (S :: wr) G s s' → SetG knd s'.heap S (dedup [] ks) → R (.ok (.ret .none)) s') →
      codeAny (model P w) A (.builtin "set.update.loop" ⟨[.ref S, .ref I], []⟩) R s := by
  have hSw : S ∉ wr := fun h => hSf (W.sub _ h)
  have hsub : ∀ b ∈ wr, b ∈ S :: wr := fun b hb => List.mem_cons_of_mem _ hb
  intro k
  induction k with
  | zero =>
    intro i s hk' hi hst hS hR
    have hin : i = n := by omega
    subst hin
    refine codeAny_builtin PyProof.Rows.F.entry_set_update_loop ?_
    rw [Around.under_plainId PyProof.Rows.F.plain_set_update_loop _]
    show wpAny _ A.in1 (pyNext (.ref I) >>= _) _ _ s
    refine wpAny_bind (W.done s _ _ hst fun s' hm => ?_)
    show wpAny _ A.in1 (ret Value.none) _ _ s'
    have e : ks.take i = ks := List.take_of_length_le (by omega)
    rw [e] at hS
    exact wpAny_pure (hR s' (hm.mono hsub) (hS.at fun o e => hm.heap S o hSw e))
  | succ k ih =>
    intro i s hk' hi hst hS hR
    have hlt : i < n := by omega
    refine codeAny_builtin PyProof.Rows.F.entry_set_update_loop ?_
    rw [Around.under_plainId PyProof.Rows.F.plain_set_update_loop _]
    show wpAny _ A.in1 (pyNext (.ref I) >>= _) _ _ s
    refine wpAny_bind (W.item i s _ _ hlt hst fun v s' hP hst' hm => ?_)
    obtain ⟨z, hz, hv, hsc⟩ := hval i v hP
    have hS' : SetG knd s'.heap S (dedup [] (ks.take i)) := hS.at fun o e => hm.heap S o hSw e
    show wpAny _ A.in1 (holding [v] (setAdd S v) >>= _) _ _ s'
    refine wpAny_bind (wpAny_holding ?_)
    unfold setAdd
    refine wpAny_holding ?_
    refine wpAny_bind (knd.pyHash (k := z) hv ?_)
    have hlen : (dedup [] (ks.take i)).length + 1 < scanBound := by
      have := dedup_len (ks.take i) []
      simp at this; omega
    refine setG_add_hashed (s := { s' with toks := s'.toks + 1 }) hv hsc hS' hlen fun h' b hsb hS2 => ?_
    have hS3 : SetG knd h' S (dedup [] (ks.take (i + 1))) := by
      rw [List.take_add_one, hz, dedup_app]
      exact hS2
    refine wpAny_pure ⟨plainId_quiet PyProof.Rows.F.plain_set_update_loop _, ih (i + 1) _ (by omega) hlt (W.frame _ s' _ _ hst' (Nat.le_succ _) fun b hb o e => ?_) hS3 fun s'' hm'' hS'' => ?_⟩
    · rw [hsb.2 b (fun h : b = S => hSf (by rw [← h]; exact hb))]; exact e
    · refine hR s'' (Moved.trans W.gtrans ((hm.mono hsub).then_heap (Nat.le_succ _) fun b o hb e => ?_) hm'') hS''
      rw [hsb.2 b (fun h : b = S => hb (by rw [h]; exact List.mem_cons_self))]; exact e
theorem setG_new_at {h : Heap} {a : Addr} (ho : h.get? a = some { cls := .type "set", dict := none, data := .set #[] 0 (.fresh 0 0 (!w.params.followText "set-order")) }) : SetG knd h a [] :=
  ⟨_, #[], 0, _, ho, ⟨rfl, rfl, rfl⟩, rfl, ⟨[], .refl _, .nil⟩, List.nodup_nil, (by decide), (by rfl), List.Pairwise.nil, by
    show _ ∨ (!w.params.followText "set-order") = true
    cases w.params.followText "set-order"
    · exact .inr rfl
    · exact .inl rfl⟩
set_option maxHeartbeats 8000000 in
theorem call_set_listG {l : Addr} {items : Array Value} (ks : List T) {Q : Value → Shared → Prop} (hh : A.handled = none) (hl : s.heap.IsList l items) (hit : Paired (Kv knd) items.toList ks) (hb : ks.length + 1 < scanBound)
    (h : ∀ (h' : Heap) (tk : Nat), SetG knd h' s.heap.objs.size (dedup [] ks) → (∀ b o, s.heap.get? b = some o → h'.get? b = some o) → Q (.ref s.heap.objs.size) { s with heap := h', toks := tk }) :
    wpAny (model P w) A (call (.type "set") [.ref l]) Q E s := by
  have hisz : items.size = ks.length := by
    have q := Paired.length hit
    rw [Array.length_toList] at q
    exact q
  obtain ⟨c, tl, hmro⟩ := PySem.F.called_set.mro
  have hmade := PySem.F.called_set.made
  have hsub := PySem.F.called_set.sub
  refine wpAny_call (codeAny_of_tree ?_)
  show wpAny _ _ (callAny (.type "set") _) _ _ _
  refine wpAny_pure ⟨Code.quiet_builtin _ (by decide +kernel), codeAny_builtin PySem.F.entry_type_call ?_⟩
  rw [Around.under_plain (weight_type_call_type "set" [.ref l] []) rfl]
  have h1 := PySem.F.called_set.notType
  have h2 := PySem.F.called_set.canCreate
  have hct := PySem.F.typeCall_set_1 (.ref l)
  repeat (any_goals (first | assumption | wp_step))

  refine codeAny_mono (code_set_led1 (.ref l) (E := E) (Q₁ := fun obj s₁ => obj = .ref s.heap.objs.size ∧ s₁ = { s with heap := s.heap.push { cls := .type "set", dict := none, data := .set #[] 0 (.fresh 0 0 (!w.params.followText "set-order")) } }) ⟨rfl, rfl⟩) fun r s₁ hr => ?_
  cases r with
  | error e => exact hr
  | ok fl =>
    cases fl with
    | ret obj =>
      obtain ⟨rfl, rfl⟩ := hr
      have hS : (s.heap.push { cls := .type "set", dict := none, data := .set #[] 0 (.fresh 0 0 (!w.params.followText "set-order")) }).get? s.heap.objs.size = some { cls := .type "set", dict := none, data := .set #[] 0 (.fresh 0 0 (!w.params.followText "set-order")) } := Heap.get?_push_size _ rfl
      have hT : Shared.TypeIs { s with heap := s.heap.push { cls := .type "set", dict := none, data := .set #[] 0 (.fresh 0 0 (!w.params.followText "set-order")) } } (.ref s.heap.objs.size) "set" := ⟨_, hS, rfl⟩
      have hli := PySem.F.called_set.init.lookup
      have hbi := PySem.F.called_set.init.bind (.ref s.heap.objs.size)
      repeat (any_goals (first | assumption | wp_step))

      refine codeAny_mono (codeAny_call_builtin (R := wants (fun r s₂ => r = .none ∧ ∃ h' tk, s₂ = { s with heap := h', toks := tk } ∧ SetG knd h' s.heap.objs.size (dedup [] ks) ∧
          (∀ b o, s.heap.get? b = some o → h'.get? b = some o)) E) PySem.F.called_set.init.plain PySem.F.entry_set_init (check_set_init_1 hT ?_)) fun r₂ s₂ hr₂ => ?_
      · obtain ⟨ol, hol, hcl, nl, hdl⟩ := hl
        obtain ⟨ocls, odict, odata, oslots⟩ := ol
        simp only at hcl hdl
        subst hcl; subst hdl
        have hol' : (s.heap.push { cls := .type "set", dict := none, data := .set #[] 0 (.fresh 0 0 (!w.params.followText "set-order")) }).get? l = some { cls := .type "list", dict := odict, data := .seq items nl, slots := oslots } := Heap.get?_push_of_some _ hol
        have hsls := PySem.F.sub_list_set
        have hslf := PySem.F.sub_list_frozenset
        have hne : (Value.type "list" == Value.type "dict") = false := by decide
        have hl1 : (s.heap.push { cls := .type "set", dict := none, data := .set #[] 0 (.fresh 0 0 (!w.params.followText "set-order")) }).IsList l items := ⟨_, hol', rfl, nl, rfl⟩
        unfold Builtin.«set.__init__» noKeywords Builtin.Frozenset.updateFrom
        generalize hPI : pyIter = PI
        wp_walk
        subst hPI

        refine wpAny_pyIter_list hl1 ?_
        refine wpAny_bind (wpAny_runValue ?_)
        have hlS : l < s.heap.objs.size := Heap.lt_size hol
        have hh3 : A.in1.in1.in1.handled = none := by simp [hh]
        have hneI : l ≠ (s.heap.push { cls := .type "set", dict := none, data := .set #[] 0 (.fresh 0 0 (!w.params.followText "set-order")) }).objs.size := by
          rw [Heap.size_push]; exact Nat.ne_of_lt (Nat.lt_succ_of_lt hlS)
        have hSf : s.heap.objs.size ∉ [(s.heap.push { cls := .type "set", dict := none, data := .set #[] 0 (.fresh 0 0 (!w.params.followText "set-order")) }).objs.size, l] := by
          rw [Heap.size_push]; simp only [List.mem_cons, List.mem_singleton, List.not_mem_nil, or_false, not_or]
          exact ⟨Nat.ne_of_lt (Nat.lt_succ_self _), Nat.ne_of_gt hlS⟩
        have hval : ∀ (i : Nat) (v : Value), items[i]? = some v → ∃ k, ks[i]? = some k ∧ Kv knd v k := fun i v hv => pGetL hit (by rw [Array.getElem?_toList]; exact hv)
        refine set_update_G ((Walks.list hh3 _ l hneI items).toS) s.heap.objs.size
          hSf ks hisz hb hval (items.size - 0) 0 _ (by omega) (Nat.zero_le _)
          ⟨⟨_, Heap.get?_push_size _ rfl, rfl, rfl⟩, (hl1.push _)⟩ ?hS0 ?hR
        case hS0 =>
          have hget : ((s.heap.push { cls := .type "set", dict := none, data := .set #[] 0 (.fresh 0 0 (!w.params.followText "set-order")) }).push { cls := .type "list_iterator", data := .fields #[.ref l, .int 0 0] }).get? s.heap.objs.size
              = some { cls := .type "set", dict := none, data := .set #[] 0 (.fresh 0 0 (!w.params.followText "set-order")) } := Heap.get?_push_of_some _ hS
          exact setG_new_at hget
        case hR =>
          intro s' hm hS'
          obtain ⟨h', g2, d', tk', os'⟩ := s'
          have eg : g2 = s.gens := hm.gens
          have ed : d' = s.drawn := hm.drawn
          have eo : os' = s.os := hm.os
          subst eg; subst ed; subst eo
          show wpAny _ _ _ _ _ _
          refine wpAny_pure ?_
          show wpAny _ _ (ret Value.none) _ _ _
          refine wpAny_pure ⟨rfl, h', tk', rfl, hS', fun b o e => ?_⟩
          have hb0 : b < s.heap.objs.size := Heap.lt_size e
          have hb1 : b ≠ s.heap.objs.size := Nat.ne_of_lt hb0
          have hb2 : b ≠ (s.heap.push { cls := .type "set", dict := none, data := .set #[] 0 (.fresh 0 0 (!w.params.followText "set-order")) }).objs.size := by
            rw [Heap.size_push]; exact Nat.ne_of_lt (Nat.lt_succ_of_lt hb0)
          exact hm.heap b o (by simp only [List.mem_cons, List.mem_singleton, List.not_mem_nil, or_false, not_or]; exact ⟨hb1, hb2⟩) (Heap.get?_push_of_some _ (Heap.get?_push_of_some _ e))
      · cases r₂ with
        | error e => exact hr₂
        | ok fl₂ =>
          cases fl₂ with
          | ret r =>
            obtain ⟨rfl, h', tk, rfl, hS', hk'⟩ := hr₂
            repeat (any_goals (first | assumption | wp_step))
            exact h _ _ hS' hk'
          | _ => exact hr₂.elim
    | _ => exact hr.elim
end
end VL
namespace VL
open PySem PySem.Spec PyProof.Rows L2 RZ
/-! ### texts in order -/
def leS (a b : Str) : Bool := !ltCps b.cps.toList a.cps.toList
theorem leS_iff (a b : Str) : leS a b = true ↔ a.cps.toList ≤ b.cps.toList := by
  unfold leS
  rw [ltCps_eq]
  simp
theorem leS_trans (a b c : Str) (h1 : leS a b = true) (h2 : leS b c = true) : leS a c = true := by
  rw [leS_iff] at *
  exact List.le_trans h1 h2
theorem leS_total (a b : Str) : (leS a b || leS b a) = true := by
  rw [Bool.or_eq_true, leS_iff, leS_iff]
  exact List.le_total _ _
theorem leS_anti {a b : Str} (h1 : leS a b = true) (h2 : leS b a = true) : a = b := by
  rw [leS_iff] at *
  have := List.le_antisymm h1 h2
  cases a; cases b
  simp only [Str.mk.injEq]
  exact Array.toList_inj.mp this
def srtS (l : List Str) : List Str := l.mergeSort leS
def setS (l : List Str) : List Str := srtS (dedup [] l)
theorem srtS_perm (l : List Str) : (srtS l).Perm l := List.mergeSort_perm l leS
theorem setS_mem {l : List Str} {x : Str} : x ∈ setS l ↔ x ∈ l := by
  unfold setS; rw [(srtS_perm _).mem_iff, dedup_mem]; simp
theorem setS_nodup (l : List Str) : (setS l).Nodup := (srtS_perm _).nodup_iff.mpr (dedup_nodup _ _ List.nodup_nil)
theorem setS_nd {l : List Str} (h : l.Nodup) : (setS l).Perm l := (List.perm_ext_iff_of_nodup (setS_nodup l) h).mpr fun x => setS_mem
theorem setS_len (l : List Str) : (setS l).length ≤ l.length := by
  unfold setS; rw [(srtS_perm _).length_eq]; have := dedup_len l []; simpa using this
/-! ints -/
/-! ### sorted(set(..)) -/
section
variable {P : Program} {w : World} {A : Around} {E : Value → Shared → Prop} {s : Shared} {a : Addr}
end
section
variable {X : Cx}
end
section
variable {io : Type} {Y : io → Cx} {P : Program} {w : World} {K : KW} {mg : Str → Option Value} {base : Heap} {N : List Str} {k : Nat} {pos p p2 q : Pos} {a : Expr} {wa : WE}
end
end VL
namespace VL
open PySem PySem.Spec PyProof.Rows L2 RZ
/-! ### dicts with ints and texts as keys -/
section
variable {K : KW} {G B F H : Hp} {al : List Addr} {mu : Sto}
end
section
variable {K : KW} {G B F H : Hp} {al : List Addr} {mu : Sto}
end
section
variable {io : Type} {Y : io → Cx} {P : Program} {w : World} {K : KW} {mg : Str → Option Value} {base : Heap} {N : List Str} {k : Nat} {pos p apos cpos : Pos} {a i e o f : Expr} {wa wi we wo wf : WE}
end
section
variable {X : Cx} {P : Program} {w : World} {K : KW} {mg : Str → Option Value} {base : Heap} {N : List Str} {k : Nat} {pos pos' : Pos} {o i e : Expr} {wo wi we : WE}
end
/-! ### sorted(..): a list of texts, of ints, the keys of a dict, fewer than 64 -/
section
variable {io : Type} {Y : io → Cx} {P : Program} {w : World} {K : KW} {mg : Str → Option Value} {base : Heap} {N : List Str} {k : Nat} {pos p : Pos} {e : Expr} {es : List Expr} {ga : WA}
end
end VL
namespace VL
open PySem PySem.Spec PyProof.Rows L2 RZ RT
/-! ### list(reversed(a list)) -/
section
variable {prog : Program} {w : World} {A : Around} {E : Value → Shared → Prop} {s : Shared}
end
section
variable {X : Cx}
end
section
variable {io : Type} {Y : io → Cx} {P : Program} {w : World} {K : KW} {mg : Str → Option Value} {base : Heap} {N : List Str} {k : Nat} {pos p p2 pos2 : Pos} {a : Expr} {wa : WE}
end
end VL
namespace VL
open PySem PySem.Spec PyProof.Rows L2 RZ
/-! ### sorted(..) of a list of tuples of ints and texts, any number of them -/
def kD : Key → D
  | .inl i => .int i
  | .inr x => .str x
@[simp] theorem kD_inl (i : Int) : kD (.inl i) = .int i := rfl
@[simp] theorem kD_inr (x : Str) : kD (.inr x) = .str x := rfl
@[simp] def rowD (ks : List Key) : D := .tup (ks.map kD)
def isInl : Key → Bool
  | .inl _ => true
  | .inr _ => false
def ltK : Key → Key → Bool
  | .inl i, .inl j => decide (i < j)
  | .inr x, .inr y => ltCps x.cps.toList y.cps.toList
  | .inl _, .inr _ => true
  | .inr _, .inl _ => false
def ltL : List Key → List Key → Bool
  | [], [] => false
  | [], _ :: _ => true
  | _ :: _, [] => false
  | a :: as, b :: bs => if a = b then ltL as bs else ltK a b
theorem leS_lt {x y : Str} (h : ltCps x.cps.toList y.cps.toList = false) : leS y x = true := by unfold leS; rw [h]; rfl
theorem lt_leS {x y : Str} (h : ltCps x.cps.toList y.cps.toList = true) : leS y x = false := by unfold leS; rw [h]; rfl
theorem ltK_irr (a : Key) : ltK a a = false := by
  cases a with
  | inl i => simp [ltK]
  | inr x =>
    unfold ltK
    cases h : ltCps x.cps.toList x.cps.toList with
    | false => exact h
    | true =>
      have h1 := lt_leS h
      have h2 := leS_total x x
      rw [h1] at h2
      cases h2
theorem ltK_tri {a b : Key} (h1 : ltK a b = false) (h2 : ltK b a = false) : a = b := by
  cases a <;> cases b
  · simp [ltK] at h1 h2; congr 1; omega
  · cases h1
  · cases h2
  · rename_i x y
    have e := leS_anti (leS_lt h2) (leS_lt h1)
    rw [e]
theorem ltK_trans {a b c : Key} (h1 : ltK a b = true) (h2 : ltK b c = true) : ltK a c = true := by
  cases a <;> cases b <;> cases c <;> first | (cases h1; done) | (cases h2; done) | rfl | skip
  · simp [ltK] at *; omega
  · rename_i x y z
    unfold ltK at *
    cases h : ltCps x.cps.toList z.cps.toList with
    | true => exact h
    | false =>
      have h3 := leS_lt h
      have l1 := lt_leS h1
      have l2 := lt_leS h2
      have t1 : leS x y = true := by have := leS_total x y; rw [l1] at this; simpa using this
      have := leS_trans _ _ _ h3 t1
      rw [l2] at this; cases this
theorem ltL_irr : ∀ a : List Key, ltL a a = false
  | [] => rfl
  | a :: as => by unfold ltL; rw [if_pos rfl]; exact ltL_irr as
theorem ltL_tri : ∀ {a b : List Key}, ltL a b = false → ltL b a = false → a = b
  | [], [], _, _ => rfl
  | [], _ :: _, h, _ => by cases h
  | _ :: _, [], _, h => by cases h
  | a :: as, b :: bs, h1, h2 => by
    unfold ltL at h1 h2
    by_cases c : a = b
    · subst c
      rw [if_pos rfl] at h1 h2
      rw [ltL_tri h1 h2]
    · rw [if_neg c] at h1
      rw [if_neg fun z => c z.symm] at h2
      exact absurd (ltK_tri h1 h2) c
theorem ltL_trans : ∀ {a b c : List Key}, ltL a b = true → ltL b c = true → ltL a c = true
  | [], [], _, h, _ => by cases h
  | [], _ :: _, [], _, h => by cases h
  | [], _ :: _, _ :: _, _, _ => rfl
  | _ :: _, [], _, h, _ => by cases h
  | _ :: _, _ :: _, [], _, h => by cases h
  | a :: as, b :: bs, c :: cs, h1, h2 => by
    unfold ltL at h1 h2 ⊢
    by_cases e1 : a = b
    · subst e1
      rw [if_pos rfl] at h1
      by_cases e2 : a = c
      · subst e2
        rw [if_pos rfl] at h2 ⊢
        exact ltL_trans h1 h2
      · rw [if_neg e2] at h2 ⊢
        exact h2
    · rw [if_neg e1] at h1
      by_cases e2 : b = c
      · subst e2
        rw [if_neg e1]; exact h1
      · rw [if_neg e2] at h2
        have h3 := ltK_trans h1 h2
        rw [if_neg fun z => by subst z; rw [ltK_irr] at h3; cases h3]
        exact h3
theorem ltL_asym {a b : List Key} (h : ltL a b = true) : ltL b a = false := by
  cases q : ltL b a with
  | false => rfl
  | true => have := ltL_trans h q; rw [ltL_irr] at this; cases this
def leL (a b : List Key) : Bool := !ltL b a
theorem leL_trans (a b c : List Key) (h1 : leL a b = true) (h2 : leL b c = true) : leL a c = true := by
  unfold leL at *
  cases q : ltL c a with
  | false => rfl
  | true =>
    simp at h1 h2
    cases q2 : ltL a b with
    | true => have := ltL_trans q q2; rw [h2] at this; cases this
    | false => have := ltL_tri h1 q2; subst this; rw [h2] at q; cases q
theorem leL_total (a b : List Key) : (leL a b || leL b a) = true := by
  unfold leL
  cases q : ltL b a with
  | false => rfl
  | true => rw [ltL_asym q]; rfl
theorem leL_anti {a b : List Key} (h1 : leL a b = true) (h2 : leL b a = true) : a = b := by
  unfold leL at *
  simp at h1 h2
  exact ltL_tri h2 h1
def srtL (l : List (List Key)) : List (List Key) := l.mergeSort leL
theorem srtL_perm (l : List (List Key)) : (srtL l).Perm l := List.mergeSort_perm l leL
theorem srtL_pw (l : List (List Key)) : (srtL l).Pairwise fun a b => leL a b = true := List.pairwise_mergeSort leL_trans leL_total l
theorem srtL_eq {ys l : List (List Key)} (p : ys.Perm l) (h : ys.Pairwise fun a b => leL a b = true) : ys = srtL l :=
  List.Perm.eq_of_pairwise (fun _ _ _ _ a b => leL_anti a b) h (srtL_pw l) (p.trans (srtL_perm l).symm)
theorem srtL_congr {l l' : List (List Key)} (p : l.Perm l') : srtL l = srtL l' := srtL_eq ((srtL_perm l).trans p) (srtL_pw l)
theorem srtL_mem {l : List (List Key)} {x : List Key} : x ∈ srtL l ↔ x ∈ l := (srtL_perm l).mem_iff
theorem srtL_len (l : List (List Key)) : (srtL l).length = l.length := (srtL_perm l).length_eq

/-- the tuple of these keys -/
def IsRow (h : Heap) (v : Value) (ks : List Key) : Prop := ∃ a o us n, v = .ref a ∧ h.get? a = some o ∧ o.cls = .type "tuple" ∧ o.data = .seq us n ∧ Paired (fun k u => L2.RelV (kV k) u) ks us.toList
theorem IsRow.keeps {h h' : Heap} {v : Value} {ks : List Key} (p : IsRow h v ks) (k : ∀ b o, h.get? b = some o → o.cls = .type "tuple" → h'.get? b = some o) : IsRow h' v ks := by
  obtain ⟨a, o, us, n, e, ho, hc, hd, r⟩ := p
  exact ⟨a, o, us, n, e, k _ _ ho hc, hc, hd, r⟩
section
variable {prog : Program} {w : World} {A : Around} {E : Value → Shared → Prop} {s : Shared}
theorem eqKeys {k k' : Key} {u u' : Value} (r : L2.RelV (kV k) u) (r' : L2.RelV (kV k') u') (hs : isInl k = isInl k') {Q : Bool → Shared → Prop} (h : Q (decide (k = k')) s) : wpAny (model prog w) A (eqBool u u') Q E s := by
  cases k with
  | inl i =>
    cases k' with
    | inr y => cases hs
    | inl j =>
      obtain ⟨t, rfl⟩ := r
      obtain ⟨t', rfl⟩ := r'
      refine SeqAt.EqAt.int_int i t j t' prog w _ _ ?_
      have e : (i == j) = decide ((Sum.inl i : Key) = Sum.inl j) := by by_cases c : i = j <;> simp [c]
      rw [e]; exact h
  | inr x =>
    cases k' with
    | inl y => cases hs
    | inr y =>
      obtain ⟨t, rfl⟩ := r
      obtain ⟨t', rfl⟩ := r'
      refine SeqAt.EqAt.str_str x t y t' prog w _ _ ?_
      have e : (x == y) = decide ((Sum.inr x : Key) = Sum.inr y) := by by_cases c : x = y <;> simp [c]
      rw [e]; exact h
theorem lex_rows : ∀ {ks ks' : List Key} {us us' : List Value} {i : Nat} {Q : Bool → Shared → Prop}, Paired (fun k u => L2.RelV (kV k) u) ks us → Paired (fun k u => L2.RelV (kV k) u) ks' us' → ks.map isInl = ks'.map isInl →
    (i = 0 → ∀ k, ks.head? = some k → isInl k = true) → Q (ltL ks ks') s → PySem.W.KatLex prog w A true false Q (us.zip us') i s
  | _, _, _, _, i, Q, .nil, .nil, _, _, h => PySem.W.kat_nil h
  | _, _, _, _, i, Q, .nil, .cons _ _, e, _, h => by simp at e
  | _, _, _, _, i, Q, .cons _ _, .nil, e, _, h => by simp at e
  | k :: ks, k' :: ks', u :: us, u' :: us', i, Q, .cons r t, .cons r' t', e, hi, h => by
    simp only [List.map_cons, List.cons.injEq] at e
    refine PySem.W.kat_cons (eqKeys r r' e.1 ?_)
    unfold ltL at h
    refine PySem.W.kat_go (fun e1 => ?_) (fun e1 => ?_)
    · have ex : k = k' := by simpa using e1
      rw [if_pos ex] at h
      exact PySem.W.kat_yes (lex_rows t t' e.2 (by omega) h)
    · have ex : ¬ k = k' := by simpa using e1
      rw [if_neg ex] at h
      refine PySem.W.kat_no ?_
      cases k with
      | inl x =>
        cases k' with
        | inr y => cases e.1
        | inl y =>
          obtain ⟨t, rfl⟩ := r
          obtain ⟨t', rfl⟩ := r'
          exact TS.oneLt_ints _ h
      | inr x =>
        cases k' with
        | inl y => cases e.1
        | inr y =>
          obtain ⟨t, rfl⟩ := r
          obtain ⟨t', rfl⟩ := r'
          have hi0 : i ≠ 0 := fun z => by have := hi z _ rfl; cases this
          have : (true && i == 0) = false := by simp [hi0]
          rw [this]
          refine PySem.W.kat_one _ _ (PyProof.Rows.lt_str ?_)
          have e2 : ltK (Sum.inr x) (Sum.inr y) = decide (x.cps.toList < y.cps.toList) := ltCps_eq _ _
          rw [e2] at h
          exact h
/-- rows of one kind, an int ahead -/
def RowSig (sg : List Bool) (ks : List Key) : Prop := ks.map isInl = true :: sg
theorem row_cmp {vs : List Value} {k : Value → List Key} {sg : List Bool} (hp : ∀ v ∈ vs, IsRow s.heap v (k v) ∧ RowSig sg (k v)) : SrtO.Cmp prog w A s (tuples' true) (fun p => p.1 ∈ vs) (SrtO.lt2 fun v u => ltL (k v) (k u)) := by
  intro p q hm hm'
  obtain ⟨h1, g1⟩ := hp _ hm
  obtain ⟨h2, g2⟩ := hp _ hm'
  show wpAny (model prog w) A (keyLt' (tuples' true) p.1 q.1) (fun r s' => s' = s ∧ r = ltL (k p.1) (k q.1)) (fun _ _ => False) s
  generalize k p.1 = x at h1 g1 ⊢
  generalize k q.1 = x' at h2 g2 ⊢
  obtain ⟨a, o, us, n, e, ho, hc, hd, r⟩ := h1
  obtain ⟨a', o', us', n', e', ho', hc', hd', r'⟩ := h2
  rw [e, e']
  refine PySem.W.kat_lt ho hd ho' hd' ?_
  have l1 := Paired.length r
  have l2 := Paired.length r'
  have l3 : x.length = x'.length := by
    have := congrArg List.length (g1.trans g2.symm)
    simpa using this
  have : decide (us.size < us'.size) = false := by
    simp only [Array.length_toList] at l1 l2
    exact decide_eq_false (by omega)
  rw [this]
  refine lex_rows r r' (g1.trans g2.symm) (fun _ y hy => ?_) ⟨rfl, rfl⟩
  unfold RowSig at g1
  cases x with
  | nil => cases hy
  | cons z zs => simp at hy g1; subst hy; exact g1.1
theorem row_firsts {h : Heap} {k : Value → List Key} {sg : List Bool} : ∀ {vs : List Value}, (∀ v ∈ vs, IsRow h v (k v) ∧ RowSig sg (k v)) → ∃ fs : List Value, PySem.W.KatTups h vs fs ∧ fs.length = vs.length ∧ ∀ f ∈ fs, ∃ x t, f = Value.int x t
  | [], _ => ⟨[], PySem.W.KatTups.nil, rfl, fun _ hm => by simp at hm⟩
  | v :: vs, hp => by
    obtain ⟨fs, h1, h2, h3⟩ := row_firsts (vs := vs) fun v' hm => hp v' (List.mem_cons_of_mem _ hm)
    obtain ⟨⟨a, o, us, n, e, ho, hc, hd, r⟩, g⟩ := hp v (List.mem_cons_self ..)
    subst e
    unfold RowSig at g
    cases q : k (.ref a) with
    | nil => rw [q] at g; simp at g
    | cons z zs =>
      rw [q] at g r
      simp at g
      cases z with
      | inr y => cases g.1
      | inl x =>
        obtain ⟨u0, us0, eu⟩ : ∃ u0 us0, us.toList = u0 :: us0 := by
          cases h : us.toList with
          | nil => rw [h] at r; cases r
          | cons a b => exact ⟨a, b, rfl⟩
        rw [eu] at r
        cases r with
        | cons r0 _ =>
          obtain ⟨t, rfl⟩ := r0
          refine ⟨.int x t :: fs, PySem.W.KatTups.cons ho hc hd (by have := congrArg (fun l : List Value => l[0]?) eu; simpa using this) h1, by rw [List.length_cons, List.length_cons, h2], fun f hm => ?_⟩
          rcases List.mem_cons.mp hm with rfl | hm
          · exact ⟨x, t, rfl⟩
          · exact h3 f hm
theorem rows_sortable {a : Addr} {vs : List Value} {k : Value → List Key} {sg : List Bool} (h0 : 0 < vs.length) (hp : ∀ v ∈ vs, IsRow s.heap v (k v) ∧ RowSig sg (k v)) (ha : ∀ o, s.heap.get? a = some o → o.cls ≠ .type "tuple") : SrtO.SortableO prog w A s a vs fun v u => ltL (k v) (k u) := by
  intro h' keep
  have hp' : ∀ v ∈ vs, IsRow h' v (k v) ∧ RowSig sg (k v) := fun v hm => ⟨(hp v hm).1.keeps fun b o e c => keep b o (fun z => by subst z; exact ha o e c) e, (hp v hm).2⟩
  obtain ⟨fs, h1, h2, h3⟩ := row_firsts hp'
  refine ⟨tuples' true, fun Q E hq => ?_, row_cmp (s := { s with heap := h' }) hp'⟩
  refine PySem.W.kat_kind (T := .type "int") h1 (by omega) (fun f hm => ?_) (by rfl) ?_
  · obtain ⟨x, t, rfl⟩ := h3 f hm
    exact PySem.W.Looks.now
  · have e : (Value.type "int" != Value.type "tuple") = true := by first | decide +kernel | rfl | decide
    rw [e]
    exact hq
theorem swo_row (k : Value → List Key) : SrtO.Swo fun v u => ltL (k v) (k u) := by
  refine ⟨fun x y h => ltL_asym h, fun x y z h1 h2 => ?_⟩
  have a : leL (k x) (k y) = true := by unfold leL; simp [h1]
  have b : leL (k y) (k z) = true := by unfold leL; simp [h2]
  have := leL_trans _ _ _ a b
  unfold leL at this
  simpa using this
theorem sorted_rows {l : Addr} {vs : List Value} {k : Value → List Key} {sg : List Bool} {Q : Value → Shared → Prop} (hl : s.heap.IsList l vs.toArray) (hz : vs.length ≤ sizeLine) (hp : ∀ v ∈ vs, IsRow s.heap v (k v) ∧ RowSig sg (k v))
    (h : ∀ (h' : Heap) (d : Addr) (out : List Value), SrtO.Srtd (fun v u => ltL (k v) (k u)) out → SrtO.Stb (fun v u => ltL (k v) (k u)) out vs → (∀ b o, s.heap.get? b = some o → h'.get? b = some o) → s.heap.objs.size ≤ d → (∃ n, h'.get? d = some (seqObj "list" out.toArray n)) → Q (.ref d) { s with heap := h' }) :
    wpAny (model prog w) A (call (.builtin "sorted") [.ref l]) Q E s := by
  refine SrtO.sorted_ord (swo_row k) hl hz (fun h2 h₁ a ha kk => ?_) fun out hs hb => ?_
  · refine rows_sortable (s := { s with heap := h₁ }) (by omega) (fun v hm => ⟨(hp v hm).1.keeps fun b o e _ => (kk b o e).2, (hp v hm).2⟩) fun o e => ?_
    have e' : some o = some (seqObj "list" vs.toArray 0) := e.symm.trans ha
    cases e'
    intro c
    exact absurd (Value.type.inj c) (by decide)
  · exact h _ _ out hs hb (fun b o e => PyProof.Rows.sortedAll_old e) (Nat.le_succ _) (PyProof.Rows.sortedAll_at s.heap vs out.toArray)
end

def rowKey : D → Option Key
  | .int i => some (.inl i)
  | .str x => some (.inr x)
  | _ => none
def rowKeys : List D → Option (List Key)
  | [] => some []
  | d :: ds => match rowKey d, rowKeys ds with
    | some k, some ks => some (k :: ks)
    | _, _ => none
def rowsOf : List D → Option (List (List Key))
  | [] => some []
  | .tup xs :: ds => match rowKeys xs, rowsOf ds with
    | some k, some ks => some (k :: ks)
    | _, _ => none
  | _ :: _ => none
theorem rowKey_eq {d : D} {k : Key} (h : rowKey d = some k) : d = kD k := by
  cases d <;> simp [rowKey] at h <;> subst h <;> rfl
theorem rowKeys_eq : ∀ {ds : List D} {ks : List Key}, rowKeys ds = some ks → ds = ks.map kD
  | [], _, h => by cases h; rfl
  | d :: ds, ks, h => by
    simp only [rowKeys] at h
    split at h
    · rename_i k ks' e1 e2
      cases h
      rw [rowKey_eq e1, rowKeys_eq e2]; rfl
    · cases h
theorem rowsOf_eq : ∀ {ds : List D} {rs : List (List Key)}, rowsOf ds = some rs → ds = rs.map rowD
  | [], _, h => by cases h; rfl
  | .tup xs :: ds, rs, h => by
    simp only [rowsOf] at h
    split at h
    · rename_i k ks' e1 e2
      cases h
      rw [rowKeys_eq e1, rowsOf_eq e2]; rfl
    · cases h
  | .non :: _, _, h => by cases h
  | .bl _ :: _, _, h => by cases h
  | .int _ :: _, _, h => by cases h
  | .str _ :: _, _, h => by cases h
  | .lst _ :: _, _, h => by cases h
  | .scr _ :: _, _, h => by cases h
@[simp] theorem rowKeys_map (ks : List Key) : rowKeys (ks.map kD) = some ks := by
  induction ks with
  | nil => rfl
  | cons k ks ih => cases k <;> simp [rowKeys, rowKey, ih]
@[simp] theorem rowsOf_map (rs : List (List Key)) : rowsOf (rs.map rowD) = some rs := by
  induction rs with
  | nil => rfl
  | cons r rs ih => simp only [List.map_cons, rowD, rowsOf, rowKeys_map, ih]
/-- sorted(xs), xs a list of rows -/
def rSortedR (K : PySem.W.Frag) : List V → Hp → L2.VK → Prop := fun vs H Q => ∃ (a : Addr) (xs : List V) (rs : List (List Key)) (R : V → List Key → Prop) (sg : List Bool), vs = [V.ref a] ∧ SqL K H a xs ∧
  Paired (fun x r => R x r ∧ (∃ t, x = V.ref t ∧ SqT K H t (r.map kV)) ∧ RowSig sg r) xs rs ∧ ∀ ys p, Paired R ys (srtL rs) → H p = none → Q (.ref p) (upd H p (.lst ys))
theorem vals_keys : ∀ {ks : List Key} {us : List Value}, Vals (ks.map kV) us → Paired (fun k u => L2.RelV (kV k) u) ks us
  | [], _, .nil => .nil
  | _ :: _, _, .cons r t => .cons r (vals_keys t)
theorem relK_inj {k k' : Key} {u : Value} (r : L2.RelV (kV k) u) (r' : L2.RelV (kV k') u) : k = k' := by
  have e := r.inj r'
  cases k <;> cases k' <;> simp [kV] at e <;> rw [e]
theorem relKs_inj : ∀ {ks ks' : List Key} {us : List Value}, Paired (fun k u => L2.RelV (kV k) u) ks us → Paired (fun k u => L2.RelV (kV k) u) ks' us → ks = ks'
  | _, _, _, .nil, .nil => rfl
  | _, _, _, .cons r t, .cons r' t' => by rw [relK_inj r r', relKs_inj t t']
theorem isRow_inj {h : Heap} {v : Value} {ks ks' : List Key} (r : IsRow h v ks) (r' : IsRow h v ks') : ks = ks' := by
  obtain ⟨a, o, us, n, e, ho, hc, hd, p⟩ := r
  obtain ⟨a', o', us', n', e', ho', hc', hd', p'⟩ := r'
  rw [e] at e'
  injection e' with e'
  subst e'
  rw [ho] at ho'
  injection ho' with ho'
  subst ho'
  rw [hd] at hd'
  injection hd' with hd' _
  subst hd'
  exact relKs_inj p p'
theorem paired_of {A1 B1 : Type} {R : A1 → B1 → Prop} (k : A1 → B1) : ∀ {ys : List A1}, (∀ y ∈ ys, R y (k y)) → Paired R ys (ys.map k)
  | [], _ => .nil
  | y :: ys, h => .cons (h y (by simp)) (paired_of k fun z hz => h z (by simp [hz]))
theorem paired_map {A1 B1 : Type} {R : A1 → B1 → Prop} {k : A1 → B1} : ∀ {xs : List A1} {rs : List B1}, Paired R xs rs → (∀ x r, R x r → k x = r) → xs.map k = rs
  | _, _, .nil, _ => rfl
  | _, _, .cons h t, e => by rw [List.map_cons, e _ _ h, paired_map t e]
theorem paired_in {A1 B1 : Type} {R : A1 → B1 → Prop} : ∀ {xs : List A1} {rs : List B1}, Paired R xs rs → ∀ x ∈ xs, ∃ r ∈ rs, R x r
  | _, _, .nil, x, h => by cases h
  | _, _, .cons h t, x, hx => by
    rcases List.mem_cons.mp hx with rfl | hx
    · exact ⟨_, by simp, h⟩
    · obtain ⟨r, h1, h2⟩ := paired_in t x hx
      exact ⟨r, by simp [h1], h2⟩
section
variable {X : Cx}
open Classical in
theorem cr_sortedR : CallR X (.builtin "sorted") (rSortedR X.K) := by
  intro pins s σ H vs us Q I r h
  obtain ⟨a, xs, rs, R, sg, rfl, hs, hx, q⟩ := h
  obtain ⟨its, rv, hl, hz⟩ := I.list hs
  obtain ⟨u, rfl, ru⟩ := vals1 r
  obtain rfl : u = Value.ref a := ru
  have hx0 := paired_in hx
  obtain ⟨e1, e2⟩ := refs_back rv fun x m => by
    obtain ⟨r, _, _, ⟨t, e, _⟩, _⟩ := hx0 x m
    exact ⟨t, e⟩
  let kv : Value → List Key := fun v => if h : ∃ ks, IsRow s.heap v ks then h.choose else []
  have row : ∀ {t : Addr} {ks : List Key}, SqT X.K H t (ks.map kV) → IsRow s.heap (.ref t) ks := fun {t ks} ht => by
    obtain ⟨us, r2, ⟨o, ho, hc, n, hd⟩, _⟩ := I.tuple ht
    exact ⟨t, o, us.toArray, n, rfl, ho, hc, hd, by simpa using vals_keys r2⟩
  have kve : ∀ {v : Value} {ks : List Key}, IsRow s.heap v ks → kv v = ks := fun {v ks} h => by
    have hex : ∃ ks, IsRow s.heap v ks := ⟨ks, h⟩
    show (if h : ∃ ks, IsRow s.heap v ks then h.choose else []) = ks
    rw [dif_pos hex]
    exact isRow_inj hex.choose_spec h
  let vv : V → Value := fun v => match v with | .ref t => .ref t | _ => .none
  let k : V → List Key := fun v => kv (vv v)
  have kR : ∀ x r, (R x r ∧ (∃ t, x = V.ref t ∧ SqT X.K H t (r.map kV)) ∧ RowSig sg r) → k x = r := fun x r h => by
    obtain ⟨_, ⟨t, rfl, ht⟩, _⟩ := h
    exact kve (row ht)
  have kb : ∀ t : Addr, k (backV (Value.ref t)) = kv (.ref t) := fun t => rfl
  refine sorted_rows (k := kv) (sg := sg) hl.isList (by rw [← rv.length]; exact hz) (fun v hv => ?_) fun h' d out h1 h2 kp hd hn => ?_
  · obtain ⟨t, rfl⟩ := e2 v hv
    have hm : V.ref t ∈ xs := by rw [e1]; exact List.mem_map.mpr ⟨_, hv, rfl⟩
    obtain ⟨r, _, _, ⟨t', e, ht⟩, hg⟩ := hx0 _ hm
    cases e
    have h3 := row ht
    rw [kve h3]
    exact ⟨h3, hg⟩
  · have h3 : ∀ u ∈ out, ∃ a, u = Value.ref a := fun u hu => e2 u (h2.perm.mem_iff.mp hu)
    obtain ⟨n, hn⟩ := hn
    have hp : (out.map backV).Perm xs := by rw [e1]; exact h2.perm.map _
    have hk : (out.map backV).map k = out.map kv := by
      rw [List.map_map]
      refine List.map_congr_left fun u hu => ?_
      obtain ⟨t, rfl⟩ := h3 u hu
      rfl
    have hr : xs.map k = rs := paired_map hx kR
    have hsr : (out.map backV).map k = srtL rs := by
      refine srtL_eq ?_ ?_
      · rw [← hr]; exact hp.map k
      · rw [hk, List.pairwise_map]
        exact h1.imp fun h => by unfold leL; simpa using h
    refine ⟨.ref d, upd H d (.lst (out.map backV)), I.laid (t' := s.toks) kp hd ⟨?_, out, n, vals_back h3, hn⟩, rfl, q _ d ?_ (I.hok.fresh hd)⟩
    · rw [hp.length_eq]; exact hz
    · rw [← hsr]
      refine paired_of k fun y hy => ?_
      obtain ⟨r, _, h4⟩ := hx0 y (hp.mem_iff.mp hy)
      rw [kR _ _ h4]
      exact h4.1
end
def fSortedR (o : Bool) : FC := fun mu ws Q => match ws with
  | [x] => (match lsD mu x with
    | some ds => (match rowsOf ds with
      | some rs => (∃ sg, ∀ r ∈ rs, RowSig sg r) ∧ newL o ((srtL rs).map rowD) mu Q
      | none => False)
    | none => False)
  | _ => False
theorem repKs {K : KW} {F : Hp} : ∀ {ks : List Key} {ws : List V}, RepDs K F (ks.map kD) ws → ws = ks.map kV
  | [], _, .nil => rfl
  | k :: ks, _, .cons h1 h2 => by
    rw [repKs h2]
    cases k with
    | inl i => cases h1; rfl
    | inr x => cases h1; rfl
theorem repRows {K : KW} {F H : Hp} (hs : Same F H) {sg : List Bool} : ∀ {rs : List (List Key)} {vs : List V}, Paired (RepD K F) (rs.map rowD) vs → (∀ r ∈ rs, RowSig sg r) →
    Paired (fun x r => RepD K F (rowD r) x ∧ (∃ t, x = V.ref t ∧ SqT K H t (r.map kV)) ∧ RowSig sg r) vs rs
  | [], _, .nil, _ => .nil
  | r :: rs, v :: vs, .cons h t, hg => by
    refine .cons ⟨h, ?_, hg r (by simp)⟩ (repRows hs t fun z hz => hg z (by simp [hz]))
    cases h with
    | tup s z rd =>
      rw [repKs rd] at s
      exact ⟨_, rfl, sqtMono hs s⟩
theorem paired_flip {K : KW} {F : Hp} : ∀ {ys : List V} {rs : List (List Key)}, Paired (fun x r => RepD K F (rowD r) x) ys rs → Paired (RepD K F) (rs.map rowD) ys
  | _, _, .nil => .nil
  | _, _, .cons h t => .cons h (paired_flip t)
theorem cd_sortedR {K : KW} (o : Bool) : CallD K (rSortedR K) (fSortedR o) := fun G B F H al rh si mu ws vs Qd Q s r0 h q => by
  unfold fSortedR at h
  split at h
  · rename_i x
    obtain ⟨v, rfl, r1⟩ := pair1 r0
    split at h
    · rename_i ds el
      obtain ⟨l, vs, rfl, rd, z, pr⟩ := lsD_rep s.s r1 el
      split at h
      · rename_i rs er
        have ed := rowsOf_eq er
        subst ed
        obtain ⟨⟨sg, hsg⟩, h⟩ := h
        refine ⟨l, vs, rs, fun x r => RepD K F (rowD r) x, sg, rfl, .inl rd, repRows s.s.fz pr hsg, fun ys p hp hn => ?_⟩
        have hl : ys.length = vs.length := by
          rw [Paired.length hp, srtL_len]
          have := Paired.length pr
          simpa using this
        exact newL_ok (K := K) s (paired_flip hp) (by rw [hl]; exact z) h q p hn
      · exact h.elim
    · exact h.elim
  · exact h.elim
section
variable {io : Type} {Y : io → Cx} {P : Program} {w : World} {K : KW} {mg : Str → Option Value} {base : Heap} {N : List Str} {k : Nat} {pos p : Pos} {e : Expr} {es : List Expr} {ga : WA}
theorem ve_sortedR (y : YOk Y P w K mg base N k) (o : Bool) (hm : mg "sorted" = none) (ha : VA Y K (e :: es) ga) (hg : ∀ j, Gl (Y j) "sorted" := by exact fun _ => rfl) (he : ∀ i, starEach (e :: es) (Y i).env = (false, eval e (Y i).env) :: starEach es (Y i).env := by exact fun _ => rfl) (hpl : ∀ i, (backTo pos (starEach es (Y i).env)).any (·.1) = false := by exact fun _ => rfl) : VE Y K (.Call (.Name "sorted" p) (e :: es) [] pos) (wCall (fSortedR o) ga) :=
  ve_callB y (fun i => by rw [← y.hK i]; exact cr_sortedR) (cd_sortedR o) hm (by decide +kernel) ha hg (he := he) (hpl := hpl)
end
end VL
namespace VL
open PySem PySem.Spec PyProof.Rows L2 RZ
/-! ### dicts with tuples as keys -/
/-- keys are told apart -/
def keq (a b : D) : Bool := deqv a b
def valN : List (D × W) → D → Option W
  | [], _ => none
  | (j, d) :: r, k => if keq j k then some d else valN r k
def putN : List (D × W) → D → W → List (D × W)
  | [], k, d => [(k, d)]
  | (j, e) :: r, k, d => if keq j k then (j, d) :: r else (j, e) :: putN r k d
mutual
theorem nkey_eq : ∀ {a b : D} {x y : NestedKey}, nkey a = some x → nkey b = some y → (deqv a b = decide (x = y))
  | .int i, .int j, _, _, h1, h2 => by cases h1; cases h2; rw [deqv_int_int]; by_cases c : i = j <;> simp [c]
  | .int i, .str j, _, _, h1, h2 => by cases h1; cases h2; rw [deqv_int_str]; simp
  | .int i, .tup j, _, _, h1, h2 => by
    cases h1
    unfold nkey at h2
    cases q : nkeys j with
    | none => rw [q] at h2; cases h2
    | some ks => rw [q] at h2; cases h2; rw [deqv_int_tup]; simp
  | .str i, .int j, _, _, h1, h2 => by cases h1; cases h2; rw [deqv_str_int]; simp
  | .str i, .str j, _, _, h1, h2 => by cases h1; cases h2; rw [deqv_str_str]; by_cases c : i = j <;> simp [c]
  | .str i, .tup j, _, _, h1, h2 => by
    cases h1
    unfold nkey at h2
    cases q : nkeys j with
    | none => rw [q] at h2; cases h2
    | some ks => rw [q] at h2; cases h2; rw [deqv_str_tup]; simp
  | .tup i, .int j, _, _, h1, h2 => by
    cases h2
    unfold nkey at h1
    cases q : nkeys i with
    | none => rw [q] at h1; cases h1
    | some ks => rw [q] at h1; cases h1; rw [deqv_tup_int]; simp
  | .tup i, .str j, _, _, h1, h2 => by
    cases h2
    unfold nkey at h1
    cases q : nkeys i with
    | none => rw [q] at h1; cases h1
    | some ks => rw [q] at h1; cases h1; rw [deqv_tup_str]; simp
  | .tup i, .tup j, _, _, h1, h2 => by
    unfold nkey at h1 h2
    cases q : nkeys i with
    | none => rw [q] at h1; cases h1
    | some ks =>
      cases q2 : nkeys j with
      | none => rw [q2] at h2; cases h2
      | some ks2 =>
        rw [q] at h1; rw [q2] at h2; cases h1; cases h2
        rw [deqv_tup_tup, nkeys_eq q q2]; simp
  | .non, _, _, _, h1, _ => by cases h1
  | .bl _, _, _, _, h1, _ => by cases h1
  | .lst _, _, _, _, h1, _ => by cases h1
  | .scr _, _, _, _, h1, _ => by cases h1
  | _, .non, _, _, _, h2 => by cases h2
  | _, .bl _, _, _, _, h2 => by cases h2
  | _, .lst _, _, _, _, h2 => by cases h2
  | _, .scr _, _, _, _, h2 => by cases h2
theorem nkeys_eq : ∀ {a b : List D} {x y : List NestedKey}, nkeys a = some x → nkeys b = some y → (deqvs a b = decide (x = y))
  | [], [], _, _, h1, h2 => by cases h1; cases h2; simp [deqvs]
  | [], b :: bs, _, _, h1, h2 => by
    cases h1
    unfold nkeys at h2
    cases q : nkey b with
    | none => rw [q] at h2; cases h2
    | some k =>
      cases q2 : nkeys bs with
      | none => rw [q, q2] at h2; cases h2
      | some ks => rw [q, q2] at h2; cases h2; simp [deqvs]
  | a :: as, [], _, _, h1, h2 => by
    cases h2
    unfold nkeys at h1
    cases q : nkey a with
    | none => rw [q] at h1; cases h1
    | some k =>
      cases q2 : nkeys as with
      | none => rw [q, q2] at h1; cases h1
      | some ks => rw [q, q2] at h1; cases h1; simp [deqvs]
  | a :: as, b :: bs, _, _, h1, h2 => by
    unfold nkeys at h1 h2
    cases q : nkey a with
    | none => rw [q] at h1; cases h1
    | some k =>
      cases q2 : nkeys as with
      | none => rw [q, q2] at h1; cases h1
      | some ks =>
        cases p : nkey b with
        | none => rw [p] at h2; cases h2
        | some k' =>
          cases p2 : nkeys bs with
          | none => rw [p, p2] at h2; cases h2
          | some ks' =>
            rw [q, q2] at h1; rw [p, p2] at h2; cases h1; cases h2
            simp only [deqvs, nkey_eq q p, nkeys_eq q2 p2, List.cons.injEq]
            by_cases c : k = k' <;> by_cases d : ks = ks' <;> simp [c, d]
end
/-- what the keys are in the heap -/
def NAt (K : PySem.W.Frag) (H : Hp) (nk : NestedKey) (a : Addr) : Prop := ∃ d, nkey d = some nk ∧ nk.depth ≤ 8 ∧ ∃ KK : KW, KK.k = K ∧ RepD KK H d (.ref a)
section
variable {K : KW} {F H : Hp}
mutual
theorem rep_nested {X : Cx} {pins : List (Addr × Obj)} {σ : L2.St} {s : Shared} (hK : K.k = X.K) (I : Inv X pins σ H s) : ∀ {d : D} {v : V} {u : Value} {nk : NestedKey}, RepD K H d v → L2.RelV v u → nkey d = some nk → NestedIs s.heap nk u
  | .int i, _, _, _, .int _, r, h => by
    cases h
    obtain ⟨t, rfl⟩ := r
    exact .int i t
  | .str x, _, _, _, .str _ _, r, h => by
    cases h
    obtain ⟨t, rfl⟩ := r
    exact .text x t
  | .tup xs, _, _, nk, .tup q z p, r, h => by
    unfold nkey at h
    cases e : nkeys xs with
    | none => rw [e] at h; cases h
    | some ks =>
      rw [e] at h
      cases h
      rename_i vs a
      obtain rfl : _ = Value.ref a := r
      obtain ⟨us, r2, ⟨o, ho, hc, n, hd⟩, _⟩ := I.tuple (hK ▸ q)
      exact .tup ho hc hd (by simpa using reps_nested hK I p r2 e)
  | .non, _, _, _, _, _, h => by cases h
  | .bl _, _, _, _, _, _, h => by cases h
  | .lst _, _, _, _, _, _, h => by cases h
  | .scr _, _, _, _, _, _, h => by cases h
theorem reps_nested {X : Cx} {pins : List (Addr × Obj)} {σ : L2.St} {s : Shared} (hK : K.k = X.K) (I : Inv X pins σ H s) : ∀ {ds : List D} {vs : List V} {us : List Value} {ks : List NestedKey}, RepDs K H ds vs → Vals vs us → nkeys ds = some ks → NestedAll s.heap ks us
  | [], _, _, _, .nil, .nil, h => by cases h; exact .nil
  | d :: ds, _, _, ks, .cons a b, .cons c e, h => by
    unfold nkeys at h
    cases q : nkey d with
    | none => rw [q] at h; cases h
    | some k =>
      cases q2 : nkeys ds with
      | none => rw [q, q2] at h; cases h
      | some ks => rw [q, q2] at h; cases h; exact .cons (rep_nested hK I a c q) (reps_nested hK I b e q2)
end
end

def atNL : NL → NestedKey → Option V
  | [], _ => none
  | (j, _, v) :: r, k => if j = k then some v else atNL r k
def putNL : NL → NestedKey → Addr → V → NL
  | [], k, b, v => [(k, b, v)]
  | (j, c, e) :: r, k, b, v => if j = k then (j, c, v) :: r else (j, c, e) :: putNL r k b v
/-- the reading of d[y]: what is found -/
def NGet (K : PySem.W.Frag) (w : World) (H : Hp) (a : Addr) (y : V) (o : Option V) : Prop := ∃ (L : NL) (nk : NestedKey) (b : Addr), Rd H a (NdO w a L) ∧ (∀ q ∈ L, NAt K H q.1 q.2.1) ∧ y = .ref b ∧ NAt K H nk b ∧ o = atNL L nk
def NPut (K : PySem.W.Frag) (w : World) (H : Hp) (a : Addr) (y v : V) (H' : Hp) : Prop := ∃ (L : NL) (nk : NestedKey) (b : Addr), H a = some (NdO w a L) ∧ (∀ q ∈ L, NAt K H q.1 q.2.1) ∧ y = .ref b ∧ NAt K H nk b ∧ L.length < sizeLine ∧ H' = upd H a (NdO w a (putNL L nk b v))
theorem atNL_rel : ∀ {L : NL} {xs : List (NestedKey × Addr × Value)}, Paired NRel L xs → ∀ k, L2.RelO (atNL L k) ((atKey xs k).map (·.2))
  | _, _, .nil, k => by simp [atNL, atKey, L2.RelO]
  | (j, c, v) :: _, (j', c', u) :: _, .cons r t, k => by
    obtain ⟨r1, r2, r3⟩ := r
    simp only at r1 r2 r3
    subst r1
    have ih := atNL_rel t k
    by_cases e : j = k
    · rw [atNL, if_pos e]
      simpa [atKey, e, L2.RelO] using r3
    · rw [atNL, if_neg e]
      unfold atKey at ih ⊢
      rw [List.find?_cons_of_neg (by simpa using e)]
      exact ih
theorem putNL_len (L : NL) (k : NestedKey) (b : Addr) (v : V) : (putNL L k b v).length ≤ L.length + 1 := by
  induction L with
  | nil => simp [putNL]
  | cons p r ih => obtain ⟨j, c, e⟩ := p; rw [putNL]; split <;> simp; exact ih
theorem storedH_cons {p : NestedKey × Addr × Value} {r : List (NestedKey × Addr × Value)} {k : NestedKey} {b : Addr} {v : Value} (hn : p.1 ≠ k) : storedH (p :: r) k b v = p :: storedH r k b v := by
  unfold storedH
  have e : atKey (p :: r) k = atKey r k := by unfold atKey; rw [List.find?_cons_of_neg (by simpa using hn)]
  rw [e]
  split
  · rw [List.map_cons]; congr 1; unfold putAt; rw [if_neg hn]
  · rfl
theorem putNL_rel {k : NestedKey} {b : Addr} {v : V} {u : Value} (rv : L2.RelV v u) : ∀ {L : NL} {xs : List (NestedKey × Addr × Value)}, Paired NRel L xs → (xs.map (·.1)).Nodup → Paired NRel (putNL L k b v) (storedH xs k b u)
  | _, _, .nil, _ => by simpa [putNL, storedH, atKey] using pOne (R := NRel) (x := (k, b, v)) (y := (k, b, u)) ⟨rfl, rfl, rv⟩
  | (j, c, e) :: _, (j', c', e') :: xs, .cons r t, nd => by
    have r0 := r
    obtain ⟨r1, r2, r3⟩ := r
    simp only at r1 r2 r3
    subst r1
    rw [List.map_cons, List.nodup_cons] at nd
    by_cases q : j = k
    · subst q
      rw [putNL, if_pos rfl]
      have e1 : storedH ((j, c', e') :: xs) j b u = (j, c', u) :: xs := by
        unfold storedH
        have : (atKey ((j, c', e') :: xs) j).isSome = true := by simp [atKey]
        rw [if_pos this, List.map_cons]
        congr 1
        · simp [putAt]
        · refine (List.map_congr_left fun q hq => ?_).trans (List.map_id xs)
          unfold putAt
          rw [if_neg fun h => nd.1 (by rw [← h]; exact List.mem_map.mpr ⟨q, hq, rfl⟩)]; rfl
      rw [e1]
      exact .cons ⟨rfl, r2, rv⟩ t
    · rw [putNL, if_neg q, storedH_cons (p := (j, c', e')) q]
      exact .cons r0 (putNL_rel rv t nd.2)
theorem nrel_keys : ∀ {L : NL} {xs : List (NestedKey × Addr × Value)}, Paired NRel L xs → L.map (·.1) = xs.map (·.1)
  | _, _, .nil => rfl
  | _, _, .cons r t => by rw [List.map_cons, List.map_cons, r.1, nrel_keys t]
theorem nrel_in : ∀ {L : NL} {xs : List (NestedKey × Addr × Value)}, Paired NRel L xs → ∀ x ∈ xs, ∃ q ∈ L, q.1 = x.1 ∧ q.2.1 = x.2.1
  | _, _, .nil, x, h => by cases h
  | _, _, .cons r t, x, h => by
    rcases List.mem_cons.mp h with z | z
    · subst z; exact ⟨_, by simp, r.1, r.2.1⟩
    · obtain ⟨q, h1, h2⟩ := nrel_in t x z
      exact ⟨q, by simp [h1], h2⟩
section
variable {X : Cx} {pins : List (Addr × Obj)} {σ : L2.St} {H : Hp} {s : Shared} {a : Addr} {y v : V} {u r : Value} {o : Option V} {A : Around} {E : Value → Shared → Prop} {L : NL}
theorem nat_is (I : Inv X pins σ H s) {nk : NestedKey} {b : Addr} (h : NAt X.K H nk b) : (nestedKind X.prog X.w).is s.heap nk b := by
  obtain ⟨d, hd, hz, KK, hK, r⟩ := h
  exact ⟨rep_nested hK I r rfl hd, hz⟩
theorem n_dict (I : Inv X pins σ H s) (h : Rd H a (NdO X.w a L)) (hk : ∀ q ∈ L, NAt X.K H q.1 q.2.1) : ∃ xs, Paired NRel L xs ∧ s.heap.DictOfH (nestedKind X.prog X.w) a xs ∧ (a == sysModules) = false ∧ L.length ≤ sizeLine := by
  obtain ⟨⟨⟨h1, h2, h3⟩, xs, p, o, es, ep, h4, h5, h6, h7⟩, _, _⟩ := h.ok I.hok
  refine ⟨xs, p, ⟨o, es, ep, h4, h5, h6, h7, fun x hx => ?_, by rw [← nrel_keys p]; exact h3⟩, h1, h2⟩
  obtain ⟨q, hq, e1, e2⟩ := nrel_in p x hx
  rw [← e1, ← e2]
  exact nat_is I (hk q hq)
theorem n_room (hu : A.units + 64 < cLine) : (nestedKind X.prog X.w).room A.in1 := by
  show A.units + 1 + 8 < cLine
  omega
theorem n_getItem {Q : Value → Shared → Prop} (hu : A.units + 64 < cLine) (I : Inv X pins σ H s) (g : NGet X.K X.w H a y (some v)) (ry : L2.RelV y u) (h : ∀ w' s', Inv X pins σ H s' → L2.RelV v w' → Q w' s') :
    wpAny (model X.prog X.w) A (getItem (.ref a) u) Q E s := by
  obtain ⟨L, nk, b, e, hk, ey, hb, l⟩ := g
  subst ey
  cases (show u = Value.ref b from ry)
  obtain ⟨xs, p, dd, _, _⟩ := n_dict I e hk
  obtain ⟨w', hw, rw'⟩ := L2.RelO.some_of (v := v) (o := (atKey xs nk).map (·.2)) (by rw [l]; exact atNL_rel p nk)
  obtain ⟨z, hp, hp2⟩ := Option.map_eq_some_iff.mp hw
  refine wpAny_getItem_heap (n_room hu) (nat_is I hb) dd hp ?_
  rw [hp2]
  exact h w' _ (I.tok _) rw'
theorem n_get2 {d : V} {Q : Value → Shared → Prop} (hu : A.units + 64 < cLine) (I : Inv X pins σ H s) (g : NGet X.K X.w H a y o) (ry : L2.RelV y u) (rd : L2.RelV d r) (h : ∀ w' s', Inv X pins σ H s' → L2.RelV (o.getD d) w' → Q w' s') :
    wpAny (model X.prog X.w) A (call (.builtin "dict.get") [.ref a, u, r]) Q E s := by
  obtain ⟨L, nk, b, e, hk, ey, hb, l⟩ := g
  subst ey
  cases (show u = Value.ref b from ry)
  obtain ⟨xs, p, dd, hd, _⟩ := n_dict I e hk
  refine call_meetsIn PySem.F.slot_dict_get dd.typeIs PySem.F.entry_dict_get (PySem.F.args_dict_get_3 _ _ _) (meetsH_dict_get_default (nestedKind X.prog X.w) a b hd r) ⟨n_room hu, nk, xs, nat_is I hb, dd, h _ _ (I.tok _) ?_⟩
  rw [l]
  exact (atNL_rel p nk).getD rd
theorem n_new {P : Program} {w : World} {H' : Hp} {h' : Heap} {xs : List (NestedKey × Addr × Value)} (z : L.length ≤ sizeLine) (hd : (a == sysModules) = false) (p : Paired NRel L xs) (dd : h'.DictOfH (nestedKind P w) a xs) : ObjOk P w H' h' a (NdO w a L) := by
  obtain ⟨o, es, ep, h1, h2, h3, h4, h5, h6⟩ := dd
  refine ⟨⟨⟨hd, z, by rw [nrel_keys p]; exact h6⟩, xs, p, o, es, ep, h1, h2, h3, h4⟩, ⟨o, h1⟩, fun g1 g2 hg k => ?_⟩
  obtain ⟨c, xs, p, o, es, ep, h4, r⟩ := hg
  exact ⟨c, xs, p, o, es, ep, k o h4, r⟩
theorem n_setItem {H' : Hp} {Q : Unit → Shared → Prop} (hu : A.units + 64 < cLine) (I : Inv X pins σ H s) (g : NPut X.K X.w H a y v H') (ry : L2.RelV y u) (rv : L2.RelV v r) (h : ∀ s', Inv X pins σ H' s' → Q () s') :
    wpAny (model X.prog X.w) A (setItem (.ref a) u r) Q E s := by
  obtain ⟨L, nk, b, e, hk, ey, hb, l, eH⟩ := g
  subst ey eH
  cases (show u = Value.ref b from ry)
  obtain ⟨xs, p, dd, hd, z⟩ := n_dict I (Rd.of e) hk
  have hz : xs.length ≤ sizeLine := by rw [← Paired.length p]; exact z
  have hl : (putNL L nk b v).length ≤ sizeLine := by have := putNL_len L nk b v; omega
  refine wpAny_setItem_heap (hsz := hz) (n_room hu) (nat_is I hb) dd fun h' dd' hs => h _ ?_
  have he : ∃ q, h'.get? a = some q := let ⟨q, _, _, hq, _⟩ := dd'; ⟨q, hq⟩
  exact L2.d_write I (by rw [e]; exact True.intro) hs he (n_new hl hd (putNL_rel rv p dd.nodup) dd')
theorem n_typeIs (I : Inv X pins σ H s) (g : NGet X.K X.w H a y o) : s.TypeIs (.ref a) "dict" := by
  obtain ⟨L, nk, b, e, hk, _⟩ := g
  obtain ⟨xs, p, dd, _⟩ := n_dict I e hk
  exact dd.typeIs
end
/-! ### the rules -/
def IsN (K : PySem.W.Frag) (w : World) (H : Hp) (a : Addr) : Prop := ∃ L, Rd H a (NdO w a L) ∧ ∀ q ∈ L, NAt K H q.1 q.2.1
def tNGet (K : PySem.W.Frag) (w : World) (td ty : TE) : TE := fun σ H Q => td σ H fun x H1 => ty σ H1 fun y H2 => ∃ a v, x = .ref a ∧ NGet K w H2 a y (some v) ∧ Q v H2
def tNGet2 (K : PySem.W.Frag) (w : World) (td ty tx : TE) : TE := fun σ H Q => td σ H fun x H1 => ∃ a, x = .ref a ∧ IsN K w H1 a ∧ ty σ H1 fun y H2 => tx σ H2 fun z H3 => ∃ o, NGet K w H3 a y o ∧ Q (o.getD z) H3
def sNPut (K : PySem.W.Frag) (w : World) (td ty tv : TE) : TS := fun D σ H => tv σ H fun v H1 => td σ H1 fun x H2 => ty σ H2 fun y H3 => ∃ a H4, x = .ref a ∧ NPut K w H3 a y v H4 ∧ D.nx σ H4
def tNNew (w : World) : TE := fun _ H Q => ∀ p, H p = none → Q (.ref p) (upd H p (NdO w p []))
section
variable {X : Cx} {o i e f value : Expr} {pos pos' tpos apos cpos : Pos} {td ty tv tx : TE}
theorem pe_nget (hu : X.A.units + 64 < cLine) (ho : PE X o td) (hi : PE X i ty) (hs : NoSl i) : PE X (.Subscript o i pos) (tNGet X.K X.w td ty) := by
  refine ⟨fun pins s σ H Q I h => ?_⟩
  refine subD_of PySem.F.slot_dict_getitem.lookup hs (thn (ho.run pins s σ H _ I h) fun u s1 ⟨x, H1, I1, rx, q1⟩ => thn (hi.run pins s1 σ H1 _ I1 q1) fun iv s2 ⟨y, H2, I2, ry, a, v, ex, g, q2⟩ => ?_)
  subst ex
  obtain rfl : u = Value.ref a := rx
  exact ⟨n_typeIs I2 g, n_getItem hu I2 g ry fun w' s3 I3 rw' => ⟨v, H2, I3, rw', q2⟩⟩
theorem ps_nput (hu : X.A.units + 64 < cLine) (ho : PE X o td) (hi : PE X i ty) (hv : PE X value tv) (hs : swapsWith value (some (.Subscript o i pos')) pos.line X.env = pure false) :
    PS X (.Assign [.Subscript o i pos'] value pos) (sNPut X.K X.w td ty tv) := by
  refine ⟨fun pins s σ H D I h => ?_⟩
  refine wpAny_Assign_Subscript (thn (hv.run pins s σ H _ I h) fun r s1 ⟨v, H1, I1, rv, q1⟩ => thn (ho.run pins s1 σ H1 _ I1 q1) fun u s2 ⟨x, H2, I2, rx, q2⟩ => thn (hi.run pins s2 σ H2 _ I2 q2) fun iv s3 ⟨y, H3, I3, ry, a, H4, ex, g, q3⟩ => ?_) hs
  subst ex
  obtain rfl : u = Value.ref a := rx
  exact n_setItem hu I3 g ry rv fun s4 I4 => ⟨σ, H4, I4, q3⟩
theorem pe_nnew : PE X (.Dict [] [] pos) (tNNew X.w) := ⟨fun pins s σ H Q I h =>
  wpAny_Dict_empty ⟨.ref s.heap.objs.size, _, I.laid (a := s.heap.objs.size) (o := NdO X.w s.heap.objs.size []) (t' := s.toks) (fun _ _ q => Heap.get?_push_of_some _ q) (Nat.le_refl _)
    (n_new (L := []) (xs := []) (Nat.zero_le _) (beq_eq_false_iff_ne.mpr (Ne.symm (Nat.ne_of_lt I.big))) .nil (Heap.DictOfH.new s.heap)), rfl, h _ (I.hok.fresh (Nat.le_refl _))⟩⟩
theorem pe_nget2 (hu : X.A.units + 64 < cLine) (ho : PE X o td) (he : PE X e ty) (hf : PE X f tx) (m : M2 X o "get" apos e f cpos) : PE X (.Call (.Attribute o "get" apos) [e, f] [] cpos) (tNGet2 X.K X.w td ty tx) := by
  refine ⟨fun pins s σ H Q I h => ?_⟩
  refine wpAny_Call_method m.base m.few m.line PySem.F.plainAttrs_dict PySem.F.slot_dict_get PySem.F.type_dict_get (thn (ho.run pins s σ H _ I h) fun u s1 ⟨x, H1, I1, rx, a, ex, d, q1⟩ => ?_)
  subst ex
  obtain rfl : u = Value.ref a := rx
  obtain ⟨L, e1, hk⟩ := d
  obtain ⟨xs, p, dd, hd, _⟩ := n_dict I1 e1 hk
  refine ⟨dd.typeIs, fun b q => ?_, ?_⟩
  · cases q
    obtain ⟨ob, _, _, h1, h2, _⟩ := dd
    exact ⟨ob, h1, h2.2.1⟩
  rw [m.trees]
  refine Calls.callWith_builtin rfl (Calls.evalArgs_plain (Calls.spliced_cons (thn (he.run pins s1 σ H1 _ I1 q1) fun iv s2 ⟨y, H2, I2, ry, q2⟩ =>
    Calls.spliced_cons (thn (hf.run pins s2 σ H2 _ I2 q2) fun fv s3 ⟨z, H3, I3, rz, ov, g, q3⟩ => Calls.spliced_nil ?_))))
  exact n_get2 hu I3 g ry rz fun w' s4 I4 rw' => ⟨_, H3, I4, rw', q3⟩
end

/-! ### on values -/
@[simp] def getN (mu : Sto) : W → Option (List (D × W))
  | .loc k => match mu[k]? with
    | some (.dn _ kvs) => some kvs
    | _ => none
  | _ => none
/-- keys: tuples of ints and texts, not deep -/
def keyOk : D → Bool
  | .tup xs => match nkey (.tup xs) with
    | some k => decide (k.depth ≤ 8)
    | none => false
  | _ => false
theorem keyOk_eq {d : D} (h : keyOk d = true) : ∃ xs nk, d = .tup xs ∧ nkey d = some nk ∧ nk.depth ≤ 8 := by
  cases d with
  | tup xs =>
    have h : (match nkey (.tup xs) with
      | some k => decide (k.depth ≤ 8)
      | none => false) = true := h
    cases q : nkey (.tup xs) with
    | none => rw [q] at h; cases h
    | some k => rw [q] at h; exact ⟨xs, k, rfl, rfl, by simpa using h⟩
  | _ => cases h
@[simp] def wNNew : WE := fun _ mu Q => Q (.loc mu.length) (mu ++ [.dn none []])
@[simp] def wNGet (o i : WE) : WE := fun rh mu Q => o rh mu fun x mu1 => i rh mu1 fun y mu2 => match getN mu2 x, y with
  | some kvs, .d k => keyOk k = true ∧ (match valN kvs k with
    | some w => Q w mu2
    | none => False)
  | _, _ => False
@[simp] def wNGet2 (o i e : WE) : WE := fun rh mu Q => o rh mu fun x mu1 => (getN mu1 x).isSome = true ∧ i rh mu1 fun y mu2 => e rh mu2 fun z mu3 => match getN mu3 x, y with
  | some kvs, .d k => keyOk k = true ∧ (match valN kvs k with
    | some w => Q w mu3
    | none => Q z mu3)
  | _, _ => False
@[simp] def wNPut (o i v : WE) : WS := fun V rh mu => v rh mu fun u mu1 => o rh mu1 fun x mu2 => i rh mu2 fun y mu3 => match x with
  | .loc l => (match mu3[l]? with
    | some (.dn none kvs) => (match y with
      | .d k => keyOk k = true ∧ kvs.length < sizeLine ∧ V.nx rh (mu3.set l (.dn none (putN kvs k u)))
      | _ => False)
    | _ => False)
  | _ => False
theorem getN_eq {mu : Sto} {x : W} {kvs : List (D × W)} (h : getN mu x = some kvs) : ∃ k lk, x = .loc k ∧ mu[k]? = some (.dn lk kvs) := by
  cases x with
  | loc k =>
    simp only [getN] at h
    split at h
    · rename_i lk n' e
      injection h with h
      cases h
      exact ⟨k, lk, rfl, e⟩
    · cases h
  | _ => cases h
abbrev NPair (K : KW) (F : Hp) (al : List Addr) (p : D × W) (q : NestedKey × Addr × V) : Prop := (nkey p.1 = some q.1 ∧ q.1.depth ≤ 8) ∧ RepD K F p.1 (.ref q.2.1) ∧ RepW K F al p.2 q.2.2
section
variable {K : KW} {G B F H : Hp} {al : List Addr} {mu : Sto}
theorem npair_nat (h : Same F H) {kvs : List (D × W)} {L : NL} (p : Paired (NPair K F al) kvs L) : ∀ q ∈ L, NAt K H q.1 q.2.1 := by
  induction p with
  | nil => intro q hq; cases hq
  | cons r t ih =>
    intro q hq
    rcases List.mem_cons.mp hq with z | z
    · subst z; exact ⟨_, r.1.1, r.1.2, K, rfl, r.2.1.mono h⟩
    · exact ih q z
theorem dn_rep {x : W} {v : V} {kvs : List (D × W)} (s : SRS K G B F H al mu) (r : RepW K F al x v) (e : getN mu x = some kvs) :
    ∃ k a lk L, x = .loc k ∧ mu[k]? = some (.dn lk kvs) ∧ al[k]? = some a ∧ v = .ref a ∧ Rd H a (NdO K.w a L) ∧ (lk = none → H a = some (NdO K.w a L)) ∧ Paired (NPair K F al) kvs L := by
  obtain ⟨k, lk, rfl, ek⟩ := getN_eq e
  cases r with
  | loc ea =>
    obtain ⟨o, _, _, ho, cr⟩ := s.at ek ea
    cases cr with
    | dn p =>
      rename_i L
      refine ⟨k, _, lk, lockL lk L, rfl, ek, ea, rfl, ?_, fun h => ?_, p⟩
      · cases lk with
        | none => exact .inl ho
        | some q => exact .inr ⟨q.1, ho⟩
      · subst h; exact ho
theorem valN_rep : ∀ {kvs : List (D × W)} {L : NL}, Paired (NPair K F al) kvs L → ∀ {k : D} {nk : NestedKey}, nkey k = some nk → match valN kvs k with
    | some w => ∃ v, atNL L nk = some v ∧ RepW K F al w v
    | none => atNL L nk = none
  | _, _, .nil, k, nk, h => rfl
  | (j, d) :: _, (j', b, v) :: _, .cons r t, k, nk, h => by
    obtain ⟨⟨r1, r2⟩, r3, r4⟩ := r
    have ih := valN_rep t h
    simp only at r1 r4
    rw [valN, atNL]
    unfold keq
    rw [nkey_eq r1 h]
    by_cases c : j' = nk
    · simp only [c, decide_true, if_true]; exact ⟨v, rfl, r4⟩
    · simp only [c, decide_false, Bool.false_eq_true, if_false]; exact ih
theorem putN_rep {w : W} {v : V} {k : D} {nk : NestedKey} {b : Addr} (h : nkey k = some nk) (hz : nk.depth ≤ 8) (rk : RepD K F k (.ref b)) (rw_ : RepW K F al w v) : ∀ {kvs : List (D × W)} {L : NL}, Paired (NPair K F al) kvs L → Paired (NPair K F al) (putN kvs k w) (putNL L nk b v)
  | _, _, .nil => .cons ⟨⟨h, hz⟩, rk, rw_⟩ .nil
  | (j, d) :: _, (j', b', v') :: _, .cons r t => by
    have r0 := r
    obtain ⟨⟨r1, r2⟩, r3, r4⟩ := r
    simp only at r1 r4
    rw [putN, putNL]
    unfold keq
    rw [nkey_eq r1 h]
    by_cases c : j' = nk
    · simp only [c, decide_true, if_true]
      subst c
      exact .cons ⟨⟨r1, r2⟩, r3, rw_⟩ t
    · simp only [c, decide_false, Bool.false_eq_true, if_false]
      exact .cons r0 (putN_rep h hz rk rw_ t)
end
section
variable {io : Type} {Y : io → Cx} {P : Program} {K : KW} {mg : Str → Option Value} {base : Heap} {N : List Str} {k : Nat} {pos p apos cpos : Pos} {a i e o f : Expr} {wa wi we wo wf : WE}
theorem units65 {w : World} (y : YOk Y P w K mg base N k) (j : io) : (Y j).A.units + 64 < cLine := (y.room j).units
theorem ve_nnew (y : YOk Y P K.w K mg base N k) : VE Y K (.Dict [] [] pos) wNNew := ⟨tNNew K.w, fun j => by rw [← y.hw j]; exact pe_nnew, fun G B F H al rh si mu Qd Q s h q => fun p hp => by
  have c : CRep K F al p (.dn none []) (NdO K.w p []) := .dn (lk := none) (L := []) .nil
  have x := SRS.ownX (F := F) (al := al) (p := p)
  exact q _ _ _ _ _ _ x (s.step x (s.s.own hp c)) (.loc s.s.atNew) h⟩
theorem ve_nget (y : YOk Y P K.w K mg base N k) (ho : VE Y K o wo) (hi : VE Y K i wi) (hs : NoSl i := by exact fun _ _ => rfl) : VE Y K (.Subscript o i pos) (wNGet wo wi) := by
  obtain ⟨t1, p1, d1⟩ := ho
  obtain ⟨t2, p2, d2⟩ := hi
  refine ⟨tNGet K K.w t1 t2, fun j => by rw [← y.hw j, ← y.hK j]; exact pe_nget (units65 y j) (p1 j) (p2 j) hs, fun G B F H al rh si mu Qd Q s h q => ?_⟩
  refine d1 G B F H al rh si mu _ _ s h fun F1 H1 al1 mu1 x v e1 s1 r1 h1 => ?_
  refine d2 G B F1 H1 al1 rh si mu1 _ _ s1 h1 fun F2 H2 al2 mu2 z u e2 s2 r2 h2 => ?_
  split at h2
  · rename_i kvs kk eD
    obtain ⟨hk, h2⟩ := h2
    obtain ⟨xs, nk, rfl, en, ez⟩ := keyOk_eq hk
    obtain ⟨k', a', lk, L, rfl, ek, ea, rfl, eo, _, pr⟩ := dn_rep s2.s (r1.mono e2) eD
    have := valN_rep pr en
    split at h2
    · rename_i w ed
      rw [ed] at this
      obtain ⟨v', ev, rv⟩ := this
      cases r2 with
      | d r2 =>
        obtain ⟨b, vs, rfl, _⟩ := repTup (al := al2) (.d r2)
        exact ⟨a', v', rfl, ⟨L, nk, b, eo, npair_nat s2.s.fz pr, rfl, ⟨_, en, ez, K, rfl, r2.mono s2.s.fz⟩, ev.symm⟩, q F2 H2 al2 mu2 _ _ (e1.trans e2) s2 rv h2⟩
    · exact h2.elim
  · exact h2.elim
theorem ve_nget2 (y : YOk Y P K.w K mg base N k) (ho : VE Y K o wo) (hi : VE Y K i wi) (hf : VE Y K f wf) (m : ∀ j, M2 (Y j) o "get" apos i f cpos := by exact fun _ => ⟨rfl, rfl, rfl, rfl⟩) : VE Y K (.Call (.Attribute o "get" apos) [i, f] [] cpos) (wNGet2 wo wi wf) := by
  obtain ⟨t1, p1, d1⟩ := ho
  obtain ⟨t2, p2, d2⟩ := hi
  obtain ⟨t3, p3, d3⟩ := hf
  refine ⟨tNGet2 K K.w t1 t2 t3, fun j => by rw [← y.hw j, ← y.hK j]; exact pe_nget2 (units65 y j) (p1 j) (p2 j) (p3 j) (m j), fun G B F H al rh si mu Qd Q s h q => ?_⟩
  refine d1 G B F H al rh si mu _ _ s h fun F1 H1 al1 mu1 x v e1 s1 r1 h1 => ?_
  obtain ⟨hD, h1⟩ := h1
  obtain ⟨kv0, eD0⟩ := Option.isSome_iff_exists.mp hD
  obtain ⟨_, a0, lk0, L0, _, _, _, rfl, eo0, _, pr0⟩ := dn_rep s1.s r1 eD0
  refine ⟨a0, rfl, ⟨L0, eo0, npair_nat s1.s.fz pr0⟩, ?_⟩
  refine d2 G B F1 H1 al1 rh si mu1 _ _ s1 h1 fun F2 H2 al2 mu2 z u e2 s2 r2 h2 => ?_
  refine d3 G B F2 H2 al2 rh si mu2 _ _ s2 h2 fun F3 H3 al3 mu3 z3 u3 e3 s3 r3 h3 => ?_
  split at h3
  · rename_i kvs kk eD
    obtain ⟨hk, h3⟩ := h3
    obtain ⟨xs, nk, rfl, en, ez⟩ := keyOk_eq hk
    obtain ⟨k', a', lk, L, rfl, ek, ea, ev, eo, _, pr⟩ := dn_rep s3.s (r1.mono (e2.trans e3)) eD
    cases ev
    cases r2 with
    | d r2 =>
      obtain ⟨b, vs, rfl, _⟩ := repTup (al := al2) (.d r2)
      refine ⟨atNL L nk, ⟨L, nk, b, eo, npair_nat s3.s.fz pr, rfl, ⟨_, en, ez, K, rfl, (r2.mono e3.1).mono s3.s.fz⟩, rfl⟩, ?_⟩
      have := valN_rep pr en
      split at h3
      · rename_i w ed
        rw [ed] at this
        obtain ⟨v', ev, rv⟩ := this
        rw [ev]
        exact q F3 H3 al3 mu3 _ _ ((e1.trans e2).trans e3) s3 rv h3
      · rename_i ed
        rw [ed] at this
        rw [this]
        exact q F3 H3 al3 mu3 _ _ ((e1.trans e2).trans e3) s3 r3 h3
  · exact h3.elim
end
section
variable {X : Cx} {P : Program} {K : KW} {mg : Str → Option Value} {base : Heap} {N : List Str} {k : Nat} {pos pos' : Pos} {o i e : Expr} {wo wi we : WE}
theorem vs_nput (y : YOk (un X) P K.w K mg base N k) (ho : VE (un X) K o wo) (hi : VE (un X) K i wi) (he : VE (un X) K e we) (hs : swapsWith e (some (.Subscript o i pos')) pos.line X.env = pure false := by rfl) : VS X K (.Assign [.Subscript o i pos'] e pos) (wNPut wo wi we) := by
  obtain ⟨t1, p1, d1⟩ := ho
  obtain ⟨t2, p2, d2⟩ := hi
  obtain ⟨t3, p3, d3⟩ := he
  refine ⟨sNPut K K.w t1 t2 t3, by rw [show K.w = X.w from (y.hw ()).symm, show K.k = X.K from (y.hK ()).symm]; exact ps_nput (y.room ()).units (p1 ()) (p2 ()) (p3 ()) hs, fun G B F H al rh si mu V1 D1 s h b => ?_⟩
  refine d3 G B F H al rh si mu _ _ s h fun F1 H1 al1 mu1 u v e1 s1 r1 h1 => ?_
  refine d1 G B F1 H1 al1 rh si mu1 _ _ s1 h1 fun F2 H2 al2 mu2 x vx e2 s2 r2 h2 => ?_
  refine d2 G B F2 H2 al2 rh si mu2 _ _ s2 h2 fun F3 H3 al3 mu3 z vz e3 s3 r3 h3 => ?_
  split at h3
  · rename_i l
    split at h3
    · rename_i kvs ek
      split at h3
      · rename_i kk
        obtain ⟨hk, hl, h3⟩ := h3
        obtain ⟨xs, nk, rfl, en, ez⟩ := keyOk_eq hk
        obtain ⟨_, a', lk, L, ex, ek', ea, rfl, _, eo, pr⟩ := dn_rep (x := .loc l) (kvs := kvs) s3.s (r2.mono e3) (by simp [ek])
        cases ex
        rw [ek] at ek'
        cases ek'
        cases r3 with
        | d r3 =>
        obtain ⟨b', vs, rfl, _⟩ := repTup (al := al3) (.d r3)
        have hlen : L.length = kvs.length := (Paired.length pr).symm
        refine ⟨a', _, rfl, ⟨L, nk, b', eo rfl, npair_nat s3.s.fz pr, rfl, ⟨_, en, ez, K, rfl, r3.mono s3.s.fz⟩, by rw [hlen]; exact hl, rfl⟩, ?_⟩
        have s4 := s3.s.put (c := .dn none (putN kvs (.tup xs) u)) ea (CRep.dn (lk := none) (putN_rep en ez r3 ((r1.mono e2).mono e3) pr))
        exact b.nx _ _ _ _ _ _ ((e1.trans e2).trans e3) (s3.step (Ext.refl _ _) s4) h3
      · exact h3.elim
    · exact h3.elim
  · exact h3.elim
end

@[simp] theorem keyOk_is {i : Int} {x : Str} : keyOk (.tup [.int i, .str x]) = true := by simp [keyOk, NestedKey.depth, NestedKey.depthAll]
@[simp] theorem keyOk_ii {i j : Int} : keyOk (.tup [.int i, .int j]) = true := by simp [keyOk, NestedKey.depth, NestedKey.depthAll]
@[simp] theorem keyOk_tis {i j : Int} {x : Str} : keyOk (.tup [.tup [.int i, .int j], .str x]) = true := by simp [keyOk, NestedKey.depth, NestedKey.depthAll]
@[simp] theorem keyOk_tii {i j k : Int} : keyOk (.tup [.tup [.int i, .int j], .int k]) = true := by simp [keyOk, NestedKey.depth, NestedKey.depthAll]
end VL
namespace VL
open PySem PySem.Spec PyProof.Rows L2 RZ
/-! ### walks over a dict with tuples as keys, under a lock -/
section
variable {X : Cx} {pins : List (Addr × Obj)} {σ : L2.St} {H : Hp} {s : Shared} {d : Addr} {o : Obj}
theorem frzN {L : NL} (I : Inv X pins σ H s) (h : H d = some (.frz o (NdO X.w d L))) :
    (d == sysModules) = false ∧ s.heap.get? d = some o ∧ o.ExactDict ∧ ∃ (es : Array DictEntry) (ep : Nat), o.data = .dict es ep ∧ es.size = L.length ∧
      ∀ (i : Nat) (q : NestedKey × Addr × V), L[i]? = some q → ∃ (en : DictEntry), es[i]? = some en ∧ en.key = .ref q.2.1 ∧ L2.RelV q.2.2 en.val := by
  obtain ⟨hd, ⟨⟨hs, z, nd⟩, xs, pr, o', es, ep, ho, hx, hdt, he⟩, _⟩ := I.hok d _ h
  rw [hd] at ho
  cases ho
  have l1 : es.size = xs.length := by rw [← Array.length_toList, he, List.length_map]
  have l2 : L.length = xs.length := Paired.length pr
  refine ⟨hs, hd, hx, es, ep, hdt, by omega, fun i q e => ?_⟩
  obtain ⟨b, hb, e1, e2, e3⟩ := L2.paired_get pr e
  have q' : es[i]? = some (entN X.w b) := by rw [← Array.getElem?_toList, he, List.getElem?_map, hb]; rfl
  exact ⟨_, q', by rw [e2]; rfl, e3⟩
end
/-- the keys -/
def Itnk (w : World) (d : Addr) (o : Obj) (L : NL) : It :=
  ⟨fun i H => H d = some (.frz o (NdO w d L)) ∧ i < L.length, fun i H x H' => H' = H ∧ ∃ q, L[i]? = some q ∧ x = .ref q.2.1, fun i H => H d = some (.frz o (NdO w d L)) ∧ L.length ≤ i⟩
/-- the pairs, each a new tuple -/
def Itni (w : World) (d : Addr) (o : Obj) (L : NL) : It :=
  ⟨fun i H => H d = some (.frz o (NdO w d L)) ∧ i < L.length, fun i H x H' => ∃ T q, L[i]? = some q ∧ x = .ref T ∧ H T = none ∧ H' = upd H T (.tup [.ref q.2.1, q.2.2]), fun i H => H d = some (.frz o (NdO w d L)) ∧ L.length ≤ i⟩
section
variable {P : Program} {w : World} {K : PySem.W.Frag} {tg : Expr} {d : Addr} {o : Obj} {es : Array DictEntry} {ep : Nat}
theorem turn_nkeys {L : NL} (it : Addr) (hod : o.data = .dict es ep) : Turn P w K tg (Itnk w d o L) [it] it (fun i h => h.IsKeyIter it d i L.length ep) where
  mem := by simp
  obj := fun i h st b hb => by
    have e : b = it := by simpa using hb
    subst e
    obtain ⟨oi, e, c, dd⟩ := st
    exact ⟨oi, e, fun v z => by rw [dd] at z; cases z⟩
  keep := fun i h h' st k => st.at fun oi e => k it (by simp) oi e
  item := by
    intro X hP hw hK hc i pins s σ H E I hf st hg
    subst hP hw hK
    obtain ⟨hd, hi⟩ := hg
    obtain ⟨f0, f1, f2, f3, f4, f5⟩ := hf it (by simp)
    obtain ⟨hs, hgd, hx, es', ep', hdt, hsz, ent⟩ := frzN I hd
    obtain ⟨rfl, rfl⟩ := dict_ep hod hdt
    obtain ⟨q, hq⟩ : ∃ p, L[i]? = some p := ⟨L[i], List.getElem?_eq_getElem hi⟩
    obtain ⟨en, hen, hkey, hval⟩ := ent i q hq
    refine L2.next_key_item st hgd hdt hsz hen fun h' st' sb => ?_
    have I1 : Inv X pins σ H { s with heap := h' } := I.turned (t' := s.toks) (fun b ob hb e => (sb.2 b hb).trans e) f0 f1 f3 f4 f5
    obtain ⟨oi, e, c, dd⟩ := id st'
    exact ⟨en.key, rfl, go_of (s := { s with heap := h' }) e c dd (by decide) ⟨.ref q.2.1, H, I1, hkey, ⟨rfl, q, hq, rfl⟩, st', fun b hb => (hf b hb).1⟩⟩
  done := by
    intro X hP hw hK hc i pins s σ H E I hf st hg
    subst hP hw hK
    obtain ⟨hd, hi⟩ := hg
    obtain ⟨f0, f1, f2, f3, f4, f5⟩ := hf it (by simp)
    obtain ⟨hs, hgd, hx, es', ep', hdt, hsz, ent⟩ := frzN I hd
    obtain ⟨rfl, rfl⟩ := dict_ep hod hdt
    exact L2.next_key_end (I.ok.hd hc) st hgd hdt hsz hi fun h' eb => ⟨rfl, I.turned (t' := s.toks) (fun b ob hb e => eb b ob hb e) f0 f1 f3 f4 f5⟩
  self := fun A i s Q E st h => by
    refine wpAny_pyIter_slot st.typeIs F.slot_dict_keyiterator_iter (wpAny_call_entry F.slot_dict_keyiterator_iter st.typeIs F.entry_dict_keyiterator_iter ?_ (F.args_dict_keyiterator_iter_1 _))
    show wpAny _ _ (ret (.ref it)) _ _ s
    exact wpAny_pure ⟨_, rfl, "dict_keyiterator", _, st.typeIs, F.slot_dict_keyiterator_next.lookup, h⟩
theorem turn_nitems {L : NL} {elts : List Expr} {kk : Nat} {tpos : Pos} (it : Addr) (hod : o.data = .dict es ep) :
    Turn P w K (.Tuple elts kk tpos) (Itni w d o L) [it] it (fun i h => ∃ ok ov, IsItemIter h it d i L.length ep ok ov) where
  mem := by simp
  obj := fun i h st b hb => by
    have e : b = it := by simpa using hb
    subst e
    obtain ⟨ok, ov, e⟩ := st
    exact ⟨_, e, fun v z => nomatch z⟩
  keep := fun i h h' st k => let ⟨ok, ov, e⟩ := st; ⟨ok, ov, k it (by simp) _ e⟩
  item := by
    intro X hP hw hK hc i pins s σ H E I hf st hg
    subst hP hw hK
    obtain ⟨hd, hi⟩ := hg
    obtain ⟨hs, hgd, hx, es', ep', hdt, hsz, ent⟩ := frzN I hd
    obtain ⟨rfl, rfl⟩ := dict_ep hod hdt
    obtain ⟨q, hq⟩ : ∃ p, L[i]? = some p := ⟨L[i], List.getElem?_eq_getElem hi⟩
    obtain ⟨en, hen, hkey, hval⟩ := ent i q hq
    obtain ⟨ok, ov, he⟩ := st
    have hlt : it < s.heap.objs.size := Heap.lt_size he
    rw [← hsz] at he
    have hi' : i < es'.size := by omega
    have een : es'[i] = en := by rw [Array.getElem?_eq_getElem hi'] at hen; exact Option.some.inj hen
    refine wpAny_pyNext_items_item_raw he ⟨o, hgd, hx, hdt⟩ hi' fun h' ho hT hz hk => ?_
    rw [een] at ho hT
    refine ⟨_, rfl, wpAny_letOwnedTupleGo_items (s := { s with heap := h' }) ho fun h'' he' sb => ?_⟩
    have hT2 : h''.get? s.heap.objs.size = some { cls := .type "tuple", data := .seq #[en.key, en.val] } := (sb.2 _ (Nat.ne_of_gt hlt)).trans hT
    have new : ObjOk X.prog X.w (upd H s.heap.objs.size (.tup [.ref q.2.1, q.2.2])) h'' s.heap.objs.size (.tup [.ref q.2.1, q.2.2]) :=
      ⟨by show 2 ≤ sizeLine; decide, [en.key, en.val], .cons hkey (.cons hval .nil), ⟨_, hT2, rfl, _, rfl⟩⟩
    have I1 : Inv X pins σ (upd H s.heap.objs.size (.tup [.ref q.2.1, q.2.2])) { s with heap := h'' } :=
      I.turnedNew (t' := s.toks) (ch := [it]) (fun b ob hb e => (sb.2 b (by simpa using hb)).trans (hk b ob (by simpa using hb) e)) hf (Nat.le_refl _) new
    refine ⟨.ref s.heap.objs.size, _, I1, rfl, ⟨_, q, hq, rfl, I.hok.fresh (Nat.le_refl _), rfl⟩, ⟨en.key, en.val, ?_⟩, fun b hb => ?_⟩
    · rw [← hsz]; exact he'
    · have e : b = it := by simpa using hb
      rw [e, upd_ne (Nat.ne_of_lt hlt)]
      exact (hf it (by simp)).1
  done := by
    intro X hP hw hK hc i pins s σ H E I hf st hg
    subst hP hw hK
    obtain ⟨hd, hi⟩ := hg
    obtain ⟨f0, f1, f2, f3, f4, f5⟩ := hf it (by simp)
    obtain ⟨hs, hgd, hx, es', ep', hdt, hsz, ent⟩ := frzN I hd
    obtain ⟨rfl, rfl⟩ := dict_ep hod hdt
    obtain ⟨ok, ov, he⟩ := st
    rw [← hsz] at he
    exact wpAny_pyNext_items_end_raw (I.ok.hd hc) he ⟨o, hgd, hx, hdt⟩ (by omega) fun h' eb => ⟨rfl, I.turned (t' := s.toks) (fun b ob hb e => eb b ob hb e) f0 f1 f3 f4 f5⟩
  self := fun A i s Q E st h => let ⟨_, _, e⟩ := st; PySem.W.kcp_self e h
end
def iNKeys (w : World) (td : TE) : TI := fun σ H R => td σ H fun x H1 => ∃ d o L, x = .ref d ∧ H1 d = some (.frz o (NdO w d L)) ∧ R (Itnk w d o L) H1
def iNItems (w : World) (td : TE) : TI := fun σ H R => td σ H fun x H1 => ∃ d o L, x = .ref d ∧ H1 d = some (.frz o (NdO w d L)) ∧ R (Itni w d o L) H1
section
variable {X : Cx} {tg e : Expr} {td : TE} {apos cpos : Pos}
theorem pi_nkeys (he : PE X e td) : PI X tg e (iNKeys X.w td) := by
  refine ⟨fun pins s σ H R I h => ?_⟩
  refine thn (he.run pins s σ H _ I h) fun u s1 ⟨x, H1, I1, rx, d, o, L, ex, hd, q⟩ => ?_
  subst ex
  obtain rfl : u = Value.ref d := rx
  obtain ⟨hs, hgd, hx, es, ep, hdt, hsz, ent⟩ := frzN I1 hd
  refine L2.iter_keys hs hgd hx hdt (L2.pi_one (tk := s1.toks) I1 _ (turn_nkeys _ hdt) ⟨_, Heap.get?_push_size _ rfl, rfl, ?_⟩ q)
  rw [hsz] <;> rfl
theorem pi_nitems {elts : List Expr} {kk : Nat} {tpos : Pos} (he : PE X e td) (hbase : attributeBase e "items" X.env (eval e X.env) = eval e X.env := by rfl) (hline : (apos.endLine == cpos.line) = true := by rfl) :
    PI X (.Tuple elts kk tpos) (.Call (.Attribute e "items" apos) [] [] cpos) (iNItems X.w td) := by
  refine ⟨fun pins s σ H R I h => ?_⟩
  refine wpAny_Call_method (T := "dict") (id := "dict.items") hbase rfl hline F.plainAttrs_dict F.slot_dict_items F.type_dict_items (thn (he.run pins s σ H _ I h) fun u s1 ⟨x, H1, I1, rx, d, o, L, ex, hd, q⟩ => ?_)
  subst ex
  obtain rfl : u = Value.ref d := rx
  obtain ⟨hs, hgd, hx, es, ep, hdt, hsz, ent⟩ := frzN I1 hd
  have hT : s1.TypeIs (.ref d) "dict" := ⟨o, hgd, hx.1⟩
  refine ⟨hT, fun b z => by cases z; exact ⟨o, hgd, hx.2.1⟩, ?_⟩
  have I2 : Inv X pins σ H1 { s1 with heap := s1.heap.push { cls := .type "dict_items", data := .fields #[.ref d] } } := I1.kept (t' := s1.toks) fun b ob q => Heap.get?_push_of_some _ q
  have fin : wpAny (model X.prog X.w) X.A (pyIter (.ref s1.heap.objs.size)) (PIE X pins σ (.Tuple elts kk tpos) R) X.xe { s1 with heap := s1.heap.push { cls := .type "dict_items", data := .fields #[.ref d] } } := by
    refine wpAny_pyIter_items_raw (d := d) (es := es) (ep := ep) ⟨_, Heap.get?_push_size _ rfl, rfl, rfl⟩ ⟨o, Heap.get?_push_of_some _ hgd, hx, hdt⟩ (L2.pi_one (tk := s1.toks) I2 _ (turn_nitems _ hdt) ⟨.none, .none, ?_⟩ q)
    rw [hsz]
    exact Heap.get?_push_size _ rfl
  show wpAny _ _ (callWith cpos (.builtin "dict.items") [.ref d] [] []) _ X.xe s1
  exact method_meetsIn F.slot_dict_items F.entry_dict_items rfl (PySem.evalArgs_none ⟨rfl, hT, F.args_dict_items_1 _, _, meets_dict_items_raw d hs, ⟨es, ep, o, hgd, hx, hdt⟩, fin⟩)
end
/-! on values -/
def chkN (k : Nat) (lk : Obj × NL) (kvs : List (D × W)) (mu : Sto) : Prop := mu[k]? = some (.dn (some lk) kvs)
@[simp] def wNKeys (a : WE) : WI := fun rh mu Q => a rh mu fun x mu1 => match x with
  | .loc k => (match mu1[k]? with
    | some (.dn (some lk) kvs) => kvs.length ≤ sizeLine ∧ Q (kvs.map fun p => .d p.1) (chkN k lk kvs) mu1
    | _ => False)
  | _ => False
@[simp] def wNItems (a : WE) : WI := fun rh mu Q => a rh mu fun x mu1 => match x with
  | .loc k => (match mu1[k]? with
    | some (.dn (some lk) kvs) => kvs.length ≤ sizeLine ∧ Q (kvs.map fun p => mkTup [.d p.1, p.2]) (chkN k lk kvs) mu1
    | _ => False)
  | _ => False
section
variable {io : Type} {Y : io → Cx} {P : Program} {K : KW} {mg : Str → Option Value} {base : Heap} {N : List Str} {k : Nat} {pos p apos cpos tpos : Pos} {a tg : Expr} {wa : WE} {elts : List Expr} {kk : Nat}
theorem chkN_rep {G B F H : Hp} {al : List Addr} {mu : Sto} {l : Nat} {a : Addr} {lk : Obj × NL} {kvs : List (D × W)} (s : SRS K G B F H al mu) (ea : al[l]? = some a) (c : chkN l lk kvs mu) : H a = some (.frz lk.1 (NdO K.w a lk.2)) ∧ Paired (NPair K F al) kvs lk.2 := by
  obtain ⟨o, _, _, ho, cr⟩ := s.at c ea
  cases cr with
  | dn p => exact ⟨ho, p⟩
theorem vi_nkeys (y : YOk Y P K.w K mg base N k) (ha : VE Y K a wa) : VI Y K tg a (wNKeys wa) := by
  obtain ⟨t, p1, d1⟩ := ha
  refine ⟨iNKeys K.w t, fun i => by rw [← y.hw i]; exact pi_nkeys (p1 i), fun G B F H al rh si mu Qd R s h q => ?_⟩
  refine d1 G B F H al rh si mu _ _ s h fun F1 H1 al1 mu1 x vx e1 s1 r1 h1 => ?_
  split at h1
  · rename_i l
    split at h1
    · rename_i lk kvs ek
      obtain ⟨hz, h1⟩ := h1
      cases r1 with
      | loc ea =>
        obtain ⟨ho, pr⟩ := chkN_rep s1.s ea ek
        refine ⟨_, lk.1, lk.2, rfl, ho, q F1 H1 al1 mu1 _ _ _ e1 s1 ⟨by simpa using hz, ?_, ?_, ?_⟩ h1⟩
        · intro i x G' B' F' H' al' mu' ex s' c ei
          obtain ⟨ho', pr'⟩ := chkN_rep s' (ex.at ea) c
          have := (List.getElem?_eq_some_iff.mp ei).1
          exact ⟨ho', by rw [← Paired.length pr']; simpa using this⟩
        · intro i x G' B' F' H' al' mu' v H'' ex s' c ei yl
          obtain ⟨ho', pr'⟩ := chkN_rep s' (ex.at ea) c
          rw [List.getElem?_map] at ei
          cases e3 : kvs[i]? with
          | none => rw [e3] at ei; cases ei
          | some z =>
            rw [e3] at ei
            cases ei
            obtain ⟨q', hq, _, r3, _⟩ := pGetL pr' e3
            obtain ⟨rfl, q2, h2, rfl⟩ := yl
            rw [hq] at h2
            cases h2
            exact ⟨F', Ext.refl _ _, s', .d r3⟩
        · intro G' B' F' H' al' mu' ex s' c
          obtain ⟨ho', pr'⟩ := chkN_rep s' (ex.at ea) c
          exact ⟨ho', by rw [← Paired.length pr']; simp⟩
    · exact h1.elim
  · exact h1.elim
theorem vi_nitems (y : YOk Y P K.w K mg base N k) (ha : VE Y K a wa) (hbase : ∀ i, attributeBase a "items" (Y i).env (eval a (Y i).env) = eval a (Y i).env := by exact fun _ => rfl) (hline : (apos.endLine == cpos.line) = true := by rfl) : VI Y K (.Tuple elts kk tpos) (.Call (.Attribute a "items" apos) [] [] cpos) (wNItems wa) := by
  obtain ⟨t, p1, d1⟩ := ha
  refine ⟨iNItems K.w t, fun i => by rw [← y.hw i]; exact pi_nitems (p1 i) (hbase i) hline, fun G B F H al rh si mu Qd R s h q => ?_⟩
  refine d1 G B F H al rh si mu _ _ s h fun F1 H1 al1 mu1 x vx e1 s1 r1 h1 => ?_
  split at h1
  · rename_i l
    split at h1
    · rename_i lk kvs ek
      obtain ⟨hz, h1⟩ := h1
      cases r1 with
      | loc ea =>
        obtain ⟨ho, pr⟩ := chkN_rep s1.s ea ek
        refine ⟨_, lk.1, lk.2, rfl, ho, q F1 H1 al1 mu1 _ _ _ e1 s1 ⟨by simpa using hz, ?_, ?_, ?_⟩ h1⟩
        · intro i x G' B' F' H' al' mu' ex s' c ei
          obtain ⟨ho', pr'⟩ := chkN_rep s' (ex.at ea) c
          have := (List.getElem?_eq_some_iff.mp ei).1
          exact ⟨ho', by rw [← Paired.length pr']; simpa using this⟩
        · intro i x G' B' F' H' al' mu' v H'' ex s' c ei yl
          obtain ⟨ho', pr'⟩ := chkN_rep s' (ex.at ea) c
          rw [List.getElem?_map] at ei
          cases e3 : kvs[i]? with
          | none => rw [e3] at ei; cases ei
          | some z =>
            rw [e3] at ei
            cases ei
            obtain ⟨q', hq, _, r3, r4⟩ := pGetL pr' e3
            obtain ⟨T, q2, h2, rfl, hT, rfl⟩ := yl
            rw [hq] at h2
            cases h2
            exact tup2_new s' (.d r3) r4 hT
        · intro G' B' F' H' al' mu' ex s' c
          obtain ⟨ho', pr'⟩ := chkN_rep s' (ex.at ea) c
          exact ⟨ho', by rw [← Paired.length pr']; simp⟩
    · exact h1.elim
  · exact h1.elim
end
/-! ### locks -/
def lockV (l : Nat) (kvs : List (D × W)) (lk : Obj × NL) (V : EV) : EV where
  nx := fun rh' mu' => mu'[l]? = some (.dn (some lk) kvs) ∧ V.nx rh' (mu'.set l (.dn none kvs))
  rt := fun w mu' => mu'[l]? = some (.dn (some lk) kvs) ∧ V.rt w (mu'.set l (.dn none kvs))
  bk := fun rh' mu' => mu'[l]? = some (.dn (some lk) kvs) ∧ V.bk rh' (mu'.set l (.dn none kvs))
  ct := fun rh' mu' => mu'[l]? = some (.dn (some lk) kvs) ∧ V.ct rh' (mu'.set l (.dn none kvs))
/-- the container l is locked while f runs -/
def wLock (f : WS) : WS := fun V rh mu => ∃ l kvs, mu[l]? = some (.dn none kvs) ∧ ∀ lk : Obj × NL, f (lockV l kvs lk V) rh (mu.set l (.dn (some lk) kvs))
def wLockE (f : WE) : WE := fun rh mu Q => ∃ l kvs, mu[l]? = some (.dn none kvs) ∧ ∀ lk : Obj × NL, f rh (mu.set l (.dn (some lk) kvs)) fun w mu' => mu'[l]? = some (.dn (some lk) kvs) ∧ Q w (mu'.set l (.dn none kvs))
section
variable {K : KW} {G B F F' H H' : Hp} {al al' : List Addr} {mu mu' : Sto}
theorem srs_locked {l : Nat} {kvs : List (D × W)} (s : SRS K G B F H al mu) (e : mu[l]? = some (.dn none kvs)) : ∃ a L, al[l]? = some a ∧ H a = some (NdO K.w a L) ∧ Paired (NPair K F al) kvs L ∧ ∀ od, SRS K G B F (upd H a (.frz od (NdO K.w a L))) al (mu.set l (.dn (some (od, L)) kvs)) := by
  obtain ⟨a, o, ea, _, _, ho, cr⟩ := s.st l _ e
  cases cr with
  | dn p =>
    rename_i L
    exact ⟨a, L, ea, ho, p, fun od => s.put ea (CRep.dn (lk := some (od, L)) (L := L) p)⟩
theorem srs_unlocked {l : Nat} {a : Addr} {od : Obj} {L : NL} {kvs : List (D × W)} (s' : SRS K G B F' H' al' mu') (ea : al'[l]? = some a) (e : mu'[l]? = some (.dn (some (od, L)) kvs)) : H' a = some (.frz od (NdO K.w a L)) ∧ SRS K G B F' (upd H' a (NdO K.w a L)) al' (mu'.set l (.dn none kvs)) := by
  obtain ⟨o, _, _, ho, cr⟩ := s'.at e ea
  cases cr with
  | dn p => exact ⟨ho, s'.put ea (CRep.dn (lk := none) (L := L) p)⟩
end
section
variable {X : Cx} {P : Program} {K : KW} {mg : Str → Option Value} {base : Heap} {N : List Str} {k : Nat} {st : Stmt} {f : WS}
theorem ndMut {w : World} {a : Addr} {L : NL} : L2.Mut (some (NdO w a L)) := True.intro
theorem vs_lock (h : VS X K st f) : VS X K st (wLock f) := by
  obtain ⟨t, p, d⟩ := h
  refine ⟨L2.tLock t, L2.ps_lock p, fun G B F H al rh si mu V1 D1 s h b => ?_⟩
  obtain ⟨l, kvs, e, h⟩ := h
  obtain ⟨a, L, ea, ho, pr, lk⟩ := srs_locked s.s e
  refine ⟨a, NdO K.w a L, ho, ndMut, fun od => ?_⟩
  refine d G B F _ al rh si _ _ _ (s.step (Ext.refl _ _) (lk od)) (h (od, L)) ⟨?_, ?_, ?_, ?_⟩
  · intro F' H' al' rh' si' mu' x s' hh
    obtain ⟨u1, u2⟩ := srs_unlocked s'.s (x.at ea) hh.1
    exact ⟨u1, b.nx _ _ _ _ _ _ x (s'.step (Ext.refl _ _) u2) hh.2⟩
  · intro F' H' al' mu' w v x s' r hh
    obtain ⟨u1, u2⟩ := srs_unlocked s' (x.at ea) hh.1
    exact ⟨u1, b.rt _ _ _ _ _ _ x u2 r hh.2⟩
  · intro F' H' al' rh' si' mu' x s' hh
    obtain ⟨u1, u2⟩ := srs_unlocked s'.s (x.at ea) hh.1
    exact ⟨u1, b.bk _ _ _ _ _ _ x (s'.step (Ext.refl _ _) u2) hh.2⟩
  · intro F' H' al' rh' si' mu' x s' hh
    obtain ⟨u1, u2⟩ := srs_unlocked s'.s (x.at ea) hh.1
    exact ⟨u1, b.ct _ _ _ _ _ _ x (s'.step (Ext.refl _ _) u2) hh.2⟩
end
section
variable {io : Type} {Y : io → Cx} {K : KW} {e : Expr} {f : WE}
theorem ve_lock (h : VE Y K e f) : VE Y K e (wLockE f) := by
  obtain ⟨t, p, d⟩ := h
  refine ⟨L2.tLockE t, fun i => L2.pe_lock (p i), fun G B F H al rh si mu Qd Q s h q => ?_⟩
  obtain ⟨l, kvs, e, h⟩ := h
  obtain ⟨a, L, ea, ho, pr, lk⟩ := srs_locked s.s e
  refine ⟨a, NdO K.w a L, ho, ndMut, fun od => ?_⟩
  refine d G B F _ al rh si _ _ _ (s.step (Ext.refl _ _) (lk od)) (h (od, L)) fun F' H' al' mu' w v x s' r hh => ?_
  obtain ⟨u1, u2⟩ := srs_unlocked s'.s (x.at ea) hh.1
  exact ⟨u1, q _ _ _ _ _ _ x (s'.step (Ext.refl _ _) u2) r hh.2⟩
end
end VL
namespace VL
open PySem PySem.Spec PyProof.Rows L2 RZ
section
variable {K : KW} {G B F F' H H' : Hp} {al al' : List Addr} {mu mu' : Sto} {rh : Ev} {si : L2.St}
end
section
variable {io : Type} {Y : io → Cx} {P : Program} {w : World} {K : KW} {mg : Str → Option Value} {base : Heap} {N : List Str} {k : Nat} {cpos apos : Pos} {o e e2 : Expr} {es : List Expr} {wo : WE} {ga : WA}
end
end VL
namespace VL
open PySem PySem.Spec PyProof.Rows L2 RZ
/-! ### how a body is run -/
theorem seq_to {a b : WS} {V : EV} {rh : Ev} {mu : Sto} (rh' : Ev) (mu' : Sto) (h1 : ∀ K : Ev → Sto → Prop, K rh' mu' → a { V with nx := K } rh mu) (h2 : b V rh' mu') : wSeq a b V rh mu := h1 _ h2
theorem seq_R {a b : WS} {V : EV} {rh : Ev} {mu : Sto} (R : Ev → Sto → Prop) (h1 : ∀ K : Ev → Sto → Prop, (∀ rh' mu', R rh' mu' → K rh' mu') → a { V with nx := K } rh mu) (h2 : ∀ rh' mu', R rh' mu' → b V rh' mu') : wSeq a b V rh mu := h1 _ h2
theorem seq_do {a b : WS} {V : EV} {rh : Ev} {mu : Sto} (h : ∀ N, a { V with nx := N } rh mu) : wSeq a b V rh mu := h _
theorem seq_go {a b : WS} {V : EV} {rh : Ev} {mu : Sto} (h : a { V with nx := b V } rh mu) : wSeq a b V rh mu := h
theorem tup2_to {i j : Nat} {x y : D} {rh : Ev} {mu : Sto} {K : Ev → Sto → Prop} (h : K ((rh.set i (some (.d x))).set j (some (.d y))) mu) : wgTup 2 (wgCons (wgName i) (wgCons (wgName j) wgNil)) (W.d (.tup [x, y])) rh mu K := by simpa using h
theorem tup3_to {i j k : Nat} {x y z : D} {rh : Ev} {mu : Sto} {K : Ev → Sto → Prop} (h : K (((rh.set i (some (.d x))).set j (some (.d y))).set k (some (.d z))) mu) : wgTup 3 (wgCons (wgName i) (wgCons (wgName j) (wgCons (wgName k) wgNil))) (W.d (.tup [x, y, z])) rh mu K := by simpa using h
/-- a loop: what is left, and the state -/
theorem forL_S {A1 : Type} {chk : Sto → Prop} {g : WG} {b : WS} {V : EV} (f : A1 → W) (I : List A1 → Ev → Sto → Prop) (hc : ∀ xs rh mu, I xs rh mu → chk mu) (hend : ∀ rh mu, I [] rh mu → V.nx rh mu)
    (hs : ∀ x xs rh mu, I (x :: xs) rh mu → ∀ N : Ev → Sto → Prop, (∀ rh' mu', I xs rh' mu' → N rh' mu') → g (f x) rh mu fun rh' mu' => b { V with nx := N, ct := N, bk := V.nx } rh' mu') :
    ∀ {xs : List A1} {rh : Ev} {mu : Sto}, I xs rh mu → forL chk g b V (xs.map f) rh mu
  | [], _, _, h => ⟨hc _ _ _ h, hend _ _ h⟩
  | x :: xs, rh, mu, h => ⟨hc _ _ _ h, hs x xs _ _ h _ fun rh mu h1 => forL_S f I hc hend hs h1⟩
/-! ### expressions that change nothing: their value -/
abbrev Is (e : WE) (rh : Ev) (mu : Sto) (w : W) : Prop := ∀ K : W → Sto → Prop, K w mu → e rh mu K
abbrev IsB (t : WT) (rh : Ev) (mu : Sto) (b : Bool) : Prop := ∀ K : Bool → Sto → Prop, K b mu → t rh mu K
theorem ifS_to {c : WT} {f g : WS} {V : EV} {rh : Ev} {mu : Sto} (b : Bool) (h1 : IsB c rh mu b) (h2 : if b = true then f V rh mu else g V rh mu) : wIfS c f g V rh mu := h1 _ h2
theorem ifS_T {c : WT} {f g : WS} {V : EV} {rh : Ev} {mu : Sto} (h1 : IsB c rh mu true) (h2 : f V rh mu) : wIfS c f g V rh mu := h1 _ (by simpa using h2)
theorem ifS_F {c : WT} {f g : WS} {V : EV} {rh : Ev} {mu : Sto} (h1 : IsB c rh mu false) (h2 : g V rh mu) : wIfS c f g V rh mu := h1 _ (by simpa using h2)
theorem asg_to {e : WE} {i : Nat} {V : EV} {rh : Ev} {mu : Sto} (w : W) (h1 : Is e rh mu w) (h2 : V.nx (rh.set i (some w)) mu) : wAsg e (wgName i) V rh mu := h1 _ h2
theorem ret_to {e : WE} {V : EV} {rh : Ev} {mu : Sto} (w : W) (h1 : Is e rh mu w) (h2 : V.rt w mu) : wRet e V rh mu := h1 _ h2
theorem nput_to {o i v : WE} {V : EV} {rh : Ev} {mu : Sto} (l : Nat) (kvs : List (D × W)) (k : D) (u : W) (hv : Is v rh mu u) (ho : Is o rh mu (.loc l)) (hi : Is i rh mu (.d k)) (e : mu[l]? = some (.dn none kvs)) (hk : keyOk k = true) (hl : kvs.length < sizeLine)
    (h : V.nx rh (mu.set l (.dn none (putN kvs k u)))) : wNPut o i v V rh mu := hv _ (ho _ (hi _ (by simp only [e]; exact ⟨hk, hl, h⟩)))
theorem op_to {f : F2} {a b : WE} {rh : Ev} {mu : Sto} (x y z : W) (ha : Is a rh mu x) (hb : Is b rh mu y) (h : ∀ K : W → Sto → Prop, K z mu → f mu x y K) : Is (wOp f a b) rh mu z := fun K hK => ha _ (hb _ (h K hK))
theorem tup2_is {a b : WE} {rh : Ev} {mu : Sto} {x y : D} (ha : Is a rh mu (.d x)) (hb : Is b rh mu (.d y)) : Is (wTup (wCons a (wCons b wNil))) rh mu (.d (.tup [x, y])) := fun K hK => ha _ (hb _ ⟨by simp [sizeLine_eq], hK⟩)
theorem ix_lst {a b : WE} {rh : Ev} {mu : Sto} {ds : List D} {i : Int} {d : D} (ha : Is a rh mu (.d (.lst ds))) (hb : Is b rh mu (.d (.int i))) (h : atI ds i = some d) : Is (wOp fIx a b) rh mu (.d d) := op_to _ _ _ ha hb fun K hK => ⟨d, h, hK⟩
/-- comprehensions over any list of items: with a test, without -/
theorem lc_A0 {A1 : Type} {chk : Sto → Prop} {g : WG} {tt : WT} {te : WE} {rh : Ev} {mu : Sto} {Q : List W → Sto → Prop} (f : A1 → W) (r : A1 → Option W) (hc : chk mu) : ∀ {xs : List A1} {acc : List W},
    (∀ x ∈ xs, ∀ (A : W → Sto → Prop) (B : Sto → Prop), (match r x with | some y => A y mu | none => B mu) → g (f x) rh mu fun rh' mu1 => tt rh' mu1 fun b mu2 => if b = true then te rh' mu2 A else B mu2) →
    Q (acc ++ xs.filterMap r) mu → lcL chk g tt te rh (xs.map f) acc mu Q
  | [], acc, _, h => ⟨hc, by simpa using h⟩
  | x :: xs, acc, H, h => by
    refine ⟨hc, H x (by simp) _ _ ?_⟩
    split
    · rename_i y e
      refine lc_A0 f r hc (fun z hz => H z (by simp [hz])) ?_
      rw [List.filterMap_cons, e] at h
      simpa using h
    · rename_i e
      refine lc_A0 f r hc (fun z hz => H z (by simp [hz])) ?_
      rw [List.filterMap_cons, e] at h
      exact h
theorem lc_A {A1 : Type} {chk : Sto → Prop} {g : WG} {te : WE} {rh : Ev} {mu : Sto} {Q : List W → Sto → Prop} (f : A1 → W) (r : A1 → W) (hc : chk mu) {xs : List A1}
    (H : ∀ x ∈ xs, ∀ A : W → Sto → Prop, A (r x) mu → g (f x) rh mu fun rh' mu1 => te rh' mu1 A) (h : Q (xs.map r) mu) : lcL chk g wYes te rh (xs.map f) [] mu Q :=
  lc_A0 f (fun x => some (r x)) hc (fun x hx A B q => by simpa using H x hx A q) (by simpa using h)
theorem lc_AF {A1 : Type} {chk : Sto → Prop} {g : WG} {tt : WT} {te : WE} {rh : Ev} {mu : Sto} {Q : List W → Sto → Prop} (f : A1 → W) (p : A1 → Bool) (r : A1 → W) (hc : chk mu) {xs : List A1}
    (H : ∀ x ∈ xs, ∀ (A : W → Sto → Prop) (B : Sto → Prop), (if p x = true then A (r x) mu else B mu) → g (f x) rh mu fun rh' mu1 => tt rh' mu1 fun b mu2 => if b = true then te rh' mu2 A else B mu2) (h : Q ((xs.filter p).map r) mu) : lcL chk g tt te rh (xs.map f) [] mu Q :=
  lc_A0 f (fun x => if p x = true then some (r x) else none) hc (fun x hx A B q => H x hx A B (by by_cases c : p x = true <;> simp [c] at q ⊢ <;> exact q)) (by
    have e : xs.filterMap (fun x => if p x = true then some (r x) else none) = (xs.filter p).map r := by
      clear H h
      induction xs with
      | nil => rfl
      | cons x xs ih =>
        rw [List.filterMap_cons]
        by_cases c : p x = true
        · simp [c, ih]
        · simp [c, ih]
    rw [List.nil_append, e]; exact h)
/-! ### locks -/
theorem set_back {A1 : Type} {xs : List A1} {i : Nat} {x y : A1} (h : xs[i]? = some x) : (xs.set i y).set i x = xs := by
  rw [List.set_set]
  exact List.ext_getElem? fun j => by
    by_cases c : i = j
    · subst c
      obtain ⟨hl, e⟩ := List.getElem?_eq_some_iff.mp h
      rw [List.getElem?_set_self hl, h]
    · rw [List.getElem?_set_ne c]
theorem set_at {A1 : Type} {xs : List A1} {i : Nat} {x y : A1} (h : xs[i]? = some x) : (xs.set i y)[i]? = some y := List.getElem?_set_self (List.getElem?_eq_some_iff.mp h).1
theorem lockE_is {f : WE} {rh : Ev} {mu : Sto} {w : W} {l : Nat} {kvs : List (D × W)} (e : mu[l]? = some (.dn none kvs)) (h : ∀ lk, Is f rh (mu.set l (.dn (some lk) kvs)) w) : Is (wLockE f) rh mu w :=
  fun K hK => ⟨l, kvs, e, fun lk => h lk _ ⟨set_at e, by rw [set_back e]; exact hK⟩⟩
theorem for_lstM {A1 : Type} {a : WE} {g : WG} {b : WS} {V : EV} {rh : Ev} {mu : Sto} {xs : List A1} {f : A1 → D} (h : Is a rh mu (.d (.lst (xs.map f)))) (h2 : forL (fun _ => True) g b V (xs.map fun x => .d (f x)) rh mu) : wFor (wSeqI a) g b V rh mu := h _ (by
  show forL _ _ _ _ ((xs.map f).map W.d) _ _
  rw [List.map_map]; exact h2)
end VL
namespace VL
open PySem PySem.Spec PyProof.Rows L2 RZ
/-! ### o.f as a target, within a tuple too -/
end VL
namespace VL
open PySem PySem.Spec PyProof.Rows L2 RZ
/-! ### defs with defaults -/
section
variable {P : Program} {w : World} {K : KW} {mg : Str → Option Value} {base : Heap}
end
end VL
namespace VL
open PySem PySem.Spec PyProof.Rows L2
/-! ### t < u of two rows (ints and texts of one signature) -/
section
variable {io : Type} {Y : io → Cx} {P : Program} {w : World} {K : KW} {mg : Str → Option Value} {base : Heap} {N : List Str} {k : Nat}
end
end VL
namespace VL
open PySem PySem.Spec PyProof.Rows L2 RZ
/-! ### walks over the keys of dicts of ints and texts, under a lock -/
section
variable {io : Type} {Y : io → Cx} {P : Program} {K : KW} {mg : Str → Option Value} {base : Heap} {N : List Str} {k : Nat} {pos p apos cpos tpos : Pos} {a tg : Expr} {wa : WE} {elts : List Expr} {kk : Nat}
end
/-! ### locks -/
section
variable {K : KW} {G B F F' H H' : Hp} {al al' : List Addr} {mu mu' : Sto}
end
section
variable {X : Cx} {P : Program} {K : KW} {mg : Str → Option Value} {base : Heap} {N : List Str} {k : Nat} {st : Stmt} {f : WS}
end
section
variable {io : Type} {Y : io → Cx} {K : KW} {e : Expr} {f : WE}
end
/-! dicts of texts to sets -/
end VL
namespace VL
open PySem PySem.Spec PyProof.Rows L2 RZ
/-! ### sorted(..) of a dict with tuples as keys -/
def RawD (d : Addr) (es : Array DictEntry) (ep : Nat) (h : Heap) : Prop := ∃ o, h.get? d = some o ∧ o.ExactDict ∧ o.data = .dict es ep
theorem RawD.push {d : Addr} {es : Array DictEntry} {ep : Nat} {h : Heap} (r : RawD d es ep h) (o : Obj) : RawD d es ep (h.push o) := let ⟨u, e, q⟩ := r; ⟨u, Heap.get?_push_of_some _ e, q⟩
section
variable {prog : Program} {w : World}
theorem walks_raw {A : Around} (hh : A.handled = none) (I d : Addr) (hne : d ≠ I) (es : Array DictEntry) (ep : Nat) :
    PySem.Walks prog w A I [I, d] [I] es.size (fun i v => ∃ en, es[i]? = some en ∧ v = en.key) (fun i h => h.IsKeyIter I d i es.size ep ∧ RawD d es ep h) where
  sub := fun b hb => by simp at hb; simp [hb]
  frame := fun _ _ _ st hk => ⟨st.1.at fun o e => hk I (by simp) o e, let ⟨o, e, r⟩ := st.2; ⟨o, hk d (by simp) o e, r⟩⟩
  item := fun i s Q E hi st hQ => by
    obtain ⟨o, ho, hc, hd⟩ := st.2
    refine L2.next_key_item st.1 ho hd rfl (Array.getElem?_eq_getElem hi) fun h' hit' hs' => ?_
    exact hQ _ h' s.toks ⟨_, Array.getElem?_eq_getElem hi, rfl⟩ ⟨hit', o, hs'.extBut _ _ hne ho, hc, hd⟩ fun b o hb e => hs'.extBut b o (fun h => hb (by simp [h])) e
  done := fun s Q E st hQ => by
    obtain ⟨o, ho, hc, hd⟩ := st.2
    exact L2.next_key_end hh st.1 ho hd rfl (Nat.le_refl _) fun h' he' => hQ h' s.toks fun b o hb e => he' b o (fun h => hb (by simp [h])) e
  self := fun _ _ _ _ st hQ => PySem.wpAny_pyIter_keyiter st.1 hQ
theorem src_raw {d : Addr} {es : Array DictEntry} {ep : Nat} (lo : (d == sysModules) = false) : PySem.W.KdlSrc prog w "dict" d d es.size (fun i v => ∃ en, es[i]? = some en ∧ v = en.key) (RawD d es ep) where
  type := fun _ ⟨o, ho, hc, _⟩ => ⟨o, ho, hc.1⟩
  there := fun _ ⟨o, ho, _⟩ => ⟨Heap.lt_size ho, Heap.lt_size ho⟩
  keep := fun _ _ ⟨o, ho, r⟩ hk => ⟨o, hk d (.inl rfl) o ho, r⟩
  notList := by decide
  notTuple := by decide
  hint := fun _ _ _ _ ⟨o, ho, hc, _⟩ hq => PySem.W.kdl_hint_dict ⟨o, ho, hc.1⟩ hq
  iter := fun _ _ hh ⟨o, ho, hc, hd⟩ => ⟨_, _, (fun _ _ hq => L2.iter_keys lo ho hc hd hq), walks_raw hh _ d (Nat.ne_of_lt (Heap.lt_size ho)) es ep, ⟨⟨_, Heap.get?_push_size _ rfl, rfl, rfl⟩, RawD.push ⟨o, ho, hc, hd⟩ _⟩⟩
end
def rSortedN (K : PySem.W.Frag) (w : World) : List V → Hp → L2.VK → Prop := fun vs H Q => ∃ (a : Addr) (L : NL) (rs : List (List Key)) (R : V → List Key → Prop) (sg : List Bool), vs = [V.ref a] ∧ Rd H a (NdO w a L) ∧
  Paired (fun q r => R (.ref q.2.1) r ∧ SqT K H q.2.1 (r.map kV) ∧ RowSig sg r) L rs ∧ ∀ ys p, Paired R ys (srtL rs) → H p = none → Q (.ref p) (upd H p (.lst ys))
section
variable {X : Cx}
theorem paired_L {A1 B1 C1 : Type} {R : A1 → B1 → Prop} (f : A1 → C1) : ∀ {xs : List A1} {rs : List B1} {S : C1 → B1 → Prop}, Paired R xs rs → (∀ x r, R x r → S (f x) r) → Paired S (xs.map f) rs
  | _, _, _, .nil, _ => .nil
  | _, _, _, .cons h t, e => .cons (e _ _ h) (paired_L f t e)
open Classical in
theorem cr_sortedN (hcalm : X.calm = true) : CallR X (.builtin "sorted") (rSortedN X.K X.w) := by
  intro pins s σ H vs us Q I r h
  obtain ⟨a, L, rs, R, sg, rfl, hs, hx, q⟩ := h
  obtain ⟨u, rfl, ru⟩ := vals1 r
  obtain rfl : u = Value.ref a := ru
  obtain ⟨⟨⟨lo, z, nd⟩, ents, pe, o, es, ep, ho, hc, hdat, he⟩, _, _⟩ := hs.ok I.hok
  have l1 : es.size = ents.length := by rw [← Array.length_toList, he, List.length_map]
  have l2 : L.length = ents.length := Paired.length pe
  obtain ⟨xs, exs⟩ : ∃ xs : List V, xs = L.map fun q => V.ref q.2.1 := ⟨_, rfl⟩
  have hx1 : Paired (fun x r => R x r ∧ (∃ t, x = V.ref t ∧ SqT X.K H t (r.map kV)) ∧ RowSig sg r) xs rs := by
    rw [exs]
    exact paired_L _ hx fun q r h => ⟨h.1, ⟨_, rfl, h.2.1⟩, h.2.2⟩
  have hx0 := paired_in hx1
  let kv : Value → List Key := fun v => if h : ∃ ks, IsRow s.heap v ks then h.choose else []
  have row : ∀ {t : Addr} {ks : List Key}, SqT X.K H t (ks.map kV) → IsRow s.heap (.ref t) ks := fun {t ks} ht => by
    obtain ⟨us, r2, ⟨o, ho, hc, n, hd⟩, _⟩ := I.tuple ht
    exact ⟨t, o, us.toArray, n, rfl, ho, hc, hd, by simpa using vals_keys r2⟩
  have kve : ∀ {v : Value} {ks : List Key}, IsRow s.heap v ks → kv v = ks := fun {v ks} h => by
    have hex : ∃ ks, IsRow s.heap v ks := ⟨ks, h⟩
    show (if h : ∃ ks, IsRow s.heap v ks then h.choose else []) = ks
    rw [dif_pos hex]
    exact isRow_inj hex.choose_spec h
  let vv : V → Value := fun v => match v with | .ref t => .ref t | _ => .none
  let k : V → List Key := fun v => kv (vv v)
  have kR : ∀ x r, (R x r ∧ (∃ t, x = V.ref t ∧ SqT X.K H t (r.map kV)) ∧ RowSig sg r) → k x = r := fun x r h => by
    obtain ⟨_, ⟨t, rfl, ht⟩, _⟩ := h
    exact kve (row ht)
  refine Calls.call_function_entry PyProof.Rows.kind_sorted PyProof.Rows.plain_sorted PyProof.Rows.entry_sorted (PyProof.Rows.args_sorted1 _) ?_
  unfold Builtin.«sorted»
  refine wpAny_bind (m := checkCount "sorted" 1 1 _) (wpAny_pure ?_)
  refine wpAny_bind (PySem.W.kdu_collect (A := X.A.in1) (src_raw (es := es) (ep := ep) lo) (I.ok.hd hcalm) ⟨o, ho, hc, hdat⟩ (by omega) fun h' tk acc hk hacc => ?_)
  have eacc : acc.toList = L.map fun q => Value.ref q.2.1 := by
    refine List.ext_getElem? fun i => ?_
    rw [Array.getElem?_toList, List.getElem?_map]
    by_cases c : i < es.size
    · obtain ⟨v, hv⟩ : ∃ v, acc[i]? = some v := ⟨acc[i]'(by rw [hacc.1]; exact c), Array.getElem?_eq_getElem _⟩
      obtain ⟨en, hen, rfl⟩ := hacc.2 i v hv
      obtain ⟨q', hq'⟩ : ∃ q', L[i]? = some q' := ⟨L[i]'(by omega), List.getElem?_eq_getElem _⟩
      obtain ⟨b, hb, e1, e2, e3⟩ := L2.paired_get pe hq'
      have e4 : es[i]? = some (entN X.w b) := by rw [← Array.getElem?_toList, he, List.getElem?_map, hb]; rfl
      rw [hen] at e4
      cases e4
      rw [hv, hq']
      show some (Value.ref b.2.1) = some (Value.ref q'.2.1)
      rw [e2]
    · rw [Array.getElem?_eq_none (by rw [hacc.1]; omega), List.getElem?_eq_none (by omega)]; rfl
  have hal : acc.toList.length ≤ sizeLine := by rw [eacc, List.length_map]; exact z
  have I1 : Inv X pins σ H { s with heap := h', toks := tk } := I.kept hk
  refine wpAny_bind (wpAny_newList ?_ hal)
  have hoL : (h'.push (seqObj "list" acc.toList.toArray 0)).get? h'.objs.size = some (seqObj "list" acc.toList.toArray 0) := Heap.get?_push_size _ rfl
  show wpAny _ _ _ _ _ { s with heap := h'.push (seqObj "list" acc.toList.toArray 0), toks := tk }
  have e1 : ∀ v ∈ acc.toList, ∃ t, v = Value.ref t ∧ V.ref t ∈ xs := fun v hv => by
    rw [eacc] at hv
    obtain ⟨q', hq', rfl⟩ := List.mem_map.mp hv
    exact ⟨_, rfl, by rw [exs]; exact List.mem_map.mpr ⟨q', hq', rfl⟩⟩
  have hrow : ∀ v ∈ acc.toList, IsRow (h'.push (seqObj "list" acc.toList.toArray 0)) v (kv v) ∧ RowSig sg (kv v) := fun v hv => by
    obtain ⟨t, rfl, hm⟩ := e1 v hv
    obtain ⟨r, _, _, ⟨t', e, ht⟩, hg⟩ := hx0 _ hm
    cases e
    have h3 := row ht
    rw [kve h3]
    exact ⟨h3.keeps fun b o e _ => Heap.get?_push_of_some _ (hk b o e), hg⟩
  refine wpAny_bind (wpAny_holding (wpAny_call_entry PyProof.Rows.slot_list_sort ⟨_, hoL, rfl⟩ PyProof.Rows.entry_list_sort
    (SrtO.list_sort_ord (s := { s with heap := h'.push (seqObj "list" acc.toList.toArray 0), toks := tk }) (swo_row kv) hoL hal (fun h2 => rows_sortable (by omega) hrow fun o e => ?_) fun out h1 h2 => ⟨_, rfl, ?_⟩)
    (PyProof.Rows.args_list_sort _)))
  · rw [hoL] at e
    cases e
    intro c
    exact absurd (Value.type.inj c) (by decide)
  have h3 : ∀ u ∈ out, ∃ a, u = Value.ref a := fun u hu => by
    obtain ⟨t, e, _⟩ := e1 u (h2.perm.mem_iff.mp hu)
    exact ⟨t, e⟩
  have hp : (out.map backV).Perm xs := by
    have h4 := h2.perm.map backV
    rw [eacc, List.map_map] at h4
    rw [exs]
    exact h4
  have hkk : (out.map backV).map k = out.map kv := by
    rw [List.map_map]
    refine List.map_congr_left fun u hu => ?_
    obtain ⟨t, rfl⟩ := h3 u hu
    rfl
  have hr : xs.map k = rs := paired_map hx1 kR
  have hsr : (out.map backV).map k = srtL rs := by
    refine srtL_eq ?_ ?_
    · rw [← hr]; exact hp.map k
    · rw [hkk, List.pairwise_map]
      exact h1.imp fun h => by unfold leL; simpa using h
  obtain ⟨e', he'⟩ := PyProof.Rows.sortedHeap_at (vs := acc.toList) (out := out.toArray) hoL
  have hlen : (out.map backV).length ≤ sizeLine := by
    rw [hp.length_eq, exs, List.length_map]; exact z
  refine wpAny_pure ⟨_, rfl, .ref h'.objs.size, upd H h'.objs.size (.lst (out.map backV)), I1.laid (t' := tk) (fun b u e => ?_) (Nat.le_refl _) ⟨hlen, out, e', vals_back h3, he'⟩, rfl, q _ h'.objs.size ?_ (I1.hok.fresh (Nat.le_refl _))⟩
  · have hb : b < h'.objs.size := Heap.lt_size e
    rw [PyProof.Rows.sortedHeap_old (Nat.ne_of_lt hb) (by rw [size_push']; exact Nat.lt_succ_of_lt hb)]
    exact Heap.get?_push_of_some _ e
  · rw [← hsr]
    refine paired_of k fun y hy => ?_
    obtain ⟨r, _, h4⟩ := hx0 y (hp.mem_iff.mp hy)
    rw [kR _ _ h4]
    exact h4.1
end
def fSortedN (o : Bool) : FC := fun mu ws Q => match ws with
  | [x] => (match getN mu x with
    | some kvs => (match rowsOf (kvs.map (·.1)) with
      | some rs => rs.length ≤ sizeLine ∧ (∃ sg, ∀ r ∈ rs, RowSig sg r) ∧ newL o ((srtL rs).map rowD) mu Q
      | none => False)
    | none => False)
  | _ => False
theorem repRowsN {K : KW} {F H : Hp} {al : List Addr} (hs : Same F H) {sg : List Bool} : ∀ {kvs : List (D × W)} {L : NL} {rs : List (List Key)}, Paired (NPair K F al) kvs L → kvs.map (·.1) = rs.map rowD → (∀ r ∈ rs, RowSig sg r) →
    Paired (fun q r => RepD K F (rowD r) (V.ref q.2.1) ∧ SqT K H q.2.1 (r.map kV) ∧ RowSig sg r) L rs
  | [], [], rs, .nil, e, _ => by
    cases rs with
    | nil => exact .nil
    | cons r rs => simp at e
  | p :: kvs, q :: L, rs, .cons h t, e, hg => by
    cases rs with
    | nil => simp at e
    | cons r rs =>
      simp only [List.map_cons, List.cons.injEq] at e
      obtain ⟨_, h2, _⟩ := h
      rw [e.1] at h2
      refine .cons ⟨h2, ?_, hg r (by simp)⟩ (repRowsN hs t e.2 fun z hz => hg z (by simp [hz]))
      generalize q.2.1 = b at h2
      cases h2 with
      | tup s z rd =>
        rw [repKs rd] at s
        exact sqtMono hs s
theorem cd_sortedN {K : KW} (o : Bool) : CallD K (rSortedN K.k K.w) (fSortedN o) := fun G B F H al rh si mu ws vs Qd Q s r0 h q => by
  unfold fSortedN at h
  split at h
  · rename_i x
    obtain ⟨v, rfl, r1⟩ := pair1 r0
    split at h
    · rename_i kvs eN
      obtain ⟨l, a, lk, L, rfl, ek, ea, rfl, hR, _, pr⟩ := dn_rep s.s r1 eN
      split at h
      · rename_i rs er
        have ed := rowsOf_eq er
        obtain ⟨hz0, ⟨sg, hsg⟩, h⟩ := h
        have hz : L.length ≤ sizeLine := by
          have h1 := Paired.length pr
          have h2 := congrArg List.length ed
          simp only [List.length_map] at h2
          omega
        refine ⟨a, L, rs, fun x r => RepD K F (rowD r) x, sg, rfl, hR, repRowsN s.s.fz pr ed hsg, fun ys p hp hn => ?_⟩
        have hl : ys.length = L.length := by
          rw [Paired.length hp, srtL_len]
          have h1 := Paired.length pr
          have h2 := congrArg List.length ed
          simp only [List.length_map] at h2
          omega
        exact newL_ok (K := K) s (paired_flip hp) (by rw [hl]; exact hz) h q p hn
      · exact h.elim
    · exact h.elim
  · exact h.elim
section
variable {io : Type} {Y : io → Cx} {P : Program} {K : KW} {mg : Str → Option Value} {base : Heap} {N : List Str} {k : Nat} {pos p : Pos} {e : Expr} {es : List Expr} {ga : WA}
theorem ve_sortedN (y : YOk Y P K.w K mg base N k) (o : Bool) (hm : mg "sorted" = none) (ha : VA Y K (e :: es) ga) (hg : ∀ j, Gl (Y j) "sorted" := by exact fun _ => rfl) (he : ∀ i, starEach (e :: es) (Y i).env = (false, eval e (Y i).env) :: starEach es (Y i).env := by exact fun _ => rfl) (hpl : ∀ i, (backTo pos (starEach es (Y i).env)).any (·.1) = false := by exact fun _ => rfl) : VE Y K (.Call (.Name "sorted" p) (e :: es) [] pos) (wCall (fSortedN o) ga) :=
  ve_callB y (fun i => by rw [← y.hK i, ← y.hw i]; exact cr_sortedN (y.calm i)) (cd_sortedN o) hm (by decide +kernel) ha hg (he := he) (hpl := hpl)
end
/-! ### is True, is not True -/
@[simp] def fIsB (neg : Bool) : F2 := fun mu x y Q => match x, y with
  | .d (.bl a), .d (.bl b) => Q (.d (.bl (if neg = true then !(decide (a = b)) else decide (a = b)))) mu
  | _, _ => False
section
variable {K : KW}
theorem opd_isB : OpD K (fun x y H Q => ∃ a b, x = .bl a ∧ y = .bl b ∧ Q (.bl (decide (a = b))) H) (fIsB false) := fun G B F H al rh si mu x y vx vy Qd Q s r1 r2 h q => by
  unfold fIsB at h
  split at h
  · cases r1 with
    | d r1 =>
      cases r1
      cases r2 with
      | d r2 =>
        cases r2
        exact ⟨_, _, rfl, rfl, q F H al mu _ _ (Ext.refl _ _) s (.d (.bl _)) h⟩
  · exact h.elim
end
section
variable {io : Type} {Y : io → Cx} {P : Program} {w : World} {K : KW} {mg : Str → Option Value} {base : Heap} {N : List Str} {k : Nat}
theorem c_isB (y : YOk Y P w K mg base N k) : CmpK Y K .Is (fIsB false) := .mk (fun i => L2.op_is_bl) opd_isB
end
/-! ### store promises with six arguments -/
@[simp] def sS6 (g : W → W → W → W → W → W → Sto → (W → Sto → Prop) → Prop) : VSp := fun ws mu Q => match ws with
  | [a, b, c, d, e, f] => g a b c d e f mu Q
  | _ => False
theorem lenS6 {g} {ws : List W} {mu : Sto} {Q} (h : sS6 g ws mu Q) : ws.length = 6 := by
  unfold sS6 at h
  split at h
  · rfl
  · exact h.elim
theorem atS6 {g} {f : WS} {N : List Str} (v : ∀ a b c d e f' mu Q, g a b c d e f' mu Q → f (evr Q) (startE N [a, b, c, d, e, f']) mu) : ∀ ws mu Q, sS6 g ws mu Q → f { nx := fun _ mu => Q (.d .non) mu, rt := Q } (startE N ws) mu := fun ws mu Q h => by
  unfold sS6 at h
  split at h
  · exact v _ _ _ _ _ _ _ _ h
  · exact h.elim
/-! ### comprehensions whose test makes containers -/
theorem lc_S {A1 : Type} {chk : Sto → Prop} {g : WG} {tt : WT} {te : WE} {rh : Ev} {Q : List W → Sto → Prop} (f : A1 → W) (I : List A1 → List W → Sto → Prop) (hc : ∀ xs acc mu, I xs acc mu → chk mu) (hend : ∀ acc mu, I [] acc mu → Q acc mu)
    (hs : ∀ x xs acc mu, I (x :: xs) acc mu → ∀ (A : W → Sto → Prop) (B : Sto → Prop), (∀ y mu', I xs (acc ++ [y]) mu' → A y mu') → (∀ mu', I xs acc mu' → B mu') → g (f x) rh mu fun rh' mu1 => tt rh' mu1 fun b mu2 => if b = true then te rh' mu2 A else B mu2) :
    ∀ {xs : List A1} {acc : List W} {mu : Sto}, I xs acc mu → lcL chk g tt te rh (xs.map f) acc mu Q
  | [], _, _, h => ⟨hc _ _ _ h, hend _ _ h⟩
  | x :: xs, acc, mu, h => ⟨hc _ _ _ h, hs x xs acc mu h _ _ (fun y mu' h' => lc_S f I hc hend hs h') fun mu' h' => lc_S f I hc hend hs h'⟩
end VL
namespace VL
open PySem PySem.Spec PyProof.Rows L2 RZ
@[simp] theorem band_nat (a b : Nat) : Builtin.bitAnd (a : Int) (b : Int) = ((a &&& b : Nat) : Int) := by simp [Builtin.bitAnd]
@[simp] theorem bor_nat (a b : Nat) : Builtin.bitOr (a : Int) (b : Int) = ((a ||| b : Nat) : Int) := by
  unfold Builtin.bitOr
  rw [bitAnd_nn (by unfold Builtin.bitNot; omega) (by unfold Builtin.bitNot; omega), bitNot_bitNot, bitNot_bitNot, bitNot_bitNot]
  simp
theorem xor_and_or : ∀ (n a b : Nat), a ≤ n → (a ^^^ b) + (a &&& b) = a ||| b := by
  intro n
  induction n with
  | zero => intro a b h; obtain rfl : a = 0 := by omega
            simp
  | succ n ih =>
    intro a b h
    by_cases ha : a = 0
    · subst ha; simp
    have q := ih (a / 2) (b / 2) (by omega)
    have d1 : (a ^^^ b) / 2 = (a / 2) ^^^ (b / 2) := by simpa using Nat.xor_div_two_pow (a := a) (b := b) (n := 1)
    have d2 : (a &&& b) / 2 = (a / 2) &&& (b / 2) := by simpa using Nat.and_div_two_pow (a := a) (b := b) (n := 1)
    have d3 : (a ||| b) / 2 = (a / 2) ||| (b / 2) := by simpa using Nat.or_div_two_pow (a := a) (b := b) (n := 1)
    have m1 : (a ^^^ b).testBit 0 = (a.testBit 0 ^^ b.testBit 0) := Nat.testBit_xor ..
    have m2 : (a &&& b).testBit 0 = (a.testBit 0 && b.testBit 0) := Nat.testBit_and ..
    have m3 : (a ||| b).testBit 0 = (a.testBit 0 || b.testBit 0) := Nat.testBit_or ..
    simp only [Nat.testBit_zero] at m1 m2 m3
    rw [← d1, ← d2, ← d3] at q
    generalize a ^^^ b = x at *
    generalize a &&& b = y at *
    generalize a ||| b = z at *
    rcases Nat.mod_two_eq_zero_or_one a with ea | ea <;> rcases Nat.mod_two_eq_zero_or_one b with eb | eb <;> simp [ea, eb] at m1 m2 m3 <;> omega
@[simp] theorem bxor_nat (a b : Nat) : Builtin.bitXor (a : Int) (b : Int) = ((a ^^^ b : Nat) : Int) := by
  unfold Builtin.bitXor
  rw [bor_nat, band_nat]
  have := xor_and_or a a b (Nat.le_refl _)
  omega
theorem nat_bit (f k : Nat) : (f / 2 ^ k % 2 = 1) ↔ f.testBit k = true := by
  rw [Nat.testBit_eq_decide_div_mod_eq]; simp
theorem int_bit (f k : Nat) : ((f : Int) / 2 ^ k % 2 = 1) ↔ f.testBit k = true := by
  rw [← nat_bit]
  have : ((f : Int) / 2 ^ k % 2) = ((f / 2 ^ k % 2 : Nat) : Int) := by simp
  rw [this]; omega
theorem int_bit0 (f k : Nat) : ((f : Int) / 2 ^ k % 2 = 0) ↔ f.testBit k = false := by
  have h := int_bit f k
  cases e : f.testBit k <;> rw [e] at h <;> simp at h ⊢ <;> omega
/-- an edge -/
def Edge (xs : List Nat) (j k : Nat) : Prop := ∃ x, xs[j]? = some x ∧ x.testBit k = true
inductive Path (xs : List Nat) : Nat → Nat → Prop
  | refl (i : Nat) : Path xs i i
  | step {i j k : Nat} : Path xs i j → Edge xs j k → Path xs i k
theorem Path.head {xs : List Nat} {i j k : Nat} (e : Edge xs i j) (p : Path xs j k) : Path xs i k := by
  induction p with
  | refl => exact .step (.refl _) e
  | step _ e' ih => exact .step ih e'
def IsReach (xs : List Nat) (r w : Nat) : Prop := ∀ j, w.testBit j = true ↔ ∃ i, r.testBit i = true ∧ Path xs i j
theorem IsReach.uniq {xs : List Nat} {r w w' : Nat} (h : IsReach xs r w) (h' : IsReach xs r w') : w = w' :=
  Nat.eq_of_testBit_eq fun j => by rw [Bool.eq_iff_iff, h j, h' j]
theorem IsReach.closed {xs : List Nat} {r w : Nat} (h : IsReach xs r w) {i j : Nat} (hi : w.testBit i = true) (e : Edge xs i j) : w.testBit j = true := by
  obtain ⟨a, ha, p⟩ := (h i).mp hi
  exact (h j).mpr ⟨a, ha, .step p e⟩
end VL
namespace VL
open PySem PySem.Spec PyProof.Rows L2 RZ
/-! ### tables: tuples of a number, a text and a set -/
abbrev TRow := Nat × Str × Nat
abbrev Tab := List TRow
def tKey (h : Nat) (w : Str) : D := .tup [.int (h : Nat), .str w]
def trD (r : TRow) : D := .tup [.int (r.1 : Nat), .str r.2.1, .int (r.2.2 : Nat)]
def trK (r : TRow) : List Key := [.inl (r.1 : Nat), .inr r.2.1, .inl (r.2.2 : Nat)]
def tN (T : Tab) : List (D × W) := T.map fun r => (tKey r.1 r.2.1, .d (.int (r.2.2 : Nat)))
def tGet : Tab → Nat → Str → Option Nat
  | [], _, _ => none
  | (a, b, c) :: r, h, w => if a = h ∧ b = w then some c else tGet r h w
def tPut : Tab → Nat → Str → Nat → Tab
  | [], h, w, v => [(h, w, v)]
  | (a, b, c) :: r, h, w, v => if a = h ∧ b = w then (a, b, v) :: r else (a, b, c) :: tPut r h w v
abbrev tOf (T : Tab) (h : Nat) (w : Str) : Nat := (tGet T h w).getD 0
@[simp] theorem keyOk_t (h : Nat) (w : Str) : keyOk (tKey h w) = true := by simp [tKey]
theorem keq_t (a h : Nat) (b w : Str) : keq (tKey a b) (tKey h w) = true ↔ a = h ∧ b = w := by
  simp only [keq, tKey, deqv_tup_tup, deqvs, deqv_int_int, deqv_str_str, Bool.and_true, Bool.and_eq_true, beq_iff_eq]
  constructor
  · rintro ⟨h1, h2⟩; exact ⟨by omega, h2⟩
  · rintro ⟨h1, h2⟩; exact ⟨by omega, h2⟩
theorem valN_t (T : Tab) (h : Nat) (w : Str) : valN (tN T) (tKey h w) = (tGet T h w).map fun v => .d (.int (v : Nat)) := by
  induction T with
  | nil => rfl
  | cons r T ih =>
    obtain ⟨a, b, c⟩ := r
    show (if keq (tKey a b) (tKey h w) = true then _ else valN (tN T) (tKey h w)) = _
    rw [ih, tGet]
    by_cases q : a = h ∧ b = w
    · rw [if_pos ((keq_t _ _ _ _).mpr q), if_pos q]; rfl
    · rw [if_neg fun z => q ((keq_t _ _ _ _).mp z), if_neg q]
theorem putN_t (T : Tab) (h : Nat) (w : Str) (v : Nat) : putN (tN T) (tKey h w) (.d (.int (v : Nat))) = tN (tPut T h w v) := by
  induction T with
  | nil => rfl
  | cons r T ih =>
    obtain ⟨a, b, c⟩ := r
    show (if keq (tKey a b) (tKey h w) = true then _ else _ :: putN (tN T) (tKey h w) _) = _
    rw [ih, tPut]
    by_cases q : a = h ∧ b = w
    · rw [if_pos ((keq_t _ _ _ _).mpr q), if_pos q]; rfl
    · rw [if_neg fun z => q ((keq_t _ _ _ _).mp z), if_neg q]; rfl
theorem tN_len (T : Tab) : (tN T).length = T.length := by simp [tN]
theorem tPut_len (T : Tab) (h : Nat) (w : Str) (v : Nat) : (tPut T h w v).length ≤ T.length + 1 := by
  induction T with
  | nil => simp [tPut]
  | cons r T ih => obtain ⟨a, b, c⟩ := r; rw [tPut]; split <;> simp; exact ih
def tKeys (T : Tab) : List (Nat × Str) := T.map fun r => (r.1, r.2.1)
theorem tGet_mem {T : Tab} {h : Nat} {w : Str} {v : Nat} (e : tGet T h w = some v) : (h, w, v) ∈ T := by
  induction T with
  | nil => cases e
  | cons r T ih =>
    obtain ⟨a, b, c⟩ := r
    rw [tGet] at e
    split at e
    · rename_i q; obtain ⟨rfl, rfl⟩ := q; cases e; simp
    · simp [ih e]
theorem tGet_of {T : Tab} (nd : (tKeys T).Nodup) {h : Nat} {w : Str} {v : Nat} (e : (h, w, v) ∈ T) : tGet T h w = some v := by
  induction T with
  | nil => cases e
  | cons r T ih =>
    obtain ⟨a, b, c⟩ := r
    rw [tKeys, List.map_cons, List.nodup_cons] at nd
    rw [tGet]
    rcases List.mem_cons.mp e with q | q
    · cases q; simp
    · rw [if_neg, ih nd.2 q]
      rintro ⟨rfl, rfl⟩
      exact nd.1 (List.mem_map.mpr ⟨_, q, rfl⟩)
theorem tGet_none {T : Tab} {h : Nat} {w : Str} (e : tGet T h w = none) : ∀ r ∈ T, ¬ (r.1 = h ∧ r.2.1 = w) := by
  induction T with
  | nil => simp
  | cons r T ih =>
    obtain ⟨a, b, c⟩ := r
    rw [tGet] at e
    split at e
    · cases e
    · rename_i q
      intro z hz
      rcases List.mem_cons.mp hz with rfl | hz
      · exact q
      · exact ih e z hz
theorem tGet_perm {T T' : Tab} (p : T.Perm T') (nd : (tKeys T).Nodup) (h : Nat) (w : Str) : tGet T h w = tGet T' h w := by
  have nd' : (tKeys T').Nodup := (p.map _).nodup_iff.mp nd
  cases e : tGet T h w with
  | some v => rw [tGet_of nd' (p.mem_iff.mp (tGet_mem e))]
  | none =>
    cases e' : tGet T' h w with
    | none => rfl
    | some v =>
      have := tGet_none e _ (p.mem_iff.mpr (tGet_mem e'))
      exact absurd ⟨rfl, rfl⟩ this
theorem tPut_keys {T : Tab} {h : Nat} {w : Str} {v : Nat} : tKeys (tPut T h w v) = if (h, w) ∈ tKeys T then tKeys T else tKeys T ++ [(h, w)] := by
  induction T with
  | nil => simp [tPut, tKeys]
  | cons r T ih =>
    obtain ⟨a, b, c⟩ := r
    rw [tPut]
    by_cases q : a = h ∧ b = w
    · rw [if_pos q]
      obtain ⟨rfl, rfl⟩ := q
      simp [tKeys]
    · rw [if_neg q]
      have e1 : tKeys ((a, b, c) :: tPut T h w v) = (a, b) :: tKeys (tPut T h w v) := rfl
      have e2 : tKeys ((a, b, c) :: T) = (a, b) :: tKeys T := rfl
      rw [e1, e2, ih]
      by_cases m : (h, w) ∈ tKeys T
      · rw [if_pos m, if_pos (List.mem_cons_of_mem _ m)]
      · rw [if_neg m, if_neg]
        · rfl
        · intro z
          rcases List.mem_cons.mp z with z | z
          · injection z with z1 z2; exact q ⟨z1.symm, z2.symm⟩
          · exact m z
theorem tPut_nodup {T : Tab} (nd : (tKeys T).Nodup) (h : Nat) (w : Str) (v : Nat) : (tKeys (tPut T h w v)).Nodup := by
  rw [tPut_keys]
  split
  · exact nd
  · rename_i m
    rw [List.nodup_append]
    exact ⟨nd, by simp, fun a ha b hb e => by subst e; simp at hb; subst hb; exact m ha⟩
theorem tPut_mem {T : Tab} {h : Nat} {w : Str} {v : Nat} {r : TRow} (hr : r ∈ tPut T h w v) : r ∈ T ∨ r = (h, w, v) := by
  induction T with
  | nil => simp [tPut] at hr; exact .inr hr
  | cons p T ih =>
    obtain ⟨a, b, c⟩ := p
    rw [tPut] at hr
    split at hr
    · rename_i q
      obtain ⟨rfl, rfl⟩ := q
      rcases List.mem_cons.mp hr with z | z
      · exact .inr z
      · exact .inl (by simp [z])
    · rcases List.mem_cons.mp hr with z | z
      · exact .inl (by simp [z])
      · rcases ih z with z | z
        · exact .inl (by simp [z])
        · exact .inr z
theorem tGet_put (T : Tab) (h : Nat) (w : Str) (v : Nat) (h' : Nat) (w' : Str) : tGet (tPut T h w v) h' w' = if h = h' ∧ w = w' then some v else tGet T h' w' := by
  induction T with
  | nil => simp [tPut, tGet]
  | cons p T ih =>
    obtain ⟨a, b, c⟩ := p
    rw [tPut]
    by_cases q : a = h ∧ b = w
    · rw [if_pos q]
      obtain ⟨rfl, rfl⟩ := q
      rw [tGet, tGet]
      split <;> rfl
    · rw [if_neg q, tGet, ih, tGet]
      by_cases z : a = h' ∧ b = w'
      · rw [if_pos z, if_pos z, if_neg]
        rintro ⟨rfl, rfl⟩; exact q z
      · rw [if_neg z, if_neg z]
/-! sorted -/
def unK : List Key → TRow
  | [.inl a, .inr b, .inl c] => (a.toNat, b, c.toNat)
  | _ => (0, Str.ofString "", 0)
theorem unK_K (r : TRow) : unK (trK r) = r := by obtain ⟨a, b, c⟩ := r; simp [unK, trK]
def srtT (T : Tab) : Tab := (srtL (T.map trK)).map unK
theorem srtT_perm (T : Tab) : (srtT T).Perm T := by
  have h := (srtL_perm (T.map trK)).map unK
  rw [List.map_map] at h
  have e : (unK ∘ trK) = id := funext unK_K
  rw [e, List.map_id] at h
  exact h
theorem srtL_tab (T : Tab) : srtL (T.map trK) = (srtT T).map trK := by
  unfold srtT
  rw [List.map_map]
  refine ((List.map_congr_left fun x hx => ?_).trans (List.map_id _)).symm
  obtain ⟨r, _, rfl⟩ := List.mem_map.mp (srtL_mem.mp hx)
  show trK (unK (trK r)) = trK r
  rw [unK_K]
def tabL (T : Tab) : List D := (srtT T).map trD
theorem tab_rows (T : Tab) : (srtL (T.map trK)).map rowD = tabL T := by
  rw [srtL_tab, List.map_map]; rfl
theorem tab_sig (T : Tab) : ∃ sg, ∀ r ∈ T.map trK, RowSig sg r := ⟨[false, true], fun r hr => by obtain ⟨z, _, rfl⟩ := List.mem_map.mp hr; rfl⟩
theorem rowsOf_tab (T : Tab) : rowsOf (T.map trD) = some (T.map trK) := by
  have e : T.map trD = (T.map trK).map rowD := by rw [List.map_map]; rfl
  rw [e, rowsOf_map]
/-! what rows keep -/
def keepsT (T : Tab) (rows : Nat) (kind : Str) : Nat := T.foldl (fun acc r => if r.2.1 = kind ∧ rows.testBit r.1 = true then acc ||| r.2.2 else acc) 0
theorem keeps_bit0 (rows : Nat) (kind : Str) (j : Nat) : ∀ (T : Tab) (acc : Nat), (T.foldl (fun acc r => if r.2.1 = kind ∧ rows.testBit r.1 = true then acc ||| r.2.2 else acc) acc).testBit j = true ↔ acc.testBit j = true ∨ ∃ r ∈ T, r.2.1 = kind ∧ rows.testBit r.1 = true ∧ r.2.2.testBit j = true
  | [], acc => by simp
  | r :: T, acc => by
    rw [List.foldl_cons, keeps_bit0 rows kind j T]
    by_cases c : r.2.1 = kind ∧ rows.testBit r.1 = true
    · rw [if_pos c]
      simp only [Nat.testBit_or, Bool.or_eq_true, List.mem_cons, exists_eq_or_imp]
      constructor
      · rintro ((h | h) | h)
        · exact .inl h
        · exact .inr (.inl ⟨c.1, c.2, h⟩)
        · exact .inr (.inr h)
      · rintro (h | ⟨_, _, h⟩ | h)
        · exact .inl (.inl h)
        · exact .inl (.inr h)
        · exact .inr h
    · rw [if_neg c]
      simp only [List.mem_cons, exists_eq_or_imp]
      constructor
      · rintro (h | h)
        · exact .inl h
        · exact .inr (.inr h)
      · rintro (h | ⟨h1, h2, _⟩ | h)
        · exact .inl h
        · exact absurd ⟨h1, h2⟩ c
        · exact .inr h
theorem keeps_bit {T : Tab} {rows : Nat} {kind : Str} {j : Nat} : (keepsT T rows kind).testBit j = true ↔ ∃ r ∈ T, r.2.1 = kind ∧ rows.testBit r.1 = true ∧ r.2.2.testBit j = true := by
  unfold keepsT
  rw [keeps_bit0]; simp
theorem nat_bits {n m : Nat} (h : ∀ j, n.testBit j = true ↔ m.testBit j = true) : n = m := Nat.eq_of_testBit_eq fun j => Bool.eq_iff_iff.mpr (h j)
theorem sortedR_own {T : Tab} {mu : Sto} {Q : W → Sto → Prop} (h : Q (.loc mu.length) (mu ++ [.lst (tabL T)])) : fSortedR true mu [.d (.lst (T.map trD))] Q := by
  simp only [fSortedR, lsD, rowsOf_tab, newL, if_true]
  refine ⟨tab_sig T, ?_⟩
  rw [tab_rows]; exact h
theorem int_bitB (f k : Nat) : ((f : Int) / 2 ^ k % 2 == 1) = f.testBit k := by
  rw [Bool.eq_iff_iff, beq_iff_eq]; exact int_bit f k
@[simp] theorem tN_shift (T : Tab) (n : Nat) : (tN T).map (fun p => (p.1, shiftW n p.2)) = tN T := by
  unfold tN
  rw [List.map_map]
  exact List.map_congr_left fun r _ => rfl
@[simp] theorem tN_inj {T T' : Tab} : tN T = tN T' ↔ T = T' := by
  constructor
  · intro h
    refine (List.map_inj_right fun a b hab => ?_).mp h
    obtain ⟨a1, a2, a3⟩ := a
    obtain ⟨b1, b2, b3⟩ := b
    simp [tKey] at hab
    obtain ⟨⟨h1, h2⟩, h3⟩ := hab
    have e1 : a1 = b1 := by omega
    have e3 : a3 = b3 := by omega
    rw [e1, h2, e3]
  · rintro rfl; rfl
theorem shl63 {k : Nat} (h : k ≤ 63) : CShl 1 (k : Int) := by
  refine ⟨by omega, ?_⟩
  have : Builtin.Int.intBits 1 = 1 := by decide
  omega
end VL
namespace VL
open PySem PySem.Spec PyProof.Rows L2 RZ
@[simp] def k_LETTERS : D := .str "abcdefghijklmnopqrstuvwxyz"
def isLet (c : Nat) : Bool := decide (c ∈ (Str.ofString "abcdefghijklmnopqrstuvwxyz").cps.toList)
def nameOk (s : Str) : Bool := decide (1 ≤ s.length) && decide (s.length ≤ 8) && s.cps.toList.all isLet
def numOk (n : Int) : Bool := decide (-1000000000000000000000000000000 ≤ n) && decide (n < 1000000000000000000000000000000)
def nameD : D → Bool
  | .str s => nameOk s
  | _ => false
def numD : D → Bool
  | .int n => numOk n
  | _ => false
def operD (x : D) : Bool := nameD x || numD x
def fieldD : D → Bool
  | .str s => Txt.startswith s (Str.ofString ".") && nameOk (cutS s (some 1) none)
  | _ => false
/-- what may be asked: no script -/
def plainD : D → Prop
  | .scr _ => False
  | _ => True
@[simp] def p_is_name : D → (W → Sto → Prop) → Prop := fun x Q => plainD x ∧ Q (.d (.bl (nameD x))) []
def w_is_name : WS := (wSeq (wIfS (wOr (wNot (wTru (wCall fIsi (wCons (wVar 0) (wCons (wTy "str") wNil))))) (wOr (wTest (wOp (fB0 fun i j => decide (i < j)) (wCall fLen (wCons (wVar 0) wNil)) (wC (.int 1)))) (wTest (wOp (fB0 fun i j => decide (j < i)) (wCall fLen (wCons (wVar 0) wNil)) (wC (.int 8)))))) (wRet (wC (.bl false))) wNext)
    (wRet (wCall (fAny true) (wCons (wLc false (wStrI (wVar 0)) (wgName 1) wYes (wOp (fInS false) (wVar 1) (wC k_LETTERS)) [1]) wNil))))
@[simp] def sp_is_name : PSp := sp1 p_is_name
def letB : D → D
  | .str z => .bl (subS z (Str.ofString "abcdefghijklmnopqrstuvwxyz"))
  | _ => .non
theorem signs_D (s : Str) : List.map (fun c => W.d (D.str ⟨#[c]⟩)) s.cps.toList = (s.cps.toList.map fun c => D.str ⟨#[c]⟩).map W.d := by simp
theorem v_is_name : ∀ a Q, p_is_name a Q → w_is_name (evr Q) (startE ["thing", "sign"] [.d a]) [] := by
  intro a Q h
  obtain ⟨hp, h⟩ := h
  cases a with
  | str s =>
    simp [w_is_name]
    by_cases h1 : 1 ≤ s.length
    · by_cases h2 : s.length ≤ 8
      · rw [if_neg (by omega), if_neg (by omega), signs_D]
        refine lc_M letB trivial (fun x hx A q => ?_) ?_
        · simp at hx
          obtain ⟨c, _, rfl⟩ := hx
          simpa [letB] using q
        · simp only [asDs_map]
          simp [fAny]
          refine ⟨s.cps.toList.map isLet, ?_, ?_⟩
          · simp [letB, isLet, Function.comp_def]
          · simpa [nameD, nameOk, h1, h2, Function.comp_def, List.all_map] using h
      · rw [if_neg (by omega), if_pos (by omega)]
        simpa [nameD, nameOk, h2] using h
    · rw [if_pos (by omega)]
      simpa [nameD, nameOk, h1] using h
  | _ => simp [w_is_name, nameD] at h ⊢; exact h
@[simp] def p_is_field : D → (W → Sto → Prop) → Prop := fun x Q => plainD x ∧ Q (.d (.bl (fieldD x))) []
def w_is_field : WS := (wRet (wAndV (wCall fIsi (wCons (wVar 0) (wCons (wTy "str") wNil))) (wAndV (wM1 fStarts (wVar 0) (wC (.str "."))) (wCallP false sp_is_name [] (wCons (wSl false (wVar 0) (wPart (wC (.int 1))) wNoPart) wNil)))))
@[simp] def sp_is_field : PSp := sp1 p_is_field
theorem v_is_field : ∀ a Q, p_is_field a Q → w_is_field (evr Q) (startE ["thing"] [.d a]) [] := by
  intro a Q h
  obtain ⟨hp, h⟩ := h
  cases a with
  | str s =>
    simp [w_is_field, fieldD] at h ⊢
    cases e : Txt.startswith s (Str.ofString ".") <;> simp [e, onBl, nameD, plainD] at h ⊢ <;> exact h
  | _ => simp [w_is_field, fieldD, onBl] at h ⊢; exact h
/-- the names among some data -/
def namesOf : List D → List Str
  | [] => []
  | .str s :: r => if nameOk s then s :: namesOf r else namesOf r
  | _ :: r => namesOf r
theorem namesOf_len : ∀ xs : List D, (namesOf xs).length ≤ xs.length
  | [] => by simp [namesOf]
  | x :: r => by
    have := namesOf_len r
    cases x with
    | str s =>
      rw [namesOf]
      split
      · simp only [List.length_cons]; omega
      · simp only [List.length_cons]; omega
    | _ => simp only [namesOf, List.length_cons]; omega
def plainDs (xs : List D) : Prop := ∀ x ∈ xs, plainD x
def allOpD : D → Bool
  | .tup xs => decide (xs.length ≤ 4) && xs.all operD
  | _ => false
/-! the classes -/
def rowCls : List String := ["Row", "Bare", "Def", "Give", "While", "Fail", "Set", "New", "Put", "Do", "Get", "Call"]
def okBare (xs : List D) : Bool := ((xs.length : Int) == 1)
def okDef : List D → Bool
  | [_, n, .tup ys] => nameD n && (allOpD (.tup ys) && (((setS (namesOf ys)).length : Int) == (ys.length : Int)))
  | _ => false
def okGive : List D → Bool
  | [_, x] => operD x
  | _ => false
def okName : List D → Bool
  | [_, x] => nameD x
  | _ => false
def okPut : List D → Bool
  | [_, n, x] => nameD n && operD x
  | _ => false
def okSet : List D → Bool
  | [_, n, k, x] => nameD n && ((fieldD k || operD k) && operD x)
  | _ => false
def reckW (x : D) : Bool := inD x [.str (Str.ofString "plus"), .str (Str.ofString "minus"), .str (Str.ofString "times"), .str (Str.ofString "over"), .str (Str.ofString "rest"), .str (Str.ofString "less"), .str (Str.ofString "same")]
def okDo : List D → Bool
  | [_, n, a, o, b] => nameD n && (reckW o && (operD a && operD b))
  | _ => false
def okGet : List D → Bool
  | [_, n, r, k] => nameD n && (nameD r && (fieldD k || operD k))
  | _ => false
def okCall : List D → Bool
  | [_, n, f, ops] => nameD n && (nameD f && allOpD ops)
  | _ => false
/-- the class of a word -/
def clsOf (w : Str) : String :=
  if w = Str.ofString "def" then "Def" else if w = Str.ofString "give" ∨ w = Str.ofString "if" then "Give" else if w = Str.ofString "put" then "Put" else if w = Str.ofString "do" then "Do" else if w = Str.ofString "new" then "New"
  else if w = Str.ofString "get" then "Get" else if w = Str.ofString "set" then "Set" else if w = Str.ofString "call" then "Call" else if w = Str.ofString "fail" then "Fail" else if w = Str.ofString "while" then "While"
  else if w = Str.ofString "else" ∨ w = Str.ofString "end" ∨ w = Str.ofString "skip" then "Bare" else "Row"
theorem clsOf_in (w : Str) : clsOf w ∈ rowCls := by
  unfold clsOf
  repeat (first | (split; · simp [rowCls]) | simp [rowCls])
/-- whether parts are a row -/
def rowOk (xs : List D) : Bool := match xs with
  | .str w :: _ =>
    let c := clsOf w
    if c = "Bare" then okBare xs else if c = "Def" then okDef xs else if c = "Give" ∨ c = "While" then okGive xs else if c = "Fail" ∨ c = "New" then okName xs else if c = "Set" then okSet xs
    else if c = "Put" then okPut xs else if c = "Do" then okDo xs else if c = "Get" then okGet xs else if c = "Call" then okCall xs else false
  | _ => false
/-- parts as one may ask of them -/
structure RowIn (w : Str) (ps : List D) : Prop where
  pl : plainDs ps
  few : ps.length < 60
  inn : ∀ x ∈ ps, ∀ ys, x = .tup ys → plainDs ys ∧ ys.length < 64
  fl : ∀ o, w = Str.ofString "do" → ps[2]? = some o → flatD o = true
end VL
namespace VL
open PySem PySem.Spec PyProof.Rows L2 RZ
/-! what shapes rows have -/
theorem reck_str {o : D} (h : reckW o = true) : ∃ z, o = .str z := by
  cases o with
  | str z => exact ⟨z, rfl⟩
  | scr ns => simp [reckW, deqv] at h
  | _ => simp [reckW] at h
end VL
namespace VL
open PySem PySem.Spec PyProof.Rows L2 RZ
def optD : Option Nat → D
  | none => .non
  | some k => .int (k : Nat)
def natsL (xs : List Nat) : List D := xs.map fun n => .int (n : Nat)
/-- what shape knows -/
structure ShS where
  heads : List (Option Nat)
  ends : List (Option Nat)
  elses : List (Option Nat)
  homes : List (Option Nat)
  stack : List Nat
def ShS.start (n : Nat) : ShS := ⟨List.replicate n none, List.replicate n none, List.replicate n none, List.replicate n none, []⟩
def shC (mu : Sto) (s : ShS) : Sto := mu ++ [.lst (s.heads.map optD), .lst (s.ends.map optD), .lst (s.elses.map optD), .lst (s.homes.map optD), .lst (natsL s.stack)]
/-- the five things that shape does with the row at place k, of the word w -/
def topS (k : Nat) (s : ShS) : ShS := match s.stack.getLast?, s.stack.head? with
  | some j, some i => { s with heads := s.heads.set k (some j), homes := s.homes.set k (some i) }
  | _, _ => s
def defS (k : Nat) (w : Str) (s : ShS) : ShS := if w = Str.ofString "def" then { s with homes := s.homes.set k (some k) } else s
def elseS (k : Nat) (w : Str) (s : ShS) : Option ShS := if w = Str.ofString "else" then (match s.stack.getLast? with
    | some j => some { s with elses := s.elses.set j (some k) }
    | none => none) else some s
def footS (k : Nat) (w : Str) (s : ShS) : Option ShS := if w = Str.ofString "give" ∨ w = Str.ofString "end" then (match s.stack.getLast? with
    | some j => some { s with ends := s.ends.set j (some k), stack := s.stack.dropLast }
    | none => none) else some s
def pushS (k : Nat) (w : Str) (s : ShS) : ShS := if w = Str.ofString "def" ∨ w = Str.ofString "if" ∨ w = Str.ofString "while" then { s with stack := s.stack ++ [k] } else s
def stepS (k : Nat) (w : Str) (s : ShS) : Option ShS := ((elseS k w (defS k w (topS k s))).bind (footS k w)).map (pushS k w)
def wordR : D → Option Str
  | .tup (.str w :: _) => some w
  | _ => none
def runS : Nat → List D → ShS → Option ShS
  | _, [], s => some s
  | k, r :: rs, s => match wordR r with
    | some w => match stepS k w s with
      | some s' => runS (k + 1) rs s'
      | none => none
    | none => none
@[simp] def p_shape : W → Sto → (W → Sto → Prop) → Prop := fun a mu Q => ∃ (rows : List D) (s : ShS), a = .d (.lst rows) ∧ rows.length ≤ 1000 ∧ runS 0 rows (.start rows.length) = some s ∧
  Q (.tup [.loc mu.length, .loc (mu.length + 1), .loc (mu.length + 2), .loc (mu.length + 3)]) (shC mu s)
structure ShOk (n k : Nat) (s : ShS) : Prop where
  l1 : s.heads.length = n
  l2 : s.ends.length = n
  l3 : s.elses.length = n
  l4 : s.homes.length = n
  st : ∀ j ∈ s.stack, j < k
  sl : s.stack.length ≤ k
theorem ShOk.top {n k : Nat} {s : ShS} (h : ShOk n k s) : ShOk n k (topS k s) := by
  unfold topS
  split
  · exact ⟨by simp [h.l1], h.l2, h.l3, by simp [h.l4], h.st, h.sl⟩
  · exact h
theorem ShOk.deff {n k : Nat} {w : Str} {s : ShS} (h : ShOk n k s) : ShOk n k (defS k w s) := by
  unfold defS
  split
  · exact ⟨h.l1, h.l2, h.l3, by simp [h.l4], h.st, h.sl⟩
  · exact h
theorem ShOk.els {n k : Nat} {w : Str} {s s' : ShS} (h : ShOk n k s) (e : elseS k w s = some s') : ShOk n k s' := by
  unfold elseS at e
  split at e
  · split at e
    · injection e with e; subst e; exact ⟨h.l1, h.l2, by simp [h.l3], h.l4, h.st, h.sl⟩
    · cases e
  · injection e with e; subst e; exact h
theorem ShOk.foot {n k : Nat} {w : Str} {s s' : ShS} (h : ShOk n k s) (e : footS k w s = some s') : ShOk n k s' := by
  unfold footS at e
  split at e
  · split at e
    · injection e with e; subst e
      exact ⟨h.l1, by simp [h.l2], h.l3, h.l4, fun j hj => h.st j (List.dropLast_subset _ hj), by have := h.sl; simp; omega⟩
    · cases e
  · injection e with e; subst e; exact h
theorem ShOk.push {n k : Nat} {w : Str} {s : ShS} (h : ShOk n k s) : ShOk n (k + 1) (pushS k w s) := by
  unfold pushS
  split
  · refine ⟨h.l1, h.l2, h.l3, h.l4, fun j hj => ?_, by have := h.sl; simp; omega⟩
    rcases List.mem_append.mp hj with hj | hj
    · have := h.st j hj; omega
    · have := List.mem_singleton.mp hj; omega
  · exact ⟨h.l1, h.l2, h.l3, h.l4, fun j hj => by have := h.st j hj; omega, by have := h.sl; omega⟩
theorem at_lastS {A1 : Type} (xs : List A1) (x : A1) : atI (xs ++ [x]) (-1) = some x := by
  unfold atI ixN
  rw [if_neg (by omega), if_pos (by simp; omega)]
  show (xs ++ [x])[_]? = _
  have : ((-1 : Int) + ((xs ++ [x]).length : Nat)).toNat = xs.length := by simp; omega
  rw [this]; simp
def w_shape : WS := (wSeq (wAsg (wLc false (wSeqI (wVar 0)) (wgName 2) wYes (wC .non) [2]) (wgName 1))
    (wSeq (wAsg (wCall (fList true) (wCons (wVar 1) wNil)) (wgName 3))
    (wSeq (wAsg (wCall (fList true) (wCons (wVar 1) wNil)) (wgName 4))
    (wSeq (wAsg (wCall (fList true) (wCons (wVar 1) wNil)) (wgName 5))
    (wSeq (wAsg (wCall (fList true) (wCons (wVar 1) wNil)) (wgName 6))
    (wSeq (wAsg (wLst true wNil) (wgName 7))
    (wSeq (wFor (wEnum (wCons (wVar 0) wNil)) (wgTup 2 (wgCons (wgName 8) (wgCons (wgName 2) wgNil))) (wSeq (wAsg (wOp fIx (wVar 2) (wC (.int 0))) (wgName 9))
    (wSeq (wIfS (wTest (wOp (fEq true) (wVar 7) (wLst false wNil))) (wSeq (wAsg (wOp fIx (wVar 7) (wUn (fun i => -i) (wC (.int 1)))) (wgSub fSetL (wVar 3) (wVar 8)))
    (wAsg (wOp fIx (wVar 7) (wC (.int 0))) (wgSub fSetL (wVar 6) (wVar 8)))) wNext)
    (wSeq (wIfS (wTest (wOp (fEq false) (wVar 9) (wC (.str "def")))) (wAsg (wVar 8) (wgSub fSetL (wVar 6) (wVar 8))) wNext)
    (wSeq (wIfS (wTest (wOp (fEq false) (wVar 9) (wC (.str "else")))) (wAsg (wVar 8) (wgSub fSetL (wVar 5) (wOp fIx (wVar 7) (wUn (fun i => -i) (wC (.int 1)))))) wNext)
    (wSeq (wIfS (wOr (wTest (wOp (fEq false) (wVar 9) (wC (.str "give")))) (wTest (wOp (fEq false) (wVar 9) (wC (.str "end"))))) (wAsg (wVar 8) (wgSub fSetL (wVar 4) (wBM fPop (wVar 7) wNil))) wNext)
    (wIfS (wOr (wTest (wOp (fEq false) (wVar 9) (wC (.str "def")))) (wOr (wTest (wOp (fEq false) (wVar 9) (wC (.str "if")))) (wTest (wOp (fEq false) (wVar 9) (wC (.str "while")))))) (wDrop (wBM fApp (wVar 7) (wCons (wVar 8) wNil))) wNext)))))))
    (wRet (wTup (wCons (wVar 3) (wCons (wVar 4) (wCons (wVar 5) (wCons (wVar 6) wNil)))))))))))))
@[simp] def sp_shape : VSp := sS1 p_shape
theorem v_shape : ∀ a mu Q, p_shape a mu Q → w_shape (evr Q) (startE ["program", "nothing", "row", "heads", "ends", "elses", "homes", "stack", "place", "word"] [a]) mu := by
  intro a mu Q h
  obtain ⟨rows, s, rfl, hl, hr, h⟩ := h
  simp [w_shape, sizeLine_eq]
  refine lc_M (fun _ => .non) trivial (fun x hx A q => by simpa using q) ?_
  simp only [asDs_map]
  have en : rows.map (fun _ => D.non) = (List.replicate rows.length none).map optD := by rw [List.map_replicate]; exact List.map_const' ..
  refine forL_rem (fun items rh mu' => ∃ (k : Nat) (ys : List D) (s1 : ShS) (a b c : Option W), items = enumW k (ys.map W.d) ∧ rh = [some (W.d (D.lst rows)), some (W.d (D.lst (rows.map fun _ => D.non))), a, some (W.loc mu.length), some (W.loc (mu.length + 1)), some (W.loc (mu.length + 2)), some (W.loc (mu.length + 3)), some (W.loc (mu.length + 4)), b, c] ∧
    mu' = shC mu s1 ∧ runS k ys s1 = some s ∧ k + ys.length = rows.length ∧ ShOk rows.length k s1) (fun _ _ _ _ => trivial) ?_ ?_ ⟨0, rows, .start rows.length, _, _, _, rfl, rfl, ?_, hr, by omega, ⟨by simp [ShS.start], by simp [ShS.start], by simp [ShS.start], by simp [ShS.start], by simp [ShS.start], by simp [ShS.start]⟩⟩
  · rintro _ _ ⟨k, ys, s1, a, b, c, e, rfl, rfl, hrun, hk, ok⟩
    have hy : ys = [] := by
      cases ys with
      | nil => rfl
      | cons y ys => simp at e
    subst hy
    simp only [runS] at hrun
    injection hrun with hrun
    subst hrun
    simp [sizeLine_eq]
    exact h
  · rintro x items _ _ ⟨k, ys, s1, a, b, c, e, rfl, rfl, hrun, hk, ok⟩ N hN
    cases ys with
    | nil => simp at e
    | cons y ys =>
      simp at e
      obtain ⟨rfl, rfl⟩ := e
      simp only [runS] at hrun
      split at hrun
      · rename_i w ew
        obtain ⟨rest, rfl⟩ : ∃ rest, y = .tup (.str w :: rest) := by
          unfold wordR at ew
          split at ew
          · injection ew with ew; subst ew; exact ⟨_, rfl⟩
          · cases ew
        split at hrun
        · rename_i s2 es
          simp only [List.length_cons] at hk
          unfold stepS at es
          have fin : ∀ a b c, ShOk rows.length (k + 1) s2 → N [some (W.d (D.lst rows)), some (W.d (D.lst (rows.map fun _ => D.non))), a, some (W.loc mu.length), some (W.loc (mu.length + 1)), some (W.loc (mu.length + 2)), some (W.loc (mu.length + 3)), some (W.loc (mu.length + 4)), b, c] (shC mu s2) := fun a b c ok2 =>
            hN _ _ ⟨k + 1, ys, s2, _, _, _, rfl, rfl, rfl, hrun, by omega, ok2⟩
          have g0 : ∀ a b c d e : C, (mu ++ [a, b, c, d, e])[mu.length]? = some a := fun a b c d e => by simp
          have g1 : ∀ a b c d e : C, (mu ++ [a, b, c, d, e])[mu.length + 1]? = some b := fun a b c d e => by simp
          have g2 : ∀ a b c d e : C, (mu ++ [a, b, c, d, e])[mu.length + 2]? = some c := fun a b c d e => by simp
          have g3 : ∀ a b c d e : C, (mu ++ [a, b, c, d, e])[mu.length + 3]? = some d := fun a b c d e => by simp
          have g4 : ∀ a b c d e : C, (mu ++ [a, b, c, d, e])[mu.length + 4]? = some e := fun a b c d e => by simp
          have t0 : ∀ a b c d e x : C, (mu ++ [a, b, c, d, e]).set mu.length x = mu ++ [x, b, c, d, e] := fun a b c d e x => by simp
          have t1 : ∀ a b c d e x : C, (mu ++ [a, b, c, d, e]).set (mu.length + 1) x = mu ++ [a, x, c, d, e] := fun a b c d e x => by simp
          have t2 : ∀ a b c d e x : C, (mu ++ [a, b, c, d, e]).set (mu.length + 2) x = mu ++ [a, b, x, d, e] := fun a b c d e x => by simp
          have t3 : ∀ a b c d e x : C, (mu ++ [a, b, c, d, e]).set (mu.length + 3) x = mu ++ [a, b, c, x, e] := fun a b c d e x => by simp
          have t4 : ∀ a b c d e x : C, (mu ++ [a, b, c, d, e]).set (mu.length + 4) x = mu ++ [a, b, c, d, x] := fun a b c d e x => by simp
          have ixk : ∀ (j n : Nat), j < n → ixN n (j : Int) = some j := fun j n hn => by
            unfold ixN; rw [if_pos (by omega), if_pos (by omega)]; rfl
          have hat : ∀ (xs : List Nat) (j : Nat), atI (natsL (xs ++ [j])) (-1) = some (.int (j : Nat)) := fun xs j => by
            rw [show natsL (xs ++ [j]) = natsL xs ++ [.int (j : Nat)] by simp [natsL]]; exact at_lastS _ _
          have hat' : ∀ (xs : List Nat) (j : Nat), atI ((natsL (xs ++ [j])).map W.d) (-1) = some (.d (.int (j : Nat))) := fun xs j => by
            rw [show (natsL (xs ++ [j])).map W.d = (natsL xs).map W.d ++ [.d (.int (j : Nat))] by simp [natsL]]; exact at_lastS _ _
          have hdp : ∀ xs : List Nat, ddeps (natsL xs) ≤ 63 := fun xs => ddeps_le fun x hx => by
            obtain ⟨z, _, rfl⟩ := List.mem_map.mp hx; simp
          have m1 : ∀ (xs : List (Option Nat)) (j v : Nat), (xs.map optD).set j (.int (v : Nat)) = (xs.set j (some v)).map optD := fun xs j v => by rw [List.map_set]; rfl
          let E : Ev := [some (W.d (D.lst rows)), some (W.d (D.lst (rows.map fun _ => D.non))), some (.d (.tup (.str w :: rest))), some (W.loc mu.length), some (W.loc (mu.length + 1)), some (W.loc (mu.length + 2)), some (W.loc (mu.length + 3)), some (W.loc (mu.length + 4)), some (.d (.int k)), some (.d (.str w))]
          show wgTup 2 (wgCons (wgName 8) (wgCons (wgName 2) wgNil)) _ _ _ _
          simp only [wgTup, wgCons, wgName, wgNil, mkTup]
          refine ⟨rfl, seq_to E (shC mu s1) (fun K hK => by simpa using hK) ?_⟩
          have okA := ok.top
          refine seq_to E (shC mu (topS k s1)) (fun K hK => ?_) ?_
          · rcases s1 with ⟨he, nd, el, hm, stk⟩
            obtain ⟨l1, l2, l3, l4, st, sl⟩ := ok
            simp only at l1 l2 l3 l4 st sl
            rcases List.eq_nil_or_concat stk with rfl | ⟨s0, j, hz⟩
            · simp [E, shC, natsL, g4]
              exact hK
            · rw [List.concat_eq_append] at hz
              subst hz
              obtain ⟨i, r, hi⟩ : ∃ i r, s0 ++ [j] = i :: r := by
                cases s0 with
                | nil => exact ⟨_, _, rfl⟩
                | cons x xs => exact ⟨_, _, rfl⟩
              have e1 : topS k ⟨he, nd, el, hm, s0 ++ [j]⟩ = ⟨he.set k (some j), nd, el, hm.set k (some i), s0 ++ [j]⟩ := by
                unfold topS
                simp only
                rw [List.getLast?_concat, hi]; rfl
              rw [e1] at hK
              have ne : deqvs (natsL (s0 ++ [j])) [] = false := by rw [hi]; simp [natsL]
              have a0 : atI ((natsL (s0 ++ [j])).map W.d) 0 = some (.d (.int (i : Nat))) := by rw [hi]; simp [natsL]
              have k1 := ixk k he.length (by omega)
              have k2 := ixk k hm.length (by omega)
              simp [E, shC, g0, g1, g2, g3, g4, t0, t1, t2, t3, t4, hdp, ne, hat', a0, k1, k2]
              have := hK
              simp only [E, shC, List.map_set] at this
              exact this
          clear ok
          generalize topS k s1 = sA at *
          have okB := okA.deff (w := w)
          refine seq_to E (shC mu (defS k w sA)) (fun K hK => ?_) ?_
          · rcases sA with ⟨he, nd, el, hm, stk⟩
            obtain ⟨l1, l2, l3, l4, st, sl⟩ := okA
            simp only at l1 l2 l3 l4 st sl
            have k2 := ixk k hm.length (by omega)
            unfold defS at hK
            by_cases c : w = Str.ofString "def"
            · rw [if_pos c] at hK
              have := hK
              simp only [E, shC, List.map_set] at this
              simp [E, shC, c, g3, t3, k2]
              rw [c] at this
              exact this
            · rw [if_neg c] at hK
              simp [E, shC, c]
              exact hK
          clear okA
          generalize defS k w sA = sB at *
          obtain ⟨sC, eC, es⟩ : ∃ sC, elseS k w sB = some sC ∧ (footS k w sC).map (pushS k w) = some s2 := by
            cases q : elseS k w sB with
            | none => rw [q] at es; cases es
            | some sC => rw [q] at es; exact ⟨sC, rfl, es⟩
          have okC := okB.els eC
          refine seq_to E (shC mu sC) (fun K hK => ?_) ?_
          · rcases sB with ⟨he, nd, el, hm, stk⟩
            obtain ⟨l1, l2, l3, l4, st, sl⟩ := okB
            simp only at l1 l2 l3 l4 st sl
            unfold elseS at eC
            by_cases c : w = Str.ofString "else"
            · rw [if_pos c] at eC
              rcases List.eq_nil_or_concat stk with rfl | ⟨s0, j, hz⟩
              · cases eC
              · rw [List.concat_eq_append] at hz
                subst hz
                simp only [List.getLast?_concat] at eC
                injection eC with eC
                subst eC
                have hj : j < k := st j (by simp)
                have k3 := ixk j el.length (by omega)
                have := hK
                simp only [E, shC, List.map_set] at this
                simp [E, shC, c, g2, g4, t2, hat', k3]
                rw [c] at this
                exact this
            · rw [if_neg c] at eC
              injection eC with eC
              subst eC
              simp [E, shC, c]
              exact hK
          clear okB eC
          obtain ⟨sD, eD, es⟩ : ∃ sD, footS k w sC = some sD ∧ pushS k w sD = s2 := by
            cases q : footS k w sC with
            | none => rw [q] at es; cases es
            | some sD => rw [q] at es; injection es with es; exact ⟨sD, rfl, es⟩
          have okD := okC.foot eD
          refine seq_to E (shC mu sD) (fun K hK => ?_) ?_
          · rcases sC with ⟨he, nd, el, hm, stk⟩
            obtain ⟨l1, l2, l3, l4, st, sl⟩ := okC
            simp only at l1 l2 l3 l4 st sl
            unfold footS at eD
            by_cases c : w = Str.ofString "give" ∨ w = Str.ofString "end"
            · rw [if_pos c] at eD
              rcases List.eq_nil_or_concat stk with rfl | ⟨s0, j, hz⟩
              · cases eD
              · rw [List.concat_eq_append] at hz
                subst hz
                simp only [List.getLast?_concat, List.dropLast_concat] at eD
                injection eD with eD
                subst eD
                have hj : j < k := st j (by simp)
                have k3 := ixk j nd.length (by omega)
                have n1 : natsL (s0 ++ [j]) = natsL s0 ++ [.int (j : Nat)] := by simp [natsL]
                have := hK
                simp only [E, shC, List.map_set] at this
                rcases c with c | c
                · simp [E, shC, c, g1, g4, t1, t4, n1, k3]
                  rw [c] at this
                  exact this
                · simp [E, shC, c, g1, g4, t1, t4, n1, k3]
                  rw [c] at this
                  exact this
            · rw [if_neg c] at eD
              injection eD with eD
              subst eD
              have c1 : ¬ w = Str.ofString "give" := fun z => c (.inl z)
              have c2 : ¬ w = Str.ofString "end" := fun z => c (.inr z)
              simp [E, shC, c1, c2]
              exact hK
          subst es
          have okE := okD.push (w := w)
          have fin' := fin (some (.d (.tup (.str w :: rest)))) (some (.d (.int k))) (some (.d (.str w))) okE
          rcases sD with ⟨he, nd, el, hm, stk⟩
          obtain ⟨l1, l2, l3, l4, st, sl⟩ := okD
          simp only at l1 l2 l3 l4 st sl
          have q1 : (natsL stk).length < sizeLine := by rw [sizeLine_eq]; simp [natsL]; omega
          unfold pushS at fin'
          by_cases c : w = Str.ofString "def" ∨ w = Str.ofString "if" ∨ w = Str.ofString "while"
          · rw [if_pos c] at fin'
            have n1 : natsL (stk ++ [k]) = natsL stk ++ [.int (k : Nat)] := by simp [natsL]
            simp only [shC, n1] at fin'
            rcases c with c | c | c
            · rw [c] at fin'
              simp [E, shC, c, g4, t4, q1]
              exact fin'
            · rw [c] at fin'
              simp [E, shC, c, g4, t4, q1]
              exact fin'
            · rw [c] at fin'
              simp [E, shC, c, g4, t4, q1]
              exact fin'
          · rw [if_neg c] at fin'
            have c1 : ¬ w = Str.ofString "def" := fun z => c (.inl z)
            have c2 : ¬ w = Str.ofString "if" := fun z => c (.inr (.inl z))
            have c3 : ¬ w = Str.ofString "while" := fun z => c (.inr (.inr z))
            simp [E, shC, c1, c2, c3]
            exact fin'
        · cases hrun
      · cases hrun
  · simp only [shC, ShS.start, en]; rfl
end VL
namespace VL
open PySem PySem.Spec PyProof.Rows L2 RZ
/-! ### blocks -/
def fitsB (w : Str) (st : List Str) : Bool := match st.getLast? with
  | none => decide (w = Str.ofString "def") || decide (w = Str.ofString "skip")
  | some z => if w = Str.ofString "def" then false else if w = Str.ofString "give" then z == Str.ofString "def" else if w = Str.ofString "else" then z == Str.ofString "if" else if w = Str.ofString "end" then !(z == Str.ofString "def") else true
def nextB (w : Str) (st : List Str) : List Str :=
  if w = Str.ofString "def" ∨ w = Str.ofString "if" ∨ w = Str.ofString "while" then st ++ [w] else if w = Str.ofString "give" ∨ w = Str.ofString "end" then st.dropLast else if w = Str.ofString "else" then st.dropLast ++ [Str.ofString "else"] else st
/-- where blocks break: the place, with these rows open -/
def breakB : Nat → List D → List Str → Option Nat
  | k, [], st => if st = [] then none else some k
  | k, r :: rs, st => match wordR r with
    | some w => if fitsB w st then breakB (k + 1) rs (nextB w st) else some k
    | none => some k
/-! ### calls -/
def isDef (n : Str) (r : D) : Bool := match r with
  | .tup (.str w :: .str m :: _) => w == Str.ofString "def" && m == n
  | _ => false
/-- the first def of a name -/
def defOf (rows : List D) (n : Str) : Option Nat := rows.findIdx? (isDef n)
/-- no call, no def breaks the order of the functions -/
def callOk (rows : List D) (k : Nat) (r : D) : Prop := ∃ w ps, r = .tup (.str w :: ps) ∧ (w = Str.ofString "def" → ∃ m ys qs, ps = .str m :: .tup ys :: qs ∧ ∃ j, defOf rows m = some j ∧ k ≤ j) ∧
  (w = Str.ofString "call" → ∃ x f ops qs, ps = x :: .str f :: .tup ops :: qs ∧ ∃ j m ys rs, defOf rows f = some j ∧ k ≤ j ∧ rows[j]? = some (.tup (.str (Str.ofString "def") :: m :: .tup ys :: rs)) ∧ ys.length = ops.length)
/-- a program that is taken -/
structure ProgOk (rows : List D) : Prop where
  few : rows.length ≤ 60
  right : ∀ r ∈ rows, ∃ w ps, r = .tup (.str w :: ps) ∧ RowIn w ps ∧ rowOk (.str w :: ps) = true
  blocks : breakB 0 rows [] = none
  calls : ∀ k r, rows[k]? = some r → callOk rows k r
end VL
namespace VL
open PySem PySem.Spec PyProof.Rows L2 RZ
@[simp] def p__law_cell_at : D → D → (W → Sto → Prop) → Prop := fun s k Q => match s, k with
  | .scr ns, .int i => 0 ≤ i ∧ Q (.d (.int (ns.getD i.toNat 0))) []
  | _, _ => False
def w__law_cell_at : WS := (wSeq (wIfS (wTest (wOp (fB0 fun i j => decide (i < j)) (wVar 1) (wCall fLen (wCons (wVar 0) wNil)))) (wRet (wOp fIx (wVar 0) (wVar 1))) wNext)
    (wRet (wC (.int 0))))
@[simp] def sp__law_cell_at : PSp := sp2 p__law_cell_at
theorem v__law_cell_at : ∀ a b Q, p__law_cell_at a b Q → w__law_cell_at (evr Q) (startE ["_law_script", "_law_k"] [.d a, .d b]) [] := by
  intro a b Q h
  unfold p__law_cell_at at h
  split at h
  · rename_i ns i
    obtain ⟨h0, h⟩ := h
    simp [w__law_cell_at]
    split
    · rename_i hl
      exact ⟨_, atI_map (at_getD 0 h0 hl), h⟩
    · rename_i hl
      simpa [List.getD_eq_getElem?_getD, List.getElem?_eq_none (show ns.length ≤ i.toNat by omega)] using h
  · exact h.elim
/-! words -/
theorem az_list : (Str.ofString "abcdefghijklmnopqrstuvwxyz").cps.toList = (List.range 26).map (97 + ·) := by decide +kernel
theorem az_at (n : Int) : atI (Str.ofString "abcdefghijklmnopqrstuvwxyz").cps.toList (n % 26) = some (97 + (n % 26).toNat) := by
  rw [az_list, at_nat (by omega) (by simp; omega)]
  have : (n % 26).toNat < 26 := by omega
  simp [this]
def goodW (w : Str) : Prop := 1 ≤ w.length ∧ w.length ≤ 8 ∧ ∀ c ∈ w.cps.toList, 97 ≤ c ∧ c ≤ 122
theorem low_ok {w : Str} (h : ∀ c ∈ w.cps.toList, 97 ≤ c ∧ c ≤ 122) (l : w.length ≤ 1000) : StrOk w := by
  refine ⟨?_, by rw [sizeLine_eq]; omega⟩
  unfold PyData.strOk
  rw [Array.all_eq_true']
  intro c hc
  have := h c (by simpa using hc)
  simp
  omega
theorem goodW.ok {w : Str} (h : goodW w) : StrOk w := low_ok h.2.2 (by have := h.2.1; omega)
@[simp] def p__law_words : D → D → (W → Sto → Prop) → Prop := fun a b Q => match a, b with
  | .int _, .int m => 2 ≤ m ∧ m ≤ 20 ∧ ∀ ws : List Str, ws.length = m.toNat → (∀ w ∈ ws, goodW w) → ws.Nodup → Q (.loc 0) [.lst (ws.map D.str)]
  | _, _ => False
/-- the number of the j-th sign of the k-th word -/
def wNum (c at' k : Int) (j : Nat) : Int := c / 49 / (j + 1) + j * j + (if (j : Int) = at' then k else 0)
def wCps (c at' k : Int) (n : Nat) : List Nat := (List.range n).map fun j => 97 + (wNum c at' k j % 26).toNat
def wStr (c at' k : Int) (n : Nat) : Str := ⟨(wCps c at' k n).toArray⟩
theorem wStr_len (c a k : Int) (n : Nat) : (wStr c a k n).length = n := by simp [wStr, wCps, Str.length]
theorem wStr_low (c a k : Int) (n : Nat) : ∀ x ∈ (wStr c a k n).cps.toList, 97 ≤ x ∧ x ≤ 122 := by
  intro x hx
  simp [wStr, wCps] at hx
  obtain ⟨j, _, rfl⟩ := hx
  omega
theorem wStr_succ (c a k : Int) (n : Nat) : wStr c a k n ++ ⟨#[97 + (wNum c a k n % 26).toNat]⟩ = wStr c a k (n + 1) := by
  show Str.mk _ = Str.mk _
  congr 1
  simp [wStr, wCps, List.range_succ]
theorem wStr_ne {c a k k' : Int} {n : Nat} (ha : 0 ≤ a) (hn : a < n) (hk : 0 ≤ k) (hk' : 0 ≤ k') (h : k < 26) (h' : k' < 26) (e : wStr c a k n = wStr c a k' n) : k = k' := by
  have e1 := congrArg (fun z : Str => z.cps.toList[a.toNat]?) e
  have : a.toNat < n := by omega
  have ea : ((a.toNat : Nat) : Int) = a := by omega
  simp [wStr, wCps, this] at e1
  unfold wNum at e1
  rw [ea] at e1
  simp at e1
  omega
theorem goodW_w {c a k : Int} {n : Nat} (h : 1 ≤ n) (h' : n ≤ 8) : goodW (wStr c a k n) := ⟨by rw [wStr_len]; exact h, by rw [wStr_len]; exact h', wStr_low _ _ _ _⟩
theorem nodup_set {A1 : Type} {y : A1} : ∀ {xs : List A1}, xs.Nodup → y ∉ xs → ∀ i, (xs.set i y).Nodup
  | [], _, _, _ => by simp
  | x :: xs, h, hy, 0 => by
    rw [List.set_cons_zero, List.nodup_cons]
    exact ⟨fun hm => hy (List.mem_cons_of_mem _ hm), (List.nodup_cons.mp h).2⟩
  | x :: xs, h, hy, i + 1 => by
    rw [List.set_cons_succ, List.nodup_cons]
    refine ⟨fun hm => ?_, nodup_set (List.nodup_cons.mp h).2 (fun hm => hy (List.mem_cons_of_mem _ hm)) i⟩
    rcases List.mem_or_eq_of_mem_set hm with hm | rfl
    · exact (List.nodup_cons.mp h).1 hm
    · exact hy List.mem_cons_self
def w__law_words : WS := (wSeq (wAsg (wC (.str "abcdefghijklmnopqrstuvwxyz")) (wgName 2))
    (wSeq (wAsg (wOp (fI CR0 gMod) (wVar 0) (wOp (fI CPow fun i j => i ^ j.toNat) (wC (.int 10)) (wC (.int 12)))) (wgName 0))
    (wSeq (wAsg (wOp (fAdd false) (wC (.int 1)) (wOp (fI CR0 gMod) (wVar 0) (wC (.int 7)))) (wgName 3))
    (wSeq (wAsg (wOp (fI CR0 gMod) (wOp (fI CD gDiv) (wVar 0) (wC (.int 7))) (wVar 3)) (wgName 4))
    (wSeq (wAsg (wLst true wNil) (wgName 5))
    (wSeq (wFor (wRng1 (wCons (wVar 1) wNil)) (wgName 6) (wSeq (wAsg (wC (.str "")) (wgName 7))
    (wSeq (wFor (wRng1 (wCons (wVar 3) wNil)) (wgName 8) (wSeq (wAsg (wOp (fAdd false) (wOp (fI CD gDiv) (wOp (fI CD gDiv) (wVar 0) (wC (.int 49))) (wOp (fAdd false) (wVar 8) (wC (.int 1)))) (wOp (fMul false) (wVar 8) (wVar 8))) (wgName 9))
    (wSeq (wIfS (wTest (wOp (fEq false) (wVar 8) (wVar 4))) (wAug (fI0 fun a b => a + b) 9 (wVar 6)) wNext)
    (wAsg (wOp (fAdd false) (wVar 7) (wOp fIx (wVar 2) (wOp (fI CR0 gMod) (wVar 9) (wC (.int 26))))) (wgName 7)))))
    (wDrop (wBM fApp (wVar 5) (wCons (wVar 7) wNil))))))
    (wSeq (wIfS (wTest (wOp (fEq false) (wOp (fI CR0 gMod) (wOp (fI CD gDiv) (wVar 0) (wC (.int 49))) (wC (.int 3))) (wC (.int 1)))) (wAsg (wOp (fAdd false) (wOp fIx (wVar 5) (wC (.int 0))) (wOp fIx (wVar 2) (wOp (fI CR0 gMod) (wOp (fI CD gDiv) (wVar 0) (wC (.int 147))) (wC (.int 26))))) (wgSub fSetL (wVar 5) (wC (.int 1)))) wNext)
    (wRet (wVar 5)))))))))
@[simp] def sp__law_words : PSp := sp2 p__law_words
theorem v__law_words : ∀ a b Q, p__law_words a b Q → w__law_words (evr Q) (startE ["_law_cell", "_law_many", "_law_letters", "_law_size", "_law_at", "_law_words_here", "_law_k", "_law_word", "_law_j", "_law_number"] [.d a, .d b]) [] := by
  intro a b Q h
  unfold p__law_words at h
  split at h
  · rename_i c0 m
    obtain ⟨h0, h1, h⟩ := h
    simp [w__law_words, sizeLine_eq]
    refine ⟨by omega, by omega, ?_⟩
    generalize (c0 % 1000000000000 : Int) = c at *
    obtain ⟨n, en, n1, n2⟩ : ∃ n : Nat, (1 + c % 7 : Int) = n ∧ 1 ≤ n ∧ n ≤ 7 := ⟨(1 + c % 7 : Int).toNat, by omega, by omega, by omega⟩
    rw [en]
    have hn0 : (0 : Int) < n := by omega
    rw [gMod_pos hn0]
    have a0 := Int.emod_nonneg (c / 7) (b := (n : Int)) (by omega)
    have a1 := Int.emod_lt_of_pos (c / 7) hn0
    generalize c / 7 % (n : Int) = at' at *
    obtain ⟨m', rfl⟩ : ∃ m' : Nat, m = m' := ⟨m.toNat, by omega⟩
    simp only [Int.toNat_natCast] at h ⊢
    have gw : ∀ k : Int, goodW (wStr c at' k n) := fun k => goodW_w n1 (by omega)
    refine ⟨by omega, forL_rng (fun i rh mu => mu = [C.lst (((List.range i).map fun k => wStr c at' (k : Nat) n).map D.str)] ∧ ∃ (x1 x2 x3 x4 : Option W), rh = [some (W.d (D.int c)), some (W.d (D.int m')), some (W.d (D.str (Str.ofString "abcdefghijklmnopqrstuvwxyz"))),
        some (W.d (D.int n)), some (W.d (D.int at')), some (W.loc 0), x1, x2, x3, x4]) (fun _ _ _ _ => trivial) ?_ ?_ ⟨rfl, _, _, _, _, rfl⟩⟩
    · rintro _ _ ⟨rfl, x1, x2, x3, x4, rfl⟩
      have nd : ((List.range m').map fun k => wStr c at' (k : Nat) n).Nodup := by
        rw [List.Nodup, List.pairwise_map]
        refine List.Pairwise.imp_of_mem (R := (· ≠ ·)) (fun {x y} hx hy hxy e => hxy ?_) List.nodup_range
        have hx' := List.mem_range.mp hx
        have hy' := List.mem_range.mp hy
        have := wStr_ne a0 a1 (by omega) (by omega) (by omega) (by omega) e
        omega
      have gd : ∀ w ∈ (List.range m').map fun k => wStr c at' (k : Nat) n, goodW w := fun w hw => by
        obtain ⟨k, _, rfl⟩ := List.mem_map.mp hw; exact gw _
      have i0 : ((List.range m').map fun k => wStr c at' (k : Nat) n)[0]? = some (wStr c at' 0 n) := by
        rw [List.getElem?_map, List.getElem?_range (by omega)]; rfl
      have il : ((List.range m').map fun k => wStr c at' (k : Nat) n).length = m' := by simp
      have il2 : ∀ w ∈ (List.range m').map fun k => wStr c at' (k : Nat) n, w.length = n := fun w hw => by
        obtain ⟨k, _, rfl⟩ := List.mem_map.mp hw; exact wStr_len _ _ _ _
      generalize ((List.range m').map fun k => wStr c at' (k : Nat) n) = ws at *
      have at0 : atI (ws.map D.str) 0 = some (.str (wStr c at' 0 n)) := by
        rw [at_nat (by omega) (by simp; omega)]; simp [i0]
      have ix1 : ixN ws.length 1 = some 1 := by
        unfold ixN; rw [if_pos (by omega), if_pos (by omega)]; rfl
      simp [at0, az_at, ix1, sizeLine_eq, wStr_len]
      split
      · refine ⟨by omega, ?_⟩
        have l1 : (wStr c at' 0 n ++ ⟨#[97 + (c / 147 % 26).toNat]⟩ : Str).length = n + 1 := by
          show ((wStr c at' 0 n).cps ++ #[97 + (c / 147 % 26).toNat]).size = _
          simp [Str.length] at *
          have := wStr_len c at' 0 n
          simp [Str.length] at this
          omega
        have q := h (ws.set 1 (wStr c at' 0 n ++ ⟨#[97 + (c / 147 % 26).toNat]⟩)) (by simp; exact il) (fun w hw => ?_) (nodup_set nd (fun hm => ?_) 1)
        · rw [List.map_set] at q; exact q
        · rcases List.mem_or_eq_of_mem_set hw with hw | rfl
          · exact gd w hw
          · refine ⟨by omega, by omega, fun x hx => ?_⟩
            have hx : x ∈ (wStr c at' 0 n).cps.toList ++ [97 + (c / 147 % 26).toNat] := by
              have : (wStr c at' 0 n ++ ⟨#[97 + (c / 147 % 26).toNat]⟩ : Str).cps.toList = (wStr c at' 0 n).cps.toList ++ [97 + (c / 147 % 26).toNat] := by
                show ((wStr c at' 0 n).cps ++ #[97 + (c / 147 % 26).toNat]).toList = _
                simp
              rw [this] at hx; exact hx
            rcases List.mem_append.mp hx with hx | hx
            · exact wStr_low _ _ _ _ x hx
            · rw [List.mem_singleton.mp hx]; omega
        · have := il2 _ hm; omega
      · exact h ws il gd nd
    · rintro k hk _ _ ⟨rfl, x1, x2, x3, x4, rfl⟩ N hN
      simp
      refine ⟨by omega, forL_rng (fun j rh mu => mu = [C.lst ((List.range k).map (D.str ∘ fun k => wStr c at' (k : Nat) n))] ∧ ∃ (x3 x4 : Option W), rh = [some (W.d (D.int c)), some (W.d (D.int m')), some (W.d (D.str (Str.ofString "abcdefghijklmnopqrstuvwxyz"))),
        some (W.d (D.int n)), some (W.d (D.int at')), some (W.loc 0), some (.d (.int k)), some (.d (.str (wStr c at' k j))), x3, x4]) (fun _ _ _ _ => trivial) ?_ ?_ ⟨rfl, _, _, rfl⟩⟩
      · rintro _ _ ⟨rfl, x3, x4, rfl⟩
        simp [sizeLine_eq]
        refine ⟨by omega, hN _ _ ⟨?_, _, _, _, _, rfl⟩⟩
        simp [List.range_succ]
      · rintro j hj _ _ ⟨rfl, x3, x4, rfl⟩ N' hN'
        have c3 : CM (j : Int) j := CM_r (by omega) (by omega)
        have j1 : (0 : Int) < j + 1 := by omega
        have cd : CD (c / 49) ((j : Int) + 1) := CD_of (by omega) (by omega)
        simp [c3, j1, cd, az_at, wStr_len, sizeLine_eq, gDiv_pos j1]
        have e := wStr_succ c at' k j
        unfold wNum at e
        split
        · rename_i hb
          rw [if_pos hb] at e
          rw [e]
          exact ⟨by omega, hN' _ _ ⟨rfl, _, _, rfl⟩⟩
        · rename_i hb
          rw [if_neg hb, Int.add_zero] at e
          rw [e]
          exact ⟨by omega, hN' _ _ ⟨rfl, _, _, rfl⟩⟩
  · exact h.elim
/-! operands, keys, rows -/
@[simp] theorem strs_inj {ws vs : List Str} : (ws.map D.str = vs.map D.str) ↔ ws = vs := by
  constructor
  · intro h
    exact List.map_inj_right (f := D.str) (fun _ _ e => by injection e) |>.mp h
  · rintro rfl; rfl
def OperD (ws : List Str) (d : D) : Prop := (∃ x, x ∈ ws.take 4 ∧ d = .str x) ∨ ∃ n : Int, -1000000000000000000000000000000 ≤ n ∧ n < 1000000000000000000000000000000 ∧ d = .int n
def KeyD (ws : List Str) (d : D) : Prop := (∃ x, x ∈ ws.take 2 ∧ d = .str (Str.ofString "." ++ x)) ∨ OperD ws d
theorem at_word {ws : List Str} {i : Int} {n : Nat} (h0 : 0 ≤ i) (h1 : i < n) (hn : n ≤ ws.length) : ∃ x, x ∈ ws.take n ∧ atI (ws.map D.str) i = some (.str x) := by
  refine ⟨ws[i.toNat]'(by omega), ?_, ?_⟩
  · rw [List.mem_take_iff_getElem]
    exact ⟨i.toNat, by omega, rfl⟩
  · rw [at_nat h0 (by simp; omega)]
    have : i.toNat < ws.length := by omega
    simp [this]
@[simp] def p__law_operand : D → D → (W → Sto → Prop) → Prop := fun a b Q => match a, b with
  | .int n, .lst ds => ∃ ws : List Str, ds = ws.map D.str ∧ -100000000000000000000000000000000000000000000000000 ≤ n ∧ n ≤ 100000000000000000000000000000000000000000000000000 ∧ 4 ≤ ws.length ∧ ∀ d, OperD ws d → Q (.d d) []
  | _, _ => False
def w__law_operand : WS := (wSeq (wIfS (wTest (wOp (fB0 fun i j => decide (j < i)) (wOp (fI CR0 gMod) (wVar 0) (wC (.int 3))) (wC (.int 0)))) (wRet (wOp fIx (wVar 1) (wOp (fI CR0 gMod) (wOp (fI CD gDiv) (wVar 0) (wC (.int 3))) (wC (.int 4))))) wNext)
    (wSeq (wIfS (wTest (wOp (fEq false) (wOp (fI CR0 gMod) (wVar 0) (wC (.int 15))) (wC (.int 0)))) (wRet (wOp (fI0 fun i j => i - j) (wOp (fI CR0 gMod) (wOp (fAdd false) (wOp (fMul false) (wOp (fMul false) (wVar 0) (wC (.int 1000003))) (wOp (fI CPow fun i j => i ^ j.toNat) (wC (.int 10)) (wC (.int 20)))) (wVar 0)) (wOp (fMul false) (wC (.int 2)) (wOp (fI CPow fun i j => i ^ j.toNat) (wC (.int 10)) (wC (.int 30))))) (wOp (fI CPow fun i j => i ^ j.toNat) (wC (.int 10)) (wC (.int 30))))) wNext)
    (wRet (wOp (fI0 fun i j => i - j) (wOp (fI CR0 gMod) (wOp (fI CD gDiv) (wVar 0) (wC (.int 3))) (wC (.int 9))) (wC (.int 4))))))
@[simp] def sp__law_operand : PSp := sp2 p__law_operand
theorem v__law_operand : ∀ a b Q, p__law_operand a b Q → w__law_operand (evr Q) (startE ["_law_number", "_law_words_here"] [.d a, .d b]) [] := by
  intro a b Q h
  unfold p__law_operand at h
  split at h
  · rename_i n ds
    obtain ⟨ws, rfl, b0, b1, h0, h⟩ := h
    have cm : CM (n * 1000003) 100000000000000000000 := by
      rw [CM_lit2 (by omega) (by omega) (by omega) (by omega)]; trivial
    simp [w__law_operand, cm]
    split
    · obtain ⟨x, hx, e⟩ := at_word (ws := ws) (i := n / 3 % 4) (n := 4) (by omega) (by omega) h0
      simp [e]
      exact h _ (.inl ⟨x, hx, rfl⟩)
    · split
      · refine h _ (.inr ⟨_, ?_, ?_, rfl⟩) <;> omega
      · refine h _ (.inr ⟨_, ?_, ?_, rfl⟩) <;> omega
  · exact h.elim
@[simp] def p__law_key : D → D → (W → Sto → Prop) → Prop := fun a b Q => match a, b with
  | .int n, .lst ds => ∃ ws : List Str, ds = ws.map D.str ∧ -100000000000000000000000000000000000000000000000000 ≤ n ∧ n ≤ 100000000000000000000000000000000000000000000000000 ∧ 4 ≤ ws.length ∧ (∀ w ∈ ws, goodW w) ∧ ∀ d, KeyD ws d → Q (.d d) []
  | _, _ => False
def w__law_key : WS := (wSeq (wIfS (wTest (wOp (fEq false) (wOp (fI CR0 gMod) (wVar 0) (wC (.int 2))) (wC (.int 0)))) (wRet (wOp (fAdd true) (wC (.str ".")) (wOp fIx (wVar 1) (wOp (fI CR0 gMod) (wOp (fI CD gDiv) (wVar 0) (wC (.int 2))) (wC (.int 2)))))) wNext)
    (wRet (wCallP true sp__law_operand [] (wCons (wOp (fI CD gDiv) (wVar 0) (wC (.int 2))) (wCons (wVar 1) wNil)))))
@[simp] def sp__law_key : PSp := sp2 p__law_key
theorem v__law_key : ∀ a b Q, p__law_key a b Q → w__law_key (evr Q) (startE ["_law_number", "_law_words_here"] [.d a, .d b]) [] := by
  intro a b Q h
  unfold p__law_key at h
  split at h
  · rename_i n ds
    obtain ⟨ws, rfl, b0, b1, h0, hg, h⟩ := h
    simp [w__law_key]
    split
    · obtain ⟨x, hx, e⟩ := at_word (ws := ws) (i := n / 2 % 2) (n := 2) (by omega) (by omega) (by omega)
      have := (hg x (List.mem_of_mem_take hx)).2.1
      simp [e, sizeLine_eq]
      refine ⟨?_, h _ (.inl ⟨x, hx, rfl⟩)⟩
      show 1 + x.length ≤ 16777216
      omega
    · refine ⟨by omega, by omega, h0, fun d hd => h _ (.inr hd)⟩
  · exact h.elim
/-- the defs that come later: name, parameters -/
def planD (pl : List (Str × List Str)) : List D := pl.map fun p => .tup [.str p.1, .tup (p.2.map D.str)]
def opWords : List String := ["plus", "minus", "times", "over", "rest", "less", "same"]
/-- a row that is no head, no foot -/
inductive Simple (ws : List Str) (pl : List (Str × List Str)) : D → Prop
  | put {n : Str} {op : D} : n ∈ ws.take 4 → OperD ws op → Simple ws pl (.tup [.str "put", .str n, op])
  | doo {n : Str} {a b : D} {o : String} : n ∈ ws.take 4 → OperD ws a → o ∈ opWords → OperD ws b → Simple ws pl (.tup [.str "do", .str n, a, .str o, b])
  | new {n : Str} : n ∈ ws.take 4 → Simple ws pl (.tup [.str "new", .str n])
  | get {n o : Str} {k : D} : n ∈ ws.take 4 → o ∈ ws.take 4 → KeyD ws k → Simple ws pl (.tup [.str "get", .str n, .str o, k])
  | set {o : Str} {k op : D} : o ∈ ws.take 4 → KeyD ws k → OperD ws op → Simple ws pl (.tup [.str "set", .str o, k, op])
  | call {n : Str} {p : Str × List Str} {ops : List D} : n ∈ ws.take 4 → p ∈ pl → ops.length = p.2.length → (∀ d ∈ ops, OperD ws d) → Simple ws pl (.tup [.str "call", .str n, .str p.1, .tup ops])
  | fail {n : Str} : n ∈ (ws.take 6).drop 4 → Simple ws pl (.tup [.str "fail", .str n])
  | skip : Simple ws pl (.tup [.str "skip"])
@[simp] def p__law_call : D → D → D → D → (W → Sto → Prop) → Prop := fun a n b l Q => match a, n, b, l with
  | .int m, .str n, .lst ds, .lst ls => ∃ (ws : List Str) (pl : List (Str × List Str)), ds = ws.map D.str ∧ ls = planD pl ∧ 0 ≤ m ∧ m ≤ 100000000000000000000000000000000000000000000000000 ∧ 4 ≤ ws.length ∧ pl ≠ [] ∧ pl.length ≤ 1000 ∧ (∀ p ∈ pl, p.2.length ≤ 1000) ∧ n ∈ ws.take 4 ∧ ∀ d mu, Simple ws pl d → Q (.d d) mu
  | _, _, _, _ => False
def w__law_call : WS := (wSeq (wAsg (wOp fIx (wVar 3) (wOp (fI CR0 gMod) (wVar 0) (wCall fLen (wCons (wVar 3) wNil)))) (wgTup 2 (wgCons (wgName 4) (wgCons (wgName 5) wgNil))))
    (wSeq (wAsg (wLst true wNil) (wgName 6))
    (wSeq (wFor (wRng1 (wCons (wCall fLen (wCons (wVar 5) wNil)) wNil)) (wgName 7) (wDrop (wBM fApp (wVar 6) (wCons (wCallP false sp__law_operand [] (wCons (wOp (fI CD gDiv) (wVar 0) (wOp (fAdd false) (wCall fLen (wCons (wVar 3) wNil)) (wVar 7))) (wCons (wVar 2) wNil))) wNil))))
    (wRet (wTup (wCons (wC (.str "call")) (wCons (wVar 1) (wCons (wVar 4) (wCons (wCall fTuple (wCons (wVar 6) wNil)) wNil)))))))))
@[simp] def sp__law_call : PSp := sp4 p__law_call
theorem v__law_call : ∀ a b c d Q, p__law_call a b c d Q → w__law_call (evr Q) (startE ["_law_number", "_law_name", "_law_words_here", "_law_later", "_law_other", "_law_parameters", "_law_operands", "_law_k"] [.d a, .d b, .d c, .d d]) [] := by
  intro a b c d Q h
  unfold p__law_call at h
  split at h
  · rename_i m n ds ls
    obtain ⟨ws, pl, rfl, rfl, h0, hB, h1, h2, h3, h4, h5, h⟩ := h
    have pl0 : 0 < pl.length := List.length_pos_iff.mpr h2
    have plN : ¬ planD pl = [] := by intro e; have := congrArg List.length e; simp [planD] at this; exact h2 this
    have ll : (planD pl).length = pl.length := by simp [planD]
    have m1 := Int.emod_nonneg m (b := (pl.length : Int)) (by omega)
    have m2 := Int.emod_lt_of_pos m (b := (pl.length : Int)) (by omega)
    obtain ⟨p, hp, ep⟩ : ∃ p, p ∈ pl ∧ atI (planD pl) (m % (pl.length : Int)) = some (.tup [.str p.1, .tup (p.2.map D.str)]) := by
      obtain ⟨d, e, hd⟩ := at_mem (xs := planD pl) (i := m % (pl.length : Int)) m1 (by rw [ll]; exact m2)
      obtain ⟨p, hp, rfl⟩ := List.mem_map.mp hd
      exact ⟨p, hp, e⟩
    have p1 := h4 p hp
    simp [w__law_call, plN, ll, gMod_pos (show (0 : Int) < pl.length by omega), ep, sizeLine_eq]
    refine ⟨by omega, by omega, forL_rng (fun i rh mu => ∃ (ops : List D) (b : Option W), mu = [C.lst ops] ∧ rh = [some (.d (.int m)), some (.d (.str n)), some (.d (.lst (ws.map D.str))), some (.d (.lst (planD pl))), some (.d (.str p.1)), some (.d (.tup (p.2.map D.str))), some (.loc 0), b] ∧ ops.length = i ∧ ∀ d ∈ ops, OperD ws d) (fun _ _ _ _ => trivial) ?_ ?_ ⟨[], _, rfl, rfl, rfl, by simp⟩⟩
    · rintro _ _ ⟨ops, b, rfl, rfl, ho, hops⟩
      simp [sizeLine_eq]
      exact h _ _ (.call h5 hp ho hops)
    · rintro i hi _ _ ⟨ops, b, rfl, rfl, ho, hops⟩ N hN
      have cd : CD m ((pl.length : Int) + i) := CD_of (by omega) (by omega)
      have q0 : (0 : Int) < (pl.length : Int) + i := by omega
      simp [ll, cd, gDiv_pos q0, sizeLine_eq]
      have e1 := Int.ediv_nonneg h0 (Int.le_of_lt q0)
      have e2 := Int.ediv_le_self ((pl.length : Int) + i) h0
      refine ⟨by omega, by omega, h1, fun d hd => ⟨by omega, hN _ _ ⟨ops ++ [d], _, rfl, rfl, by simp [ho], fun x hx => ?_⟩⟩⟩
      rcases List.mem_append.mp hx with hx | hx
      · exact hops x hx
      · rw [List.mem_singleton.mp hx]; exact hd
  · exact h.elim
def planOk (pl : List (Str × List Str)) : Prop := pl.length ≤ 1000 ∧ ∀ p ∈ pl, p.2.length ≤ 1000
theorem plan_dep {pl : List (Str × List Str)} : ddeps (planD pl) ≤ 5 := ddeps_le fun x hx => by
  obtain ⟨p, _, rfl⟩ := List.mem_map.mp hx
  have : ddeps (p.2.map D.str) ≤ 0 := ddeps_le fun y hy => by
    obtain ⟨z, _, rfl⟩ := List.mem_map.mp hy; simp
  simp; omega
theorem deqvs_e (xs : List D) : deqvs xs [] = xs.isEmpty := by cases xs <;> simp
@[simp] def p__law_simple : D → D → D → (W → Sto → Prop) → Prop := fun a b l Q => match a, b, l with
  | .int m, .lst ds, .lst ls => ∃ (ws : List Str) (pl : List (Str × List Str)), ds = ws.map D.str ∧ ls = planD pl ∧ 0 ≤ m ∧ m ≤ 100000000000000000000000000000000000000000000000000 ∧ 6 ≤ ws.length ∧ (∀ w ∈ ws, goodW w) ∧ planOk pl ∧ ∀ d mu, Simple ws pl d → Q (.d d) mu
  | _, _, _ => False
def w__law_simple : WS := (wSeq (wAsg (wOp (fI CR0 gMod) (wVar 0) (wC (.int 13))) (wgName 3))
    (wSeq (wAsg (wOp fIx (wVar 1) (wOp (fI CR0 gMod) (wOp (fI CD gDiv) (wVar 0) (wC (.int 13))) (wC (.int 4)))) (wgName 4))
    (wSeq (wAsg (wOp fIx (wVar 1) (wOp (fI CR0 gMod) (wOp (fI CD gDiv) (wVar 0) (wC (.int 52))) (wC (.int 4)))) (wgName 5))
    (wSeq (wAsg (wOp (fI CD gDiv) (wVar 0) (wC (.int 208))) (wgName 6))
    (wSeq (wIfS (wTest (wOp (fB0 fun i j => decide (i < j)) (wVar 3) (wC (.int 2)))) (wRet (wTup (wCons (wC (.str "put")) (wCons (wVar 4) (wCons (wCallP false sp__law_operand [] (wCons (wVar 6) (wCons (wVar 1) wNil))) wNil))))) wNext)
    (wSeq (wIfS (wTest (wOp (fB0 fun i j => decide (i < j)) (wVar 3) (wC (.int 5)))) (wSeq (wAsg (wOp fIx (wLst false (wCons (wC (.str "plus")) (wCons (wC (.str "minus")) (wCons (wC (.str "times")) (wCons (wC (.str "over")) (wCons (wC (.str "rest")) (wCons (wC (.str "less")) (wCons (wC (.str "same")) wNil)))))))) (wOp (fI CR0 gMod) (wVar 6) (wC (.int 7)))) (wgName 7))
    (wRet (wTup (wCons (wC (.str "do")) (wCons (wVar 4) (wCons (wCallP false sp__law_operand [] (wCons (wOp (fI CD gDiv) (wVar 6) (wC (.int 7))) (wCons (wVar 1) wNil))) (wCons (wVar 7) (wCons (wCallP false sp__law_operand [] (wCons (wOp (fI CD gDiv) (wVar 6) (wC (.int 420))) (wCons (wVar 1) wNil))) wNil)))))))) wNext)
    (wSeq (wIfS (wTest (wOp (fEq false) (wVar 3) (wC (.int 5)))) (wRet (wTup (wCons (wC (.str "new")) (wCons (wVar 4) wNil)))) wNext)
    (wSeq (wIfS (wTest (wOp (fB0 fun i j => decide (i < j)) (wVar 3) (wC (.int 8)))) (wRet (wTup (wCons (wC (.str "get")) (wCons (wVar 4) (wCons (wVar 5) (wCons (wCallP false sp__law_key [] (wCons (wVar 6) (wCons (wVar 1) wNil))) wNil)))))) wNext)
    (wSeq (wIfS (wTest (wOp (fB0 fun i j => decide (i < j)) (wVar 3) (wC (.int 10)))) (wRet (wTup (wCons (wC (.str "set")) (wCons (wVar 5) (wCons (wCallP false sp__law_key [] (wCons (wVar 6) (wCons (wVar 1) wNil))) (wCons (wCallP false sp__law_operand [] (wCons (wOp (fI CD gDiv) (wVar 6) (wC (.int 90))) (wCons (wVar 1) wNil))) wNil)))))) wNext)
    (wSeq (wIfS (wAnd (wTest (wOp (fEq false) (wVar 3) (wC (.int 10)))) (wTest (wOp (fEq true) (wVar 2) (wLst false wNil)))) (wRet (wCallP true sp__law_call [] (wCons (wVar 6) (wCons (wVar 4) (wCons (wVar 1) (wCons (wVar 2) wNil)))))) wNext)
    (wSeq (wIfS (wAnd (wTest (wOp (fEq false) (wVar 3) (wC (.int 11)))) (wTest (wOp (fEq false) (wOp (fI CR0 gMod) (wVar 6) (wC (.int 3))) (wC (.int 0))))) (wRet (wTup (wCons (wC (.str "fail")) (wCons (wOp fIx (wVar 1) (wOp (fAdd false) (wC (.int 4)) (wOp (fI CR0 gMod) (wOp (fI CD gDiv) (wVar 6) (wC (.int 3))) (wC (.int 2))))) wNil)))) wNext)
    (wSeq (wIfS (wAnd (wTest (wOp (fEq false) (wVar 3) (wC (.int 12)))) (wTest (wOp (fEq false) (wOp (fI CR0 gMod) (wVar 6) (wC (.int 2))) (wC (.int 0))))) (wRet (wTup (wCons (wC (.str "skip")) wNil))) wNext)
    (wRet (wTup (wCons (wC (.str "put")) (wCons (wVar 4) (wCons (wVar 5) wNil)))))))))))))))))
@[simp] def sp__law_simple : PSp := sp3 p__law_simple
theorem v__law_simple : ∀ a b c Q, p__law_simple a b c Q → w__law_simple (evr Q) (startE ["_law_number", "_law_words_here", "_law_later", "_law_kind", "_law_name", "_law_other", "_law_rest", "_law_word"] [.d a, .d b, .d c]) [] := by
  intro a b c Q h
  unfold p__law_simple at h
  split at h
  · rename_i m ds ls
    obtain ⟨ws, pl, rfl, rfl, h0, hB, h1, hg, hp, h⟩ := h
    have h4 : 4 ≤ ws.length := by omega
    obtain ⟨n, hn, en⟩ := at_word (ws := ws) (i := m / 13 % 4) (n := 4) (by omega) (by omega) h4
    obtain ⟨o, ho, eo⟩ := at_word (ws := ws) (i := m / 52 % 4) (n := 4) (by omega) (by omega) h4
    have en' : atI (ws.map (W.d ∘ D.str)) (m / 13 % 4) = some (.d (.str n)) := by rw [atI_comp, en]; rfl
    have b1 : 0 ≤ m / 208 ∧ m / 208 ≤ m := ⟨by omega, by omega⟩
    have oput := h _ [] (.put (n := n) (op := .str o) hn (.inl ⟨o, ho, rfl⟩))
    have oskip := h _ [] (.skip)
    have tail : ∀ (_ : 10 ≤ m % 13), if m % 13 = 11 then
                if m / 208 % 3 = 0 then
                  ∃ d,
                    atI (List.map D.str ws) (4 + m / 208 / 3 % 2) = some d ∧
                      Q (W.d (D.tup [D.str (Str.ofString "fail"), d])) []
                else
                  if m % 13 = 12 then
                    if m / 208 % 2 = 0 then Q (W.d (D.tup [D.str (Str.ofString "skip")])) []
                    else Q (W.d (D.tup [D.str (Str.ofString "put"), D.str n, D.str o])) []
                  else Q (W.d (D.tup [D.str (Str.ofString "put"), D.str n, D.str o])) []
              else
                if m % 13 = 12 then
                  if m / 208 % 2 = 0 then Q (W.d (D.tup [D.str (Str.ofString "skip")])) []
                  else Q (W.d (D.tup [D.str (Str.ofString "put"), D.str n, D.str o])) []
                else Q (W.d (D.tup [D.str (Str.ofString "put"), D.str n, D.str o])) [] := by
      intro _
      split
      · split
        · obtain ⟨j, ej, j0, j1⟩ : ∃ j : Nat, 4 + m / 208 / 3 % 2 = (j : Int) ∧ 4 ≤ j ∧ j < 6 := ⟨(4 + m / 208 / 3 % 2).toNat, by omega, by omega, by omega⟩
          rw [ej]
          refine ⟨.str ws[j], by rw [at_nat (by omega) (by simp; omega)]; simp [show j < ws.length by omega], h _ _ (.fail ?_)⟩
          rw [List.mem_drop_iff_getElem]
          exact ⟨j - 4, by simp; omega, by simp; congr 1; omega⟩
        · split
          · split
            · exact oskip
            · exact oput
          · exact oput
      · split
        · split
          · exact oskip
          · exact oput
        · exact oput
    simp [w__law_simple, en, eo, sizeLine_eq]
    refine ite_of (fun c => ?_) (fun c => ite_of (fun c2 => ?_) (fun c2 => ite_of (fun c3 => ?_) (fun c3 => ite_of (fun c4 => ?_) (fun c4 => ite_of (fun c5 => ?_) (fun c5 => ite_of (fun c6 => ?_) (fun c6 => ?_))))))
    · exact ⟨by omega, by omega, h4, fun d hd => h _ _ (.put hn hd)⟩
    · obtain ⟨d, e, hd⟩ := at_mem (xs := opWords.map fun z => D.str (Str.ofString z)) (i := m / 208 % 7) (by omega) (by simp [opWords]; omega)
      obtain ⟨z, hz, rfl⟩ := List.mem_map.mp hd
      exact ⟨_, e, by omega, by omega, h4, fun a ha => ⟨by omega, by omega, h4, fun b hb => h _ _ (.doo hn ha hz hb)⟩⟩
    · exact h _ _ (.new hn)
    · exact ⟨by omega, by omega, h4, hg, fun d hd => h _ _ (.get hn ho hd)⟩
    · exact ⟨by omega, by omega, h4, hg, fun d hd => ⟨by omega, by omega, h4, fun op hop => h _ _ (.set ho hd hop)⟩⟩
    · refine ⟨Nat.le_trans plan_dep (by decide), ?_⟩
      rw [deqvs_e]
      refine ite_of (fun he => tail (by omega)) (fun he => ?_)
      refine ⟨pl, rfl, by omega, by omega, h4, ?_, hp.1, ?_, hn, fun d mu hd => h _ _ hd⟩
      · rintro rfl; simp [planD] at he
      · exact fun a b hab => hp.2 (a, b) hab
    · exact tail (by omega)
  · exact h.elim
theorem rngW_nats (k : Nat) : rngW 0 k = ((List.range k).map fun j => D.int (j : Nat)).map W.d := by
  refine List.ext_getElem? fun i => ?_
  by_cases h : i < k
  · rw [rngW_get 0 k i h]; simp [h]
  · rw [List.getElem?_eq_none (by rw [rngW_len]; omega), List.getElem?_eq_none (by simp; omega)]
/-- a plan: which defs there are -/
structure PlanIn (ws : List Str) (pl : List (Str × List Str)) : Prop where
  pos : 1 ≤ pl.length
  few : pl.length ≤ 3
  nm : ∀ (i : Nat) (p : Str × List Str), pl[i]? = some p → ws[i]? = some p.1
  ps : ∀ p ∈ pl, p.2.length ≤ 4 ∧ (∀ x ∈ p.2, x ∈ ws.take 4) ∧ p.2.Nodup
theorem PlanIn.ok {ws : List Str} {pl : List (Str × List Str)} (h : PlanIn ws pl) : planOk pl := ⟨by have := h.few; omega, fun p hp => by have := (h.ps p hp).1; omega⟩
@[simp] def p__law_plan : D → D → (W → Sto → Prop) → Prop := fun a b Q => match a, b with
  | .int _, .lst ds => ∃ ws : List Str, ds = ws.map D.str ∧ 4 ≤ ws.length ∧ ws.Nodup ∧ ∀ pl, PlanIn ws pl → Q (.loc 0) [.lst (planD pl)]
  | _, _ => False
def w__law_plan : WS := (wSeq (wAsg (wOp (fI CR0 gMod) (wVar 0) (wOp (fI CPow fun i j => i ^ j.toNat) (wC (.int 10)) (wC (.int 9)))) (wgName 2))
    (wSeq (wAsg (wLst true wNil) (wgName 3))
    (wSeq (wFor (wRng1 (wCons (wOp (fAdd false) (wC (.int 1)) (wOp (fI CR0 gMod) (wVar 2) (wC (.int 3)))) wNil)) (wgName 4) (wSeq (wAsg (wOp (fI CR0 gMod) (wOp (fAdd false) (wOp (fAdd false) (wOp (fMul false) (wVar 2) (wVar 2)) (wOp (fMul false) (wC (.int 48271)) (wVar 2))) (wVar 4)) (wC (.int 2147483647))) (wgName 2))
    (wSeq (wAsg (wLc false (wRng1 (wCons (wOp (fI CR0 gMod) (wVar 2) (wC (.int 3))) wNil)) (wgName 6) wYes (wOp fIx (wVar 1) (wOp (fI CR0 gMod) (wOp (fAdd false) (wOp (fI CD gDiv) (wVar 2) (wC (.int 3))) (wVar 6)) (wC (.int 4)))) [6]) (wgName 5))
    (wDrop (wBM fApp (wVar 3) (wCons (wTup (wCons (wOp fIx (wVar 1) (wVar 4)) (wCons (wCall fTuple (wCons (wVar 5) wNil)) wNil))) wNil))))))
    (wRet (wVar 3)))))
@[simp] def sp__law_plan : PSp := sp2 p__law_plan
theorem v__law_plan : ∀ a b Q, p__law_plan a b Q → w__law_plan (evr Q) (startE ["_law_cell", "_law_words_here", "_law_number", "_law_plan_here", "_law_k", "_law_parameters", "_law_j"] [.d a, .d b]) [] := by
  intro a b Q h
  unfold p__law_plan at h
  split at h
  · rename_i c ds
    obtain ⟨ws, rfl, h4, hnd, h⟩ := h
    obtain ⟨m, em, m0, m1⟩ : ∃ m : Nat, (1 + c % 1000000000 % 3 : Int) = m ∧ 1 ≤ m ∧ m ≤ 3 := ⟨(1 + c % 1000000000 % 3 : Int).toNat, by omega, by omega, by omega⟩
    simp [w__law_plan, sizeLine_eq, em]
    refine ⟨by omega, forL_rng (fun k rh mu => ∃ (pl : List (Str × List Str)) (n : Int) (x1 x2 x3 : Option W), 0 ≤ n ∧ n < 2147483647 ∧ mu = [C.lst (planD pl)] ∧ rh = [some (.d (.int c)), some (.d (.lst (ws.map D.str))), some (.d (.int n)), some (.loc 0), x1, x2, x3] ∧
      pl.length = k ∧ (∀ (i : Nat) (p : Str × List Str), pl[i]? = some p → ws[i]? = some p.1) ∧ ∀ p ∈ pl, p.2.length ≤ 4 ∧ (∀ x ∈ p.2, x ∈ ws.take 4) ∧ p.2.Nodup) (fun _ _ _ _ => trivial) ?_ ?_ ⟨[], c % 1000000000, _, _, _, by omega, by omega, rfl, rfl, rfl, by simp, by simp⟩⟩
    · rintro _ _ ⟨pl, n, x1, x2, x3, n0, n1, rfl, rfl, e1, e2, e3⟩
      simp
      exact h pl ⟨by omega, by omega, e2, e3⟩
    · rintro k hk _ _ ⟨pl, n, x1, x2, x3, n0, n1, rfl, rfl, e1, e2, e3⟩ N hN
      have c1 : CM n n := CM_r (by omega) (by omega)
      have v0 : 0 ≤ (n * n + 48271 * n + (k : Int)) % 2147483647 := by omega
      have v1 : (n * n + 48271 * n + (k : Int)) % 2147483647 < 2147483647 := by omega
      have lk : k < ws.length := by omega
      have wk : atI (ws.map D.str) (k : Int) = some (.str ws[k]) := by
        rw [at_nat (by omega) (by simp; omega)]; simp [lk]
      have lp : (planD pl).length = k := by simp [planD, e1]
      have wj : ∀ j : Nat, j < 4 → ∃ x, x ∈ ws.take 4 ∧ atI (ws.map D.str) (j : Int) = some (.str x) ∧ ws[j]? = some x := fun j hj => by
        refine ⟨ws[j]'(by omega), ?_, ?_, by simp [show j < ws.length by omega]⟩
        · rw [List.mem_take_iff_getElem]; exact ⟨j, by omega, rfl⟩
        · rw [at_nat (by omega) (by simp; omega)]; simp [show j < ws.length by omega]
      simp [c1, sizeLine_eq]
      generalize (n * n + 48271 * n + (k : Int)) % 2147483647 = v at *
      have wsel : ∀ j : Nat, ∃ x, x ∈ ws.take 4 ∧ atI (ws.map D.str) ((v / 3 + (j : Int)) % 4) = some (.str x) ∧ ws[((v / 3 + (j : Int)) % 4).toNat]? = some x := fun j => by
        obtain ⟨i, ei, hi⟩ : ∃ i : Nat, (v / 3 + (j : Int)) % 4 = (i : Int) ∧ i < 4 := ⟨((v / 3 + (j : Int)) % 4).toNat, by omega, by omega⟩
        obtain ⟨x, h1, h2, h3⟩ := wj i hi
        exact ⟨x, h1, by rw [ei]; exact h2, by rw [ei]; simpa using h3⟩
      let sel : Nat → Str := fun j => (ws[((v / 3 + (j : Int)) % 4).toNat]?).getD (Str.ofString "")
      have hsel : ∀ j : Nat, sel j ∈ ws.take 4 ∧ atI (ws.map D.str) ((v / 3 + (j : Int)) % 4) = some (.str (sel j)) := fun j => by
        obtain ⟨x, h1, h2, h3⟩ := wsel j
        have : sel j = x := by simp [sel, h3]
        rw [this]; exact ⟨h1, h2⟩
      have selN : ∀ n : Nat, n ≤ 4 → ((List.range n).map sel).Nodup := fun n hn => by
        rw [List.Nodup, List.pairwise_map]
        refine List.Pairwise.imp_of_mem (R := (· ≠ ·)) (fun {x y} hx hy hxy e => hxy ?_) List.nodup_range
        have hx' := List.mem_range.mp hx
        have hy' := List.mem_range.mp hy
        obtain ⟨_, _, _, g1⟩ := wsel x
        obtain ⟨_, _, _, g2⟩ := wsel y
        simp only [sel, g1, g2, Option.getD_some] at e
        subst e
        obtain ⟨l1, q1⟩ := List.getElem?_eq_some_iff.mp g1
        obtain ⟨l2, q2⟩ := List.getElem?_eq_some_iff.mp g2
        have this := List.pairwise_iff_getElem.mp hnd
        rcases Nat.lt_trichotomy ((v / 3 + (x : Int)) % 4).toNat ((v / 3 + (y : Int)) % 4).toNat with q | q | q
        · exact absurd (by rw [q1, q2]) (this _ _ l1 l2 q)
        · omega
        · exact absurd (by rw [q1, q2]) (this _ _ l2 l1 q)
      have fin : ∀ (qs : List Str) (x2 x3 : Option W), qs.length ≤ 4 → (∀ x ∈ qs, x ∈ ws.take 4) → qs.Nodup → N [some (.d (.int c)), some (.d (.lst (ws.map D.str))), some (.d (.int v)), some (.loc 0), some (.d (.int k)), x2, x3] [C.lst (planD pl ++ [.tup [.str ws[k], .tup (qs.map D.str)]])] := fun qs x2 x3 q1 q2 q3 => by
        refine hN _ _ ⟨pl ++ [(ws[k], qs)], v, _, _, _, v0, v1, by simp [planD], rfl, by simp [e1], fun i p hp => ?_, fun p hp => ?_⟩
        · by_cases q : i < pl.length
          · rw [List.getElem?_append_left q] at hp; exact e2 i p hp
          · have hl := (List.getElem?_eq_some_iff.mp hp).1
            simp at hl
            obtain rfl : i = pl.length := by omega
            simp at hp
            subst hp
            subst e1
            simp
        · rcases List.mem_append.mp hp with hp | hp
          · exact e3 p hp
          · rw [List.mem_singleton.mp hp]; exact ⟨q1, q2, q3⟩
      obtain ⟨n3, e3, hn3⟩ : ∃ n : Nat, v % 3 = (n : Int) ∧ n ≤ 4 := ⟨(v % 3).toNat, by omega, by omega⟩
      obtain ⟨n5, e5, hn5⟩ : ∃ n : Nat, v % 5 = (n : Int) ∧ n ≤ 4 := ⟨(v % 5).toNat, by omega, by omega⟩
      simp [e3, e5, wk, lp]
      first
        | (refine ⟨by omega, ?_⟩; rw [rngW_nats n3]; have hn := hn3; revert hn; generalize n3 = n)
        | (refine ⟨by omega, ?_⟩; rw [rngW_nats n5]; have hn := hn5; revert hn; generalize n5 = n)
      intro hn
      refine lc_M (fun d => match d with | .int j => .str (sel j.toNat) | _ => .non) trivial (fun d hd A q => ?_) ?_
      · obtain ⟨j, _, rfl⟩ := List.mem_map.mp hd
        have := (hsel j).2
        simp [this]
        simpa using q
      · simp only [asDs_map]
        simp
        have := fin ((List.range n).map sel) (some (.d (.lst ((List.range n).map fun j => D.str (sel j))))) x3 (by simpa using hn) (fun x hx => by obtain ⟨j, _, rfl⟩ := List.mem_map.mp hx; exact (hsel j).1) (selN n hn)
        simp only [List.map_map] at this
        exact ⟨by omega, this⟩
  · exact h.elim
/-- the rows of a body so far; the blocks that are open -/
inductive Part (ws : List Str) (pl : List (Str × List Str)) : List String → List D → Prop
  | nil : Part ws pl [] []
  | row {st : List String} {rs : List D} {r : D} : Part ws pl st rs → Simple ws pl r → Part ws pl st (rs ++ [r])
  | opIf {st : List String} {rs : List D} {op : D} : Part ws pl st rs → OperD ws op → Part ws pl (st ++ ["if"]) (rs ++ [.tup [.str "if", op]])
  | opWhile {st : List String} {rs : List D} {op : D} : Part ws pl st rs → OperD ws op → Part ws pl (st ++ ["while"]) (rs ++ [.tup [.str "while", op]])
  | els {st : List String} {rs : List D} : Part ws pl (st ++ ["if"]) rs → Part ws pl (st ++ ["else"]) (rs ++ [.tup [.str "else"]])
  | cls {st : List String} {rs : List D} {w : String} : Part ws pl (st ++ [w]) rs → Part ws pl st (rs ++ [.tup [.str "end"]])
def stD (st : List String) : List D := st.map fun z => .str (Str.ofString z)
def lay1 (rs : List D) (st : List String) (mu : Sto) (i j : Nat) : Sto := (mu.set i (.lst rs)).set j (.lst (stD st))
@[simp] def p__law_lay : W → W → W → W → W → Sto → (W → Sto → Prop) → Prop := fun a b c d e mu Q => ∃ (i j : Nat) (pre rs : List D) (st : List String) (n : Int) (ws : List Str) (pl : List (Str × List Str)),
  a = .loc i ∧ b = .loc j ∧ c = .d (.int n) ∧ d = .d (.lst (ws.map D.str)) ∧ e = .d (.lst (planD pl)) ∧ i ≠ j ∧ mu[i]? = some (.lst (pre ++ rs)) ∧ mu[j]? = some (.lst (stD st)) ∧
  Part ws pl st rs ∧ pre.length + rs.length ≤ 1000 ∧ st.length ≤ 4 ∧ 6 ≤ ws.length ∧ (∀ w ∈ ws, goodW w) ∧ planOk pl ∧
  ∀ rs' st', Part ws pl st' rs' → rs'.length + st'.length ≤ rs.length + st.length + 3 → st'.length ≤ 4 → Q (.d .non) (lay1 (pre ++ rs') st' mu i j)
theorem set_same {A1 : Type} {x : A1} : ∀ {xs : List A1} {j : Nat}, xs[j]? = some x → xs.set j x = xs
  | [], _, _ => by simp
  | y :: ys, 0, h => by simp at h; simp [h]
  | y :: ys, j + 1, h => by simp at h; simp [set_same h]
theorem at_last {A1 : Type} (xs : List A1) (x : A1) : atI (xs ++ [x]) (-1) = some x := by
  unfold atI ixN
  rw [if_neg (by omega), if_pos (by simp; omega)]
  show (xs ++ [x])[_]? = _
  have : ((-1 : Int) + ((xs ++ [x]).length : Nat)).toNat = xs.length := by simp; omega
  rw [this]; simp
def w__law_lay : WS := (wSeq (wAsg (wOp (fI CR0 gMod) (wOp (fMul false) (wOp (fI CD gDiv) (wVar 2) (wC (.int 8))) (wC (.int 48271))) (wC (.int 2147483647))) (wgName 5))
    (wSeq (wAsg (wOp (fI CR0 gMod) (wVar 2) (wC (.int 8))) (wgName 6))
    (wIfS (wAnd (wTest (wOp (fEq false) (wVar 6) (wC (.int 0)))) (wTest (wOp (fB0 fun i j => decide (i < j)) (wCall fLen (wCons (wVar 1) wNil)) (wC (.int 4))))) (wSeq (wDrop (wBM fApp (wVar 0) (wCons (wTup (wCons (wC (.str "if")) (wCons (wCallP false sp__law_operand [] (wCons (wVar 5) (wCons (wVar 3) wNil))) wNil))) wNil)))
    (wDrop (wBM fApp (wVar 1) (wCons (wC (.str "if")) wNil)))) (wIfS (wAnd (wTest (wOp (fEq false) (wVar 6) (wC (.int 1)))) (wTest (wOp (fB0 fun i j => decide (i < j)) (wCall fLen (wCons (wVar 1) wNil)) (wC (.int 4))))) (wSeq (wDrop (wBM fApp (wVar 1) (wCons (wC (.str "while")) wNil)))
    (wIfS (wTest (wOp (fEq false) (wOp (fI CR0 gMod) (wVar 5) (wC (.int 3))) (wC (.int 0)))) (wDrop (wBM fApp (wVar 0) (wCons (wTup (wCons (wC (.str "while")) (wCons (wCallP false sp__law_operand [] (wCons (wOp (fI CD gDiv) (wVar 5) (wC (.int 3))) (wCons (wVar 3) wNil))) wNil))) wNil))) (wSeq (wAsg (wOp fIx (wVar 3) (wOp (fI CR0 gMod) (wOp (fI CD gDiv) (wVar 5) (wC (.int 3))) (wC (.int 4)))) (wgName 7))
    (wSeq (wDrop (wBM fApp (wVar 0) (wCons (wTup (wCons (wC (.str "while")) (wCons (wVar 7) wNil))) wNil)))
    (wDrop (wBM fApp (wVar 0) (wCons (wTup (wCons (wC (.str "do")) (wCons (wVar 7) (wCons (wVar 7) (wCons (wC (.str "minus")) (wCons (wC (.int 1)) wNil)))))) wNil))))))) (wIfS (wAnd (wTest (wOp (fEq false) (wVar 6) (wC (.int 2)))) (wAnd (wTest (wOp (fEq true) (wVar 1) (wLst false wNil))) (wTest (wOp (fEq false) (wOp fIx (wVar 1) (wUn (fun i => -i) (wC (.int 1)))) (wC (.str "if")))))) (wSeq (wDrop (wBM fApp (wVar 0) (wCons (wTup (wCons (wC (.str "else")) wNil)) wNil)))
    (wAsg (wC (.str "else")) (wgSub fSetL (wVar 1) (wUn (fun i => -i) (wC (.int 1)))))) (wIfS (wAnd (wTest (wOp (fEq false) (wVar 6) (wC (.int 3)))) (wTest (wOp (fEq true) (wVar 1) (wLst false wNil)))) (wSeq (wDrop (wBM fApp (wVar 0) (wCons (wTup (wCons (wC (.str "end")) wNil)) wNil)))
    (wDrop (wBM fPop (wVar 1) wNil))) (wDrop (wBM fApp (wVar 0) (wCons (wCallP false sp__law_simple [] (wCons (wVar 5) (wCons (wVar 3) (wCons (wVar 4) wNil)))) wNil)))))))))
@[simp] def sp__law_lay : VSp := sS5 p__law_lay
theorem v__law_lay : ∀ a b c d e mu Q, p__law_lay a b c d e mu Q → w__law_lay (evr Q) (startE ["_law_rows", "_law_stack", "_law_cell", "_law_words_here", "_law_later", "_law_number", "_law_move", "_law_name"] [a, b, c, d, e]) mu := by
  intro a b c d e mu Q h
  obtain ⟨i, j, pre, rs, st, n, ws, pl, rfl, rfl, rfl, rfl, rfl, hij, hi, hj, hp, hrl, hsl, h6, hg, hpl, h⟩ := h
  have li := (List.getElem?_eq_some_iff.mp hi).1
  have lj := (List.getElem?_eq_some_iff.mp hj).1
  have ls : (stD st).length = st.length := by simp [stD]
  have hs1 : ∀ c, (mu.set i c)[j]? = some (C.lst (stD st)) := fun c => by rw [List.getElem?_set_ne hij]; exact hj
  have hs2 : ∀ c, (mu.set j c)[i]? = some (C.lst (pre ++ rs)) := fun c => by rw [List.getElem?_set_ne (Ne.symm hij)]; exact hi
  have hs3 : ∀ c c', ((mu.set j c).set i c')[i]? = some c' := fun c c' => List.getElem?_set_self (by simpa using li)
  have ha : ∀ rs' st', lay1 rs' st' mu i j = (mu.set j (.lst (stD st'))).set i (.lst rs') := fun rs' st' => List.set_comm _ _ hij
  have hb : ∀ rs', lay1 rs' st mu i j = mu.set i (.lst rs') := fun rs' => set_same (hs1 _)
  have dst : ddeps (stD st) ≤ 63 := ddeps_le fun x hx => by
    obtain ⟨z, _, rfl⟩ := List.mem_map.mp hx; simp
  have hrow : ∀ d, Simple ws pl d → pre.length + rs.length < 16777216 ∧ Q (.d .non) (mu.set i (.lst (pre ++ (rs ++ [d])))) := fun d hd => by
    have := h (rs ++ [d]) st (.row hp hd) (by simp; omega) hsl
    rw [hb] at this; exact ⟨by omega, this⟩
  have v0 : 0 ≤ n / 8 * 48271 % 2147483647 := by omega
  have v1 : n / 8 * 48271 % 2147483647 < 2147483647 := by omega
  have app : ∀ z : String, stD st ++ [.str (Str.ofString z)] = stD (st ++ [z]) := fun z => by simp [stD]
  have simple : ∃ x, planD pl = planD x ∧ 0 ≤ n / 8 * 48271 % 2147483647 ∧ n / 8 * 48271 % 2147483647 ≤ 100000000000000000000000000000000000000000000000000 ∧ 6 ≤ ws.length ∧ (∀ (w : Str), w ∈ ws → goodW w) ∧ planOk x ∧
      ∀ (d : D), Simple ws x d → pre.length + rs.length < 16777216 ∧ Q (W.d D.non) (List.set mu i (C.lst (pre ++ (rs ++ [d])))) := ⟨pl, rfl, v0, by omega, h6, hg, hpl, hrow⟩
  have rl : pre.length + rs.length < 16777216 := by omega
  obtain ⟨w0, hw0, ew0⟩ := at_word (ws := ws) (i := n / 8 * 48271 % 2147483647 / 3 % 4) (n := 4) (by omega) (by omega) (by omega)
  have fIf : st.length < 4 → ∀ op, OperD ws op → Q (.d .non) ((mu.set i (.lst (pre ++ (rs ++ [.tup [.str (Str.ofString "if"), op]])))).set j (.lst (stD st ++ [.str (Str.ofString "if")]))) := fun hl op ho => by
    rw [app]; exact h _ (st ++ ["if"]) (.opIf hp ho) (by simp; omega) (by simp; omega)
  have fWh : st.length < 4 → ∀ op, OperD ws op → Q (.d .non) ((mu.set j (.lst (stD st ++ [.str (Str.ofString "while")]))).set i (.lst (pre ++ (rs ++ [.tup [.str (Str.ofString "while"), op]])))) := fun hl op ho => by
    have := h (rs ++ [.tup [.str (Str.ofString "while"), op]]) (st ++ ["while"]) (.opWhile hp ho) (by simp; omega) (by simp; omega)
    rw [ha] at this; rw [app]; exact this
  have fWh2 : st.length < 4 → Q (.d .non) ((mu.set j (.lst (stD st ++ [.str (Str.ofString "while")]))).set i (.lst (pre ++ (rs ++ [.tup [.str (Str.ofString "while"), .str w0], .tup [.str (Str.ofString "do"), .str w0, .str w0, .str (Str.ofString "minus"), .int 1]])))) := fun hl => by
    have q : Part ws pl (st ++ ["while"]) ((rs ++ [.tup [.str (Str.ofString "while"), .str w0]]) ++ [.tup [.str (Str.ofString "do"), .str w0, .str w0, .str (Str.ofString "minus"), .int 1]]) :=
      .row (.opWhile hp (.inl ⟨w0, hw0, rfl⟩)) (.doo (o := "minus") hw0 (.inl ⟨w0, hw0, rfl⟩) (by decide) (.inr ⟨1, by omega, by omega, rfl⟩))
    have := h _ (st ++ ["while"]) q (by simp; omega) (by simp; omega)
    rw [ha] at this; rw [app]
    simpa using this
  rcases List.eq_nil_or_concat st with rfl | ⟨s0, z, hz⟩
  · have e0 : stD [] = [] := rfl
    simp only [e0] at hs1 hj
    simp only [e0, List.nil_append] at fIf fWh fWh2
    simp [w__law_lay, hi, hj, hs1, hs2, hs3, e0, rl, sizeLine_eq, ew0]
    refine ite_of (fun c => ⟨by omega, by omega, by omega, fIf (by simp)⟩) (fun c => ite_of (fun c2 => ite_of (fun c3 => ⟨by omega, by omega, by omega, fWh (by simp)⟩) (fun c3 => ⟨by omega, fWh2 (by simp)⟩)) (fun c2 => ?_))
    obtain ⟨x, a1, a2, a3, a4, a5, a6, a7⟩ := simple
    exact ⟨x, a1, a2, a3, a4, a5, a6, fun d hd => (a7 d hd).2⟩
  · rw [List.concat_eq_append] at hz
    subst hz
    simp at hsl
    have e0 : stD (s0 ++ [z]) = stD s0 ++ [.str (Str.ofString z)] := by simp [stD]
    have e1 : deqvs (stD s0 ++ [D.str (Str.ofString z)]) [] = false := by rw [deqvs_e]; simp
    have e3 : atI (stD s0 ++ [D.str (Str.ofString z)]) (-1) = some (.str (Str.ofString z)) := at_last _ _
    have e4 : atI ((stD s0).map W.d ++ [W.d (.str (Str.ofString z))]) (-1) = some (.d (.str (Str.ofString z))) := at_last _ _
    have ls0 : (stD s0).length = s0.length := by simp [stD]
    have ls1 : (stD s0 ++ [D.str (Str.ofString z)]).length = s0.length + 1 := by simp [ls0]
    have ix : ixN (s0.length + 1) (-1) = some s0.length := by
      unfold ixN; rw [if_neg (by omega), if_pos (by omega)]; congr 1; omega
    have sset : ∀ y : D, (stD s0 ++ [D.str (Str.ofString z)]).set s0.length y = stD s0 ++ [y] := fun y => by
      rw [List.set_append_right _ _ (by rw [ls0]; exact Nat.le_refl _), ls0, Nat.sub_self]; rfl
    have fEl : z = "if" → Q (.d .non) ((mu.set i (.lst (pre ++ (rs ++ [.tup [.str (Str.ofString "else")]])))).set j (.lst (stD s0 ++ [.str (Str.ofString "else")]))) := fun hz => by
      subst hz
      have := h _ (s0 ++ ["else"]) (.els hp) (by simp; omega) (by simp; omega)
      unfold lay1 at this
      rw [show stD (s0 ++ ["else"]) = stD s0 ++ [.str (Str.ofString "else")] by simp [stD]] at this
      exact this
    have fEn : Q (.d .non) ((mu.set i (.lst (pre ++ (rs ++ [.tup [.str (Str.ofString "end")]])))).set j (.lst (stD s0))) := h _ s0 (.cls hp) (by simp; omega) (by omega)
    simp only [e0] at hs1 hj dst fIf fWh fWh2
    simp only [List.length_append, List.length_singleton] at fIf fWh fWh2
    simp [w__law_lay, hi, hj, hs1, hs2, hs3, rl, sizeLine_eq, ew0, dst, e1, e3, e4, ls0, ls1, ix, sset]
    obtain ⟨x, a1, a2, a3, a4, a5, a6, a7⟩ := simple
    have simple' : ∃ x, planD pl = planD x ∧ 0 ≤ n / 8 * 48271 % 2147483647 ∧ n / 8 * 48271 % 2147483647 ≤ 100000000000000000000000000000000000000000000000000 ∧ 6 ≤ ws.length ∧ (∀ (w : Str), w ∈ ws → goodW w) ∧ planOk x ∧
      ∀ (d : D), Simple ws x d → Q (W.d D.non) (List.set mu i (C.lst (pre ++ (rs ++ [d])))) := ⟨x, a1, a2, a3, a4, a5, a6, fun d hd => (a7 d hd).2⟩
    simp only [List.append_assoc, List.singleton_append] at fIf fWh fWh2
    repeat' (first
      | exact fEn
      | exact simple'
      | exact fEl (by assumption)
      | exact ⟨by omega, by omega, by omega, fun d hd => ⟨by omega, fIf (by omega) d hd⟩⟩
      | exact ⟨by omega, ite_of (fun c => ⟨by omega, by omega, by omega, fun d hd => fWh (by omega) d hd⟩) (fun c => ⟨by omega, fWh2 (by omega)⟩)⟩
      | refine ite_of (fun c => ?_) (fun c => ?_))
end VL
namespace VL
open PySem PySem.Spec PyProof.Rows L2 RZ
/-- the rows of one def -/
inductive FunRows (ws : List Str) (p : Str × List Str) (later : List (Str × List Str)) : List D → Prop
  | mk {body : List D} {op : D} : Part ws later [] body → OperD ws op → FunRows ws p later ([.tup [.str "def", .str p.1, .tup (p.2.map D.str)]] ++ body ++ [.tup [.str "give", op]])
  | sk {rs : List D} : FunRows ws p later rs → FunRows ws p later (rs ++ [.tup [.str "skip"]])
inductive Funs (ws : List Str) (pl : List (Str × List Str)) : Nat → List D → Prop
  | nil : Funs ws pl 0 []
  | next {k : Nat} {rs fr : List D} {p : Str × List Str} : Funs ws pl k rs → pl[k]? = some p → FunRows ws p (pl.drop (k + 1)) fr → Funs ws pl (k + 1) (rs ++ fr)
@[simp] def p__law_program : D → D → D → (W → Sto → Prop) → Prop := fun a b c Q => match a, b, c with
  | .lst cs, .lst ds, .lst ls => ∃ (ns : List Int) (ws : List Str) (pl : List (Str × List Str)), cs = ns.map D.int ∧ ds = ws.map D.str ∧ ls = planD pl ∧ ns.length ≤ 1000 ∧ 6 ≤ ws.length ∧ (∀ w ∈ ws, goodW w) ∧ PlanIn ws pl ∧
    ∀ rs mu, Funs ws pl pl.length rs → rs.length ≤ 60 → (∀ c ∈ mu, cflat c = true) → Q (.loc 0) (.lst rs :: mu)
  | _, _, _ => False
def w__law_program : WS := (wSeq (wAsg (wLst true wNil) (wgName 3))
    (wSeq (wFor (wRng1 (wCons (wCall fLen (wCons (wVar 2) wNil)) wNil)) (wgName 4) (wSeq (wDrop (wBM fApp (wVar 3) (wCons (wTup (wCons (wC (.str "def")) (wCons (wOp fIx (wOp fIx (wVar 2) (wVar 4)) (wC (.int 0))) (wCons (wOp fIx (wOp fIx (wVar 2) (wVar 4)) (wC (.int 1))) wNil)))) wNil)))
    (wSeq (wAsg (wLst true wNil) (wgName 5))
    (wSeq (wAsg (wOp (fI CD gDiv) (wOp (fMul false) (wVar 4) (wCall fLen (wCons (wVar 0) wNil))) (wCall fLen (wCons (wVar 2) wNil))) (wgName 6))
    (wSeq (wAsg (wOp (fI CD gDiv) (wOp (fMul false) (wOp (fAdd false) (wVar 4) (wC (.int 1))) (wCall fLen (wCons (wVar 0) wNil))) (wCall fLen (wCons (wVar 2) wNil))) (wgName 7))
    (wSeq (wAsg (wSl false (wVar 0) (wPart (wVar 6)) (wPart (wVar 7))) (wgName 8))
    (wSeq (wFor (wSeqI (wVar 8)) (wgName 9) (wIfS (wTest (wOp (fB0 fun i j => decide (i < j)) (wOp (fAdd false) (wCall fLen (wCons (wVar 3) wNil)) (wCall fLen (wCons (wVar 5) wNil))) (wOp (fI0 fun i j => i - j) (wC (.int 56)) (wOp (fMul false) (wC (.int 3)) (wOp (fI0 fun i j => i - j) (wOp (fI0 fun i j => i - j) (wCall fLen (wCons (wVar 2) wNil)) (wC (.int 1))) (wVar 4)))))) (wDrop (wCallS sp__law_lay [] (wCons (wVar 3) (wCons (wVar 5) (wCons (wVar 9) (wCons (wVar 1) (wCons (wSl false (wVar 2) (wPart (wOp (fAdd false) (wVar 4) (wC (.int 1)))) wNoPart) wNil))))))) wNext))
    (wSeq (wFor (wSeqI (wVar 5)) (wgName 10) (wDrop (wBM fApp (wVar 3) (wCons (wTup (wCons (wC (.str "end")) wNil)) wNil))))
    (wSeq (wDrop (wBM fApp (wVar 3) (wCons (wTup (wCons (wC (.str "give")) (wCons (wCallP false sp__law_operand [] (wCons (wOp (fI CR0 gMod) (wCall fSum (wCons (wVar 8) wNil)) (wOp (fI CPow fun i j => i ^ j.toNat) (wC (.int 10)) (wC (.int 6)))) (wCons (wVar 1) wNil))) wNil))) wNil)))
    (wIfS (wAnd (wTest (wOp (fEq false) (wOp (fI CR0 gMod) (wVar 4) (wC (.int 2))) (wC (.int 0)))) (wTest (wOp (fEq false) (wOp (fI CR0 gMod) (wCall fLen (wCons (wVar 8) wNil)) (wC (.int 2))) (wC (.int 1))))) (wDrop (wBM fApp (wVar 3) (wCons (wTup (wCons (wC (.str "skip")) wNil)) wNil))) wNext))))))))))
    (wRet (wVar 3))))
@[simp] def sp__law_program : PSp := sp3 p__law_program
theorem cut_from {A1 : Type} (xs : List A1) (k : Nat) : cutL xs (some (k : Int)) none = xs.drop k := by
  unfold cutL
  rw [HT.sIx_nat, HT.sIx_none]
  by_cases h : k ≤ xs.length
  · rw [Nat.min_eq_left h, List.take_of_length_le (by simp)]
  · rw [Nat.min_eq_right (by omega), List.drop_length, List.drop_of_length_le (by omega)]; simp
theorem planD_drop (pl : List (Str × List Str)) (k : Nat) : (planD pl).drop k = planD (pl.drop k) := by simp [planD, List.map_drop]
theorem stD_flat : ∀ st : List String, dflats (stD st) = true
  | [] => rfl
  | z :: r => by have := stD_flat r; simpa [stD] using this
theorem v__law_program : ∀ a b c Q, p__law_program a b c Q → w__law_program (evr Q) (startE ["_law_cells", "_law_words_here", "_law_plan_here", "_law_rows", "_law_k", "_law_stack", "_law_start", "_law_stop", "_law_share", "_law_cell", "_law_word"] [.d a, .d b, .d c]) [] := by
  intro a b c Q h
  unfold p__law_program at h
  split at h
  · obtain ⟨ns, ws, pl, rfl, rfl, rfl, hn, h6, hg, hpl, h⟩ := h
    have lp : (planD pl).length = pl.length := by simp [planD]
    have hf := hpl.few
    have hp1 := hpl.pos
    simp [w__law_program, lp]
    refine ⟨by omega, forL_rng (fun k rh mu => ∃ (rs : List D) (rest : Sto) (x1 x2 x3 x4 x5 x6 x7 : Option W), mu = .lst rs :: rest ∧ rh = [some (.d (.lst (ns.map D.int))), some (.d (.lst (ws.map D.str))), some (.d (.lst (planD pl))), some (.loc 0), x1, x2, x3, x4, x5, x6, x7] ∧
      Funs ws pl k rs ∧ rs.length + 3 * pl.length ≤ 60 + 3 * k ∧ ∀ c ∈ rest, cflat c = true) (fun _ _ _ _ => trivial) ?_ ?_ ⟨[], [], _, _, _, _, _, _, _, rfl, rfl, .nil, by simp; omega, by simp⟩⟩
    · rintro _ _ ⟨rs, rest, x1, x2, x3, x4, x5, x6, x7, rfl, rfl, hF, hl, hc⟩
      simp
      exact h _ _ hF (by omega) hc
    · rintro k hk _ _ ⟨rs, rest, x1, x2, x3, x4, x5, x6, x7, rfl, rfl, hF, hl, hc⟩ N hN
      obtain ⟨p, ep⟩ : ∃ p, pl[k]? = some p := ⟨_, List.getElem?_eq_getElem hk⟩
      have ak : atI (planD pl) (k : Int) = some (.tup [.str p.1, .tup (p.2.map D.str)]) := by
        rw [at_nat (by omega) (by rw [lp]; omega)]; simp [planD, ep]
      have cm1 : CM (k : Int) ns.length := CM_r (by omega) (by omega)
      have cm2 : CM ((k : Int) + 1) ns.length := CM_r (by omega) (by omega)
      have cd1 : ∀ x : Int, CD x (pl.length : Int) := fun x => CD_of (by omega) (by omega)
      have rl : rs.length < 16777216 := by omega
      have hm1 : ∀ (a c : C), (a :: (rest ++ [c]))[rest.length + 1]? = some c := fun a c => by simp
      have hm2 : ∀ (a c c' : C), (a :: (rest ++ [c])).set (rest.length + 1) c' = a :: (rest ++ [c']) := fun a c c' => by simp
      simp [lp, ak, sizeLine_eq, rl, cm1, cm2, cd1]
      have sl := cutL_len ns (some (gDiv ((k : Int) * ns.length) pl.length)) (some (gDiv (((k : Int) + 1) * ns.length) pl.length))
      generalize cutL ns (some (gDiv ((k : Int) * ns.length) pl.length)) (some (gDiv (((k : Int) + 1) * ns.length) pl.length)) = sh at *
      generalize (gDiv ((k : Int) * ns.length) pl.length) = u1
      generalize (gDiv (((k : Int) + 1) * ns.length) pl.length) = u2
      refine forL_inv (fun rh mu => ∃ (body : List D) (st : List String) (x6 x7 : Option W), mu = .lst (rs ++ [.tup [.str (Str.ofString "def"), .str p.1, .tup (p.2.map D.str)]] ++ body) :: (rest ++ [.lst (stD st)]) ∧
        rh = [some (W.d (D.lst (List.map D.int ns))), some (W.d (D.lst (List.map D.str ws))), some (W.d (D.lst (planD pl))), some (W.loc 0), some (W.d (D.int ↑k)), some (W.loc (List.length rest + 1)), some (W.d (D.int u1)), some (W.d (D.int u2)), some (.d (.lst (sh.map D.int))), x6, x7] ∧
        Part ws (pl.drop (k + 1)) st body ∧ st.length ≤ 4 ∧ rs.length + 1 + body.length + st.length + 3 * pl.length ≤ 61 + 3 * k) (fun _ _ _ => trivial) ?_ ?_ ⟨[], [], _, _, by simp [stD], rfl, .nil, by simp, by simp; omega⟩
      · rintro _ _ ⟨body, st, x6, x7, rfl, rfl, hP, hst, hL⟩
        simp [hm1, hm2]
        refine forL_rem (fun items rh mu => ∃ (st' : List String) (body' : List D) (x7 : Option W), items.length = st'.length ∧ mu = .lst (rs ++ .tup [.str (Str.ofString "def"), .str p.1, .tup (p.2.map D.str)] :: body') :: (rest ++ [.lst (stD st)]) ∧
          rh = [some (W.d (D.lst (List.map D.int ns))), some (W.d (D.lst (List.map D.str ws))), some (W.d (D.lst (planD pl))), some (W.loc 0), some (W.d (D.int ↑k)), some (W.loc (List.length rest + 1)), some (W.d (D.int u1)), some (W.d (D.int u2)), some (.d (.lst (sh.map D.int))), x6, x7] ∧
          Part ws (pl.drop (k + 1)) st' body' ∧ body'.length + st'.length = body.length + st.length) ?_ ?_ ?_ ⟨st, body, _, by simp [stD], rfl, rfl, hP, rfl⟩
        · rintro _ _ _ ⟨st', body', x7, _, rfl, _⟩
          simp [hm1]
        · rintro _ _ ⟨st', body', x7, e, rfl, rfl, hP', hL'⟩
          have : st' = [] := List.length_eq_zero_iff.mp e.symm
          subst this
          have q1 : rs.length + (body'.length + 1) < 16777216 := by simp at hL'; omega
          have fin : ∀ (fr : List D) (x7 : Option W), FunRows ws p (pl.drop (k + 1)) fr → fr.length ≤ body'.length + 3 → N [some (W.d (D.lst (List.map D.int ns))), some (W.d (D.lst (List.map D.str ws))), some (W.d (D.lst (planD pl))), some (W.loc 0), some (W.d (D.int ↑k)), some (W.loc (List.length rest + 1)), some (W.d (D.int u1)), some (W.d (D.int u2)), some (.d (.lst (sh.map D.int))), x6, x7]
              (.lst (rs ++ fr) :: (rest ++ [.lst (stD st)])) := fun fr x7 hfr hle => by
            refine hN _ _ ⟨_, _, _, _, _, _, _, _, _, rfl, rfl, .next hF ep hfr, ?_, fun c hm => ?_⟩
            · simp at hL' ⊢; omega
            · rcases List.mem_append.mp hm with hm | hm
              · exact hc c hm
              · rw [List.mem_singleton.mp hm]
                show dflats (stD st) = true
                exact stD_flat st
          simp only [List.length_nil, Nat.add_zero] at hL'
          have q2 : rs.length + (body'.length + 1) + 1 < 16777216 := by omega
          have q2' : rs.length + (body'.length + 1 + 1) < 16777216 := by omega
          simp [sizeLine_eq, q1]
          refine sum_ints ?_
          simp [q1, q2, q2']
          have gp : gMod sh.sum 1000000 = sh.sum % 1000000 := gMod_pos (by decide)
          refine ⟨by omega, by omega, by omega, fun op hop => ?_⟩
          have f1 := FunRows.mk (p := p) hP' hop
          refine ite_of (fun c => ite_of (fun c2 => ?_) (fun c2 => ?_)) (fun c => ?_)
          · simpa using fin _ x7 f1.sk (by simp)
          · simpa using fin _ x7 f1 (by simp)
          · simpa using fin _ x7 f1 (by simp)
        · rintro x items _ _ ⟨st', body', x7, e, rfl, rfl, hP', hL'⟩ N' hN'
          rcases List.eq_nil_or_concat st' with rfl | ⟨s0, z, hz⟩
          · simp at e
          · rw [List.concat_eq_append] at hz
            subst hz
            simp at hL' e
            have q1 : rs.length + (body'.length + 1) < 16777216 := by omega
            simp [sizeLine_eq, q1]
            exact hN' _ _ ⟨s0, body' ++ [.tup [.str (Str.ofString "end")]], _, e, rfl, rfl, .cls hP', by simp; omega⟩
      · rintro x hx _ _ ⟨body, st, x6, x7, rfl, rfl, hP, hst, hL⟩ N' hN'
        simp at hx
        obtain ⟨n, _, rfl⟩ := hx
        have ls : (stD st).length = st.length := by simp [stD]
        simp [hm1, hm2, ls]
        refine ite_of (fun c => ?_) (fun c => hN' _ _ ⟨body, st, _, _, by simp, rfl, hP, hst, hL⟩)
        rw [lp] at c
        have cl : cutL (planD pl) (some ((k : Int) + 1)) none = planD (pl.drop (k + 1)) := by
          rw [show ((k : Int) + 1) = ((k + 1 : Nat) : Int) by omega, cut_from, planD_drop]
        refine ⟨rs ++ [.tup [.str (Str.ofString "def"), .str p.1, .tup (p.2.map D.str)]], body, st, pl.drop (k + 1), cl, by simp, rfl, hP, by simp; omega, hst, h6, hg, ⟨by simp; omega, fun q hq => hpl.ok.2 q (List.mem_of_mem_drop hq)⟩, fun rs' st' g1 g2 g3 => hN' _ _ ⟨rs', st', _, _, ?_, rfl, g1, g3, by omega⟩⟩
        simp [lay1, hm2]
  · exact h.elim
end VL
namespace VL
open PySem PySem.Spec PyProof.Rows L2 RZ
def wordN : D → Option Str
  | .tup (.str w :: _) => some w
  | _ => none
def opensW (w : Str) : Prop := w = Str.ofString "def" ∨ w = Str.ofString "if" ∨ w = Str.ofString "while"
def closesW (w : Str) : Prop := w = Str.ofString "give" ∨ w = Str.ofString "end"
/-- rows that are well nested so far, with h blocks open -/
inductive Nest : Nat → List D → Prop
  | nil : Nest 0 []
  | pl {h : Nat} {rs : List D} {r : D} {w : Str} : Nest h rs → wordN r = some w → ¬ opensW w → ¬ closesW w → w ≠ Str.ofString "else" → Nest h (rs ++ [r])
  | op {h : Nat} {rs : List D} {r : D} {w : Str} : Nest h rs → wordN r = some w → opensW w → Nest (h + 1) (rs ++ [r])
  | els {h : Nat} {rs : List D} {r : D} : Nest (h + 1) rs → wordN r = some (Str.ofString "else") → Nest (h + 1) (rs ++ [r])
  | cl {h : Nat} {rs : List D} {r : D} {w : Str} : Nest (h + 1) rs → wordN r = some w → closesW w → Nest h (rs ++ [r])
theorem Nest.plain {h : Nat} {rs : List D} {z : String} {rest : List D} (n : Nest h rs) (hz : z ∉ ["def", "if", "while", "give", "end", "else"]) : Nest h (rs ++ [.tup (.str (Str.ofString z) :: rest)]) := by
  simp at hz
  exact .pl n rfl (by unfold opensW; simp [hz]) (by unfold closesW; simp [hz]) (by simp [hz])
end VL
namespace VL
open PySem PySem.Spec PyProof.Rows L2 RZ
/-! ### the law's programs are taken -/
theorem az_let {c : Nat} (h : 97 ≤ c ∧ c ≤ 122) : isLet c = true := by
  unfold isLet
  rw [decide_eq_true_eq, az_list]
  simp
  exact ⟨c - 97, by omega, by omega⟩
theorem good_name {w : Str} (h : goodW w) : nameOk w = true := by
  unfold nameOk
  rw [Bool.and_eq_true, Bool.and_eq_true, decide_eq_true_eq, decide_eq_true_eq, List.all_eq_true]
  exact ⟨⟨h.1, h.2.1⟩, fun c hc => az_let (h.2.2 c hc)⟩
theorem dot_len : (Str.ofString ".").length = 1 := rfl
theorem dot_cps : (Str.ofString ".").cps = #[46] := by decide +kernel
theorem cps_app (a b : Str) : (a ++ b).cps = a.cps ++ b.cps := rfl
theorem str_app_len (a b : Str) : (a ++ b).length = a.length + b.length := by
  show (a.cps ++ b.cps).size = _; simp [Str.length]
theorem dot_starts (t : Str) : Txt.startswith (Str.ofString "." ++ t) (Str.ofString ".") = true := by
  unfold Txt.startswith Builtin.Str.subAt
  rw [str_app_len, dot_len, cps_app, dot_cps]
  simp
theorem dot_cut (t : Str) : cutS (Str.ofString "." ++ t) (some 1) none = t := by
  unfold cutS
  have e : HT.sIx (Str.ofString "." ++ t).length 0 (some 1) = 1 := by
    rw [show (1 : Int) = ((1 : Nat) : Int) from rfl, HT.sIx_nat, str_app_len, dot_len]; omega
  rw [e, HT.sIx_none, cps_app, dot_cps]
  have e2 : (Str.ofString "." ++ t).length - 1 = t.cps.toList.length := by rw [str_app_len, dot_len]; simp [Str.length]
  rw [e2]
  simp only [Array.toList_append, List.singleton_append, List.drop_succ_cons, List.drop_zero, List.take_length]
theorem field_ok {x : Str} (h : goodW x) : fieldD (.str (Str.ofString "." ++ x)) = true := by
  simp [fieldD, dot_starts, dot_cut, good_name h]
section
variable {ws : List Str} {pl : List (Str × List Str)}
theorem oper_ok (g : ∀ w ∈ ws, goodW w) {d : D} (h : OperD ws d) : operD d = true := by
  rcases h with ⟨x, hx, rfl⟩ | ⟨n, h1, h2, rfl⟩
  · simp [operD, nameD, good_name (g x (List.mem_of_mem_take hx))]
  · simp [operD, numD, numOk, h1, h2]
theorem oper_plain {d : D} (h : OperD ws d) : plainD d := by
  rcases h with ⟨x, hx, rfl⟩ | ⟨n, h1, h2, rfl⟩ <;> trivial
theorem oper_ntup {d : D} (h : OperD ws d) {ys : List D} : d ≠ .tup ys := by
  rcases h with ⟨x, hx, rfl⟩ | ⟨n, h1, h2, rfl⟩ <;> simp
theorem key_ok (g : ∀ w ∈ ws, goodW w) {d : D} (h : KeyD ws d) : (fieldD d || operD d) = true := by
  rcases h with ⟨x, hx, rfl⟩ | h
  · simp [field_ok (g x (List.mem_of_mem_take hx))]
  · simp [oper_ok g h]
theorem key_plain {d : D} (h : KeyD ws d) : plainD d := by
  rcases h with ⟨x, hx, rfl⟩ | h
  · trivial
  · exact oper_plain h
theorem key_ntup {d : D} (h : KeyD ws d) {ys : List D} : d ≠ .tup ys := by
  rcases h with ⟨x, hx, rfl⟩ | h
  · simp
  · exact oper_ntup h
theorem name4 (g : ∀ w ∈ ws, goodW w) {n : Str} (h : n ∈ ws.take 4) : nameOk n = true := good_name (g n (List.mem_of_mem_take h))
/-- a row that is right -/
def RightR (r : D) : Prop := ∃ w ps, r = .tup (.str w :: ps) ∧ RowIn w ps ∧ rowOk (.str w :: ps) = true
theorem simple_right (g : ∀ w ∈ ws, goodW w) (few : ∀ p ∈ pl, p.2.length ≤ 4) (gp : ∀ p ∈ pl, goodW p.1) {r : D} (s : Simple ws pl r) : RightR r := by
  cases s with
  | put hn ho =>
    refine ⟨_, _, rfl, ⟨?_, by simp, ?_, fun o h => by simp at h⟩, ?_⟩
    · intro x hx; simp at hx; rcases hx with rfl | rfl
      · trivial
      · exact oper_plain ho
    · intro x hx ys e; simp at hx; rcases hx with rfl | rfl
      · cases e
      · exact absurd e (oper_ntup ho)
    · simp [rowOk, clsOf, okPut, nameD, name4 g hn, oper_ok g ho]
  | @doo n a b o hn ha hm hb =>
    refine ⟨_, _, rfl, ⟨?_, by simp, ?_, fun o' _ h => ?_⟩, ?_⟩
    · intro x hx; simp at hx; rcases hx with rfl | rfl | rfl | rfl
      · trivial
      · exact oper_plain ha
      · trivial
      · exact oper_plain hb
    · intro x hx ys e; simp at hx; rcases hx with rfl | rfl | rfl | rfl
      · cases e
      · exact absurd e (oper_ntup ha)
      · cases e
      · exact absurd e (oper_ntup hb)
    · simp at h; subst h; rfl
    · have : reckW (.str (Str.ofString o)) = true := by
        simp [opWords] at hm
        rcases hm with rfl | rfl | rfl | rfl | rfl | rfl | rfl <;> simp [reckW]
      simp [rowOk, clsOf, okDo, nameD, name4 g hn, oper_ok g ha, oper_ok g hb, this]
  | new hn =>
    refine ⟨_, _, rfl, ⟨?_, by simp, ?_, fun o h => by simp at h⟩, ?_⟩
    · intro x hx; simp at hx; subst hx; trivial
    · intro x hx ys e; simp at hx; subst hx; cases e
    · simp [rowOk, clsOf, okName, nameD, name4 g hn]
  | get hn ho hk =>
    refine ⟨_, _, rfl, ⟨?_, by simp, ?_, fun o h => by simp at h⟩, ?_⟩
    · intro x hx; simp at hx; rcases hx with rfl | rfl | rfl
      · trivial
      · trivial
      · exact key_plain hk
    · intro x hx ys e; simp at hx; rcases hx with rfl | rfl | rfl
      · cases e
      · cases e
      · exact absurd e (key_ntup hk)
    · have := key_ok g hk
      simp only [Bool.or_eq_true] at this
      simp [rowOk, clsOf, okGet, nameD, name4 g hn, name4 g ho, this]
  | set ho hk hop =>
    refine ⟨_, _, rfl, ⟨?_, by simp, ?_, fun o h => by simp at h⟩, ?_⟩
    · intro x hx; simp at hx; rcases hx with rfl | rfl | rfl
      · trivial
      · exact key_plain hk
      · exact oper_plain hop
    · intro x hx ys e; simp at hx; rcases hx with rfl | rfl | rfl
      · cases e
      · exact absurd e (key_ntup hk)
      · exact absurd e (oper_ntup hop)
    · have := key_ok g hk
      simp only [Bool.or_eq_true] at this
      simp [rowOk, clsOf, okSet, nameD, name4 g ho, oper_ok g hop, this]
  | @call n p ops hn hp hl ho =>
    have h4 := few p hp
    refine ⟨_, _, rfl, ⟨?_, by simp, ?_, fun o h => by simp at h⟩, ?_⟩
    · intro x hx; simp at hx; rcases hx with rfl | rfl | rfl <;> trivial
    · intro x hx ys e; simp at hx; rcases hx with rfl | rfl | rfl
      · cases e
      · cases e
      · cases e
        exact ⟨fun x hx => oper_plain (ho x hx), by omega⟩
    · have ha : allOpD (.tup ops) = true := by
        simp [allOpD]
        exact ⟨by omega, fun x hx => oper_ok g (ho x hx)⟩
      simp [rowOk, clsOf, okCall, nameD, name4 g hn, good_name (gp p hp), ha]
  | fail hn =>
    refine ⟨_, _, rfl, ⟨?_, by simp, ?_, fun o h => by simp at h⟩, ?_⟩
    · intro x hx; simp at hx; subst hx; trivial
    · intro x hx ys e; simp at hx; subst hx; cases e
    · simp [rowOk, clsOf, okName, nameD, good_name (g _ (List.mem_of_mem_take (List.mem_of_mem_drop hn)))]
  | skip =>
    refine ⟨_, _, rfl, ⟨?_, by simp, ?_, fun o h => by simp at h⟩, ?_⟩
    · intro x hx; simp at hx
    · intro x hx; simp at hx
    · simp [rowOk, clsOf, okBare]
theorem bare_right {z : String} (h : z = "else" ∨ z = "end" ∨ z = "skip") : RightR (.tup [.str (Str.ofString z)]) := by
  refine ⟨_, _, rfl, ⟨?_, by simp, ?_, fun o h => by simp⟩, ?_⟩
  · intro x hx; simp at hx
  · intro x hx; simp at hx
  · rcases h with rfl | rfl | rfl <;> simp [rowOk, clsOf, okBare]
theorem give_right (g : ∀ w ∈ ws, goodW w) {z : String} (h : z = "give" ∨ z = "if" ∨ z = "while") {op : D} (ho : OperD ws op) : RightR (.tup [.str (Str.ofString z), op]) := by
  refine ⟨_, _, rfl, ⟨?_, by simp, ?_, fun o _ h => by simp at h⟩, ?_⟩
  · intro x hx; simp at hx; subst hx; exact oper_plain ho
  · intro x hx ys e; simp at hx; subst hx; exact absurd e (oper_ntup ho)
  · rcases h with rfl | rfl | rfl <;> simp [rowOk, clsOf, okGive, oper_ok g ho]
theorem part_right (g : ∀ w ∈ ws, goodW w) (few : ∀ p ∈ pl, p.2.length ≤ 4) (gp : ∀ p ∈ pl, goodW p.1) {st : List String} {body : List D} (p : Part ws pl st body) : ∀ r ∈ body, RightR r := by
  have app : ∀ {rs : List D} {r : D}, (∀ x ∈ rs, RightR x) → RightR r → ∀ x ∈ rs ++ [r], RightR x := fun h1 h2 x hx => by
    rcases List.mem_append.mp hx with hx | hx
    · exact h1 x hx
    · rw [List.mem_singleton.mp hx]; exact h2
  induction p with
  | nil => intro r hr; cases hr
  | row _ s ih => exact app ih (simple_right g few gp s)
  | opIf _ h ih => exact app ih (give_right g (.inr (.inl rfl)) h)
  | opWhile _ h ih => exact app ih (give_right g (.inr (.inr rfl)) h)
  | els _ ih => exact app ih (bare_right (.inl rfl))
  | cls _ ih => exact app ih (bare_right (.inr (.inl rfl)))
theorem names_strs : ∀ {xs : List Str}, (∀ x ∈ xs, goodW x) → namesOf (xs.map D.str) = xs
  | [], _ => rfl
  | x :: xs, h => by
    rw [List.map_cons, namesOf, if_pos (good_name (h x (by simp))), names_strs fun y hy => h y (by simp [hy])]
def defRow (p : Str × List Str) : D := .tup [.str (Str.ofString "def"), .str p.1, .tup (p.2.map D.str)]
theorem def_right {p : Str × List Str} (h1 : goodW p.1) (h2 : ∀ x ∈ p.2, goodW x) (h3 : p.2.length ≤ 4) (h4 : p.2.Nodup) : RightR (defRow p) := by
  refine ⟨_, _, rfl, ⟨?_, by simp, ?_, fun o h => by simp at h⟩, ?_⟩
  · intro x hx; simp at hx; rcases hx with rfl | rfl <;> trivial
  · intro x hx ys e; simp at hx; rcases hx with rfl | rfl
    · cases e
    · cases e
      refine ⟨fun x hx => ?_, by simp; omega⟩
      obtain ⟨z, _, rfl⟩ := List.mem_map.mp hx
      trivial
  · have ha : allOpD (.tup (p.2.map D.str)) = true := by
      simp [allOpD]
      exact ⟨by omega, fun x hx => by simp [operD, nameD, good_name (h2 x hx)]⟩
    have hn : namesOf (p.2.map D.str) = p.2 := names_strs h2
    have hs : (setS p.2).length = p.2.length := (setS_nd h4).length_eq
    simp [rowOk, clsOf, okDef, nameD, good_name h1, ha, hn, hs]
theorem funrows_right (g : ∀ w ∈ ws, goodW w) (few : ∀ p ∈ pl, p.2.length ≤ 4) (gp : ∀ p ∈ pl, goodW p.1) {p : Str × List Str} (hp : RightR (defRow p)) {fr : List D} (f : FunRows ws p pl fr) : ∀ r ∈ fr, RightR r := by
  induction f with
  | mk hb ho =>
    intro r hr
    rcases List.mem_append.mp hr with hr | hr
    · rcases List.mem_append.mp hr with hr | hr
      · rw [List.mem_singleton.mp hr]; exact hp
      · exact part_right g few gp hb r hr
    · rw [List.mem_singleton.mp hr]; exact give_right g (.inl rfl) ho
  | sk _ ih =>
    intro r hr
    rcases List.mem_append.mp hr with hr | hr
    · exact ih r hr
    · rw [List.mem_singleton.mp hr]; exact bare_right (.inr (.inr rfl))
/-- a plan that is good -/
structure PlanGood (ws : List Str) (pl : List (Str × List Str)) : Prop where
  nd : (pl.map (·.1)).Nodup
  nm : ∀ p ∈ pl, goodW p.1
  ps : ∀ p ∈ pl, p.2.length ≤ 4 ∧ (∀ x ∈ p.2, goodW x) ∧ p.2.Nodup
theorem funs_right (g : ∀ w ∈ ws, goodW w) (P : PlanGood ws pl) {k : Nat} {rs : List D} (f : Funs ws pl k rs) : ∀ r ∈ rs, RightR r := by
  induction f with
  | nil => intro r hr; cases hr
  | next hf hp hfr ih =>
    intro r hr
    rcases List.mem_append.mp hr with hr | hr
    · exact ih r hr
    · have hm := List.mem_of_getElem? hp
      have q := P.ps _ hm
      exact funrows_right g (fun p hp => (P.ps p (List.mem_of_mem_drop hp)).1) (fun p hp => P.nm p (List.mem_of_mem_drop hp)) (def_right (P.nm _ hm) q.2.1 q.1 q.2.2) hfr r hr
theorem PlanIn.good (nd : ws.Nodup) (g : ∀ w ∈ ws, goodW w) (h : PlanIn ws pl) : PlanGood ws pl where
  nd := by
    rw [List.Nodup, List.pairwise_iff_getElem]
    intro i j hi hj hij e
    simp at hi hj e
    have h1 := h.nm i pl[i] (by simp [hi])
    have h2 := h.nm j pl[j] (by simp [hj])
    rw [e] at h1
    obtain ⟨l1, q1⟩ := List.getElem?_eq_some_iff.mp h1
    obtain ⟨l2, q2⟩ := List.getElem?_eq_some_iff.mp h2
    exact (List.pairwise_iff_getElem.mp nd) i j l1 l2 hij (by rw [q1, q2])
  nm := fun p hp => by
    obtain ⟨i, hi⟩ := List.mem_iff_getElem?.mp hp
    exact g _ (List.mem_of_getElem? (h.nm i p hi))
  ps := fun p hp => by
    obtain ⟨h1, h2, h3⟩ := h.ps p hp
    exact ⟨by omega, fun x hx => g x (List.mem_of_mem_take (h2 x hx)), h3⟩
/-! blocks -/
def opn (st : List String) : List Str := Str.ofString "def" :: st.map Str.ofString
/-! calls -/
/-- no def, no call -/
def quietR (r : D) : Prop := ∃ w ps, r = .tup (.str w :: ps) ∧ w ≠ Str.ofString "def" ∧ w ≠ Str.ofString "call"
/-- a row that calls one of the functions ls -/
def callR (ls : List (Str × List Str)) (r : D) : Prop := ∃ x ops p, r = .tup [.str (Str.ofString "call"), x, .str p.1, .tup ops] ∧ p ∈ ls ∧ ops.length = p.2.length
/-- where the functions stand, k of them so far -/
structure Laid (pl : List (Str × List Str)) (k : Nat) (rs : List D) : Prop where
  defs : ∀ m p, m < k → pl[m]? = some p → ∃ j : Nat, rs[j]? = some (defRow p) ∧ ∀ (i : Nat) (r : D), rs[i]? = some r → isDef p.1 r = true → j ≤ i
  rows : ∀ (i : Nat) (r : D), rs[i]? = some r → quietR r ∨ (∃ p, r = defRow p ∧ ∀ (i' : Nat) (r' : D), rs[i']? = some r' → isDef p.1 r' = true → i ≤ i') ∨
    (∃ (m : Nat) (p : Str × List Str), callR [p] r ∧ pl[m]? = some p ∧ (k ≤ m ∨ ∃ j : Nat, i ≤ j ∧ rs[j]? = some (defRow p) ∧ ∀ (i' : Nat) (r' : D), rs[i']? = some r' → isDef p.1 r' = true → j ≤ i'))
  nms : ∀ (i : Nat) (r : D) (n : Str), rs[i]? = some r → isDef n r = true → ∃ m p, m < k ∧ pl[m]? = some p ∧ p.1 = n
end
/-! flat -/
end VL
namespace VL
open PySem PySem.Spec PyProof.Rows L2 RZ
theorem runS_app : ∀ (xs : List D) (r : D) (k : Nat) (s s' : ShS) (w : Str), runS k xs s = some s' → wordR r = some w → runS k (xs ++ [r]) s = stepS (k + xs.length) w s'
  | [], r, k, s, s', w, h, hw => by
    injection h with h; subst h
    show runS k [r] s = _
    unfold runS
    rw [hw]
    simp only [List.length_nil, Nat.add_zero]
    cases stepS k w s with
    | none => rfl
    | some s2 => rfl
  | x :: xs, r, k, s, s', w, h, hw => by
    show runS k (x :: (xs ++ [r])) s = _
    unfold runS at h ⊢
    cases q : wordR x with
    | none => rw [q] at h; cases h
    | some v =>
      rw [q] at h
      simp only at h ⊢
      cases q2 : stepS k v s with
      | none => rw [q2] at h; cases h
      | some s2 =>
        rw [q2] at h
        simp only at h ⊢
        rw [runS_app xs r (k + 1) s2 s' w h hw]
        congr 1
        simp; omega
/-- the last row of nested rows -/
theorem wordR_tup {r : D} {w : Str} (h : wordR r = some w) : ∃ rest, r = .tup (.str w :: rest) := by
  unfold wordR at h
  split at h
  · injection h with h; subst h; exact ⟨_, rfl⟩
  · cases h
/-- the word of the row at a place -/
def wA (rows : List D) (k : Nat) : Option Str := (rows[k]?).bind wordR
abbrev Mode := Option (Nat × List (Nat × String))
def plainW (w : Str) : Prop := ¬ opensW w ∧ ¬ closesW w ∧ w ≠ Str.ofString "else"
inductive StepM : Nat → Str → Mode → Mode → Prop
  | dfn {k : Nat} : StepM k (Str.ofString "def") none (some (k, []))
  | out {k : Nat} {w : Str} : plainW w → StepM k w none none
  | ins {k : Nat} {w : Str} {d : Nat} {st : List (Nat × String)} : plainW w → StepM k w (some (d, st)) (some (d, st))
  | opn {k d : Nat} {st : List (Nat × String)} {z : String} : z = "if" ∨ z = "while" → StepM k (Str.ofString z) (some (d, st)) (some (d, (k, z) :: st))
  | els {k d j : Nat} {st : List (Nat × String)} : StepM k (Str.ofString "else") (some (d, (j, "if") :: st)) (some (d, (j, "else") :: st))
  | cls {k d j : Nat} {z : String} {st : List (Nat × String)} : StepM k (Str.ofString "end") (some (d, (j, z) :: st)) (some (d, st))
  | giv {k d : Nat} : StepM k (Str.ofString "give") (some (d, [])) none
/-- rows of functions, one behind the other -/
inductive RunM : List D → Mode → Prop
  | nil : RunM [] none
  | snoc {rs : List D} {r : D} {w : Str} {m m' : Mode} : RunM rs m → wordR r = some w → StepM rs.length w m m' → RunM (rs ++ [r]) m'
theorem plain_of {z : String} (hz : z ∉ ["def", "if", "while", "give", "end", "else"]) : plainW (Str.ofString z) := by
  simp at hz
  exact ⟨by unfold opensW; simp [hz], by unfold closesW; simp [hz], by simp [hz]⟩
theorem simple_plainW {ws : List Str} {pl : List (Str × List Str)} {r : D} (s : Simple ws pl r) : ∃ w, wordR r = some w ∧ plainW w := by
  cases s <;> exact ⟨_, rfl, plain_of (by decide)⟩
/-! ### the walks -/
inductive PW (rows : List D) : Nat → Nat → Nat → Prop
  | stop {h : Nat} {w : Str} : wA rows h = some w → (w = Str.ofString "else" ∨ w = Str.ofString "end") → PW rows h 0 h
  | up {h d p : Nat} {w : Str} : wA rows h = some w → (w = Str.ofString "if" ∨ w = Str.ofString "while") → PW rows (h + 1) (d + 1) p → PW rows h d p
  | down {h d p : Nat} : wA rows h = some (Str.ofString "end") → PW rows (h + 1) d p → PW rows h (d + 1) p
  | same {h d p : Nat} {w : Str} : wA rows h = some w → ¬ (w = Str.ofString "if" ∨ w = Str.ofString "while") → w ≠ Str.ofString "end" → (w = Str.ofString "else" → 0 < d) → PW rows (h + 1) d p → PW rows h d p
inductive BW (rows : List D) : Nat → Nat → Nat → Prop
  | stop {h : Nat} {w : Str} : wA rows h = some w → (w = Str.ofString "if" ∨ w = Str.ofString "while") → BW rows h 0 h
  | up {h d p : Nat} : wA rows (h + 1) = some (Str.ofString "end") → BW rows h (d + 1) p → BW rows (h + 1) d p
  | down {h d p : Nat} {w : Str} : wA rows (h + 1) = some w → (w = Str.ofString "if" ∨ w = Str.ofString "while") → BW rows h d p → BW rows (h + 1) (d + 1) p
  | same {h d p : Nat} {w : Str} : wA rows (h + 1) = some w → ¬ (w = Str.ofString "if" ∨ w = Str.ofString "while") → w ≠ Str.ofString "end" → BW rows h d p → BW rows (h + 1) d p
/-- the home that a row has -/
def homeS (rows : List D) : Nat → Option Nat
  | 0 => none
  | k + 1 => if wA rows k = some (Str.ofString "give") then none else if wA rows k = some (Str.ofString "def") then some k else homeS rows k
def homeV (rows : List D) (k : Nat) : Option Nat := if wA rows k = some (Str.ofString "def") then some k else homeS rows k
/-- of a block that is closed -/
def FactB (rows : List D) (s : ShS) (j : Nat) : Prop := ∃ n, s.ends[j]? = some (some n) ∧ j < n ∧ wA rows n = some (Str.ofString "end") ∧
  ((s.elses[j]? = some none ∧ PW rows (j + 1) 0 n) ∨ ∃ e, wA rows j = some (Str.ofString "if") ∧ s.elses[j]? = some (some e) ∧ j < e ∧ wA rows e = some (Str.ofString "else") ∧ PW rows (j + 1) 0 e ∧ PW rows (e + 1) 0 n)
def lvl (rows : List D) (k : Nat) (s : ShS) (i j : Nat) (z : String) : Prop :=
  j < k ∧ (z = "while" ∧ wA rows j = some (Str.ofString "while") ∨ (z = "if" ∨ z = "else") ∧ wA rows j = some (Str.ofString "if")) ∧
  ((z = "else" ∧ ∃ e, s.elses[j]? = some (some e) ∧ j < e ∧ wA rows e = some (Str.ofString "else") ∧ PW rows (j + 1) 0 e ∧ ∀ p, PW rows k i p → PW rows (e + 1) 0 p) ∨
   (z ≠ "else" ∧ s.elses[j]? = some none ∧ ∀ p, PW rows k i p → PW rows (j + 1) 0 p))
def Lvls (rows : List D) (k : Nat) (s : ShS) : Nat → List (Nat × String) → Prop
  | _, [] => True
  | i, (j, z) :: st => lvl rows k s i j z ∧ Lvls rows k s (i + 1) st
def BA (rows : List D) : Nat → List (Nat × String) → Prop
  | _, [] => True
  | k, (j, _) :: st => j < k ∧ (∃ w, wA rows j = some w ∧ (w = Str.ofString "if" ∨ w = Str.ofString "while")) ∧ (∀ d p, BW rows j d p → BW rows (k - 1) d p) ∧ BA rows j st
theorem Lvls.to {rows : List D} {k k' : Nat} {s s' : ShS} : ∀ {st : List (Nat × String)} {i i' : Nat}, Lvls rows k s i st → (∀ n j z, (j, z) ∈ st → lvl rows k s (i + n) j z → lvl rows k' s' (i' + n) j z) → Lvls rows k' s' i' st
  | [], _, _, _, _ => trivial
  | (j, z) :: st, i, i', h, f => ⟨f 0 j z (by simp) h.1, Lvls.to h.2 fun n j z hm h => by have := f (n + 1) j z (by simp [hm]) (by rwa [show i + (n + 1) = i + 1 + n by omega]); rwa [show i' + 1 + n = i' + (n + 1) by omega]⟩
theorem lvl.to {rows : List D} {k i i' j : Nat} {z : String} {s s' : ShS} (h : lvl rows k s i j z) (e : s'.elses[j]? = s.elses[j]?) (f : ∀ p, PW rows (k + 1) i' p → PW rows k i p) : lvl rows (k + 1) s' i' j z := by
  obtain ⟨h1, h2, h3⟩ := h
  refine ⟨by omega, h2, ?_⟩
  rw [e]
  rcases h3 with ⟨a, n, b, c, d, g, q⟩ | ⟨a, b, q⟩
  · exact .inl ⟨a, n, b, c, d, g, fun p hp => q p (f p hp)⟩
  · exact .inr ⟨a, b, fun p hp => q p (f p hp)⟩
theorem BA.lt {rows : List D} : ∀ {st : List (Nat × String)} {k : Nat}, BA rows k st → ∀ j, j ∈ st.map (·.1) → j < k
  | [], _, _, j, h => by simp at h
  | (i, z) :: st, k, b, j, h => by
    simp only [List.map_cons, List.mem_cons] at h
    rcases h with rfl | h
    · exact b.1
    · exact Nat.lt_trans (BA.lt b.2.2.2 j h) b.1
theorem FactB.to {rows : List D} {s s' : ShS} {j : Nat} (h : FactB rows s j) (e1 : s'.ends[j]? = s.ends[j]?) (e2 : s'.elses[j]? = s.elses[j]?) : FactB rows s' j := by
  unfold FactB at h ⊢
  rw [e1, e2]; exact h
structure Inv31 (rows : List D) (k : Nat) (m : Mode) (s : ShS) : Prop where
  ok : ShOk rows.length k s
  stk : s.stack = match m with | none => [] | some (d, st) => d :: (st.map (·.1)).reverse
  dl : ∀ d st, m = some (d, st) → wA rows d = some (Str.ofString "def")
  lv : ∀ d st, m = some (d, st) → Lvls rows k s 0 st
  ba : ∀ d st, m = some (d, st) → BA rows k st
  cl : ∀ j < k, (wA rows j = some (Str.ofString "if") ∨ wA rows j = some (Str.ofString "while")) → (∀ d st, m = some (d, st) → j ∉ st.map (·.1)) → FactB rows s j
  op : ∀ j < k, (wA rows j = some (Str.ofString "if") ∨ wA rows j = some (Str.ofString "while") ∨ wA rows j = some (Str.ofString "end")) → homeV rows j ≠ none
  el : ∀ e < k, wA rows e = some (Str.ofString "else") → ∃ j, s.heads[e]? = some (some j) ∧ s.elses[j]? = some (some e) ∧ wA rows j = some (Str.ofString "if") ∧ j < e
  en : ∀ e < k, wA rows e = some (Str.ofString "end") → ∃ j w, s.heads[e]? = some (some j) ∧ wA rows j = some w ∧ BW rows (e - 1) 0 j ∧ j < e
  fe : ∀ j, k ≤ j → j < rows.length → s.elses[j]? = some none ∧ s.homes[j]? = some none
  hm : ∀ i < k, s.homes[i]? = some (homeV rows i)
  hs : homeS rows k = m.map (·.1)
theorem inv_start (rows : List D) : Inv31 rows 0 none (.start rows.length) where
  ok := ⟨by simp [ShS.start], by simp [ShS.start], by simp [ShS.start], by simp [ShS.start], by simp [ShS.start], by simp [ShS.start]⟩
  stk := rfl
  dl := by simp
  lv := by simp
  ba := by simp
  cl := by simp
  op := by simp
  el := by simp
  en := by simp
  fe := fun j _ h => by simp [ShS.start, List.getElem?_replicate, h]
  hm := by simp
  hs := rfl
theorem ShOk.step {n k : Nat} {w : Str} {s s' : ShS} (h : ShOk n k s) (e : stepS k w s = some s') : ShOk n (k + 1) s' := by
  unfold stepS at e
  cases q : elseS k w (defS k w (topS k s)) with
  | none => rw [q] at e; cases e
  | some a =>
    rw [q] at e
    simp only [Option.bind_some] at e
    cases q2 : footS k w a with
    | none => rw [q2] at e; cases e
    | some b =>
      rw [q2] at e
      injection e with e
      subst e
      exact ((h.top.deff.els q).foot q2).push
theorem plain_ne {w : Str} (h : plainW w) : w ≠ Str.ofString "def" ∧ w ≠ Str.ofString "if" ∧ w ≠ Str.ofString "while" ∧ w ≠ Str.ofString "give" ∧ w ≠ Str.ofString "end" ∧ w ≠ Str.ofString "else" := by
  obtain ⟨h1, h2, h3⟩ := h
  unfold opensW at h1
  unfold closesW at h2
  simp only [not_or] at h1 h2
  exact ⟨h1.1, h1.2.1, h1.2.2, h2.1, h2.2, h3⟩
theorem next_of {k : Nat} {Q : Nat → Prop} (h1 : ∀ j < k, Q j) (h2 : Q k) : ∀ j < k + 1, Q j := fun j hj => by
  rcases Nat.lt_succ_iff_lt_or_eq.mp hj with h | rfl
  · exact h1 j h
  · exact h2
/-- what the step keeps, inside a function, of heads and homes -/
theorem homes_in {rows : List D} {k d : Nat} {st : List (Nat × String)} {s : ShS} {w : Str} (hk : k < rows.length) (hw : wA rows k = some w) (wd : w ≠ Str.ofString "def") (I : Inv31 rows k (some (d, st)) s) :
    (∀ i < k + 1, (s.homes.set k (some d))[i]? = some (homeV rows i)) ∧ (w ≠ Str.ofString "give" → homeS rows (k + 1) = some d) ∧ (w = Str.ofString "give" → homeS rows (k + 1) = none) ∧ homeV rows k = some d := by
  have hs := I.hs
  simp at hs
  have hv : homeV rows k = some d := by unfold homeV; rw [hw, if_neg (by simpa using wd), hs]
  refine ⟨next_of (fun i hi => ?_) ?_, fun h => ?_, fun h => ?_, hv⟩
  · rw [List.getElem?_set_ne (by omega)]; exact I.hm i hi
  · rw [List.getElem?_set_self (by rw [I.ok.l4]; exact hk), hv]
  · unfold homeS; rw [hw, if_neg (by simpa using h), if_neg (by simpa using wd), hs]
  · unfold homeS; rw [hw, if_pos (by rw [h])]
theorem step_to {rows : List D} {k : Nat} {w : Str} {m m' : Mode} {s : ShS} (hk : k < rows.length) (hw : wA rows k = some w) (t : StepM k w m m') (I : Inv31 rows k m s) : ∃ s', stepS k w s = some s' ∧ Inv31 rows (k + 1) m' s' := by
  have l1 := I.ok.l1
  have l2 := I.ok.l2
  have l3 := I.ok.l3
  have l4 := I.ok.l4
  have stk := I.stk
  have hs := I.hs
  cases t with
  | dfn =>
    have e : stepS k (Str.ofString "def") s = some { s with homes := s.homes.set k (some k), stack := s.stack ++ [k] } := by simp [stepS, topS, stk, defS, elseS, footS, pushS]
    refine ⟨_, e, I.ok.step e, by simp [stk], by simp [hw], by simp [Lvls], by simp [BA], next_of (fun j hj h _ => (I.cl j hj h (by simp)).to rfl rfl) (by rw [hw]; simp), next_of I.op (by rw [hw]; simp), next_of I.el (by rw [hw]; simp), next_of I.en (by rw [hw]; simp), fun j h1 h2 => ⟨(I.fe j (by omega) h2).1, ?_⟩, next_of (fun i hi => ?_) ?_, ?_⟩
    · show (s.homes.set k (some k))[j]? = _
      rw [List.getElem?_set_ne (by omega)]; exact (I.fe j (by omega) h2).2
    · show (s.homes.set k (some k))[i]? = _
      rw [List.getElem?_set_ne (by omega)]; exact I.hm i hi
    · show (s.homes.set k (some k))[k]? = _
      rw [List.getElem?_set_self (by omega)]; unfold homeV; rw [if_pos hw]
    · unfold homeS; rw [hw]; simp
  | out hp =>
    obtain ⟨n1, n2, n3, n4, n5, n6⟩ := plain_ne hp
    have e : stepS k w s = some s := by simp [stepS, topS, stk, defS, elseS, footS, pushS, n1, n2, n3, n4, n5, n6]
    simp at hs
    have h0 : homeV rows k = none := by unfold homeV; rw [hw, if_neg (by simpa using n1), hs]
    refine ⟨_, e, I.ok.step e, by simp [stk], by simp, by simp, by simp, next_of (fun j hj h _ => (I.cl j hj h (by simp)).to rfl rfl) (by rw [hw]; simp [n2, n3]), next_of I.op (by rw [hw]; simp [n2, n3, n5]), next_of I.el (by rw [hw]; simp [n6]), next_of I.en (by rw [hw]; simp [n5]), fun j h1 h2 => I.fe j (by omega) h2, next_of I.hm ?_, ?_⟩
    · rw [(I.fe k (by omega) hk).2, h0]
    · unfold homeS; rw [hw]; simp [n1, n4, hs]
  | @ins w d st hp =>
    obtain ⟨n1, n2, n3, n4, n5, n6⟩ := plain_ne hp
    simp only at stk
    obtain ⟨t, ht⟩ : ∃ t, (d :: (st.map (·.1)).reverse).getLast? = some t := ⟨_, List.getLast?_eq_some_getLast (by simp)⟩
    have e : stepS k w s = some { s with heads := s.heads.set k (some t), homes := s.homes.set k (some d) } := by simp only [stepS, topS, stk, ht, List.head?_cons]; simp [defS, elseS, footS, pushS, n1, n2, n3, n4, n5, n6]
    obtain ⟨h1, h2, h3, h4⟩ := homes_in hk hw n1 I
    have hne : ∀ i < k, (s.heads.set k (some t))[i]? = s.heads[i]? := fun i hi => List.getElem?_set_ne (by omega)
    refine ⟨_, e, I.ok.step e, by simp [stk], by rintro d' st' ⟨⟩; exact I.dl d _ rfl, ?_, ?_, next_of (fun j hj h z => (I.cl j hj h z).to rfl rfl) (by rw [hw]; simp [n2, n3]), next_of I.op (by rw [hw]; simp [n2, n3, n5]), next_of (fun i hi h => ?_) (by rw [hw]; simp [n6]), next_of (fun i hi h => ?_) (by rw [hw]; simp [n5]), fun j g1 g2 => ⟨(I.fe j (by omega) g2).1, ?_⟩, h1, by simp [h2 n4]⟩
    · rintro d' st' ⟨⟩
      exact (I.lv d st rfl).to fun n j z _ h => h.to rfl fun p hp => .same hw (by simp [n2, n3]) n5 (fun h => absurd h n6) hp
    · rintro d' st' ⟨⟩
      have b := I.ba d st rfl
      cases st with
      | nil => trivial
      | cons a st =>
        obtain ⟨j, z⟩ := a
        obtain ⟨b1, b2, b3, b4⟩ := b
        refine ⟨by omega, b2, fun d p h => ?_, b4⟩
        have := b3 d p h
        obtain ⟨k, rfl⟩ : ∃ k', k = k' + 1 := ⟨k - 1, by omega⟩
        exact .same hw (by simp [n2, n3]) n5 this
    · show ∃ j, (s.heads.set k (some t))[i]? = _ ∧ _
      rw [hne i hi]; exact I.el i hi h
    · show ∃ j w, (s.heads.set k (some t))[i]? = _ ∧ _
      rw [hne i hi]; exact I.en i hi h
    · show (s.homes.set k (some d))[j]? = _
      rw [List.getElem?_set_ne (by omega)]; exact (I.fe j (by omega) g2).2
  | @opn d st z hz =>
    simp only at stk
    obtain ⟨t, ht⟩ : ∃ t, (d :: (st.map (·.1)).reverse).getLast? = some t := ⟨_, List.getLast?_eq_some_getLast (by simp)⟩
    have n1 : Str.ofString z ≠ Str.ofString "def" := by rcases hz with rfl | rfl <;> simp
    have n4 : Str.ofString z ≠ Str.ofString "give" := by rcases hz with rfl | rfl <;> simp
    have n5 : Str.ofString z ≠ Str.ofString "end" := by rcases hz with rfl | rfl <;> simp
    have n6 : Str.ofString z ≠ Str.ofString "else" := by rcases hz with rfl | rfl <;> simp
    have np : Str.ofString z = Str.ofString "if" ∨ Str.ofString z = Str.ofString "while" := by rcases hz with rfl | rfl <;> simp
    have nz : z ≠ "else" := by rcases hz with rfl | rfl <;> decide
    have e : stepS k (Str.ofString z) s = some { s with heads := s.heads.set k (some t), homes := s.homes.set k (some d), stack := s.stack ++ [k] } := by simp only [stepS, topS, stk, ht, List.head?_cons]; rcases hz with rfl | rfl <;> simp [defS, elseS, footS, pushS, stk]
    obtain ⟨h1, h2, h3, h4⟩ := homes_in hk hw n1 I
    have hne : ∀ i < k, (s.heads.set k (some t))[i]? = s.heads[i]? := fun i hi => List.getElem?_set_ne (by omega)
    refine ⟨_, e, I.ok.step e, by simp [stk], by rintro d' st' ⟨⟩; exact I.dl d _ rfl, ?_, ?_, next_of (fun j hj h z => (I.cl j hj h fun d' st' q hm => ?_).to rfl rfl) (fun _ q => absurd (List.mem_cons_self) (q d _ rfl)), next_of I.op (fun _ => by rw [h4]; simp), next_of (fun i hi h => ?_) (by rw [hw]; intro h; injection h with h; exact absurd h n6), next_of (fun i hi h => ?_) (by rw [hw]; intro h; injection h with h; exact absurd h n5), fun j g1 g2 => ⟨(I.fe j (by omega) g2).1, ?_⟩, h1, by simp [h2 n4]⟩
    · rintro d' st' ⟨⟩
      refine ⟨⟨by omega, ?_, .inr ⟨nz, (I.fe k (by omega) hk).1, fun p hp => hp⟩⟩, (I.lv d st rfl).to fun n j z _ h => h.to rfl fun p hp => .up hw np (by rwa [show 0 + n + 1 = 0 + 1 + n by omega])⟩
      rcases hz with rfl | rfl
      · exact .inr ⟨.inl rfl, hw⟩
      · exact .inl ⟨rfl, hw⟩
    · rintro d' st' ⟨⟩
      exact ⟨by omega, ⟨_, hw, np⟩, fun d p h => h, I.ba d st rfl⟩
    · cases q
      exact z d _ rfl (List.mem_cons_of_mem _ hm)
    · show ∃ j, (s.heads.set k (some t))[i]? = _ ∧ _
      rw [hne i hi]; exact I.el i hi h
    · show ∃ j w, (s.heads.set k (some t))[i]? = _ ∧ _
      rw [hne i hi]; exact I.en i hi h
    · show (s.homes.set k (some d))[j]? = _
      rw [List.getElem?_set_ne (by omega)]; exact (I.fe j (by omega) g2).2
  | @els d j st =>
    simp only at stk
    have hl : s.stack.getLast? = some j := by rw [stk, show d :: (((j, "if") :: st).map (·.1)).reverse = (d :: (st.map (·.1)).reverse) ++ [j] by simp, List.getLast?_concat]
    have hh : s.stack.head? = some d := by rw [stk]; rfl
    have e : stepS k (Str.ofString "else") s = some { s with heads := s.heads.set k (some j), homes := s.homes.set k (some d), elses := s.elses.set j (some k) } := by simp [stepS, topS, hl, hh, defS, elseS, footS, pushS]
    obtain ⟨h1, h2, h3, h4⟩ := homes_in hk hw (by simp) I
    have hne : ∀ i < k, (s.heads.set k (some j))[i]? = s.heads[i]? := fun i hi => List.getElem?_set_ne (by omega)
    obtain ⟨⟨lt, kd, q⟩, lv⟩ := I.lv d _ rfl
    obtain ⟨b1, b2, b3, b4⟩ := I.ba d _ rfl
    have wj : wA rows j = some (Str.ofString "if") := by
      rcases kd with ⟨h, _⟩ | ⟨_, h⟩
      · exact absurd h (by decide)
      · exact h
    obtain ⟨q1, q2⟩ : s.elses[j]? = some none ∧ ∀ p, PW rows k 0 p → PW rows (j + 1) 0 p := by
      rcases q with ⟨h, _⟩ | ⟨_, h1, h2⟩
      · exact absurd h (by decide)
      · exact ⟨h1, h2⟩
    have ene : ∀ i, i ≠ j → (s.elses.set j (some k))[i]? = s.elses[i]? := fun i hi => List.getElem?_set_ne (by omega)
    have ej : (s.elses.set j (some k))[j]? = some (some k) := List.getElem?_set_self (by omega)
    refine ⟨_, e, I.ok.step e, by simp [stk], by rintro d' st' ⟨⟩; exact I.dl d _ rfl, ?_, ?_, next_of (fun i hi h z => (I.cl i hi h fun d' st' q hm => ?_).to rfl (ene i ?_)) (by rw [hw]; simp), next_of I.op (by rw [hw]; simp), next_of (fun i hi h => ?_) (fun _ => ⟨j, List.getElem?_set_self (by omega), ej, wj, lt⟩), next_of (fun i hi h => ?_) (by rw [hw]; simp), fun i g1 g2 => ⟨?_, ?_⟩, h1, by simp [h2]⟩
    · rintro d' st' ⟨⟩
      refine ⟨⟨by omega, .inr ⟨.inr rfl, wj⟩, .inl ⟨rfl, k, ej, lt, hw, q2 _ (.stop hw (.inl rfl)), fun p hp => hp⟩⟩, lv.to fun n i z hm h => h.to (ene i ?_) fun p hp => .same hw (by simp) (by simp) (fun _ => by omega) hp⟩
      have := b4.lt i (List.mem_map.mpr ⟨_, hm, rfl⟩); omega
    · rintro d' st' ⟨⟩
      refine ⟨by omega, b2, fun d p h => ?_, b4⟩
      have := b3 d p h
      obtain ⟨k, rfl⟩ : ∃ k', k = k' + 1 := ⟨k - 1, by omega⟩
      exact .same hw (by simp) (by simp) this
    · cases q
      exact z d _ rfl hm
    · rintro rfl
      exact z d _ rfl List.mem_cons_self
    · show ∃ j', (s.heads.set k (some j))[i]? = _ ∧ (s.elses.set j (some k))[j']? = _ ∧ _
      rw [hne i hi]
      obtain ⟨j', a1, a2, a3, a4⟩ := I.el i hi h
      refine ⟨j', a1, ?_, a3, a4⟩
      rw [ene j' ?_]; exact a2
      rintro rfl
      rw [q1] at a2; cases a2
    · show ∃ j' w, (s.heads.set k (some j))[i]? = _ ∧ _
      rw [hne i hi]; exact I.en i hi h
    · show (s.elses.set j (some k))[i]? = _
      rw [ene i (by omega)]; exact (I.fe i (by omega) g2).1
    · show (s.homes.set k (some d))[i]? = _
      rw [List.getElem?_set_ne (by omega)]; exact (I.fe i (by omega) g2).2
  | @cls d j z st =>
    simp only at stk
    have hl : s.stack.getLast? = some j := by rw [stk, show d :: (((j, z) :: st).map (·.1)).reverse = (d :: (st.map (·.1)).reverse) ++ [j] by simp, List.getLast?_concat]
    have hh : s.stack.head? = some d := by rw [stk]; rfl
    have hd : s.stack.dropLast = d :: (st.map (·.1)).reverse := by
      rw [stk, show d :: (((j, z) :: st).map (·.1)).reverse = (d :: (st.map (·.1)).reverse) ++ [j] by simp, List.dropLast_concat]
    have e : stepS k (Str.ofString "end") s = some { s with heads := s.heads.set k (some j), homes := s.homes.set k (some d), ends := s.ends.set j (some k), stack := d :: (st.map (·.1)).reverse } := by
      simp [stepS, topS, hl, hh, defS, elseS, footS, pushS, hd]
    obtain ⟨h1, h2, h3, h4⟩ := homes_in hk hw (by simp) I
    have hne : ∀ i < k, (s.heads.set k (some j))[i]? = s.heads[i]? := fun i hi => List.getElem?_set_ne (by omega)
    obtain ⟨⟨lt, kd, q⟩, lv⟩ := I.lv d _ rfl
    obtain ⟨b1, b2, b3, b4⟩ := I.ba d _ rfl
    have ene : ∀ i, i ≠ j → (s.ends.set j (some k))[i]? = s.ends[i]? := fun i hi => List.getElem?_set_ne (by omega)
    have ej : (s.ends.set j (some k))[j]? = some (some k) := List.getElem?_set_self (by omega)
    obtain ⟨wj, b5, b6⟩ := b2
    refine ⟨_, e, I.ok.step e, by simp, by rintro d' st' ⟨⟩; exact I.dl d _ rfl, ?_, ?_, next_of (fun i hi h z' => ?_) (by rw [hw]; simp), next_of I.op (fun _ => by rw [h4]; simp), next_of (fun i hi h => ?_) (by rw [hw]; simp), next_of (fun i hi h => ?_) (fun _ => ⟨j, wj, List.getElem?_set_self (by omega), b5, b3 _ _ (.stop b5 b6), lt⟩), fun i g1 g2 => ⟨(I.fe i (by omega) g2).1, ?_⟩, h1, by simp [h2]⟩
    · rintro d' st' ⟨⟩
      exact lv.to fun n i z hm h => h.to rfl fun p hp => by
        rw [show 0 + 1 + n = (0 + n) + 1 by omega]; exact .down hw hp
    · rintro d' st' ⟨⟩
      cases st with
      | nil => trivial
      | cons a st =>
        obtain ⟨i, z2⟩ := a
        obtain ⟨c1, c2, c3, c4⟩ := b4
        refine ⟨by omega, c2, fun d p h => ?_, c4⟩
        have h5 := c3 d p h
        obtain ⟨j, rfl⟩ : ∃ j', j = j' + 1 := ⟨j - 1, by omega⟩
        have h6 := b3 (d + 1) p (.down b5 b6 h5)
        obtain ⟨k, rfl⟩ : ∃ k', k = k' + 1 := ⟨k - 1, by omega⟩
        exact .up hw h6
    · by_cases c : i = j
      · subst c
        refine ⟨k, ej, lt, hw, ?_⟩
        rcases q with ⟨_, n, a1, a2, a3, a4, a5⟩ | ⟨_, a1, a2⟩
        · refine .inr ⟨n, ?_, a1, a2, a3, a4, a5 _ (.stop hw (.inr rfl))⟩
          rcases kd with ⟨h, _⟩ | ⟨_, h⟩
          · subst h; rename_i hz; exact absurd hz (by decide)
          · exact h
        · exact .inl ⟨a1, a2 _ (.stop hw (.inr rfl))⟩
      · refine (I.cl i hi h fun d' st' q hm => ?_).to (ene i c) rfl
        cases q
        rcases List.mem_cons.mp hm with hm | hm
        · exact c hm
        · exact z' d _ rfl hm
    · show ∃ j', (s.heads.set k (some j))[i]? = _ ∧ _
      rw [hne i hi]; exact I.el i hi h
    · show ∃ j' w, (s.heads.set k (some j))[i]? = _ ∧ _
      rw [hne i hi]; exact I.en i hi h
    · show (s.homes.set k (some d))[i]? = _
      rw [List.getElem?_set_ne (by omega)]; exact (I.fe i (by omega) g2).2
  | @giv d =>
    simp only [List.map_nil, List.reverse_nil] at stk
    have e : stepS k (Str.ofString "give") s = some { s with heads := s.heads.set k (some d), homes := s.homes.set k (some d), ends := s.ends.set d (some k), stack := [] } := by
      simp only [stepS, topS, stk, List.getLast?_singleton, List.head?_cons]; simp [defS, elseS, footS, pushS, stk]
    obtain ⟨h1, h2, h3, h4⟩ := homes_in hk hw (by simp) I
    have hne : ∀ i < k, (s.heads.set k (some d))[i]? = s.heads[i]? := fun i hi => List.getElem?_set_ne (by omega)
    have dk := I.ok.st d (by rw [stk]; simp)
    refine ⟨_, e, I.ok.step e, by simp, by simp, by simp, by simp, next_of (fun i hi h z' => (I.cl i hi h fun d' st' q => by cases q; simp).to (List.getElem?_set_ne ?_) rfl) (by rw [hw]; simp), next_of I.op (by rw [hw]; simp), next_of (fun i hi h => ?_) (by rw [hw]; simp), next_of (fun i hi h => ?_) (by rw [hw]; simp), fun i g1 g2 => ⟨(I.fe i (by omega) g2).1, ?_⟩, h1, by simp [h3]⟩
    · rintro rfl
      rw [I.dl d _ rfl] at h
      simp at h
    · show ∃ j', (s.heads.set k (some d))[i]? = _ ∧ _
      rw [hne i hi]; exact I.el i hi h
    · show ∃ j' w, (s.heads.set k (some d))[i]? = _ ∧ _
      rw [hne i hi]; exact I.en i hi h
    · show (s.homes.set k (some d))[i]? = _
      rw [List.getElem?_set_ne (by omega)]; exact (I.fe i (by omega) g2).2
theorem wA_some {rows : List D} {k : Nat} {w : Str} (h : wA rows k = some w) : ∃ rest, rows[k]? = some (.tup (.str w :: rest)) := by
  unfold wA at h
  cases q : rows[k]? with
  | none => rw [q] at h; cases h
  | some r =>
    rw [q] at h
    obtain ⟨rest, rfl⟩ := wordR_tup (by simpa using h)
    exact ⟨rest, rfl⟩
theorem wA_lt {rows : List D} {k : Nat} {w : Str} (h : wA rows k = some w) : k < rows.length := by
  obtain ⟨_, h⟩ := wA_some h
  exact (List.getElem?_eq_some_iff.mp h).1
theorem PW.lt {rows : List D} {h d p : Nat} (x : PW rows h d p) : p < rows.length ∧ h ≤ p := by
  induction x with
  | stop h _ => exact ⟨wA_lt h, Nat.le_refl _⟩
  | up _ _ _ ih => exact ⟨ih.1, by omega⟩
  | down _ _ ih => exact ⟨ih.1, by omega⟩
  | same _ _ _ _ _ ih => exact ⟨ih.1, by omega⟩
theorem BW.le {rows : List D} {h d p : Nat} (x : BW rows h d p) : p ≤ h ∧ h < rows.length := by
  induction x with
  | stop h _ => exact ⟨Nat.le_refl _, wA_lt h⟩
  | up h _ ih => exact ⟨by omega, wA_lt h⟩
  | down h _ _ ih => exact ⟨by omega, wA_lt h⟩
  | same h _ _ _ ih => exact ⟨by omega, wA_lt h⟩
end VL
namespace VL
open PySem PySem.Spec PyProof.Rows L2 RZ
/-! ### rows, typed -/
inductive Rw where
  | skip | els | endd
  | deff (n : Str) (ps : List Str)
  | give (o : Key) | iff (o : Key) | whil (o : Key)
  | put (n : Str) (o : Key) | doo (n : Str) (a : Key) (w : Str) (b : Key) | new (n : Str)
  | get (n o : Str) (k : Key) | set (o : Str) (k v : Key) | call (n f : Str) (ops : List Key) | fail (w : Str)
@[simp] def rwW : Rw → String
  | .skip => "skip" | .els => "else" | .endd => "end" | .deff _ _ => "def" | .give _ => "give" | .iff _ => "if" | .whil _ => "while"
  | .put _ _ => "put" | .doo _ _ _ _ => "do" | .new _ => "new" | .get _ _ _ => "get" | .set _ _ _ => "set" | .call _ _ _ => "call" | .fail _ => "fail"
@[simp] def rwP : Rw → List D
  | .skip => [] | .els => [] | .endd => []
  | .deff n ps => [.str n, .tup (ps.map D.str)]
  | .give o => [kD o] | .iff o => [kD o] | .whil o => [kD o]
  | .put n o => [.str n, kD o] | .doo n a w b => [.str n, kD a, .str w, kD b] | .new n => [.str n]
  | .get n o k => [.str n, .str o, kD k] | .set o k v => [.str o, kD k, kD v] | .call n f ops => [.str n, .str f, .tup (ops.map kD)] | .fail w => [.str w]
def rwL (r : Rw) : List D := .str (Str.ofString (rwW r)) :: rwP r
def rwD (r : Rw) : D := .tup (rwL r)
abbrev prgD (P : List Rw) : D := .lst (P.map rwD)
/-! what is right of them -/
def okO : Key → Bool
  | .inl n => numOk n
  | .inr s => nameOk s
def fldS (s : Str) : Bool := Txt.startswith s (Str.ofString ".") && nameOk (cutS s (some 1) none)
def fldK : Key → Bool
  | .inl _ => false
  | .inr s => fldS s
def okKy (k : Key) : Bool := fldK k || okO k
def opsW : List Str := [Str.ofString "plus", Str.ofString "minus", Str.ofString "times", Str.ofString "over", Str.ofString "rest", Str.ofString "less", Str.ofString "same"]
def wfR : Rw → Prop
  | .skip => True | .els => True | .endd => True
  | .deff n ps => nameOk n = true ∧ ps.length ≤ 4 ∧ (∀ p ∈ ps, nameOk p = true) ∧ ps.Nodup
  | .give o => okO o = true | .iff o => okO o = true | .whil o => okO o = true
  | .put n o => nameOk n = true ∧ okO o = true
  | .doo n a w b => nameOk n = true ∧ okO a = true ∧ w ∈ opsW ∧ okO b = true
  | .new n => nameOk n = true
  | .get n o k => nameOk n = true ∧ nameOk o = true ∧ okKy k = true
  | .set o k v => nameOk o = true ∧ okKy k = true ∧ okO v = true
  | .call n f ops => nameOk n = true ∧ nameOk f = true ∧ ops.length ≤ 4 ∧ ∀ o ∈ ops, okO o = true
  | .fail w => nameOk w = true
theorem nameD_str {d : D} (h : nameD d = true) : ∃ s, d = .str s ∧ nameOk s = true := by
  cases d <;> simp [nameD] at h
  exact ⟨_, rfl, h⟩
theorem operD_key {d : D} (h : operD d = true) : ∃ k, d = kD k ∧ okO k = true := by
  cases d <;> simp [operD, nameD, numD] at h
  · exact ⟨.inl _, rfl, h⟩
  · exact ⟨.inr _, rfl, h⟩
theorem keyD_key {d : D} (h : (fieldD d || operD d) = true) : ∃ k, d = kD k ∧ okKy k = true := by
  cases c : operD d with
  | true => obtain ⟨k, rfl, hk⟩ := operD_key c; exact ⟨k, rfl, by simp [okKy, hk]⟩
  | false =>
    rw [c, Bool.or_false] at h
    cases d <;> simp [fieldD] at h
    exact ⟨.inr _, rfl, by simp [okKy, fldK, fldS, h]⟩
theorem opers_keys : ∀ {ds : List D}, (∀ d ∈ ds, operD d = true) → ∃ ks : List Key, ds = ks.map kD ∧ ∀ k ∈ ks, okO k = true
  | [], _ => ⟨[], rfl, by simp⟩
  | d :: ds, h => by
    obtain ⟨k, rfl, hk⟩ := operD_key (h d (by simp))
    obtain ⟨ks, rfl, hks⟩ := opers_keys (ds := ds) fun x hx => h x (by simp [hx])
    exact ⟨k :: ks, rfl, fun x hx => by rcases List.mem_cons.mp hx with rfl | hx; exact hk; exact hks x hx⟩
theorem plainD_kD (k : Key) : plainD (kD k) := by cases k <;> trivial
theorem reck_ops {o : D} (h : reckW o = true) : ∃ s, o = .str s ∧ s ∈ opsW := by
  obtain ⟨s, rfl⟩ := reck_str h
  refine ⟨s, rfl, ?_⟩
  simp [reckW] at h
  simpa [opsW, eq_comm] using h
theorem dedup_full : ∀ (l L : List Str), (dedup L l).length = L.length + l.length → l.Nodup ∧ ∀ x ∈ l, x ∉ L
  | [], L, _ => by simp
  | x :: l, L, h => by
    rw [dedup] at h
    by_cases c : x ∈ L
    · rw [if_pos c] at h
      have := dedup_len l L
      simp at h; omega
    · rw [if_neg c] at h
      obtain ⟨h1, h2⟩ := dedup_full l (x :: L) (by simp at h ⊢; omega)
      refine ⟨List.nodup_cons.mpr ⟨fun z => ?_, h1⟩, fun y hy => ?_⟩
      · exact h2 x z (by simp)
      · rcases List.mem_cons.mp hy with rfl | hy
        · exact c
        · exact fun z => h2 y hy (by simp [z])
theorem setS_full {l : List Str} (h : (setS l).length = l.length) : l.Nodup := by
  unfold setS at h
  rw [(srtS_perm _).length_eq] at h
  exact (dedup_full l [] (by simpa using h)).1
theorem namesOf_strs0 : ∀ {ps : List Str}, (∀ p ∈ ps, nameOk p = true) → namesOf (ps.map D.str) = ps
  | [], _ => rfl
  | p :: ps, h => by rw [List.map_cons, namesOf, if_pos (h p (by simp)), namesOf_strs0 fun x hx => h x (by simp [hx])]
theorem namesOf_le : ∀ (xs : List D), (namesOf xs).length = xs.length → ∃ ps : List Str, xs = ps.map D.str ∧ ∀ p ∈ ps, nameOk p = true
  | [], _ => ⟨[], rfl, by simp⟩
  | x :: r, h => by
    have hl := namesOf_len r
    cases x with
    | str s =>
      rw [namesOf] at h
      split at h
      · rename_i c
        obtain ⟨ps, rfl, hps⟩ := namesOf_le r (by simpa using h)
        exact ⟨s :: ps, rfl, fun p hp => by rcases List.mem_cons.mp hp with rfl | hp; exact c; exact hps p hp⟩
      · simp at h; omega
    | _ => simp [namesOf] at h; omega
/-- a right row is a typed one -/
theorem typed_of {w : Str} {ps : List D} (h : rowOk (.str w :: ps) = true) : ∃ r, D.tup (.str w :: ps) = rwD r ∧ wfR r := by
  have hc := clsOf_in w
  unfold rowOk at h
  simp only at h
  unfold clsOf at h
  by_cases c1 : w = Str.ofString "def"
  · subst c1
    simp at h
    unfold okDef at h
    split at h
    · rename_i x n ys e
      cases e
      simp only [Bool.and_eq_true] at h
      obtain ⟨h1, h2, h3⟩ := h
      obtain ⟨s, rfl, hs⟩ := nameD_str h1
      have l1 := namesOf_len ys
      have l2 := setS_len (namesOf ys)
      have e3 : (setS (namesOf ys)).length = ys.length := by simp at h3; omega
      obtain ⟨ps, rfl, hps⟩ := namesOf_le ys (by omega)
      rw [namesOf_strs0 hps] at e3
      simp [allOpD] at h2
      exact ⟨.deff s ps, rfl, hs, h2.1, hps, setS_full (by simpa using e3)⟩
    · cases h
  by_cases c2 : w = Str.ofString "give"
  · subst c2
    simp at h
    unfold okGive at h
    split at h
    · rename_i e; cases e
      obtain ⟨k, rfl, hk⟩ := operD_key h
      exact ⟨.give k, rfl, hk⟩
    · cases h
  by_cases c3 : w = Str.ofString "if"
  · subst c3
    simp at h
    unfold okGive at h
    split at h
    · rename_i e; cases e
      obtain ⟨k, rfl, hk⟩ := operD_key h
      exact ⟨.iff k, rfl, hk⟩
    · cases h
  by_cases c4 : w = Str.ofString "while"
  · subst c4
    simp at h
    unfold okGive at h
    split at h
    · rename_i e; cases e
      obtain ⟨k, rfl, hk⟩ := operD_key h
      exact ⟨.whil k, rfl, hk⟩
    · cases h
  by_cases c5 : w = Str.ofString "put"
  · subst c5
    simp at h
    unfold okPut at h
    split at h
    · rename_i e; cases e
      simp only [Bool.and_eq_true] at h
      obtain ⟨s, rfl, hs⟩ := nameD_str h.1
      obtain ⟨k, rfl, hk⟩ := operD_key h.2
      exact ⟨.put s k, rfl, hs, hk⟩
    · cases h
  by_cases c6 : w = Str.ofString "do"
  · subst c6
    simp at h
    unfold okDo at h
    split at h
    · rename_i e; cases e
      simp only [Bool.and_eq_true] at h
      obtain ⟨h1, h2, h3, h4⟩ := h
      obtain ⟨s, rfl, hs⟩ := nameD_str h1
      obtain ⟨o, rfl, ho⟩ := reck_ops h2
      obtain ⟨k, rfl, hk⟩ := operD_key h3
      obtain ⟨k', rfl, hk'⟩ := operD_key h4
      exact ⟨.doo s k o k', rfl, hs, hk, ho, hk'⟩
    · cases h
  by_cases c7 : w = Str.ofString "new"
  · subst c7
    simp at h
    unfold okName at h
    split at h
    · rename_i e; cases e
      obtain ⟨s, rfl, hs⟩ := nameD_str h
      exact ⟨.new s, rfl, hs⟩
    · cases h
  by_cases c8 : w = Str.ofString "get"
  · subst c8
    simp at h
    unfold okGet at h
    split at h
    · rename_i e; cases e
      rw [Bool.and_eq_true, Bool.and_eq_true] at h
      obtain ⟨h1, h2, h3⟩ := h
      obtain ⟨s, rfl, hs⟩ := nameD_str h1
      obtain ⟨o, rfl, ho⟩ := nameD_str h2
      obtain ⟨k, rfl, hk⟩ := keyD_key h3
      exact ⟨.get s o k, rfl, hs, ho, hk⟩
    · cases h
  by_cases c9 : w = Str.ofString "set"
  · subst c9
    simp at h
    unfold okSet at h
    split at h
    · rename_i e; cases e
      rw [Bool.and_eq_true, Bool.and_eq_true] at h
      obtain ⟨h1, h2, h3⟩ := h
      obtain ⟨o, rfl, ho⟩ := nameD_str h1
      obtain ⟨k, rfl, hk⟩ := keyD_key h2
      obtain ⟨v, rfl, hv⟩ := operD_key h3
      exact ⟨.set o k v, rfl, ho, hk, hv⟩
    · cases h
  by_cases c10 : w = Str.ofString "call"
  · subst c10
    simp at h
    unfold okCall at h
    split at h
    · rename_i e; cases e
      simp only [Bool.and_eq_true] at h
      obtain ⟨h1, h2, h3⟩ := h
      obtain ⟨s, rfl, hs⟩ := nameD_str h1
      obtain ⟨f, rfl, hf⟩ := nameD_str h2
      unfold allOpD at h3
      split at h3
      · rw [Bool.and_eq_true, decide_eq_true_eq, List.all_eq_true] at h3
        obtain ⟨ks, rfl, hks⟩ := opers_keys h3.2
        exact ⟨.call s f ks, rfl, hs, hf, by simpa using h3.1, hks⟩
      · cases h3
    · cases h
  by_cases c11 : w = Str.ofString "fail"
  · subst c11
    simp at h
    unfold okName at h
    split at h
    · rename_i e; cases e
      obtain ⟨s, rfl, hs⟩ := nameD_str h
      exact ⟨.fail s, rfl, hs⟩
    · cases h
  have bare : ∀ r : Rw, rwP r = [] → wfR r → w = Str.ofString (rwW r) → okBare (.str w :: ps) = true → ∃ r, D.tup (.str w :: ps) = rwD r ∧ wfR r := fun r e1 e2 e3 e4 => by
    simp [okBare] at e4
    refine ⟨r, ?_, e2⟩
    have e4 : ps = [] := List.length_eq_zero_iff.mp (by omega)
    rw [rwD, rwL, e1, e3, e4]
  by_cases c12 : w = Str.ofString "else"
  · refine bare .els rfl trivial c12 ?_
    rw [c12] at h ⊢; simpa using h
  by_cases c13 : w = Str.ofString "end"
  · refine bare .endd rfl trivial c13 ?_
    rw [c13] at h ⊢; simpa using h
  by_cases c14 : w = Str.ofString "skip"
  · refine bare .skip rfl trivial c14 ?_
    rw [c14] at h ⊢; simpa using h
  simp [c1, c2, c3, c4, c5, c6, c7, c8, c9, c10, c11, c12, c13, c14] at h
/-! the other way: typed rows are right -/
/-! what they use, what they make -/
/-! words -/
theorem wordR_rw (r : Rw) : wordR (rwD r) = some (Str.ofString (rwW r)) := rfl
end VL
namespace VL
open PySem PySem.Spec PyProof.Rows L2 RZ
/-! ### what is handed on, and the least table -/
def bitsL (n : Nat) : List Nat := (List.range 64).filter n.testBit
theorem bitsL_mem {n k : Nat} (h : n < 2 ^ 64) : k ∈ bitsL n ↔ n.testBit k = true := by
  unfold bitsL
  rw [List.mem_filter, List.mem_range]
  refine ⟨fun q => q.2, fun q => ⟨?_, q⟩⟩
  refine Nat.lt_of_not_le fun c => ?_
  have : n.testBit k = false := Nat.testBit_lt_two_pow (Nat.lt_of_lt_of_le h (Nat.pow_le_pow_right (by decide) c))
  rw [this] at q; cases q
theorem bitsL_len (n : Nat) : (bitsL n).length ≤ 64 := by
  have := List.length_filter_le n.testBit (List.range 64)
  simpa [bitsL] using this
theorem bitsL_lt {n k : Nat} (h : k ∈ bitsL n) : k < 64 := by
  unfold bitsL at h
  rw [List.mem_filter, List.mem_range] at h
  exact h.1
inductive Pl where
  | row (k : Nat) | name (h : Nat) (n : Str) | cells (h : Nat) (n c : Str)
deriving DecidableEq
abbrev Flow := Pl × Pl
def plD : Pl → D
  | .row k => .tup [.str (Str.ofString "row"), .int (k : Nat), .str (Str.ofString ""), .str (Str.ofString "")]
  | .name h n => .tup [.str (Str.ofString "name"), .int (h : Nat), .str n, .str (Str.ofString "")]
  | .cells h n c => .tup [.str (Str.ofString "cells"), .int (h : Nat), .str n, .str c]
def flD (f : Flow) : D := .tup [plD f.1, plD f.2]
/-- who holds what: false, home, name, row; true, row, class, row -/
abbrev Rel := Bool → Nat → Str → Nat → Prop
def Src (X : Rel) : Pl → Nat → Prop
  | .row k, b => b = k
  | .name h n, b => X false h n b
  | .cells h n c, b => ∃ r, X false h n r ∧ X true r c b
def Goal (X : Rel) : Pl → Bool → Nat → Str → Prop
  | .row _, _, _, _ => False
  | .name h n, k, h', w => k = false ∧ h' = h ∧ w = n
  | .cells h n c, k, r, w => k = true ∧ w = c ∧ X false h n r
def ClosedF (fl : List Flow) (X : Rel) : Prop := ∀ f ∈ fl, ∀ b, Src X f.2 b → ∀ k h w, Goal X f.1 k h w → X k h w b
def Has (fl : List Flow) : Rel := fun k h w b => ∀ X, ClosedF fl X → X k h w b
theorem Src.mono {X X' : Rel} (m : ∀ k h w b, X k h w b → X' k h w b) {p : Pl} {b : Nat} (h : Src X p b) : Src X' p b := by
  cases p with
  | row k => exact h
  | name a n => exact m _ _ _ _ h
  | cells a n c => obtain ⟨r, h1, h2⟩ := h; exact ⟨r, m _ _ _ _ h1, m _ _ _ _ h2⟩
theorem Goal.mono {X X' : Rel} (m : ∀ k h w b, X k h w b → X' k h w b) {p : Pl} {k : Bool} {h : Nat} {w : Str} (g : Goal X p k h w) : Goal X' p k h w := by
  cases p with
  | row k => exact g
  | name a n => exact g
  | cells a n c => exact ⟨g.1, g.2.1, m _ _ _ _ g.2.2⟩
theorem has_closed (fl : List Flow) : ClosedF fl (Has fl) := fun f hf b hs k h w hg X hX => by
  have m : ∀ k h w b, Has fl k h w b → X k h w b := fun k h w b q => q X hX
  exact hX f hf b (hs.mono m) k h w (hg.mono m)
/-- the tables' relation -/
def XT (N C : Tab) : Rel := fun k h w b => match k with
  | false => (tOf N h w).testBit b = true
  | true => (tOf C h w).testBit b = true
structure TabOk (T : Tab) : Prop where
  nd : (tKeys T).Nodup
  lt : ∀ r ∈ T, r.2.2 < 2 ^ 64
  nz : ∀ r ∈ T, r.2.2 ≠ 0
theorem TabOk.nil : TabOk [] := ⟨by simp [tKeys], by simp, by simp⟩
theorem TabOk.of_lt {T : Tab} (t : TabOk T) (h : Nat) (w : Str) : tOf T h w < 2 ^ 64 := by
  unfold tOf
  cases e : tGet T h w with
  | none => decide
  | some v => exact t.lt _ (tGet_mem e)
theorem TabOk.put {T : Tab} (t : TabOk T) {h : Nat} {w : Str} {v : Nat} (h1 : v < 2 ^ 64) (h2 : v ≠ 0) : TabOk (tPut T h w v) where
  nd := tPut_nodup t.nd _ _ _
  lt := fun r hr => by rcases tPut_mem hr with q | rfl; exact t.lt r q; exact h1
  nz := fun r hr => by rcases tPut_mem hr with q | rfl; exact t.nz r q; exact h2
theorem or_lt64 {a b : Nat} (h1 : a < 2 ^ 64) (h2 : b < 2 ^ 64) : a ||| b < 2 ^ 64 := Nat.or_lt_two_pow h1 h2
theorem or_ne0 {a b : Nat} (h : b ≠ 0) : a ||| b ≠ 0 := fun e => h (by
  have : b ≤ a ||| b := Nat.right_le_or

  omega)
def hadT (N C : Tab) : Pl → Nat
  | .row k => 2 ^ k
  | .name h n => tOf N h n
  | .cells h n c => (bitsL (tOf N h n)).foldl (fun t r => t ||| tOf C r c) 0
theorem fold_or_bit (C : Tab) (c : Str) (b : Nat) : ∀ (rs : List Nat) (t : Nat), (rs.foldl (fun t r => t ||| tOf C r c) t).testBit b = true ↔ t.testBit b = true ∨ ∃ r ∈ rs, (tOf C r c).testBit b = true
  | [], t => by simp
  | r :: rs, t => by
    rw [List.foldl_cons, fold_or_bit C c b rs]
    simp only [Nat.testBit_or, Bool.or_eq_true, List.mem_cons, exists_eq_or_imp]
    constructor
    · rintro ((h | h) | h)
      · exact .inl h
      · exact .inr (.inl h)
      · exact .inr (.inr h)
    · rintro (h | h | h)
      · exact .inl (.inl h)
      · exact .inl (.inr h)
      · exact .inr h
theorem fold_or_lt {C : Tab} (t : TabOk C) (c : Str) : ∀ (rs : List Nat) (a : Nat), a < 2 ^ 64 → rs.foldl (fun t r => t ||| tOf C r c) a < 2 ^ 64
  | [], a, h => h
  | r :: rs, a, h => fold_or_lt t c rs _ (or_lt64 h (t.of_lt _ _))
theorem had_bit {N C : Tab} (tn : TabOk N) (p : Pl) (b : Nat) : (hadT N C p).testBit b = true ↔ Src (XT N C) p b := by
  cases p with
  | row k => simp [hadT, Src, Nat.testBit_two_pow, eq_comm]
  | name h n => exact Iff.rfl
  | cells h n c =>
    simp only [hadT, fold_or_bit, Src]
    simp only [Nat.zero_testBit, Bool.false_eq_true, false_or]
    constructor
    · rintro ⟨r, h1, h2⟩; exact ⟨r, (bitsL_mem (tn.of_lt _ _)).mp h1, h2⟩
    · rintro ⟨r, h1, h2⟩; exact ⟨r, (bitsL_mem (tn.of_lt _ _)).mpr h1, h2⟩
def plOk : Pl → Prop
  | .row k => k < 64
  | _ => True
theorem had_lt {N C : Tab} (tn : TabOk N) (tc : TabOk C) {p : Pl} (h : plOk p) : hadT N C p < 2 ^ 64 := by
  cases p with
  | row k => exact Nat.pow_lt_pow_right (by decide) h
  | name a n => exact tn.of_lt _ _
  | cells a n c => exact fold_or_lt tc c _ 0 (by decide)
def cellsPut : List Nat → Str → Nat → Tab → Bool → Tab × Bool
  | [], _, _, C, f => (C, f)
  | r :: rs, c, s, C, f => cellsPut rs c s (tPut C r c (tOf C r c ||| s)) (f || decide (tOf C r c ||| s ≠ tOf C r c))
def grownT (g : Pl) (s : Nat) (N C : Tab) : Tab × Tab × Bool :=
  if s = 0 then (N, C, false) else match g with
  | .name h n => (tPut N h n (tOf N h n ||| s), C, decide (tOf N h n ||| s ≠ tOf N h n))
  | .cells h n c => (N, (cellsPut (bitsL (tOf N h n)) c s C false).1, (cellsPut (bitsL (tOf N h n)) c s C false).2)
  | .row _ => (N, C, false)
theorem tOf_put (T : Tab) (h : Nat) (w : Str) (v : Nat) (h' : Nat) (w' : Str) : tOf (tPut T h w v) h' w' = if h = h' ∧ w = w' then v else tOf T h' w' := by
  unfold tOf
  rw [tGet_put]
  split <;> rfl
theorem or_new {a s : Nat} : (a ||| s ≠ a) ↔ ∃ b, s.testBit b = true ∧ a.testBit b = false := by
  constructor
  · intro h
    refine Classical.byContradiction fun c => h (nat_bits fun j => ?_)
    rw [Nat.testBit_or, Bool.or_eq_true]
    refine ⟨fun q => ?_, .inl⟩
    rcases q with q | q
    · exact q
    · cases e : a.testBit j with
      | true => rfl
      | false => exact absurd ⟨j, q, e⟩ c
  · rintro ⟨b, h1, h2⟩ e
    have := congrArg (fun z : Nat => z.testBit b) e
    simp [h1, h2] at this
theorem cellsPut_sem (c : Str) (s : Nat) : ∀ (rs : List Nat) (C : Tab) (f : Bool), (∀ h w b, (tOf (cellsPut rs c s C f).1 h w).testBit b = true ↔ (tOf C h w).testBit b = true ∨ (w = c ∧ h ∈ rs ∧ s.testBit b = true)) ∧
    ((cellsPut rs c s C f).2 = true ↔ f = true ∨ ∃ r ∈ rs, ∃ b, s.testBit b = true ∧ (tOf C r c).testBit b = false)
  | [], C, f => by simp [cellsPut]
  | r :: rs, C, f => by
    obtain ⟨h1, h2⟩ := cellsPut_sem c s rs (tPut C r c (tOf C r c ||| s)) (f || decide (tOf C r c ||| s ≠ tOf C r c))
    have key : ∀ h w b, (tOf (tPut C r c (tOf C r c ||| s)) h w).testBit b = true ↔ (tOf C h w).testBit b = true ∨ (w = c ∧ h = r ∧ s.testBit b = true) := fun h w b => by
      rw [tOf_put]
      by_cases q : r = h ∧ c = w
      · rw [if_pos q]
        obtain ⟨rfl, rfl⟩ := q
        simp
      · rw [if_neg q]
        refine ⟨.inl, fun z => ?_⟩
        rcases z with z | ⟨rfl, rfl, _⟩
        · exact z
        · exact absurd ⟨rfl, rfl⟩ q
    constructor
    · intro h w b
      rw [cellsPut, h1, key]
      simp only [List.mem_cons]
      constructor
      · rintro ((h | ⟨h, h', h''⟩) | ⟨h, h', h''⟩)
        · exact .inl h
        · exact .inr ⟨h, .inl h', h''⟩
        · exact .inr ⟨h, .inr h', h''⟩
      · rintro (h | ⟨h, h' | h', h''⟩)
        · exact .inl (.inl h)
        · exact .inl (.inr ⟨h, h', h''⟩)
        · exact .inr ⟨h, h', h''⟩
    · rw [cellsPut, h2]
      simp only [Bool.or_eq_true, decide_eq_true_eq, or_new, List.mem_cons, exists_eq_or_imp]
      constructor
      · rintro ((h | ⟨b, h3, h4⟩) | ⟨q, hq, b, h3, h4⟩)
        · exact .inl h
        · exact .inr (.inl ⟨b, h3, h4⟩)
        · refine .inr (.inr ⟨q, hq, b, h3, ?_⟩)
          cases e : (tOf C q c).testBit b with
          | false => rfl
          | true => rw [(key q c b).mpr (.inl e)] at h4; cases h4
      · rintro (h | ⟨b, h3, h4⟩ | ⟨q, hq, b, h3, h4⟩)
        · exact .inl (.inl h)
        · exact .inl (.inr ⟨b, h3, h4⟩)
        · by_cases z : q = r
          · subst z; exact .inl (.inr ⟨b, h3, h4⟩)
          · refine .inr ⟨q, hq, b, h3, ?_⟩
            cases e : (tOf (tPut C r c (tOf C r c ||| s)) q c).testBit b with
            | false => rfl
            | true =>
              rcases (key q c b).mp e with e | ⟨_, e, _⟩
              · rw [h4] at e; cases e
              · exact absurd e z
theorem cellsPut_ok {c : Str} {s : Nat} (h1 : s < 2 ^ 64) (h2 : s ≠ 0) : ∀ (rs : List Nat) (C : Tab) (f : Bool), TabOk C → TabOk (cellsPut rs c s C f).1
  | [], C, f, t => t
  | r :: rs, C, f, t => cellsPut_ok h1 h2 rs _ _ (t.put (or_lt64 (t.of_lt _ _) h1) (or_ne0 h2))
theorem cellsPut_keys (c : Str) (s : Nat) : ∀ (rs : List Nat) (C : Tab) (f : Bool), ∀ k ∈ tKeys (cellsPut rs c s C f).1, k ∈ tKeys C ∨ (k.1 ∈ rs ∧ k.2 = c)
  | [], C, f, k, h => .inl h
  | r :: rs, C, f, k, h => by
    rcases cellsPut_keys c s rs _ _ k h with h | ⟨h, h'⟩
    · rw [tPut_keys] at h
      split at h
      · exact .inl h
      · rcases List.mem_append.mp h with h | h
        · exact .inl h
        · rw [List.mem_singleton] at h; subst h; exact .inr ⟨by simp, rfl⟩
    · exact .inr ⟨by simp [h], h'⟩
theorem grown_ok {g : Pl} {s : Nat} {N C : Tab} (tn : TabOk N) (tc : TabOk C) (h1 : s < 2 ^ 64) : TabOk (grownT g s N C).1 ∧ TabOk (grownT g s N C).2.1 := by
  unfold grownT
  by_cases c : s = 0
  · rw [if_pos c]; exact ⟨tn, tc⟩
  · rw [if_neg c]
    cases g with
    | row k => exact ⟨tn, tc⟩
    | name h n => exact ⟨tn.put (or_lt64 (tn.of_lt _ _) h1) (or_ne0 c), tc⟩
    | cells h n k => exact ⟨tn, cellsPut_ok h1 c _ _ _ tc⟩
/-- what a goal gets, and whether that is new -/
theorem grown_sem {g : Pl} {s : Nat} {N C : Tab} (tn : TabOk N) : (∀ k h w b, XT (grownT g s N C).1 (grownT g s N C).2.1 k h w b ↔ XT N C k h w b ∨ (Goal (XT N C) g k h w ∧ s.testBit b = true)) ∧
    ((grownT g s N C).2.2 = true ↔ ∃ k h w b, Goal (XT N C) g k h w ∧ s.testBit b = true ∧ ¬ XT N C k h w b) := by
  unfold grownT
  by_cases c : s = 0
  · rw [if_pos c]; subst c; simp
  · rw [if_neg c]
    cases g with
    | row k => simp [Goal]
    | name h n =>
      constructor
      · intro k h' w b
        cases k with
        | true => simp [XT, Goal]
        | false =>
          simp only [XT, Goal, true_and]
          rw [tOf_put]
          by_cases q : h = h' ∧ n = w
          · rw [if_pos q]
            obtain ⟨rfl, rfl⟩ := q
            simp
          · rw [if_neg q]
            refine ⟨.inl, fun z => ?_⟩
            rcases z with z | ⟨⟨rfl, rfl⟩, _⟩
            · exact z
            · exact absurd ⟨rfl, rfl⟩ q
      · simp only [decide_eq_true_eq, or_new]
        constructor
        · rintro ⟨b, h1, h2⟩; exact ⟨false, h, n, b, ⟨rfl, rfl, rfl⟩, h1, by simp [XT, h2]⟩
        · rintro ⟨k, h', w, b, ⟨rfl, rfl, rfl⟩, h1, h2⟩; exact ⟨b, h1, by simpa [XT] using h2⟩
    | cells h n cl =>
      obtain ⟨h1, h2⟩ := cellsPut_sem cl s (bitsL (tOf N h n)) C false
      constructor
      · intro k r w b
        cases k with
        | false => simp [XT, Goal]
        | true =>
          simp only [XT, Goal, true_and]
          rw [h1, bitsL_mem (tn.of_lt _ _), and_assoc]
      · rw [h2]
        simp only [Bool.false_eq_true, false_or]
        constructor
        · rintro ⟨r, hr, b, q1, q2⟩
          exact ⟨true, r, cl, b, ⟨rfl, rfl, (bitsL_mem (tn.of_lt _ _)).mp hr⟩, q1, by simp [XT, q2]⟩
        · rintro ⟨k, r, w, b, ⟨rfl, rfl, q⟩, q1, q2⟩
          exact ⟨r, (bitsL_mem (tn.of_lt _ _)).mpr q, b, q1, by simpa [XT] using q2⟩
/-! two tables that hold the same are told the same -/
theorem tab_same {T T' : Tab} (t : TabOk T) (t' : TabOk T') (h : ∀ a w, tOf T a w = tOf T' a w) : T.Perm T' := by
  have nd : ∀ {T : Tab}, TabOk T → T.Nodup := fun {T} t => by
    have := t.nd
    unfold tKeys at this
    exact (List.pairwise_map.mp this).imp fun h e => h (by rw [e])
  have half : ∀ {T T' : Tab}, TabOk T → TabOk T' → (∀ a w, tOf T a w = tOf T' a w) → ∀ r, r ∈ T → r ∈ T' := fun {T T'} t t' h r hr => by
    obtain ⟨a, w, v⟩ := r
    have e := h a w
    have e1 := tGet_of t.nd hr
    have nz : v ≠ 0 := t.nz _ hr
    unfold tOf at e
    rw [e1] at e
    cases q : tGet T' a w with
    | none => rw [q] at e; exact absurd e nz
    | some v' =>
      rw [q] at e
      simp at e
      subst e
      exact tGet_mem q
  exact (List.perm_ext_iff_of_nodup (nd t) (nd t')).mpr fun r => ⟨half t t' h r, half t' t (fun a w => (h a w).symm) r⟩
theorem srtT_same {T T' : Tab} (p : T.Perm T') : srtT T = srtT T' := by
  unfold srtT
  rw [srtL_congr (p.map _)]
theorem tabL_same {T T' : Tab} (p : T.Perm T') : tabL T = tabL T' := by unfold tabL; rw [srtT_same p]
theorem tOf_bits {T T' : Tab} {h : Nat} {w : Str} (q : ∀ b, (tOf T h w).testBit b = true ↔ (tOf T' h w).testBit b = true) : tOf T h w = tOf T' h w := nat_bits q
/-! ### growing -/
def gN (fl : List Flow) : List (Nat × Str) := fl.filterMap fun f => match f.1 with
  | .name h n => some (h, n)
  | _ => none
def gC1 (f : Flow) : List (Nat × Str) := match f.1 with
  | .cells _ _ c => (List.range 64).map fun r => (r, c)
  | _ => []
def gC (fl : List Flow) : List (Nat × Str) := fl.flatMap gC1
structure GInv (fl : List Flow) (N C : Tab) : Prop where
  n : TabOk N
  c : TabOk C
  hb : ∀ k h w b, XT N C k h w b → Has fl k h w b
  kn : ∀ k ∈ tKeys N, k ∈ gN fl
  kc : ∀ k ∈ tKeys C, k ∈ gC fl
theorem GInv.nil (fl : List Flow) : GInv fl [] [] := ⟨.nil, .nil, fun k h w b q => by cases k <;> (unfold XT tOf tGet at q; simp at q), by simp [tKeys], by simp [tKeys]⟩
theorem gC_len (fl : List Flow) : (gC fl).length ≤ 64 * fl.length := by
  induction fl with
  | nil => simp [gC]
  | cons f fl ih =>
    have : (gC1 f).length ≤ 64 := by unfold gC1; split <;> simp
    simp only [gC, List.flatMap_cons, List.length_append, List.length_cons] at ih ⊢
    omega
theorem GInv.lenN {fl : List Flow} {N C : Tab} (g : GInv fl N C) : N.length ≤ fl.length := by
  have h1 := List.Nodup.length_le_of_subset g.n.nd (fun k hk => g.kn k hk)
  have h2 := List.length_filterMap_le (fun f : Flow => match f.1 with
    | .name h n => some (h, n)
    | _ => none) fl
  simp [tKeys] at h1
  exact Nat.le_trans h1 h2
theorem GInv.lenC {fl : List Flow} {N C : Tab} (g : GInv fl N C) : C.length ≤ 64 * fl.length := by
  have h1 := List.Nodup.length_le_of_subset g.c.nd (fun k hk => g.kc k hk)
  simp [tKeys] at h1
  exact Nat.le_trans h1 (gC_len fl)
theorem GInv.step {fl : List Flow} {N C : Tab} (g : GInv fl N C) {f : Flow} (hf : f ∈ fl) (ok : plOk f.2) : GInv fl (grownT f.1 (hadT N C f.2) N C).1 (grownT f.1 (hadT N C f.2) N C).2.1 := by
  have hl := had_lt g.n g.c ok
  obtain ⟨o1, o2⟩ := grown_ok (g := f.1) g.n g.c hl
  refine ⟨o1, o2, fun k h w b q => ?_, ?_, ?_⟩
  · rcases ((grown_sem (g := f.1) (s := hadT N C f.2) (C := C) g.n).1 k h w b).mp q with q | ⟨q1, q2⟩
    · exact g.hb _ _ _ _ q
    · exact has_closed fl f hf b (((had_bit g.n f.2 b).mp q2).mono g.hb) k h w (q1.mono g.hb)
  · unfold grownT
    split
    · exact g.kn
    · cases e : f.1 with
      | row k => exact g.kn
      | cells h n c => exact g.kn
      | name h n =>
        intro k hk
        simp only [tPut_keys] at hk
        split at hk
        · exact g.kn k hk
        · rcases List.mem_append.mp hk with hk | hk
          · exact g.kn k hk
          · rw [List.mem_singleton] at hk
            subst hk
            unfold gN
            rw [List.mem_filterMap]
            exact ⟨f, hf, by rw [e]⟩
  · unfold grownT
    split
    · exact g.kc
    · cases e : f.1 with
      | row k => exact g.kc
      | name h n => exact g.kc
      | cells h n c =>
        intro k hk
        rcases cellsPut_keys _ _ _ _ _ k hk with hk | ⟨h1, h2⟩
        · exact g.kc k hk
        · unfold gC
          rw [List.mem_flatMap]
          refine ⟨f, hf, ?_⟩
          unfold gC1
          rw [e]
          exact List.mem_map.mpr ⟨k.1, List.mem_range.mpr (bitsL_lt h1), by rw [← h2]⟩
def XTb (N C : Tab) (x : Bool × Nat × Str × Nat) : Bool := match x with
  | (false, h, w, b) => (tOf N h w).testBit b
  | (true, h, w, b) => (tOf C h w).testBit b
theorem XTb_iff (N C : Tab) (k : Bool) (h : Nat) (w : Str) (b : Nat) : XTb N C (k, h, w, b) = true ↔ XT N C k h w b := by cases k <;> exact Iff.rfl
def univ (fl : List Flow) : List (Bool × Nat × Str × Nat) := (gN fl).flatMap (fun k => (List.range 64).map fun b => (false, k.1, k.2, b)) ++ (gC fl).flatMap (fun k => (List.range 64).map fun b => (true, k.1, k.2, b))
theorem tOf_key {T : Tab} {h : Nat} {w : Str} {b : Nat} (q : (tOf T h w).testBit b = true) : (h, w) ∈ tKeys T := by
  unfold tOf at q
  cases e : tGet T h w with
  | none => rw [e] at q; simp at q
  | some v => exact List.mem_map.mpr ⟨_, tGet_mem e, rfl⟩
theorem TabOk.bit_lt {T : Tab} (t : TabOk T) {h : Nat} {w : Str} {b : Nat} (q : (tOf T h w).testBit b = true) : b < 64 := by
  refine Nat.lt_of_not_le fun c => ?_
  have : (tOf T h w).testBit b = false := Nat.testBit_lt_two_pow (Nat.lt_of_lt_of_le (t.of_lt h w) (Nat.pow_le_pow_right (by decide) c))
  rw [this] at q; cases q
theorem GInv.univ {fl : List Flow} {N C : Tab} (g : GInv fl N C) {k : Bool} {h : Nat} {w : Str} {b : Nat} (q : XT N C k h w b) : (k, h, w, b) ∈ univ fl := by
  unfold VL.univ
  rw [List.mem_append]
  cases k with
  | false =>
    refine .inl (List.mem_flatMap.mpr ⟨_, g.kn _ (tOf_key q), ?_⟩)
    exact List.mem_map.mpr ⟨b, List.mem_range.mpr (g.n.bit_lt q), rfl⟩
  | true =>
    refine .inr (List.mem_flatMap.mpr ⟨_, g.kc _ (tOf_key q), ?_⟩)
    exact List.mem_map.mpr ⟨b, List.mem_range.mpr (g.c.bit_lt q), rfl⟩
def mis (fl : List Flow) (N C : Tab) : Nat := (univ fl).countP fun x => !XTb N C x
theorem countP_lt {A1 : Type} {p q : A1 → Bool} : ∀ {l : List A1}, (∀ x ∈ l, p x = true → q x = true) → (∃ x ∈ l, q x = true ∧ p x = false) → l.countP p < l.countP q
  | [], _, h => by simp at h
  | x :: l, hm, h => by
    have ml : l.countP p ≤ l.countP q := List.countP_mono_left fun y hy => hm y (by simp [hy])
    rw [List.countP_cons, List.countP_cons]
    obtain ⟨y, hy, h1, h2⟩ := h
    rcases List.mem_cons.mp hy with rfl | hy
    · rw [h1, h2]; simp; omega
    · have := countP_lt (p := p) (q := q) (fun z hz => hm z (by simp [hz])) ⟨y, hy, h1, h2⟩
      have mx := hm x (by simp)
      cases e : p x with
      | false => simp; split <;> omega
      | true => rw [mx e]; simp; omega
/-- within a round: what is done -/
structure RInv (fl : List Flow) (m : Nat) (done : List Flow) (N C : Tab) (f : Bool) : Prop where
  inv : GInv fl N C
  le : mis fl N C ≤ m
  fr : f = true → mis fl N C < m
  no : f = false → ClosedF done (XT N C)
theorem RInv.step {fl : List Flow} {m : Nat} {done : List Flow} {N C : Tab} {f : Bool} (r : RInv fl m done N C f) {g : Flow} (hg : g ∈ fl) (ok : plOk g.2) :
    RInv fl m (done ++ [g]) (grownT g.1 (hadT N C g.2) N C).1 (grownT g.1 (hadT N C g.2) N C).2.1 (f || (grownT g.1 (hadT N C g.2) N C).2.2) := by
  have i2 := r.inv.step hg ok
  obtain ⟨s1, s2⟩ := grown_sem (g := g.1) (s := hadT N C g.2) (C := C) r.inv.n
  have mono : ∀ x ∈ VL.univ fl, (!XTb (grownT g.1 (hadT N C g.2) N C).1 (grownT g.1 (hadT N C g.2) N C).2.1 x) = true → (!XTb N C x) = true := fun x _ h => by
    obtain ⟨k, a, w, b⟩ := x
    simp only [Bool.not_eq_true', ← Bool.not_eq_true] at h ⊢
    exact fun z => h ((XTb_iff _ _ _ _ _ _).mpr ((s1 _ _ _ _).mpr (.inl ((XTb_iff _ _ _ _ _ _).mp z))))
  have le2 : mis fl (grownT g.1 (hadT N C g.2) N C).1 (grownT g.1 (hadT N C g.2) N C).2.1 ≤ mis fl N C := List.countP_mono_left mono
  refine ⟨i2, Nat.le_trans le2 r.le, fun h => ?_, fun h => ?_⟩
  · rw [Bool.or_eq_true] at h
    rcases h with h | h
    · exact Nat.lt_of_le_of_lt le2 (r.fr h)
    · obtain ⟨k, a, w, b, h1, h2, h3⟩ := s2.mp h
      refine Nat.lt_of_lt_of_le (countP_lt mono ⟨(k, a, w, b), i2.univ ((s1 _ _ _ _).mpr (.inr ⟨h1, h2⟩)), ?_, ?_⟩) r.le
      · simp only [Bool.not_eq_true', ← Bool.not_eq_true]
        exact fun z => h3 ((XTb_iff _ _ _ _ _ _).mp z)
      · simp only [Bool.not_eq_false']
        exact (XTb_iff _ _ _ _ _ _).mpr ((s1 _ _ _ _).mpr (.inr ⟨h1, h2⟩))
  · rw [Bool.or_eq_false_iff] at h
    have nn : ∀ k a w b, Goal (XT N C) g.1 k a w → (hadT N C g.2).testBit b = true → XT N C k a w b := fun k a w b h1 h2 => by
      refine Classical.byContradiction fun h3 => ?_
      have := s2.mpr ⟨k, a, w, b, h1, h2, h3⟩
      rw [h.2] at this; cases this
    have same : XT (grownT g.1 (hadT N C g.2) N C).1 (grownT g.1 (hadT N C g.2) N C).2.1 = XT N C := by
      funext k a w b
      refine propext ⟨fun q => ?_, fun q => (s1 _ _ _ _).mpr (.inl q)⟩
      rcases (s1 _ _ _ _).mp q with q | ⟨q1, q2⟩
      · exact q
      · exact nn _ _ _ _ q1 q2
    rw [same]
    intro x hx b hs k a w hgl
    rcases List.mem_append.mp hx with hx | hx
    · exact r.no h.1 x hx b hs k a w hgl
    · rw [List.mem_singleton] at hx
      subst hx
      exact nn _ _ _ _ hgl ((had_bit r.inv.n _ _).mpr hs)
theorem RInv.start {fl : List Flow} {N C : Tab} (g : GInv fl N C) : RInv fl (mis fl N C) [] N C false := ⟨g, Nat.le_refl _, (fun h => nomatch h), (fun _ x hx => nomatch hx)⟩
/-- the least table -/
structure Least (fl : List Flow) (N C : Tab) : Prop where
  n : TabOk N
  c : TabOk C
  eq : ∀ k h w b, XT N C k h w b ↔ Has fl k h w b
theorem RInv.least {fl : List Flow} {m : Nat} {N C : Tab} (r : RInv fl m fl N C false) : Least fl N C := ⟨r.inv.n, r.inv.c, fun k h w b => ⟨r.inv.hb k h w b, fun q => q _ (r.no rfl)⟩⟩
theorem Least.same {fl fl' : List Flow} {N C N' C' : Tab} (l : Least fl N C) (l' : Least fl' N' C') (h : ∀ k a w b, Has fl k a w b ↔ Has fl' k a w b) : tabL N = tabL N' ∧ tabL C = tabL C' :=
  ⟨tabL_same (tab_same l.n l'.n fun a w => tOf_bits fun b => ((l.eq false a w b).trans (h _ _ _ _)).trans (l'.eq false a w b).symm),
   tabL_same (tab_same l.c l'.c fun a w => tOf_bits fun b => ((l.eq true a w b).trans (h _ _ _ _)).trans (l'.eq true a w b).symm)⟩
end VL
namespace VL
open PySem PySem.Spec PyProof.Rows L2 RZ
@[simp] def cn_names : List Str := ["Draft"]
@[simp] def cn_cells : List Str := ["Draft"]
@[simp] def p_numbers_of : D → (W → Sto → Prop) → Prop := fun a Q => ∃ n : Nat, a = .int (n : Nat) ∧ n < 2 ^ 64 ∧ Q (.loc 0) [.lst ((bitsL n).map fun k => .int (k : Nat))]
def w_numbers_of : WS := (wSeq (wAsg (wLst true wNil) (wgName 1))
    (wSeq (wAsg (wC (.int 0)) (wgName 2))
    (wSeq (wWhile (wTest (wOp (fB0 fun i j => decide (j < i)) (wOp (fI (fun _ j => 0 ≤ j) fun i j => i / 2 ^ j.toNat) (wVar 0) (wVar 2)) (wC (.int 0)))) (wSeq (wIfS (wTest (wOp (fEq false) (wOp (fI0 Builtin.bitAnd) (wOp (fI (fun _ j => 0 ≤ j) fun i j => i / 2 ^ j.toNat) (wVar 0) (wVar 2)) (wC (.int 1))) (wC (.int 1)))) (wDrop (wBM fApp (wVar 1) (wCons (wVar 2) wNil))) wNext)
    (wAug (fI0 fun a b => a + b) 2 (wC (.int 1)))))
    (wRet (wVar 1)))))
@[simp] def sp_numbers_of : PSp := sp1 p_numbers_of
theorem shr_nat (n k : Nat) : (n : Int) / 2 ^ k = ((n / 2 ^ k : Nat) : Int) := by simp
theorem bit_filter (n k : Nat) : (List.range (k + 1)).filter n.testBit = (List.range k).filter n.testBit ++ if n.testBit k = true then [k] else [] := by
  rw [List.range_succ, List.filter_append]
  congr 1
  cases e : n.testBit k <;> simp [List.filter_cons, e]
theorem bits_all {n k : Nat} (h : n < 2 ^ 64) (hk : k ≤ 64) (h0 : n / 2 ^ k = 0) : (List.range k).filter n.testBit = bitsL n := by
  have lt : n < 2 ^ k := by
    rcases Nat.lt_or_ge n (2 ^ k) with c | c
    · exact c
    · have := Nat.div_pos c (Nat.pow_pos (by decide)); omega
  have e : List.range 64 = List.range k ++ (List.range (64 - k)).map (k + ·) := by rw [← List.range_add]; congr 1; omega
  unfold bitsL
  rw [e, List.filter_append]
  have : ((List.range (64 - k)).map (k + ·)).filter n.testBit = [] := by
    rw [List.filter_eq_nil_iff]
    intro x hx
    obtain ⟨y, _, rfl⟩ := List.mem_map.mp hx
    have : n.testBit (k + y) = false := Nat.testBit_lt_two_pow (Nat.lt_of_lt_of_le lt (Nat.pow_le_pow_right (by decide) (by omega)))
    simp [this]
  rw [this, List.append_nil]
theorem v_numbers_of : ∀ a Q, p_numbers_of a Q → w_numbers_of (evr Q) (startE ["rows", "some", "row"] [.d a]) [] := by
  intro a Q h
  obtain ⟨n, rfl, hn, h⟩ := h
  unfold w_numbers_of
  refine seq_to [some (.d (.int (n : Nat))), some (.loc 0), none] [.lst []] (fun K hK => by simpa [sizeLine_eq] using hK) ?_
  refine seq_to [some (.d (.int (n : Nat))), some (.loc 0), some (.d (.int 0))] [.lst []] (fun K hK => by simpa using hK) ?_
  refine seq_R (fun rh mu => ∃ x, rh = [some (.d (.int (n : Nat))), some (.loc 0), x] ∧ mu = [.lst ((bitsL n).map fun k => .int (k : Nat))]) (fun K hK => ?_) ?_
  · refine ⟨fun m rh mu => ∃ k : Nat, k ≤ 64 ∧ m = 64 - k ∧ rh = [some (.d (.int (n : Nat))), some (.loc 0), some (.d (.int (k : Nat)))] ∧ mu = [.lst (((List.range k).filter n.testBit).map fun k => .int (k : Nat))], ⟨64, 0, by omega, rfl, rfl, rfl⟩, ?_⟩
    rintro m _ _ ⟨k, hk, rfl, rfl, rfl⟩
    have e0 : ((0 : Int) < (n : Int) / 2 ^ k) ↔ n / 2 ^ k ≠ 0 := by rw [shr_nat]; generalize n / 2 ^ k = z; omega
    have e2 : Builtin.bitAnd ((n : Int) / 2 ^ k) 1 = if n.testBit k = true then 1 else 0 := by
      rw [bit_bool]
      by_cases b : n.testBit k = true
      · rw [if_pos b]; exact (int_bit n k).mpr b
      · rw [if_neg b]; exact (int_bit0 n k).mpr (by simpa using b)
    simp only [wWhile, wTest, wOp, wVar, wC]
    by_cases c : n / 2 ^ k = 0
    · have e3 : ¬ (0 : Int) < (n : Int) / 2 ^ k := by rw [e0]; exact fun z => z c
      simp [e3]
      refine hK _ _ ⟨_, rfl, ?_⟩
      rw [bits_all hn hk c]
    · have lt : k < 64 := Nat.lt_of_not_le fun z => c (Nat.div_eq_of_lt (Nat.lt_of_lt_of_le hn (Nat.pow_le_pow_right (by decide) z)))
      have e3 : (0 : Int) < (n : Int) / 2 ^ k := e0.mpr c
      have ln : ((List.range k).filter n.testBit).length ≤ k := by have := List.length_filter_le n.testBit (List.range k); simpa using this
      have nx := bit_filter n k
      by_cases b : n.testBit k = true
      · rw [if_pos b] at nx
        simp [e3, e2, b, sizeLine_eq]
        refine ⟨by omega, 64 - (k + 1), by omega, k + 1, by omega, rfl, by simp, ?_⟩
        rw [nx]; simp
      · rw [if_neg b] at nx
        simp [e3, e2, b]
        refine ⟨64 - (k + 1), by omega, k + 1, by omega, rfl, by simp, ?_⟩
        rw [nx]; simp
  · rintro _ _ ⟨x, rfl, rfl⟩
    simpa using h
/-! the class -/
def drM (N C : Tab) : Sto := [.ins (Str.ofString "Draft") [(Str.ofString "names", .loc 1), (Str.ofString "cells", .loc 2)], .dn none (tN N), .dn none (tN C)]
@[simp] def p_Draft_init : W → Sto → (W → Sto → Prop) → Prop := fun a mu Q => a = .loc 0 ∧ mu = [.ins (Str.ofString "Draft") []] ∧ Q (.d .non) (drM [] [])
def w_Draft_init : WS := (wSeq (wFldS cn_names "names" (wVar 0) wNNew)
    (wFldS cn_cells "cells" (wVar 0) wNNew))
@[simp] def sp_Draft_init : VSp := sS1 p_Draft_init
theorem v_Draft_init : ∀ a mu Q, p_Draft_init a mu Q → w_Draft_init (evr Q) (startE ["self"] [a]) mu := by
  rintro _ _ Q ⟨rfl, rfl, h⟩
  simp [w_Draft_init]
  exact h
@[simp] def p_Draft_of_name : W → W → W → Sto → (W → Sto → Prop) → Prop := fun a b c mu Q => ∃ (N C : Tab) (h : Nat) (w : Str), a = .loc 0 ∧ b = .d (.int (h : Nat)) ∧ c = .d (.str w) ∧ mu = drM N C ∧ Q (.d (.int (tOf N h w : Nat))) mu
def w_Draft_of_name : WS := (wRet (wNGet2 (wFld cn_names "names" (wVar 0)) (wTup (wCons (wVar 1) (wCons (wVar 2) wNil))) (wC (.int 0))))
@[simp] def sp_Draft_of_name : VSp := sS3 p_Draft_of_name
theorem key_is {N C : Tab} {rh : Ev} {i j h : Nat} {w : Str} {mu : Sto} (e1 : rh[i]? = some (some (.d (.int (h : Nat))))) (e2 : rh[j]? = some (some (.d (.str w)))) : Is (wTup (wCons (wVar i) (wCons (wVar j) wNil))) rh mu (.d (tKey h w)) := by
  refine tup2_is (fun K hK => ?_) (fun K hK => ?_)
  · simp [e1]; exact hK
  · simp [e2]; exact hK
theorem nget2_is {o i d : WE} {rh : Ev} {mu : Sto} {l : Nat} {T : Tab} {h : Nat} {w : Str} (ho : Is o rh mu (.loc l)) (hi : Is i rh mu (.d (tKey h w))) (hd : Is d rh mu (.d (.int 0))) (e : mu[l]? = some (.dn none (tN T))) : Is (wNGet2 o i d) rh mu (.d (.int (tOf T h w : Nat))) := fun K hK => by
  refine ho _ ⟨by simp [getN, e], hi _ (hd _ ?_)⟩
  simp only [getN, e, valN_t]
  refine ⟨keyOk_t h w, ?_⟩
  unfold tOf at hK
  cases q : tGet T h w with
  | none => rw [q] at hK; exact hK
  | some v => rw [q] at hK; exact hK
theorem fld_names0 {N C : Tab} {rh : Ev} {i : Nat} (e : rh[i]? = some (some (.loc 0))) : Is (wFld cn_names "names" (wVar i)) rh (drM N C) (.loc 1) := fun K hK => by simp [e, drM]; exact hK
theorem fld_cells0 {N C : Tab} {rh : Ev} {i : Nat} (e : rh[i]? = some (some (.loc 0))) : Is (wFld cn_cells "cells" (wVar i)) rh (drM N C) (.loc 2) := fun K hK => by simp [e, drM]; exact hK
theorem int_is {rh : Ev} {mu : Sto} (d : D) : Is (wC d) rh mu (.d d) := fun K hK => by simpa using hK
theorem var_is {rh : Ev} {mu : Sto} {i : Nat} {w : W} (e : rh[i]? = some (some w)) : Is (wVar i) rh mu w := fun K hK => by simp [e]; exact hK
theorem v_Draft_of_name : ∀ a b c mu Q, p_Draft_of_name a b c mu Q → w_Draft_of_name (evr Q) (startE ["self", "home", "name"] [a, b, c]) mu := by
  rintro _ _ _ _ Q ⟨N, C, h, w, rfl, rfl, rfl, rfl, hq⟩
  refine ret_to _ (nget2_is (l := 1) (fld_names0 rfl) (key_is (N := N) (C := C) rfl rfl) (int_is _) rfl) hq
def tab_of_name : MTab := [("Draft", sp_Draft_of_name)]
theorem of_name_is {N C : Tab} {rh : Ev} {i j k h : Nat} {w : Str} (e1 : rh[i]? = some (some (.loc 0))) (e2 : rh[j]? = some (some (.d (.int (h : Nat))))) (e3 : rh[k]? = some (some (.d (.str w)))) :
    Is (wMeth tab_of_name "of_name" (wVar i) (wCons (wVar j) (wCons (wVar k) wNil))) rh (drM N C) (.d (.int (tOf N h w : Nat))) := fun K hK => by
  simp [e1, e2, e3, drM, tab_of_name]
  exact ⟨N, C, h, rfl, ⟨rfl, rfl⟩, hK⟩
theorem numbers_is {f : WE} {rh : Ev} {mu : Sto} {n : Nat} (hf : Is f rh mu (.d (.int (n : Nat)))) (hn : n < 2 ^ 64) : Is (wCallP false sp_numbers_of [] (wCons f wNil)) rh mu (.d (.lst ((bitsL n).map fun k => .int (k : Nat)))) := fun K hK => by
  refine hf _ ?_
  simp
  exact ⟨n, rfl, hn, by simpa using hK⟩
@[simp] def p_Draft_of_cells : W → W → W → W → Sto → (W → Sto → Prop) → Prop := fun a b c d mu Q => ∃ (N C : Tab) (h : Nat) (w k : Str), a = .loc 0 ∧ b = .d (.int (h : Nat)) ∧ c = .d (.str w) ∧ d = .d (.str k) ∧ mu = drM N C ∧ TabOk N ∧ Q (.d (.int (hadT N C (.cells h w k) : Nat))) mu
def w_Draft_of_cells : WS := (wSeq (wAsg (wC (.int 0)) (wgName 4))
    (wSeq (wFor (wSeqI (wCallP false sp_numbers_of [] (wCons (wMeth tab_of_name "of_name" (wVar 0) (wCons (wVar 1) (wCons (wVar 2) wNil))) wNil))) (wgName 5) (wAsg (wOp (fI0 Builtin.bitOr) (wVar 4) (wNGet2 (wFld cn_cells "cells" (wVar 0)) (wTup (wCons (wVar 5) (wCons (wVar 3) wNil))) (wC (.int 0)))) (wgName 4)))
    (wRet (wVar 4))))
@[simp] def sp_Draft_of_cells : VSp := sS4 p_Draft_of_cells
theorem v_Draft_of_cells : ∀ a b c d mu Q, p_Draft_of_cells a b c d mu Q → w_Draft_of_cells (evr Q) (startE ["self", "home", "name", "kind", "total", "row"] [a, b, c, d]) mu := by
  rintro _ _ _ _ _ Q ⟨N, C, h, w, k, rfl, rfl, rfl, rfl, rfl, ok, hq⟩
  unfold w_Draft_of_cells
  refine seq_to _ _ (fun K hK => asg_to _ (int_is _) hK) ?_
  refine seq_R (fun rh mu => ∃ x, rh = [some (.loc 0), some (.d (.int (h : Nat))), some (.d (.str w)), some (.d (.str k)), some (.d (.int (hadT N C (.cells h w k) : Nat))), x] ∧ mu = drM N C) (fun K hK => ?_) ?_
  · refine for_lstM (numbers_is (of_name_is (N := N) (C := C) (h := h) (w := w) rfl rfl rfl) (ok.of_lt _ _)) ?_
    refine forL_S (fun k => .d (.int (k : Nat))) (fun xs rh mu => ∃ (t : Nat) (x : Option W), rh = [some (.loc 0), some (.d (.int (h : Nat))), some (.d (.str w)), some (.d (.str k)), some (.d (.int (t : Nat))), x] ∧ mu = drM N C ∧ xs.foldl (fun t r => t ||| tOf C r k) t = hadT N C (.cells h w k)) (fun _ _ _ _ => trivial) ?_ ?_ ⟨0, none, rfl, rfl, rfl⟩
    · rintro _ _ ⟨t, x, rfl, rfl, e⟩
      refine hK _ _ ⟨x, ?_, rfl⟩
      rw [← e]; rfl
    · rintro r xs _ _ ⟨t, x, rfl, rfl, e⟩ X hX
      have g := nget2_is (rh := [some (.loc 0), some (.d (.int (h : Nat))), some (.d (.str w)), some (.d (.str k)), some (.d (.int (t : Nat))), some (.d (.int (r : Nat)))]) (mu := drM N C) (l := 2) (T := C) (h := r) (w := k) (fld_cells0 (i := 0) rfl) (key_is (N := N) (C := C) (i := 5) (j := 3) rfl rfl) (int_is _) rfl
      refine asg_to (.d (.int ((t ||| tOf C r k : Nat) : Nat))) (op_to _ _ _ (var_is (i := 4) rfl) g fun K hK => ?_) ?_
      · simpa using hK
      · exact hX _ _ ⟨_, _, rfl, rfl, e⟩
  · rintro _ _ ⟨x, rfl, rfl⟩
    exact ret_to _ (var_is rfl) hq
def tab_of_cells : MTab := [("Draft", sp_Draft_of_cells)]
theorem of_cells_is {N C : Tab} {rh : Ev} {i j k l h : Nat} {w c : Str} (ok : TabOk N) (e1 : rh[i]? = some (some (.loc 0))) (e2 : rh[j]? = some (some (.d (.int (h : Nat))))) (e3 : rh[k]? = some (some (.d (.str w)))) (e4 : rh[l]? = some (some (.d (.str c)))) :
    Is (wMeth tab_of_cells "of_cells" (wVar i) (wCons (wVar j) (wCons (wVar k) (wCons (wVar l) wNil)))) rh (drM N C) (.d (.int (hadT N C (.cells h w c) : Nat))) := fun K hK => by
  simp [e1, e2, e3, e4, drM, tab_of_cells]
  exact ⟨N, C, h, rfl, ⟨rfl, rfl⟩, ok, hK⟩
@[simp] def p_Draft_had_by : W → W → Sto → (W → Sto → Prop) → Prop := fun a b mu Q => ∃ (N C : Tab) (p : Pl), a = .loc 0 ∧ b = .d (plD p) ∧ mu = drM N C ∧ TabOk N ∧ plOk p ∧ Q (.d (.int (hadT N C p : Nat))) mu
def w_Draft_had_by : WS := (wSeq (wAsg (wVar 1) (wgTup 4 (wgCons (wgName 2) (wgCons (wgName 3) (wgCons (wgName 4) (wgCons (wgName 5) wgNil))))))
    (wSeq (wIfS (wTest (wOp (fEq false) (wVar 2) (wC (.str "row")))) (wRet (wOp (fI CShl fun i j => i * 2 ^ j.toNat) (wC (.int 1)) (wVar 3))) wNext)
    (wSeq (wIfS (wTest (wOp (fEq false) (wVar 2) (wC (.str "name")))) (wRet (wMeth tab_of_name "of_name" (wVar 0) (wCons (wVar 3) (wCons (wVar 4) wNil)))) wNext)
    (wRet (wMeth tab_of_cells "of_cells" (wVar 0) (wCons (wVar 3) (wCons (wVar 4) (wCons (wVar 5) wNil))))))))
@[simp] def sp_Draft_had_by : VSp := sS2 p_Draft_had_by
theorem tup4_to {i j k l : Nat} {x y z u : D} {rh : Ev} {mu : Sto} {K : Ev → Sto → Prop} (h : K ((((rh.set i (some (.d x))).set j (some (.d y))).set k (some (.d z))).set l (some (.d u))) mu) : wgTup 4 (wgCons (wgName i) (wgCons (wgName j) (wgCons (wgName k) (wgCons (wgName l) wgNil)))) (W.d (.tup [x, y, z, u])) rh mu K := by simpa using h
theorem asgG_to {e : WE} {g : WG} {V : EV} {rh : Ev} {mu : Sto} (w : W) (h1 : Is e rh mu w) (h2 : g w rh mu V.nx) : wAsg e g V rh mu := h1 _ h2
theorem eqS_is {rh : Ev} {mu : Sto} {i : Nat} {s : Str} {z : String} (b : Bool) (e : rh[i]? = some (some (.d (.str s)))) (hb : (s == Str.ofString z) = b) : IsB (wTest (wOp (fEq false) (wVar i) (wC (.str (Str.ofString z))))) rh mu b := fun K hK => by
  simp [e, onBl]; rw [hb]; exact hK
theorem v_Draft_had_by : ∀ a b mu Q, p_Draft_had_by a b mu Q → w_Draft_had_by (evr Q) (startE ["self", "origin", "word", "home", "name", "kind"] [a, b]) mu := by
  rintro _ _ _ Q ⟨N, C, p, rfl, rfl, rfl, ok, pok, hq⟩
  unfold w_Draft_had_by
  cases p with
  | row r =>
    refine seq_to _ _ (fun K hK => asgG_to _ (var_is rfl) (tup4_to hK)) ?_
    refine seq_do fun X => ifS_T (eqS_is true rfl (by decide)) (ret_to _ (fun K hK => ?_) hq)
    have h1 : r < 64 := pok
    have e : (1 : Int) * 2 ^ r = ((2 ^ r : Nat) : Int) := by simp
    simp [hadT] at hK
    simp [shl63 (show r ≤ 63 by omega)]
    exact hK
  | name h n =>
    refine seq_to _ _ (fun K hK => asgG_to _ (var_is rfl) (tup4_to hK)) ?_
    refine seq_to _ _ (fun K hK => ifS_F (eqS_is false rfl (by decide)) hK) ?_
    exact seq_do fun X => ifS_T (eqS_is true rfl (by decide)) (ret_to _ (of_name_is rfl rfl rfl) hq)
  | cells h n c =>
    refine seq_to _ _ (fun K hK => asgG_to _ (var_is rfl) (tup4_to hK)) ?_
    refine seq_to _ _ (fun K hK => ifS_F (eqS_is false rfl (by decide)) hK) ?_
    refine seq_to _ _ (fun K hK => ifS_F (eqS_is false rfl (by decide)) hK) ?_
    exact ret_to _ (of_cells_is ok rfl rfl rfl rfl) hq
def tab_had_by : MTab := [("Draft", sp_Draft_had_by)]
theorem had_is {N C : Tab} {rh : Ev} {i j : Nat} {p : Pl} (ok : TabOk N) (pok : plOk p) (e1 : rh[i]? = some (some (.loc 0))) (e2 : rh[j]? = some (some (.d (plD p)))) : Is (wMeth tab_had_by "had_by" (wVar i) (wCons (wVar j) wNil)) rh (drM N C) (.d (.int (hadT N C p : Nat))) := fun K hK => by
  simp [e1, e2, drM, tab_had_by]
  exact ⟨N, C, p, rfl, ⟨rfl, rfl⟩, ok, pok, hK⟩
def notRow : Pl → Prop
  | .row _ => False
  | _ => True
@[simp] def p_Draft_grown : W → W → W → Sto → (W → Sto → Prop) → Prop := fun a b c mu Q => ∃ (N C : Tab) (g : Pl) (s : Nat), a = .loc 0 ∧ b = .d (plD g) ∧ c = .d (.int (s : Nat)) ∧ mu = drM N C ∧ TabOk N ∧ notRow g ∧ N.length + C.length ≤ 1000000 ∧
  Q (.d (.bl (grownT g s N C).2.2)) (drM (grownT g s N C).1 (grownT g s N C).2.1)
def w_Draft_grown : WS := (wSeq (wAsg (wVar 1) (wgTup 4 (wgCons (wgName 3) (wgCons (wgName 4) (wgCons (wgName 5) (wgCons (wgName 6) wgNil))))))
    (wSeq (wIfS (wTest (wOp (fEq false) (wVar 2) (wC (.int 0)))) (wRet (wC (.bl false))) wNext)
    (wSeq (wIfS (wTest (wOp (fEq false) (wVar 3) (wC (.str "name")))) (wSeq (wAsg (wMeth tab_of_name "of_name" (wVar 0) (wCons (wVar 4) (wCons (wVar 5) wNil))) (wgName 7))
    (wSeq (wNPut (wFld cn_names "names" (wVar 0)) (wTup (wCons (wVar 4) (wCons (wVar 5) wNil))) (wOp (fI0 Builtin.bitOr) (wVar 7) (wVar 2)))
    (wRet (wOp (fEq true) (wOp (fI0 Builtin.bitOr) (wVar 7) (wVar 2)) (wVar 7))))) wNext)
    (wSeq (wAsg (wC (.bl false)) (wgName 8))
    (wSeq (wFor (wSeqI (wCallP false sp_numbers_of [] (wCons (wMeth tab_of_name "of_name" (wVar 0) (wCons (wVar 4) (wCons (wVar 5) wNil))) wNil))) (wgName 9) (wSeq (wAsg (wNGet2 (wFld cn_cells "cells" (wVar 0)) (wTup (wCons (wVar 9) (wCons (wVar 6) wNil))) (wC (.int 0))) (wgName 7))
    (wSeq (wNPut (wFld cn_cells "cells" (wVar 0)) (wTup (wCons (wVar 9) (wCons (wVar 6) wNil))) (wOp (fI0 Builtin.bitOr) (wVar 7) (wVar 2)))
    (wAsg (wOrV (wVar 8) (wOp (fEq true) (wOp (fI0 Builtin.bitOr) (wVar 7) (wVar 2)) (wVar 7))) (wgName 8)))))
    (wRet (wVar 8)))))))
@[simp] def sp_Draft_grown : VSp := sS3 p_Draft_grown
theorem or_is {rh : Ev} {mu : Sto} {i j a b : Nat} (e1 : rh[i]? = some (some (.d (.int (a : Nat))))) (e2 : rh[j]? = some (some (.d (.int (b : Nat))))) : Is (wOp (fI0 Builtin.bitOr) (wVar i) (wVar j)) rh mu (.d (.int ((a ||| b : Nat) : Nat))) :=
  op_to _ _ _ (var_is e1) (var_is e2) fun K hK => by simpa using hK
theorem ne_dec (a b : Nat) : (!((a : Int) == (b : Int))) = decide (a ≠ b) := by
  by_cases c : a = b
  · simp [c]
  · have : (a : Int) ≠ b := by omega
    simp [c, this]
theorem orne_is {rh : Ev} {mu : Sto} {i j a b : Nat} (e1 : rh[i]? = some (some (.d (.int (a : Nat))))) (e2 : rh[j]? = some (some (.d (.int (b : Nat))))) : Is (wOp (fEq true) (wOp (fI0 Builtin.bitOr) (wVar i) (wVar j)) (wVar i)) rh mu (.d (.bl (decide (a ||| b ≠ a)))) :=
  op_to _ _ _ (or_is e1 e2) (var_is e1) fun K hK => by
    simp
    rw [← ne_dec] at hK
    simpa using hK
theorem nputT_to {o i v : WE} {V : EV} {rh : Ev} {mu : Sto} (l : Nat) (T : Tab) (h : Nat) (w : Str) (s : Nat) (hv : Is v rh mu (.d (.int (s : Nat)))) (ho : Is o rh mu (.loc l)) (hi : Is i rh mu (.d (tKey h w))) (e : mu[l]? = some (.dn none (tN T))) (hl : T.length < sizeLine)
    (q : V.nx rh (mu.set l (.dn none (tN (tPut T h w s))))) : wNPut o i v V rh mu := nput_to l (tN T) (tKey h w) _ hv ho hi e (keyOk_t _ _) (by rw [tN_len]; exact hl) (by rw [putN_t]; exact q)
theorem v_Draft_grown : ∀ a b c mu Q, p_Draft_grown a b c mu Q → w_Draft_grown (evr Q) (startE ["self", "goal", "some", "word", "home", "name", "kind", "ahead", "fresh", "row"] [a, b, c]) mu := by
  rintro _ _ _ _ Q ⟨N, C, g, s, rfl, rfl, rfl, rfl, ok, nr, hl, hq⟩
  unfold w_Draft_grown
  unfold grownT at hq
  have z : ∀ (rh : Ev) (mu : Sto), rh[2]? = some (some (.d (.int (s : Nat)))) → IsB (wTest (wOp (fEq false) (wVar 2) (wC (.int 0)))) rh mu (decide (s = 0)) := fun rh mu e K hK => by
    simp [e, onBl]
    have : ((s : Int) == 0) = decide (s = 0) := by by_cases c : s = 0 <;> simp [c]
    rw [this]; exact hK
  cases g with
  | row r => exact nr.elim
  | name h n =>
    refine seq_to _ _ (fun K hK => asgG_to _ (var_is rfl) (tup4_to hK)) ?_
    by_cases c : s = 0
    · rw [if_pos c] at hq
      exact seq_do fun X => ifS_to _ (z _ _ rfl) (by simpa [c] using hq)
    · rw [if_neg c] at hq
      refine seq_to _ _ (fun K hK => ifS_to _ (z _ _ rfl) (by rw [decide_eq_false c]; exact hK)) ?_
      refine seq_do fun X => ifS_T (eqS_is true rfl (by decide)) ?_
      show wSeq _ _ _ _ _
      refine seq_to _ _ (fun K hK => asg_to _ (of_name_is (N := N) (C := C) (h := h) (w := n) rfl rfl rfl) hK) ?_
      refine seq_to _ (drM (tPut N h n (tOf N h n ||| s)) C) (fun K hK => nputT_to 1 N h n _ (or_is (a := tOf N h n) (b := s) rfl rfl) (fld_names0 rfl) (key_is (N := N) (C := C) rfl rfl) rfl (by rw [sizeLine_eq]; omega) hK) ?_
      · exact ret_to _ (orne_is (a := tOf N h n) (b := s) rfl rfl) hq
  | cells h n cl =>
    refine seq_to _ _ (fun K hK => asgG_to _ (var_is rfl) (tup4_to hK)) ?_
    by_cases c : s = 0
    · rw [if_pos c] at hq
      exact seq_do fun X => ifS_to _ (z _ _ rfl) (by simpa [c] using hq)
    · rw [if_neg c] at hq
      refine seq_to _ _ (fun K hK => ifS_to _ (z _ _ rfl) (by rw [decide_eq_false c]; exact hK)) ?_
      refine seq_to _ _ (fun K hK => ifS_F (eqS_is false rfl (by decide)) hK) ?_
      refine seq_to _ _ (fun K hK => asg_to _ (int_is _) hK) ?_
      refine seq_R (fun rh mu => ∃ x y, rh = [some (.loc 0), some (.d (plD (.cells h n cl))), some (.d (.int (s : Nat))), some (.d (.str (Str.ofString "cells"))), some (.d (.int (h : Nat))), some (.d (.str n)), some (.d (.str cl)), x, some (.d (.bl (cellsPut (bitsL (tOf N h n)) cl s C false).2)), y] ∧ mu = drM N (cellsPut (bitsL (tOf N h n)) cl s C false).1) (fun K hK => ?_) ?_
      · refine for_lstM (numbers_is (of_name_is (N := N) (C := C) (h := h) (w := n) rfl rfl rfl) (ok.of_lt _ _)) ?_
        refine forL_S (fun k => .d (.int (k : Nat))) (fun xs rh mu => ∃ (C' : Tab) (f : Bool) (x y : Option W), rh = [some (.loc 0), some (.d (plD (.cells h n cl))), some (.d (.int (s : Nat))), some (.d (.str (Str.ofString "cells"))), some (.d (.int (h : Nat))), some (.d (.str n)), some (.d (.str cl)), x, some (.d (.bl f)), y] ∧ mu = drM N C' ∧
          cellsPut xs cl s C' f = cellsPut (bitsL (tOf N h n)) cl s C false ∧ C'.length + xs.length ≤ C.length + 64) (fun _ _ _ _ => trivial) ?_ ?_ ⟨C, false, none, none, rfl, rfl, rfl, by have := bitsL_len (tOf N h n); omega⟩
        · rintro _ _ ⟨C', f, x, y, rfl, rfl, e, _⟩
          refine hK _ _ ⟨x, y, ?_, ?_⟩
          · rw [← e]; rfl
          · rw [← e]; rfl
        · rintro r xs _ _ ⟨C', f, x, y, rfl, rfl, e, hl'⟩ X hX
          show wSeq _ _ _ _ _
          have g := nget2_is (rh := [some (.loc 0), some (.d (plD (.cells h n cl))), some (.d (.int (s : Nat))), some (.d (.str (Str.ofString "cells"))), some (.d (.int (h : Nat))), some (.d (.str n)), some (.d (.str cl)), x, some (.d (.bl f)), some (.d (.int (r : Nat)))]) (mu := drM N C') (l := 2) (T := C') (h := r) (w := cl) (d := wC (.int 0)) (fld_cells0 (i := 0) rfl) (key_is (N := N) (C := C) (i := 9) (j := 6) rfl rfl) (int_is _) rfl
          refine seq_to _ _ (fun K hK => asg_to _ g hK) ?_
          refine seq_to _ (drM N (tPut C' r cl (tOf C' r cl ||| s))) (fun K hK => nputT_to 2 C' r cl _ (or_is (a := tOf C' r cl) (b := s) rfl rfl) (fld_cells0 rfl) (key_is (N := N) (C := C) rfl rfl) rfl (by rw [sizeLine_eq]; simp at hl'; omega) hK) ?_
          · refine asg_to (.d (.bl (f || decide (tOf C' r cl ||| s ≠ tOf C' r cl)))) (fun K hK => ?_) (hX _ _ ⟨_, _, _, _, rfl, rfl, e, ?_⟩)
            · have o := orne_is (rh := [some (.loc 0), some (.d (plD (.cells h n cl))), some (.d (.int (s : Nat))), some (.d (.str (Str.ofString "cells"))), some (.d (.int (h : Nat))), some (.d (.str n)), some (.d (.str cl)), some (.d (.int (tOf C' r cl : Nat))), some (.d (.bl f)), some (.d (.int (r : Nat)))]) (mu := drM N (tPut C' r cl (tOf C' r cl ||| s))) (i := 7) (j := 2) (a := tOf C' r cl) (b := s) rfl rfl
              cases f with
              | true => exact hK
              | false => exact o _ hK
            · have := tPut_len C' r cl (tOf C' r cl ||| s)
              simp at hl'; omega
      · rintro _ _ ⟨x, y, rfl, rfl⟩
        exact ret_to _ (var_is rfl) hq
def tab_grown : MTab := [("Draft", sp_Draft_grown)]
theorem grown_is {N C : Tab} {rh : Ev} {i j : Nat} {e : WE} {g : Pl} {s : Nat} {K : W → Sto → Prop} (ok : TabOk N) (nr : notRow g) (hl : N.length + C.length ≤ 1000000) (e1 : rh[i]? = some (some (.loc 0))) (e2 : rh[j]? = some (some (.d (plD g)))) (he : Is e rh (drM N C) (.d (.int (s : Nat))))
    (hK : K (.d (.bl (grownT g s N C).2.2)) (drM (grownT g s N C).1 (grownT g s N C).2.1)) : wMeth tab_grown "grown" (wVar i) (wCons (wVar j) (wCons e wNil)) rh (drM N C) K := by
  simp [e1, e2, drM, tab_grown]
  exact he _ ⟨N, C, g, rfl, s, rfl, rfl, ok, nr, hl, hK⟩
@[simp] def p_Draft_told : W → Sto → (W → Sto → Prop) → Prop := fun a mu Q => ∃ (N C : Tab), a = .loc 0 ∧ mu = drM N C ∧ N.length + C.length ≤ 1000000 ∧ Q (.tup [.loc 3, .loc 4]) (drM N C ++ [.lst (tabL N), .lst (tabL C)])
def w_Draft_told : WS := (wSeq (wAsg (wCall (fSortedR true) (wCons (wLockE (wLc false (wNItems (wFld cn_names "names" (wVar 0))) (wgTup 2 (wgCons (wgName 2) (wgCons (wgName 3) wgNil))) wYes (wTup (wCons (wOp fIx (wVar 2) (wC (.int 0))) (wCons (wOp fIx (wVar 2) (wC (.int 1))) (wCons (wVar 3) wNil)))) [2, 3])) wNil)) (wgName 1))
    (wRet (wTup (wCons (wVar 1) (wCons (wCall (fSortedR true) (wCons (wLockE (wLc false (wNItems (wFld cn_cells "cells" (wVar 0))) (wgTup 2 (wgCons (wgName 2) (wgCons (wgName 3) wgNil))) wYes (wTup (wCons (wOp fIx (wVar 2) (wC (.int 0))) (wCons (wOp fIx (wVar 2) (wC (.int 1))) (wCons (wVar 3) wNil)))) [2, 3])) wNil)) wNil)))))
@[simp] def sp_Draft_told : VSp := sS1 p_Draft_told
theorem items_is (T : Tab) (l : Nat) {E : Ev} {mu : Sto} {a : WE} (e : mu[l]? = some (.dn none (tN T))) (hE : ∃ x y z w, E = [x, y, z, w]) (hl : T.length ≤ 1000000) (ha : ∀ lk, Is a E (mu.set l (.dn (some lk) (tN T))) (.loc l)) :
    Is (wLockE (wLc false (wNItems a) (wgTup 2 (wgCons (wgName 2) (wgCons (wgName 3) wgNil))) wYes (wTup (wCons (wOp fIx (wVar 2) (wC (.int 0))) (wCons (wOp fIx (wVar 2) (wC (.int 1))) (wCons (wVar 3) wNil)))) [2, 3])) E mu (.d (.lst (T.map trD))) := by
  refine lockE_is e fun lk K hK => ?_
  have e1 := set_at (y := C.dn (some lk) (tN T)) e
  refine ha lk _ ?_
  simp only [e1, tN_len, sizeLine_eq]
  refine ⟨by omega, ?_⟩
  have et : (tN T).map (fun p => mkTup [W.d p.1, p.2]) = T.map (fun r => .d (.tup [tKey r.1 r.2.1, .int (r.2.2 : Nat)])) := by simp [tN, mkTup]
  rw [et]
  obtain ⟨x, y, z, w, rfl⟩ := hE
  refine lc_A _ (fun r => .d (trD r)) e1 (fun r hr A hA => ?_) (by simpa using hK)
  refine tup2_to ?_
  have kt : tKey r.1 r.2.1 = .tup [.int (r.1 : Nat), .str r.2.1] := rfl
  rw [kt]
  simp [sizeLine_eq]
  exact hA
theorem v_Draft_told : ∀ a mu Q, p_Draft_told a mu Q → w_Draft_told (evr Q) (startE ["self", "names", "key", "some"] [a]) mu := by
  rintro _ _ Q ⟨N, C, rfl, rfl, hl, hq⟩
  unfold w_Draft_told
  have i1 := items_is N 1 (E := [some (.loc 0), none, none, none]) (mu := drM N C) (a := wFld cn_names "names" (wVar 0)) rfl ⟨_, _, _, _, rfl⟩ (by omega) (fun lk K hK => by simp [drM]; exact hK)
  have i2 := items_is C 2 (E := [some (.loc 0), some (.loc 3), none, none]) (mu := drM N C ++ [.lst (tabL N)]) (a := wFld cn_cells "cells" (wVar 0)) rfl ⟨_, _, _, _, rfl⟩ (by omega) (fun lk K hK => by simp [drM]; exact hK)
  refine seq_to [some (.loc 0), some (.loc 3), none, none] (drM N C ++ [.lst (tabL N)]) (fun K hK => i1 _ ?_) ?_
  · exact sortedR_own hK
  · simp only [wRet, wTup, wCons, wVar, wNil, wCall]
    refine i2 _ (sortedR_own ?_)
    simp
    exact ⟨by simp [sizeLine_eq], by simpa [drM] using hq⟩
end VL
namespace VL
open PySem PySem.Spec PyProof.Rows L2 RZ
def classK : Key → Str
  | .inr s => if fldS s = true then s else Str.ofString "#"
  | .inl _ => Str.ofString "#"
def classD : D → Str
  | .str s => if fldS s = true then s else Str.ofString "#"
  | _ => Str.ofString "#"
theorem classD_kD (k : Key) : classD (kD k) = classK k := by cases k <;> rfl
@[simp] def p_class_of : D → (W → Sto → Prop) → Prop := fun a Q => plainD a ∧ Q (.d (.str (classD a))) []
def w_class_of : WS := (wSeq (wIfS (wTru (wCallP false sp_is_field [] (wCons (wVar 0) wNil))) (wRet (wVar 0)) wNext)
    (wRet (wC (.str "#"))))
@[simp] def sp_class_of : PSp := sp1 p_class_of
theorem v_class_of : ∀ a Q, p_class_of a Q → w_class_of (evr Q) (startE ["key"] [.d a]) [] := by
  rintro a Q ⟨hp, h⟩
  have e : fieldD a = true → ∃ s, a = .str s ∧ fldS s = true := fun c => by
    cases a <;> simp [fieldD] at c
    exact ⟨_, rfl, by simp [fldS, c]⟩
  have e2 : fieldD a = false → classD a = Str.ofString "#" := fun c => by
    cases a <;> try rfl
    rename_i s
    have : fldS s = false := c
    simp [classD, this]
  simp [w_class_of, hp]
  refine ite_of (fun c => ?_) (fun c => ?_)
  · obtain ⟨s, rfl, hs⟩ := e c
    simpa [classD, hs] using h
  · rw [e2 (by simpa using c)] at h
    exact h
/-! ### what rows hand on -/
def argF (t home : Nat) (ps : List Str) (ops : List Key) : List Flow := (ps.zip ops).filterMap fun x => match x.2 with
  | .inr m => some (.name t x.1, .name home m)
  | .inl _ => none
def givF (home : Nat) (n : Str) (t : Nat) : Key → List Flow
  | .inr m => [(.name home n, .name t m)]
  | .inl _ => []
def isDefR (f : Str) : Rw → Bool
  | .deff n _ => decide (n = f)
  | _ => false
def defI (P : List Rw) (f : Str) : Nat := P.findIdx (isDefR f)
def parsAt (P : List Rw) (t : Nat) : List Str := match P[t]? with
  | some (.deff _ ps) => ps
  | _ => []
def giveOf (P : List Rw) (ends : List (Option Nat)) (t : Nat) : Key := match ends[t]? with
  | some (some g) => (match P[g]? with
    | some (.give o) => o
    | _ => .inl 0)
  | _ => .inl 0
def callF (P : List Rw) (ends : List (Option Nat)) (home : Nat) (n f : Str) (ops : List Key) : List Flow :=
  argF (defI P f) home (parsAt P (defI P f)) ops ++ givF home n (defI P f) (giveOf P ends (defI P f))
def rowF (P : List Rw) (ends : List (Option Nat)) (home k : Nat) : Rw → List Flow
  | .new n => [(.name home n, .row k)]
  | .put n (.inr m) => [(.name home n, .name home m)]
  | .get n o key => [(.name home n, .cells home o (classK key))]
  | .set o key (.inr m) => [(.cells home o (classK key), .name home m)]
  | .call n f ops => callF P ends home n f ops
  | _ => []
def CallOk (P : List Rw) (ends : List (Option Nat)) : Prop := ∀ n f ops, Rw.call n f ops ∈ P → ∃ t ps g o, defI P f = t ∧ P[t]? = some (.deff f ps) ∧ ends[t]? = some (some g) ∧ P[g]? = some (.give o) ∧ ps.length = ops.length
/-! reading rows -/
theorem atI_map2 {A1 B1 : Type} (f : A1 → B1) {xs : List A1} {k : Nat} {x : A1} (h : xs[k]? = some x) : atI (xs.map f) (k : Int) = some (f x) := by
  have := (List.getElem?_eq_some_iff.mp h).1
  rw [at_nat (by omega) (by simp; omega)]
  simp [h]
theorem prg_is {a b : WE} {rh : Ev} {mu : Sto} {P : List Rw} {k : Nat} {r : Rw} (ha : Is a rh mu (.d (prgD P))) (hb : Is b rh mu (.d (.int (k : Nat)))) (h : P[k]? = some r) : Is (wOp fIx a b) rh mu (.d (rwD r)) := ix_lst ha hb (atI_map2 rwD h)
theorem ix_tup {a b : WE} {rh : Ev} {mu : Sto} {ds : List D} {i : Int} {d : D} (ha : Is a rh mu (.d (.tup ds))) (hb : Is b rh mu (.d (.int i))) (h : atI ds i = some d) : Is (wOp fIx a b) rh mu (.d d) := op_to _ _ _ ha hb fun K hK => ⟨d, h, hK⟩
theorem part_is {a : WE} {rh : Ev} {mu : Sto} {r : Rw} {i : Nat} {d : D} (ha : Is a rh mu (.d (rwD r))) (h : (rwL r)[i]? = some d) : Is (wOp fIx a (wC (.int (i : Nat)))) rh mu (.d d) := ix_tup ha (int_is _) (by
  have := (List.getElem?_eq_some_iff.mp h).1
  rw [at_nat (by omega) (by omega)]; simpa using h)
theorem eqC_is {a : WE} {rh : Ev} {mu : Sto} {s : Str} {z : String} (b : Bool) (ha : Is a rh mu (.d (.str s))) (hb : (s == Str.ofString z) = b) : IsB (wTest (wOp (fEq false) a (wC (.str (Str.ofString z))))) rh mu b := fun K hK => ha _ (by
  simp [wTest, fEq, wC]; rw [hb]; exact hK)
theorem neC_is {a : WE} {rh : Ev} {mu : Sto} {s : Str} {z : String} (b : Bool) (ha : Is a rh mu (.d (.str s))) (hb : (s == Str.ofString z) = !b) : IsB (wTest (wOp (fEq true) a (wC (.str (Str.ofString z))))) rh mu b := fun K hK => ha _ (by
  simp [wTest, fEq, wC]; rw [hb]; simpa using hK)
theorem word_is {a : WE} {rh : Ev} {mu : Sto} {r : Rw} {z : String} (b : Bool) (ha : Is a rh mu (.d (rwD r))) (hb : (Str.ofString (rwW r) == Str.ofString z) = b) : IsB (wTest (wOp (fEq false) (wOp fIx a (wC (.int 0))) (wC (.str (Str.ofString z))))) rh mu b := eqC_is b (part_is (i := 0) ha rfl) hb
theorem and_isF {f g : WT} {rh : Ev} {mu : Sto} (h : IsB f rh mu false) : IsB (wAnd f g) rh mu false := fun K hK => h _ (by simpa using hK)
theorem and_isT {f g : WT} {rh : Ev} {mu : Sto} {b : Bool} (h : IsB f rh mu true) (h2 : IsB g rh mu b) : IsB (wAnd f g) rh mu b := fun K hK => h _ (by simpa using h2 _ hK)
theorem or_isT {f g : WT} {rh : Ev} {mu : Sto} (h : IsB f rh mu true) : IsB (wOr f g) rh mu true := fun K hK => h _ (by simpa using hK)
theorem or_isF {f g : WT} {rh : Ev} {mu : Sto} {b : Bool} (h : IsB f rh mu false) (h2 : IsB g rh mu b) : IsB (wOr f g) rh mu b := fun K hK => h _ (by simpa using h2 _ hK)
theorem name_is {a : WE} {rh : Ev} {mu : Sto} {d : D} (ha : Is a rh mu (.d d)) (hp : plainD d) : IsB (wTru (wCallP false sp_is_name [] (wCons a wNil))) rh mu (nameD d) := fun K hK => ha _ (by
  simp [hp]; exact hK)
theorem class_is {a : WE} {rh : Ev} {mu : Sto} {k : Key} (ha : Is a rh mu (.d (kD k))) : Is (wCallP false sp_class_of [] (wCons a wNil)) rh mu (.d (.str (classK k))) := fun K hK => ha _ (by
  simp [plainD_kD, classD_kD]; exact hK)
theorem tup4_is {a b c d : WE} {rh : Ev} {mu : Sto} {x y z u : D} (ha : Is a rh mu (.d x)) (hb : Is b rh mu (.d y)) (hc : Is c rh mu (.d z)) (hd : Is d rh mu (.d u)) : Is (wTup (wCons a (wCons b (wCons c (wCons d wNil))))) rh mu (.d (.tup [x, y, z, u])) := fun K hK => ha _ (hb _ (hc _ (hd _ ⟨by simp [sizeLine_eq], hK⟩)))
/-- a display of one, told -/
theorem ret1_to {e : WE} {V : EV} {rh : Ev} {mu : Sto} {d : D} (h : Is e rh mu (.d d)) (q : V.rt (.loc mu.length) (mu ++ [.lst [d]])) : wRet (wLst true (wCons e wNil)) V rh mu := h _ (by
  simp [wLst, sizeLine_eq]; exact q)
theorem ret0_to {V : EV} {rh : Ev} {mu : Sto} (q : V.rt (.loc mu.length) (mu ++ [.lst []])) : wRet (wLst true wNil) V rh mu := by
  simp [wLst, sizeLine_eq]; exact q
theorem app_to {o e : WE} {V : EV} {rh : Ev} {mu : Sto} {l : Nat} {xs : List D} (d : D) (ho : Is o rh mu (.loc l)) (he : Is e rh mu (.d d)) (h1 : mu[l]? = some (.lst xs)) (hl : xs.length < sizeLine) (q : V.nx rh (mu.set l (.lst (xs ++ [d])))) : wDrop (wBM fApp o (wCons e wNil)) V rh mu := ho _ ⟨by simp [h1], he _ (by
  simp [h1]; exact ⟨hl, q⟩)⟩
theorem ext_to {o e : WE} {V : EV} {rh : Ev} {mu : Sto} {l : Nat} {xs ys : List D} (ho : Is o rh mu (.loc l)) (he : Is e rh mu (.d (.lst ys))) (h1 : mu[l]? = some (.lst xs)) (hl : xs.length + ys.length ≤ sizeLine) (q : V.nx rh (mu.set l (.lst (xs ++ ys)))) : wDrop (wBM fExt o (wCons e wNil)) V rh mu := ho _ ⟨by simp [h1], he _ (by
  simp [h1]; exact ⟨hl, q⟩)⟩
theorem plD_flat (p : Pl) : dflat (plD p) = true := by cases p <;> simp [plD]
theorem flDs_flat : ∀ fs : List Flow, dflats (fs.map flD) = true
  | [] => rfl
  | f :: fs => by
    have := flDs_flat fs
    simp [flD, plD_flat, this]
theorem for_zipT {a b : WE} {g : WG} {body : WS} {V : EV} {rh : Ev} {mu : Sto} {xs ys : List D} (ha : Is a rh mu (.d (.tup xs))) (hb : Is b rh mu (.d (.tup ys)))
    (h2 : ∀ chk : Sto → Prop, (∀ mu, chk mu) → forL chk g body V ((xs.zip ys).map fun p => .d (.tup [p.1, p.2])) rh mu) : wFor (wZip (wCons a (wCons b wNil))) g body V rh mu := ha _ (hb _ (by
  have e : ∀ (xs ys : List D), zipW (xs.map W.d) (ys.map W.d) = (xs.zip ys).map fun p => .d (.tup [p.1, p.2]) := by
    intro xs
    induction xs with
    | nil => intro ys; simp
    | cons x xs ih =>
      intro ys
      cases ys with
      | nil => simp
      | cons y ys => simp [ih, mkTup]
  simp
  rw [e]
  exact h2 _ fun mu => by first | trivial | exact ⟨rfl, rfl⟩))
theorem flow_is {a b : WE} {rh : Ev} {mu : Sto} {p q : Pl} (ha : Is a rh mu (.d (plD p))) (hb : Is b rh mu (.d (plD q))) : Is (wTup (wCons a (wCons b wNil))) rh mu (.d (flD (p, q))) := tup2_is ha hb
/-! calls -/
abbrev Iss (g : WA) (rh : Ev) (mu : Sto) (ws : List W) : Prop := ∀ K : List W → Sto → Prop, K ws mu → g rh mu K
theorem iss0 {rh : Ev} {mu : Sto} : Iss wNil rh mu [] := fun K hK => hK
theorem iss1 {e : WE} {g : WA} {rh : Ev} {mu : Sto} {w : W} {ws : List W} (h : Is e rh mu w) (h2 : Iss g rh mu ws) : Iss (wCons e g) rh mu (w :: ws) := fun K hK => h _ (h2 _ hK)
theorem callF_is {sp : PSp} {g : WA} {rh : Ev} {mu : Sto} {ws : List W} {ds : List D} {w0 : W} {mu0 : Sto} {d : D} (hg : Iss g rh mu ws) (hs : snaps mu ws = some ds) (hp : ∀ Q : W → Sto → Prop, Q w0 mu0 → sp ds Q) (hb : (if allD ws = true then snap mu0 w0 else snapF mu0 w0) = some d) : Is (wCallP false sp [] g) rh mu (.d d) := fun K hK => hg _ (by
  simp only [hs, List.append_nil]
  exact hp _ (by simp only [Bool.false_eq_true, if_false, backF, hb]; exact hK))
theorem callO_to {sp : PSp} {g : WA} {rh : Ev} {mu : Sto} {ws : List W} {ds : List D} {w0 : W} {mu0 : Sto} {K : W → Sto → Prop} (hg : Iss g rh mu ws) (hs : snaps mu ws = some ds) (hp : ∀ Q : W → Sto → Prop, Q w0 mu0 → sp ds Q) (hb : (allD ws || (wflat w0 && mu0.all cflat)) = true) (hK : K (shiftW mu.length w0) (mu ++ mu0.map (shiftC mu.length))) : wCallP true sp [] g rh mu K := hg _ (by
  simp only [hs, List.append_nil]
  exact hp _ (by simp only [if_true, backO]; exact ⟨hb, hK⟩))
theorem callS_to {sp : VSp} {g : WA} {rh : Ev} {mu : Sto} {ws : List W} {K : W → Sto → Prop} (hg : Iss g rh mu ws) (hp : sp ws mu K) : wCallS sp [] g rh mu K := hg _ (by simpa using hp)
@[simp] def p_call_flows : D → D → D → D → (W → Sto → Prop) → Prop := fun a b c d Q => ∃ (P : List Rw) (ends : List (Option Nat)) (home : Nat) (n f : Str) (ops : List Key), a = prgD P ∧ b = .lst (ends.map optD) ∧ c = .int (home : Nat) ∧ d = rwD (.call n f ops) ∧
  P.length ≤ 1000 ∧ (∀ r ∈ P, wfR r) ∧ wfR (.call n f ops) ∧ (∃ ps g o, P[defI P f]? = some (.deff f ps) ∧ ends[defI P f]? = some (some g) ∧ P[g]? = some (.give o)) ∧ Q (.loc 0) [.lst ((callF P ends home n f ops).map flD)]
def w_call_flows : WS := (wSeq (wAsg (wC (.int 0)) (wgName 4))
    (wSeq (wWhile (wOr (wTest (wOp (fEq true) (wOp fIx (wOp fIx (wVar 0) (wVar 4)) (wC (.int 0))) (wC (.str "def")))) (wTest (wOp (fEq true) (wOp fIx (wOp fIx (wVar 0) (wVar 4)) (wC (.int 1))) (wOp fIx (wVar 3) (wC (.int 2)))))) (wAug (fI0 fun a b => a + b) 4 (wC (.int 1))))
    (wSeq (wAsg (wLst true wNil) (wgName 5))
    (wSeq (wFor (wZip (wCons (wOp fIx (wOp fIx (wVar 0) (wVar 4)) (wC (.int 2))) (wCons (wOp fIx (wVar 3) (wC (.int 3))) wNil))) (wgTup 2 (wgCons (wgName 6) (wgCons (wgName 7) wgNil))) (wIfS (wTru (wCallP false sp_is_name [] (wCons (wVar 7) wNil))) (wDrop (wBM fApp (wVar 5) (wCons (wTup (wCons (wTup (wCons (wC (.str "name")) (wCons (wVar 4) (wCons (wVar 6) (wCons (wC (.str "")) wNil))))) (wCons (wTup (wCons (wC (.str "name")) (wCons (wVar 2) (wCons (wVar 7) (wCons (wC (.str "")) wNil))))) wNil))) wNil))) wNext))
    (wSeq (wAsg (wOp fIx (wOp fIx (wVar 0) (wOp fIx (wVar 1) (wVar 4))) (wC (.int 1))) (wgName 8))
    (wSeq (wIfS (wTru (wCallP false sp_is_name [] (wCons (wVar 8) wNil))) (wDrop (wBM fApp (wVar 5) (wCons (wTup (wCons (wTup (wCons (wC (.str "name")) (wCons (wVar 2) (wCons (wOp fIx (wVar 3) (wC (.int 1))) (wCons (wC (.str "")) wNil))))) (wCons (wTup (wCons (wC (.str "name")) (wCons (wVar 4) (wCons (wVar 8) (wCons (wC (.str "")) wNil))))) wNil))) wNil))) wNext)
    (wRet (wVar 5))))))))
@[simp] def sp_call_flows : PSp := sp4 p_call_flows
theorem nameD_kD {k : Key} (h : okO k = true) : nameD (kD k) = k.isRight := by
  cases k with
  | inl n => rfl
  | inr s => simpa [okO, nameD] using h
theorem zip_map2 {A1 B1 A2 B2 : Type} (f : A1 → A2) (g : B1 → B2) (xs : List A1) (ys : List B1) : (xs.map f).zip (ys.map g) = (xs.zip ys).map fun p => (f p.1, g p.2) := by
  rw [List.zip_map]; rfl
theorem v_call_flows : ∀ a b c d Q, p_call_flows a b c d Q → w_call_flows (evr Q) (startE ["program", "ends", "home", "parts", "there", "flows", "name", "operand", "given"] [.d a, .d b, .d c, .d d]) [] := by
  rintro _ _ _ _ Q ⟨P, ends, home, n, f, ops, rfl, rfl, rfl, rfl, hl, wf, wfc, ⟨ps, g, o, ht, he, hg⟩, hq⟩
  have e1 : parsAt P (defI P f) = ps := by simp [parsAt, ht]
  have e2 : giveOf P ends (defI P f) = o := by simp [giveOf, he, hg]
  unfold callF at hq
  rw [e1, e2] at hq
  have hlt : ∀ j, j < defI P f → ∀ r, P[j]? = some r → isDefR f r = false := fun j hj r hr => by
    have := List.not_of_lt_findIdx (p := isDefR f) (xs := P) hj
    obtain ⟨hl, rfl⟩ := List.getElem?_eq_some_iff.mp hr
    simpa using this
  have tl : defI P f < P.length := (List.getElem?_eq_some_iff.mp ht).1
  generalize defI P f = t at *
  have wfo : okO o = true := wf _ (List.mem_of_getElem? hg)
  unfold w_call_flows
  refine seq_to _ _ (fun K hK => asg_to _ (int_is _) hK) ?_
  refine seq_to [some (.d (prgD P)), some (.d (.lst (ends.map optD))), some (.d (.int (home : Nat))), some (.d (rwD (.call n f ops))), some (.d (.int (t : Nat))), none, none, none, none] [] (fun K hK => ?_) ?_
  · refine ⟨fun m rh mu => ∃ k : Nat, k ≤ t ∧ m = t - k ∧ mu = [] ∧ rh = [some (.d (prgD P)), some (.d (.lst (ends.map optD))), some (.d (.int (home : Nat))), some (.d (rwD (.call n f ops))), some (.d (.int (k : Nat))), none, none, none, none], ⟨t, 0, by omega, rfl, rfl, rfl⟩, ?_⟩
    rintro m _ _ ⟨k, hk, rfl, rfl, rfl⟩
    obtain ⟨r, hr⟩ : ∃ r, P[k]? = some r := ⟨_, List.getElem?_eq_getElem (by omega)⟩
    have ri := prg_is (a := wVar 0) (b := wVar 4) (rh := [some (.d (prgD P)), some (.d (.lst (ends.map optD))), some (.d (.int (home : Nat))), some (.d (rwD (.call n f ops))), some (.d (.int (k : Nat))), none, none, none, none]) (mu := []) (var_is rfl) (var_is rfl) hr
    have ci : Is (wOp fIx (wVar 3) (wC (.int 2))) [some (.d (prgD P)), some (.d (.lst (ends.map optD))), some (.d (.int (home : Nat))), some (.d (rwD (.call n f ops))), some (.d (.int (k : Nat))), none, none, none, none] [] (.d (.str f)) := part_is (i := 2) (var_is rfl) rfl
    by_cases c : k = t
    · subst c
      rw [ht] at hr
      cases hr
      refine or_isF (neC_is false (part_is (i := 0) ri rfl) (by simp)) (b := false) (fun K2 hK2 => ?_) _ hK
      exact part_is (i := 1) ri rfl _ (ci _ (by simpa using hK2))
    · have nd := hlt k (by omega) r hr
      have go : ∃ m', m' < t - k ∧ ∃ k' : Nat, k' ≤ t ∧ m' = t - k' ∧ ([] : Sto) = [] ∧ [some (W.d (prgD P)), some (.d (.lst (ends.map optD))), some (.d (.int (home : Nat))), some (.d (rwD (.call n f ops))), some (.d (.int ((k + 1 : Nat) : Nat))), none, none, none, none] = [some (.d (prgD P)), some (.d (.lst (ends.map optD))), some (.d (.int (home : Nat))), some (.d (rwD (.call n f ops))), some (.d (.int (k' : Nat))), none, none, none, none] := ⟨t - (k + 1), by omega, k + 1, by omega, rfl, rfl, rfl⟩
      by_cases c2 : rwW r = "def"
      · obtain ⟨f', ps', rfl⟩ : ∃ f' ps', r = .deff f' ps' := by cases r <;> simp at c2; exact ⟨_, _, rfl⟩
        have nf : f' ≠ f := by simpa [isDefR] using nd
        have nb : (f' == f) = false := by simpa using nf
        refine or_isF (neC_is false (part_is (i := 0) ri rfl) (by simp)) (b := true) (fun K2 hK2 => ?_) _ ?_
        · exact part_is (i := 1) ri rfl _ (ci _ (by simpa [nb] using hK2))
        · simpa using go
      · refine or_isT (neC_is true (part_is (i := 0) ri rfl) (by simpa using c2)) _ ?_
        simpa using go
  have rt := prg_is (a := wVar 0) (b := wVar 4) (rh := [some (.d (prgD P)), some (.d (.lst (ends.map optD))), some (.d (.int (home : Nat))), some (.d (rwD (.call n f ops))), some (.d (.int (t : Nat))), some (.loc 0), none, none, none]) (mu := [.lst []]) (var_is rfl) (var_is rfl) ht
  refine seq_to [some (.d (prgD P)), some (.d (.lst (ends.map optD))), some (.d (.int (home : Nat))), some (.d (rwD (.call n f ops))), some (.d (.int (t : Nat))), some (.loc 0), none, none, none] [.lst []] (fun K hK => by simpa [sizeLine_eq] using hK) ?_
  have la : ∀ (xs : List Str) (ks : List Key), (argF t home xs ks).length ≤ ks.length := fun xs ks => by
    unfold argF
    refine Nat.le_trans (List.length_filterMap_le _ _) ?_
    rw [List.length_zip]; omega
  refine seq_R (fun rh mu => ∃ x y, rh = [some (.d (prgD P)), some (.d (.lst (ends.map optD))), some (.d (.int (home : Nat))), some (.d (rwD (.call n f ops))), some (.d (.int (t : Nat))), some (.loc 0), x, y, none] ∧ mu = [.lst ((argF t home ps ops).map flD)]) (fun K hK => ?_) ?_
  · refine for_zipT (xs := ps.map D.str) (ys := ops.map kD) (part_is (i := 2) rt rfl) (part_is (i := 3) (var_is (i := 3) rfl) rfl) fun chk hc => ?_
    rw [zip_map2, List.map_map]
    refine forL_S _ (fun xs rh mu => ∃ (fs : List Flow) (x y : Option W), rh = [some (.d (prgD P)), some (.d (.lst (ends.map optD))), some (.d (.int (home : Nat))), some (.d (rwD (.call n f ops))), some (.d (.int (t : Nat))), some (.loc 0), x, y, none] ∧ mu = [.lst (fs.map flD)] ∧ (∀ p ∈ xs, okO p.2 = true) ∧ fs.length + xs.length ≤ 1000 ∧
      fs ++ xs.filterMap (fun x => match x.2 with | .inr m => some (Pl.name t x.1, Pl.name home m) | .inl _ => none) = argF t home ps ops) (fun _ _ mu _ => hc mu) ?_ ?_ ⟨[], none, none, rfl, rfl, ?_, ?_, rfl⟩
    · rintro _ _ ⟨fs, x, y, rfl, rfl, _, _, e⟩
      simp at e
      exact hK _ _ ⟨x, y, rfl, by rw [e]⟩
    · rintro ⟨p, k⟩ xs _ _ ⟨fs, x, y, rfl, rfl, hok, hll, e⟩ X hX
      refine tup2_to ?_
      have ok := hok (p, k) (by simp)
      simp only [List.length_cons] at hll
      refine ifS_to _ (name_is (var_is (i := 7) rfl) (plainD_kD k)) ?_
      rw [nameD_kD ok]
      cases k with
      | inl i => exact hX _ _ ⟨fs, _, _, rfl, rfl, fun q hq => hok q (by simp [hq]), by omega, by simpa using e⟩
      | inr m =>
        refine app_to (l := 0) (xs := fs.map flD) _ (var_is rfl) (flow_is (p := .name t p) (q := .name home m) (tup4_is (int_is _) (var_is rfl) (var_is rfl) (int_is _)) (tup4_is (int_is _) (var_is rfl) (var_is rfl) (int_is _))) rfl (by rw [sizeLine_eq]; simp; omega) ?_
        refine hX _ _ ⟨fs ++ [(.name t p, .name home m)], _, _, rfl, by simp, fun q hq => hok q (by simp [hq]), by simp; omega, by simpa using e⟩
    · intro p hp
      exact wfc.2.2.2 _ (List.of_mem_zip hp).2
    · have := wfc.2.2.1
      simp [List.length_zip]; omega
  · rintro _ _ ⟨x, y, rfl, rfl⟩
    have ei : Is (wOp fIx (wVar 1) (wVar 4)) [some (.d (prgD P)), some (.d (.lst (ends.map optD))), some (.d (.int (home : Nat))), some (.d (rwD (.call n f ops))), some (.d (.int (t : Nat))), some (.loc 0), x, y, none] [.lst ((argF t home ps ops).map flD)] (.d (.int (g : Nat))) := ix_lst (var_is rfl) (var_is rfl) (atI_map2 optD he)
    refine seq_to _ _ (fun K hK => asg_to _ (part_is (i := 1) (prg_is (var_is rfl) ei hg) rfl) hK) ?_
    refine seq_to [some (.d (prgD P)), some (.d (.lst (ends.map optD))), some (.d (.int (home : Nat))), some (.d (rwD (.call n f ops))), some (.d (.int (t : Nat))), some (.loc 0), x, y, some (.d (kD o))] [.lst ((argF t home ps ops ++ givF home n t o).map flD)] (fun K hK => ?_) ?_
    · refine ifS_to _ (name_is (var_is (i := 8) rfl) (plainD_kD o)) ?_
      rw [nameD_kD wfo]
      have := la ps ops
      have := wfc.2.2.1
      cases o with
      | inl i => simpa [givF] using hK
      | inr m =>
        refine app_to (l := 0) (xs := (argF t home ps ops).map flD) _ (var_is rfl) (flow_is (p := .name home n) (q := .name t m) (tup4_is (int_is _) (var_is rfl) (part_is (i := 1) (var_is (i := 3) rfl) rfl) (int_is _)) (tup4_is (int_is _) (var_is rfl) (var_is rfl) (int_is _))) rfl (by rw [sizeLine_eq]; simp; omega) ?_
        simpa [givF] using hK
    · exact ret_to _ (var_is rfl) hq
@[simp] def p_row_flows : D → D → D → D → (W → Sto → Prop) → Prop := fun a b c d Q => ∃ (P : List Rw) (ends : List (Option Nat)) (home k : Nat) (r : Rw), a = prgD P ∧ b = .lst (ends.map optD) ∧ c = .int (home : Nat) ∧ d = .int (k : Nat) ∧ P[k]? = some r ∧
  P.length ≤ 1000 ∧ (∀ r ∈ P, wfR r) ∧ CallOk P ends ∧ Q (.loc 0) [.lst ((rowF P ends home k r).map flD)]
def w_row_flows : WS := (wSeq (wAsg (wOp fIx (wVar 0) (wVar 3)) (wgName 4))
    (wSeq (wIfS (wTest (wOp (fEq false) (wOp fIx (wVar 4) (wC (.int 0))) (wC (.str "new")))) (wRet (wLst true (wCons (wTup (wCons (wTup (wCons (wC (.str "name")) (wCons (wVar 2) (wCons (wOp fIx (wVar 4) (wC (.int 1))) (wCons (wC (.str "")) wNil))))) (wCons (wTup (wCons (wC (.str "row")) (wCons (wVar 3) (wCons (wC (.str "")) (wCons (wC (.str "")) wNil))))) wNil))) wNil))) wNext)
    (wSeq (wIfS (wAnd (wTest (wOp (fEq false) (wOp fIx (wVar 4) (wC (.int 0))) (wC (.str "put")))) (wTru (wCallP false sp_is_name [] (wCons (wOp fIx (wVar 4) (wC (.int 2))) wNil)))) (wRet (wLst true (wCons (wTup (wCons (wTup (wCons (wC (.str "name")) (wCons (wVar 2) (wCons (wOp fIx (wVar 4) (wC (.int 1))) (wCons (wC (.str "")) wNil))))) (wCons (wTup (wCons (wC (.str "name")) (wCons (wVar 2) (wCons (wOp fIx (wVar 4) (wC (.int 2))) (wCons (wC (.str "")) wNil))))) wNil))) wNil))) wNext)
    (wSeq (wIfS (wTest (wOp (fEq false) (wOp fIx (wVar 4) (wC (.int 0))) (wC (.str "get")))) (wRet (wLst true (wCons (wTup (wCons (wTup (wCons (wC (.str "name")) (wCons (wVar 2) (wCons (wOp fIx (wVar 4) (wC (.int 1))) (wCons (wC (.str "")) wNil))))) (wCons (wTup (wCons (wC (.str "cells")) (wCons (wVar 2) (wCons (wOp fIx (wVar 4) (wC (.int 2))) (wCons (wCallP false sp_class_of [] (wCons (wOp fIx (wVar 4) (wC (.int 3))) wNil)) wNil))))) wNil))) wNil))) wNext)
    (wSeq (wIfS (wAnd (wTest (wOp (fEq false) (wOp fIx (wVar 4) (wC (.int 0))) (wC (.str "set")))) (wTru (wCallP false sp_is_name [] (wCons (wOp fIx (wVar 4) (wC (.int 3))) wNil)))) (wRet (wLst true (wCons (wTup (wCons (wTup (wCons (wC (.str "cells")) (wCons (wVar 2) (wCons (wOp fIx (wVar 4) (wC (.int 1))) (wCons (wCallP false sp_class_of [] (wCons (wOp fIx (wVar 4) (wC (.int 2))) wNil)) wNil))))) (wCons (wTup (wCons (wC (.str "name")) (wCons (wVar 2) (wCons (wOp fIx (wVar 4) (wC (.int 3))) (wCons (wC (.str "")) wNil))))) wNil))) wNil))) wNext)
    (wSeq (wIfS (wTest (wOp (fEq false) (wOp fIx (wVar 4) (wC (.int 0))) (wC (.str "call")))) (wRet (wCallP true sp_call_flows [] (wCons (wVar 0) (wCons (wVar 1) (wCons (wVar 2) (wCons (wVar 4) wNil)))))) wNext)
    (wRet (wLst true wNil))))))))
@[simp] def sp_row_flows : PSp := sp4 p_row_flows
theorem v_row_flows : ∀ a b c d Q, p_row_flows a b c d Q → w_row_flows (evr Q) (startE ["program", "ends", "home", "row", "parts"] [.d a, .d b, .d c, .d d]) [] := by
  rintro _ _ _ _ Q ⟨P, ends, home, k, r, rfl, rfl, rfl, rfl, hr, hl, wf, cok, hq⟩
  have hm := List.mem_of_getElem? hr
  have w := wf r hm
  unfold w_row_flows
  refine seq_to [some (.d (prgD P)), some (.d (.lst (ends.map optD))), some (.d (.int (home : Nat))), some (.d (.int (k : Nat))), some (.d (rwD r))] [] (fun K hK => asg_to _ (prg_is (var_is rfl) (var_is rfl) hr) hK) ?_
  have v4 : Is (wVar 4) [some (.d (prgD P)), some (.d (.lst (ends.map optD))), some (.d (.int (home : Nat))), some (.d (.int (k : Nat))), some (.d (rwD r))] [] (.d (rwD r)) := var_is rfl
  have nm : ∀ {i : Nat} {d : D}, (rwL r)[i]? = some d → plainD d → IsB (wTru (wCallP false sp_is_name [] (wCons (wOp fIx (wVar 4) (wC (.int (i : Nat)))) wNil))) [some (.d (prgD P)), some (.d (.lst (ends.map optD))), some (.d (.int (home : Nat))), some (.d (.int (k : Nat))), some (.d (rwD r))] [] (nameD d) := fun e p => name_is (part_is v4 e) p
  by_cases c1 : rwW r = "new"
  · obtain ⟨n, rfl⟩ : ∃ n, r = .new n := by cases r <;> simp at c1; exact ⟨_, rfl⟩
    refine seq_do fun X => ifS_T (word_is true v4 (by simp)) (ret1_to (flow_is (p := .name home n) (q := .row k) (tup4_is (int_is _) (var_is rfl) (part_is (i := 1) v4 rfl) (int_is _)) (tup4_is (int_is _) (var_is rfl) (int_is _) (int_is _))) hq)
  have f1 : (Str.ofString (rwW r) == Str.ofString "new") = false := by simpa using c1
  refine seq_to _ _ (fun K hK => ifS_F (word_is false v4 f1) hK) ?_
  by_cases c2 : rwW r = "put"
  · obtain ⟨n, o, rfl⟩ : ∃ n o, r = .put n o := by cases r <;> simp at c2; exact ⟨_, _, rfl⟩
    have no := nm (i := 2) (d := kD o) rfl (plainD_kD o)
    rw [nameD_kD w.2] at no
    cases o with
    | inr m => exact seq_do fun X => ifS_T (and_isT (word_is true v4 (by simp)) no) (ret1_to (flow_is (p := .name home n) (q := .name home m) (tup4_is (int_is _) (var_is rfl) (part_is (i := 1) v4 rfl) (int_is _)) (tup4_is (int_is _) (var_is rfl) (part_is (i := 2) v4 rfl) (int_is _))) hq)
    | inl i =>
      refine seq_to _ _ (fun K hK => ifS_F (and_isT (word_is true v4 (by simp)) no) hK) ?_
      refine seq_to _ _ (fun K hK => ifS_F (word_is false v4 (by simp)) hK) ?_
      refine seq_to _ _ (fun K hK => ifS_F (and_isF (word_is false v4 (by simp))) hK) ?_
      refine seq_to _ _ (fun K hK => ifS_F (word_is false v4 (by simp)) hK) ?_
      exact ret0_to hq
  have f2 : (Str.ofString (rwW r) == Str.ofString "put") = false := by simpa using c2
  refine seq_to _ _ (fun K hK => ifS_F (and_isF (word_is false v4 f2)) hK) ?_
  by_cases c3 : rwW r = "get"
  · obtain ⟨n, o, ky, rfl⟩ : ∃ n o ky, r = .get n o ky := by cases r <;> simp at c3; exact ⟨_, _, _, rfl⟩
    exact seq_do fun X => ifS_T (word_is true v4 (by simp)) (ret1_to (flow_is (p := .name home n) (q := .cells home o (classK ky)) (tup4_is (int_is _) (var_is rfl) (part_is (i := 1) v4 rfl) (int_is _)) (tup4_is (int_is _) (var_is rfl) (part_is (i := 2) v4 rfl) (class_is (part_is (i := 3) v4 rfl)))) hq)
  have f3 : (Str.ofString (rwW r) == Str.ofString "get") = false := by simpa using c3
  refine seq_to _ _ (fun K hK => ifS_F (word_is false v4 f3) hK) ?_
  by_cases c4 : rwW r = "set"
  · obtain ⟨o, ky, x, rfl⟩ : ∃ o ky x, r = .set o ky x := by cases r <;> simp at c4; exact ⟨_, _, _, rfl⟩
    have no := nm (i := 3) (d := kD x) rfl (plainD_kD x)
    rw [nameD_kD w.2.2] at no
    cases x with
    | inr m => exact seq_do fun X => ifS_T (and_isT (word_is true v4 (by simp)) no) (ret1_to (flow_is (p := .cells home o (classK ky)) (q := .name home m) (tup4_is (int_is _) (var_is rfl) (part_is (i := 1) v4 rfl) (class_is (part_is (i := 2) v4 rfl))) (tup4_is (int_is _) (var_is rfl) (part_is (i := 3) v4 rfl) (int_is _))) hq)
    | inl i =>
      refine seq_to _ _ (fun K hK => ifS_F (and_isT (word_is true v4 (by simp)) no) hK) ?_
      refine seq_to _ _ (fun K hK => ifS_F (word_is false v4 (by simp)) hK) ?_
      exact ret0_to hq
  have f4 : (Str.ofString (rwW r) == Str.ofString "set") = false := by simpa using c4
  refine seq_to _ _ (fun K hK => ifS_F (and_isF (word_is false v4 f4)) hK) ?_
  by_cases c5 : rwW r = "call"
  · obtain ⟨n, f, ops, rfl⟩ : ∃ n f ops, r = .call n f ops := by cases r <;> simp at c5; exact ⟨_, _, _, rfl⟩
    obtain ⟨t, ps, g, o, rfl, h1, h2, h3, _⟩ := cok n f ops hm
    refine seq_do fun X => ifS_T (word_is true v4 (by simp)) ?_
    refine callO_to (ws := [.d (prgD P), .d (.lst (ends.map optD)), .d (.int (home : Nat)), .d (rwD (.call n f ops))]) (iss1 (var_is rfl) (iss1 (var_is rfl) (iss1 (var_is rfl) (iss1 v4 iss0)))) rfl (fun Q' q => ⟨P, ends, home, n, f, ops, rfl, rfl, rfl, rfl, hl, wf, w, ⟨ps, g, o, h1, h2, h3⟩, q⟩) rfl ?_
    exact hq
  have f5 : (Str.ofString (rwW r) == Str.ofString "call") = false := by simpa using c5
  refine seq_to _ _ (fun K hK => ifS_F (word_is false v4 f5) hK) ?_
  have e0 : rowF P ends home k r = [] := by cases r <;> simp at c1 c2 c3 c4 c5 <;> rfl
  rw [e0] at hq
  exact ret0_to hq
def flowsAt (P : List Rw) (s : ShS) (k : Nat) : List Flow := match s.homes[k]?, P[k]? with
  | some (some h), some r => rowF P s.ends h k r
  | _, _ => []
def flowsP (P : List Rw) (s : ShS) : List Flow := (List.range P.length).flatMap (flowsAt P s)
/-- a program, its shape -/
structure GoodPr (P : List Rw) (s : ShS) : Prop where
  len : P.length ≤ 60
  wf : ∀ r ∈ P, wfR r
  run : runS 0 (P.map rwD) (.start P.length) = some s
  calls : CallOk P s.ends
theorem argF_len (t home : Nat) (ps : List Str) (ops : List Key) : (argF t home ps ops).length ≤ ops.length := by
  unfold argF
  refine Nat.le_trans (List.length_filterMap_le _ _) ?_
  rw [List.length_zip]; omega
theorem givF_len (home : Nat) (n : Str) (t : Nat) (o : Key) : (givF home n t o).length ≤ 1 := by cases o <;> simp [givF]
theorem rowF_len {P : List Rw} {ends : List (Option Nat)} {home k : Nat} {r : Rw} (w : wfR r) : (rowF P ends home k r).length ≤ 5 := by
  cases r with
  | call n f ops =>
    have h1 := argF_len (defI P f) home (parsAt P (defI P f)) ops
    have h2 := givF_len home n (defI P f) (giveOf P ends (defI P f))
    have h3 := w.2.2.1
    simp only [rowF, callF, List.length_append]
    omega
  | put n o => cases o <;> simp [rowF]
  | set o k v => cases v <;> simp [rowF]
  | _ => simp [rowF]
theorem flowsAt_len {P : List Rw} {s : ShS} (wf : ∀ r ∈ P, wfR r) (k : Nat) : (flowsAt P s k).length ≤ 5 := by
  unfold flowsAt
  split
  · rename_i e
    exact rowF_len (wf _ (List.mem_of_getElem? e))
  · simp
theorem flat_len {A1 : Type} (f : Nat → List A1) (b : Nat) (h : ∀ k, (f k).length ≤ b) : ∀ n, ((List.range n).flatMap f).length ≤ b * n
  | 0 => by simp
  | n + 1 => by
    have h1 := flat_len f b h n
    have h2 := h n
    rw [List.range_succ, List.flatMap_append, List.length_append, List.flatMap_singleton, Nat.mul_succ]
    omega
theorem run_ok {n : Nat} : ∀ {rows : List D} {k : Nat} {s s' : ShS}, ShOk n k s → runS k rows s = some s' → ShOk n (k + rows.length) s'
  | [], k, s, s', h, e => by simp only [runS] at e; cases e; exact h
  | r :: rows, k, s, s', h, e => by
    simp only [runS] at e
    split at e
    · rename_i w ew
      split at e
      · rename_i s2 es
        unfold stepS at es
        cases q : elseS k w (defS k w (topS k s)) with
        | none => rw [q] at es; cases es
        | some sC =>
          rw [q] at es
          simp only [Option.bind_some] at es
          cases q2 : footS k w sC with
          | none => rw [q2] at es; cases es
          | some sD =>
            rw [q2] at es
            simp only [Option.map_some, Option.some.injEq] at es
            subst es
            have h1 := ((h.top.deff (w := w)).els q).foot q2
            have := run_ok (h1.push (w := w)) e
            simpa [Nat.add_comm, Nat.add_left_comm, Nat.add_assoc] using this
      · cases e
    · cases e
theorem GoodPr.sh {P : List Rw} {s : ShS} (g : GoodPr P s) : ShOk P.length P.length s := by
  have := run_ok (n := P.length) (s := .start P.length) ⟨by simp [ShS.start], by simp [ShS.start], by simp [ShS.start], by simp [ShS.start], by simp [ShS.start], by simp [ShS.start]⟩ g.run
  simpa using this
@[simp] def p_all_flows : D → (W → Sto → Prop) → Prop := fun a Q => ∃ (P : List Rw) (s : ShS), a = prgD P ∧ GoodPr P s ∧ Q (.loc 5) (shC [] s ++ [.lst ((flowsP P s).map flD)])
def w_all_flows : WS := (wSeq (wAsg (wCallS sp_shape [] (wCons (wVar 0) wNil)) (wgTup 4 (wgCons (wgName 1) (wgCons (wgName 2) (wgCons (wgName 3) (wgCons (wgName 4) wgNil))))))
    (wSeq (wAsg (wLst true wNil) (wgName 5))
    (wSeq (wFor (wRng1 (wCons (wCall fLen (wCons (wVar 0) wNil)) wNil)) (wgName 6) (wIfS (wTest (wOp (fIs true) (wOp fIx (wVar 4) (wVar 6)) (wC .non))) (wDrop (wBM fExt (wVar 5) (wCons (wCallP false sp_row_flows [] (wCons (wVar 0) (wCons (wVar 2) (wCons (wOp fIx (wVar 4) (wVar 6)) (wCons (wVar 6) wNil))))) wNil))) wNext))
    (wRet (wVar 5)))))
@[simp] def sp_all_flows : PSp := sp1 p_all_flows
theorem rng1_is {a : WE} {g : WG} {b : WS} {V : EV} {rh : Ev} {mu : Sto} {n : Nat} (hn : n ≤ 1000000) (h : Is a rh mu (.d (.int (n : Nat)))) (h2 : ∀ chk : Sto → Prop, (∀ mu, chk mu) → forL chk g b V (rngW 0 n) rh mu) : wFor (wRng1 (wCons a wNil)) g b V rh mu := h _ (by
  simp; exact ⟨by omega, h2 _ fun _ => trivial⟩)
theorem len_is {a : WE} {rh : Ev} {mu : Sto} {ds : List D} (h : Is a rh mu (.d (.lst ds))) : Is (wCall fLen (wCons a wNil)) rh mu (.d (.int (ds.length : Nat))) := fun K hK => h _ (by simpa using hK)
theorem v_all_flows : ∀ a Q, p_all_flows a Q → w_all_flows (evr Q) (startE ["program", "heads", "ends", "elses", "homes", "flows", "row"] [.d a]) [] := by
  rintro _ Q ⟨P, s, rfl, g, hq⟩
  have sl := g.sh
  have h60 := g.len
  unfold w_all_flows
  refine seq_to [some (.d (prgD P)), some (.loc 0), some (.loc 1), some (.loc 2), some (.loc 3), none, none] (shC [] s) (fun K hK => ?_) ?_
  · refine callS_to (ws := [.d (prgD P)]) (iss1 (var_is rfl) iss0) ⟨P.map rwD, s, rfl, by simp; omega, by simpa using g.run, ?_⟩
    simp
    exact hK
  refine seq_to [some (.d (prgD P)), some (.loc 0), some (.loc 1), some (.loc 2), some (.loc 3), some (.loc 5), none] (shC [] s ++ [.lst []]) (fun K hK => by simpa [sizeLine_eq, shC] using hK) ?_
  refine seq_R (fun rh mu => ∃ x, rh = [some (.d (prgD P)), some (.loc 0), some (.loc 1), some (.loc 2), some (.loc 3), some (.loc 5), x] ∧ mu = shC [] s ++ [.lst ((flowsP P s).map flD)]) (fun K hK => ?_) ?_
  · refine rng1_is (by simp; omega) (len_is (var_is rfl)) fun chk hc => ?_
    rw [List.length_map]
    refine forL_rng (fun k rh mu => ∃ x, rh = [some (.d (prgD P)), some (.loc 0), some (.loc 1), some (.loc 2), some (.loc 3), some (.loc 5), x] ∧ mu = shC [] s ++ [.lst (((List.range k).flatMap (flowsAt P s)).map flD)]) (fun _ _ mu _ => hc mu) ?_ ?_ ⟨none, rfl, rfl⟩
    · exact fun rh mu h => hK _ _ h
    · rintro k hk _ _ ⟨x, rfl, rfl⟩ N hN
      obtain ⟨r, hr⟩ : ∃ r, P[k]? = some r := ⟨_, List.getElem?_eq_getElem hk⟩
      obtain ⟨h, hh⟩ : ∃ h, s.homes[k]? = some h := ⟨_, List.getElem?_eq_getElem (by rw [sl.l4]; exact hk)⟩
      have fl := flat_len (flowsAt P s) 5 (flowsAt_len g.wf) k
      have nx : ((List.range (k + 1)).flatMap (flowsAt P s)).map flD = ((List.range k).flatMap (flowsAt P s)).map flD ++ (flowsAt P s k).map flD := by
        rw [List.range_succ, List.flatMap_append, List.flatMap_singleton, List.map_append]
      have ha : atI (s.homes.map optD) (k : Int) = some (optD h) := atI_map2 _ hh
      generalize (List.range k).flatMap (flowsAt P s) = F at *
      have hx : Is (wOp fIx (wVar 4) (wVar 6)) [some (.d (prgD P)), some (.loc 0), some (.loc 1), some (.loc 2), some (.loc 3), some (.loc 5), some (.d (.int (k : Nat)))] (shC [] s ++ [.lst (F.map flD)]) (.d (optD h)) := op_to _ _ _ (var_is rfl) (var_is rfl) fun K hK => by
        simp [shC]
        exact ⟨_, ⟨_, ha, rfl⟩, hK⟩
      cases h with
      | none =>
        refine ifS_F (fun K hK => hx _ (by simpa [optD] using hK)) ?_
        refine hN _ _ ⟨_, rfl, ?_⟩
        rw [nx]
        simp [flowsAt, hh]
      | some h =>
        refine ifS_T (fun K hK => hx _ (by simpa [optD] using hK)) ?_
        have fa : flowsAt P s k = rowF P s.ends h k r := by simp [flowsAt, hh, hr]
        have fl2 := rowF_len (P := P) (ends := s.ends) (home := h) (k := k) (g.wf _ (List.mem_of_getElem? hr))
        have ca : Is (wCallP false sp_row_flows [] (wCons (wVar 0) (wCons (wVar 2) (wCons (wOp fIx (wVar 4) (wVar 6)) (wCons (wVar 6) wNil))))) [some (.d (prgD P)), some (.loc 0), some (.loc 1), some (.loc 2), some (.loc 3), some (.loc 5), some (.d (.int (k : Nat)))] (shC [] s ++ [.lst (F.map flD)]) (.d (.lst ((rowF P s.ends h k r).map flD))) :=
          callF_is (ws := [.d (prgD P), .loc 1, .d (.int (h : Nat)), .d (.int (k : Nat))]) (ds := [prgD P, .lst (s.ends.map optD), .int (h : Nat), .int (k : Nat)]) (iss1 (var_is rfl) (iss1 (var_is rfl) (iss1 hx (iss1 (var_is rfl) iss0)))) (by simp [shC]) (w0 := .loc 0) (mu0 := [.lst ((rowF P s.ends h k r).map flD)]) (fun Q' q => ⟨P, s.ends, h, k, r, rfl, rfl, rfl, rfl, hr, by omega, g.wf, g.calls, q⟩) (by simp [flDs_flat])
        refine ext_to (l := 5) (xs := F.map flD) (var_is rfl) ca (by simp [shC]) (by rw [sizeLine_eq]; simp; omega) ?_
        refine hN _ _ ⟨_, rfl, ?_⟩
        rw [nx, fa]
        simp [shC]
  · rintro _ _ ⟨x, rfl, rfl⟩
    exact ret_to _ (var_is rfl) hq
/-! ### the makers -/
theorem rowF_ok {P : List Rw} {ends : List (Option Nat)} {home k : Nat} {r : Rw} (hk : k < 64) : ∀ f ∈ rowF P ends home k r, notRow f.1 ∧ plOk f.2 := by
  have hg : ∀ (n : Str) (t : Nat) (o : Key), ∀ f ∈ givF home n t o, notRow f.1 ∧ plOk f.2 := fun n t o f hf => by
    cases o <;> simp [givF] at hf
    subst hf; exact ⟨trivial, trivial⟩
  have ha : ∀ (t : Nat) (ps : List Str) (ops : List Key), ∀ f ∈ argF t home ps ops, notRow f.1 ∧ plOk f.2 := fun t ps ops f hf => by
    unfold argF at hf
    obtain ⟨⟨p, o⟩, _, e⟩ := List.mem_filterMap.mp hf
    cases o <;> simp at e
    subst e; exact ⟨trivial, trivial⟩
  intro f hf
  cases r with
  | call n g ops =>
    rcases List.mem_append.mp hf with hf | hf
    · exact ha _ _ _ f hf
    · exact hg _ _ _ f hf
  | put n o => cases o <;> simp [rowF] at hf; subst hf; exact ⟨trivial, trivial⟩
  | set o k v => cases v <;> simp [rowF] at hf; subst hf; exact ⟨trivial, trivial⟩
  | new n => simp [rowF] at hf; subst hf; exact ⟨trivial, hk⟩
  | get n o k => simp [rowF] at hf; subst hf; exact ⟨trivial, trivial⟩
  | _ => simp [rowF] at hf
theorem flowsP_ok {P : List Rw} {s : ShS} (hl : P.length ≤ 60) : ∀ f ∈ flowsP P s, notRow f.1 ∧ plOk f.2 := fun f hf => by
  unfold flowsP at hf
  obtain ⟨k, hk, hf⟩ := List.mem_flatMap.mp hf
  rw [List.mem_range] at hk
  unfold flowsAt at hf
  split at hf
  · exact rowF_ok (by omega) f hf
  · cases hf
theorem flowsP_len {P : List Rw} {s : ShS} (g : GoodPr P s) : (flowsP P s).length ≤ 300 := by
  have := flat_len (flowsAt P s) 5 (flowsAt_len g.wf) P.length
  have := g.len
  unfold flowsP
  omega
@[simp] def p_makers : D → (W → Sto → Prop) → Prop := fun a Q => ∃ (P : List Rw) (s : ShS), a = prgD P ∧ GoodPr P s ∧ ∀ N C, Least (flowsP P s) N C → Q (.tup [.loc 3, .loc 4]) (drM N C ++ [.lst (tabL N), .lst (tabL C)])
def tab_told : MTab := [("Draft", sp_Draft_told)]
def w_makers : WS := (wSeq (wAsg (wMake "Draft" sp_Draft_init wNil) (wgName 1))
    (wSeq (wAsg (wCallP false sp_all_flows [] (wCons (wVar 0) wNil)) (wgName 2))
    (wSeq (wAsg (wC (.bl true)) (wgName 3))
    (wSeq (wWhile (wTru (wVar 3)) (wSeq (wAsg (wC (.bl false)) (wgName 3))
    (wFor (wSeqI (wVar 2)) (wgTup 2 (wgCons (wgName 4) (wgCons (wgName 5) wgNil))) (wIfS (wTru (wMeth tab_grown "grown" (wVar 1) (wCons (wVar 4) (wCons (wMeth tab_had_by "had_by" (wVar 1) (wCons (wVar 5) wNil)) wNil)))) (wAsg (wC (.bl true)) (wgName 3)) wNext))))
    (wRet (wMeth tab_told "told" (wVar 1) wNil))))))
@[simp] def sp_makers : PSp := sp1 p_makers
theorem tru_to {b : Bool} {rh : Ev} {mu : Sto} {i : Nat} {K : Bool → Sto → Prop} (e : rh[i]? = some (some (.d (.bl b)))) (h : K b mu) : wTru (wVar i) rh mu K := by simp [e]; exact h
theorem v_makers : ∀ a Q, p_makers a Q → w_makers (evr Q) (startE ["program", "draft", "flows", "fresh", "goal", "origin"] [.d a]) [] := by
  rintro _ Q ⟨P, s, rfl, g, hq⟩
  have fo := flowsP_ok (s := s) g.len
  have fl := flowsP_len g
  unfold w_makers
  refine seq_to [some (.d (prgD P)), some (.loc 0), none, none, none, none] (drM [] []) (fun K hK => ?_) ?_
  · simp
    exact hK
  refine seq_to [some (.d (prgD P)), some (.loc 0), some (.d (.lst ((flowsP P s).map flD))), none, none, none] (drM [] []) (fun K hK => ?_) ?_
  · refine asg_to _ (callF_is (ws := [.d (prgD P)]) (iss1 (var_is rfl) iss0) rfl (w0 := .loc 5) (mu0 := shC [] s ++ [.lst ((flowsP P s).map flD)]) (fun Q' q => ⟨P, s, rfl, g, q⟩) (by simp [shC])) hK
  refine seq_to _ _ (fun K hK => asg_to _ (int_is _) hK) ?_
  refine seq_R (fun rh mu => ∃ N C x y, Least (flowsP P s) N C ∧ N.length + C.length ≤ 1000000 ∧ rh = [some (.d (prgD P)), some (.loc 0), some (.d (.lst ((flowsP P s).map flD))), some (.d (.bl false)), x, y] ∧ mu = drM N C) (fun K hK => ?_) ?_
  · refine ⟨fun m rh mu => ∃ (N C : Tab) (f : Bool) (x y : Option W), m = mis (flowsP P s) N C + (if f = true then 1 else 0) ∧ GInv (flowsP P s) N C ∧ (f = false → ClosedF (flowsP P s) (XT N C)) ∧ mu = drM N C ∧
      rh = [some (.d (prgD P)), some (.loc 0), some (.d (.lst ((flowsP P s).map flD))), some (.d (.bl f)), x, y], ⟨_, [], [], true, none, none, rfl, .nil _, (fun h => nomatch h), rfl, rfl⟩, ?_⟩
    rintro m _ _ ⟨N, C, f, x, y, rfl, gi, hc, rfl, rfl⟩
    have l1 := gi.lenN
    have l2 := gi.lenC
    cases f with
    | false =>
      refine (hK _ _ ⟨N, C, x, y, ⟨gi.n, gi.c, fun k h w b => ⟨gi.hb k h w b, fun q => q _ (hc rfl)⟩⟩, by omega, rfl, rfl⟩ : _)
    | true =>
      refine tru_to (b := true) rfl ?_
      rw [if_pos rfl]
      refine seq_to _ _ (fun K hK => asg_to _ (int_is _) hK) ?_
      refine for_lstM (var_is (i := 2) rfl) ?_
      refine forL_S (fun f => .d (flD f)) (fun xs rh mu => ∃ (N' C' : Tab) (f : Bool) (done : List Flow) (x y : Option W), flowsP P s = done ++ xs ∧ RInv (flowsP P s) (mis (flowsP P s) N C) done N' C' f ∧ mu = drM N' C' ∧
        rh = [some (.d (prgD P)), some (.loc 0), some (.d (.lst ((flowsP P s).map flD))), some (.d (.bl f)), x, y]) (fun _ _ _ _ => trivial) ?_ ?_ ⟨N, C, false, [], x, y, rfl, .start gi, rfl, rfl⟩
      · rintro _ _ ⟨N', C', f, done, x, y, e, r, rfl, rfl⟩
        rw [List.append_nil] at e
        subst e
        refine ⟨mis (flowsP P s) N' C' + (if f = true then 1 else 0), ?_, N', C', f, x, y, rfl, r.inv, r.no, rfl, rfl⟩
        have h1 := r.le
        have h2 := r.fr
        cases f with
        | false => simp; omega
        | true => have := h2 rfl; simp; omega
      · rintro ⟨gl, og⟩ xs _ _ ⟨N', C', f, done, x, y, e, r, rfl, rfl⟩ X hX
        refine tup2_to ?_
        have hm : (gl, og) ∈ flowsP P s := by rw [e]; simp
        obtain ⟨nr, po⟩ := fo _ hm
        have m1 := r.inv.lenN
        have m2 := r.inv.lenC
        have st := r.step hm po
        refine grown_is (rh := [some (.d (prgD P)), some (.loc 0), some (.d (.lst ((flowsP P s).map flD))), some (.d (.bl f)), some (.d (plD gl)), some (.d (plD og))]) (N := N') (C := C') (i := 1) (j := 4) r.inv.n nr (by omega) rfl rfl (had_is (i := 1) (j := 5) r.inv.n po rfl rfl) ?_
        cases c : (grownT gl (hadT N' C' og) N' C').2.2 with
        | false =>
          rw [c, Bool.or_false] at st
          exact hX _ _ ⟨_, _, f, done ++ [(gl, og)], _, _, by rw [e]; simp, st, rfl, rfl⟩
        | true =>
          rw [c, Bool.or_true] at st
          exact hX _ _ ⟨_, _, true, done ++ [(gl, og)], _, _, by rw [e]; simp, st, rfl, rfl⟩
  · rintro _ _ ⟨N, C, x, y, lst, hl, rfl, rfl⟩
    simp [drM, tab_told]
    exact ⟨N, C, ⟨rfl, rfl⟩, hl, hq N C lst⟩
end VL
namespace VL
open PySem PySem.Spec PyProof.Rows L2 RZ
/-! ### the pool's programs, typed -/
/-- rows of functions, with skips alone outside -/
inductive RunO : List D → Mode → Prop
  | nil : RunO [] none
  | snoc {rs : List D} {r : D} {w : Str} {m m' : Mode} : RunO rs m → wordR r = some w → StepM rs.length w m m' → (m = none → m' = none → w = Str.ofString "skip") → RunO (rs ++ [r]) m'
theorem RunO.m {rs : List D} {m : Mode} (h : RunO rs m) : RunM rs m := by
  induction h with
  | nil => exact .nil
  | snoc _ a b _ ih => exact .snoc ih a b
section
variable {ws : List Str} {pl : List (Str × List Str)}
theorem part_runO {d : Nat} {pre : List D} (n : RunO pre (some (d, []))) : ∀ {st : List String} {body : List D}, Part ws pl st body → ∃ ps : List (Nat × String), RunO (pre ++ body) (some (d, ps)) ∧ (ps.map (·.2)).reverse = st := by
  intro st body p
  induction p with
  | nil => exact ⟨[], by simpa using n, rfl⟩
  | row _ s ih =>
    obtain ⟨ps, h1, h2⟩ := ih
    obtain ⟨w, hw, hp⟩ := simple_plainW s
    exact ⟨ps, by rw [← List.append_assoc]; exact .snoc h1 hw (.ins hp) (fun h => by cases h), h2⟩
  | opIf _ _ ih =>
    obtain ⟨ps, h1, h2⟩ := ih
    exact ⟨_, by rw [← List.append_assoc]; exact .snoc h1 rfl (.opn (.inl rfl)) (fun h => by cases h), by simp [h2]⟩
  | opWhile _ _ ih =>
    obtain ⟨ps, h1, h2⟩ := ih
    exact ⟨_, by rw [← List.append_assoc]; exact .snoc h1 rfl (.opn (.inr rfl)) (fun h => by cases h), by simp [h2]⟩
  | els _ ih =>
    obtain ⟨ps, h1, h2⟩ := ih
    cases ps with
    | nil => simp at h2
    | cons p ps =>
      obtain ⟨j, z⟩ := p
      simp at h2
      obtain ⟨h2, rfl⟩ := h2
      exact ⟨_, by rw [← List.append_assoc]; exact .snoc h1 rfl .els (fun h => by cases h), by simp [h2]⟩
  | cls _ ih =>
    obtain ⟨ps, h1, h2⟩ := ih
    cases ps with
    | nil => simp at h2
    | cons p ps =>
      obtain ⟨j, z⟩ := p
      simp at h2
      obtain ⟨h2, rfl⟩ := h2
      exact ⟨_, by rw [← List.append_assoc]; exact .snoc h1 rfl .cls (fun h => by cases h), by simp [h2]⟩
theorem fun_runO {p : Str × List Str} {later : List (Str × List Str)} {pre fr : List D} (n : RunO pre none) (f : FunRows ws p later fr) : RunO (pre ++ fr) none := by
  induction f with
  | mk hb ho =>
    have n1 := RunO.snoc (r := .tup [.str (Str.ofString "def"), .str p.1, .tup (p.2.map D.str)]) n rfl .dfn (fun _ h => by cases h)
    obtain ⟨ps, h1, h2⟩ := part_runO n1 hb
    have : ps = [] := by simpa using h2
    subst this
    rw [← List.append_assoc, ← List.append_assoc]
    exact .snoc h1 rfl .giv (fun h => by cases h)
  | sk _ ih => rw [← List.append_assoc]; exact .snoc ih rfl (.out (plain_of (by decide))) (fun _ _ => rfl)
theorem funs_runO {k : Nat} {rs : List D} (f : Funs ws pl k rs) : RunO rs none := by
  induction f with
  | nil => exact .nil
  | next _ _ hf ih => exact fun_runO ih hf
end
/-! defs and calls -/
def defD : D → Option (Str × List D)
  | .tup [.str w, .str n, .tup ps] => if w = Str.ofString "def" then some (n, ps) else none
  | _ => none
def CallT (pl : List (Str × List Str)) (r : D) : Prop := ∀ n f ops, r = .tup [.str (Str.ofString "call"), .str n, .str f, .tup ops] → ∃ p ∈ pl, p.1 = f ∧ p.2.length = ops.length
theorem callT_of {pl : List (Str × List Str)} {z : String} {rest : List D} (h : z ≠ "call") : CallT pl (.tup (.str (Str.ofString z) :: rest)) := fun n f ops e => by
  simp at e
  exact absurd e.1 (by simpa using h)
theorem defD_ne {z : String} {rest : List D} (h : z ≠ "def") : defD (.tup (.str (Str.ofString z) :: rest)) = none := by
  unfold defD
  split
  · rename_i e
    simp at e
    rw [if_neg]
    rw [← e.1]; simpa using h
  · rfl
section
variable {ws : List Str} {pl : List (Str × List Str)}
theorem simple_callT {r : D} (s : Simple ws pl r) : CallT pl r ∧ defD r = none := by
  cases s with
  | @call n p ops hn hp hl ho =>
    refine ⟨fun n' f' ops' e => ?_, rfl⟩
    simp at e
    obtain ⟨_, rfl, rfl⟩ := e
    exact ⟨p, hp, rfl, hl.symm⟩
  | put _ _ => exact ⟨callT_of (by decide), defD_ne (by decide)⟩
  | doo _ _ _ _ => exact ⟨callT_of (by decide), defD_ne (by decide)⟩
  | new _ => exact ⟨callT_of (by decide), defD_ne (by decide)⟩
  | get _ _ _ => exact ⟨callT_of (by decide), defD_ne (by decide)⟩
  | set _ _ _ => exact ⟨callT_of (by decide), defD_ne (by decide)⟩
  | fail _ => exact ⟨callT_of (by decide), defD_ne (by decide)⟩
  | skip => exact ⟨callT_of (by decide), defD_ne (by decide)⟩
theorem part_callT {st : List String} {body : List D} (p : Part ws pl st body) : (∀ r ∈ body, CallT pl r) ∧ body.filterMap defD = [] := by
  have app : ∀ {xs : List D} {r : D}, ((∀ x ∈ xs, CallT pl x) ∧ xs.filterMap defD = []) → CallT pl r → defD r = none → (∀ x ∈ xs ++ [r], CallT pl x) ∧ (xs ++ [r]).filterMap defD = [] := fun h1 h2 h3 => by
    refine ⟨fun x hx => ?_, by rw [List.filterMap_append, h1.2]; simp [h3]⟩
    rcases List.mem_append.mp hx with hx | hx
    · exact h1.1 x hx
    · rw [List.mem_singleton.mp hx]; exact h2
  induction p with
  | nil => simp
  | row _ s ih => exact app ih (simple_callT s).1 (simple_callT s).2
  | opIf _ _ ih => exact app ih (callT_of (by decide)) (defD_ne (by decide))
  | opWhile _ _ ih => exact app ih (callT_of (by decide)) (defD_ne (by decide))
  | els _ ih => exact app ih (callT_of (by decide)) (defD_ne (by decide))
  | cls _ ih => exact app ih (callT_of (by decide)) (defD_ne (by decide))
theorem fun_callT {p : Str × List Str} {fr : List D} (f : FunRows ws p pl fr) : (∀ r ∈ fr, CallT pl r) ∧ fr.filterMap defD = [(p.1, p.2.map D.str)] := by
  induction f with
  | mk hb ho =>
    obtain ⟨h1, h2⟩ := part_callT hb
    refine ⟨fun x hx => ?_, ?_⟩
    · rcases List.mem_append.mp hx with hx | hx
      · rcases List.mem_append.mp hx with hx | hx
        · rw [List.mem_singleton.mp hx]; exact callT_of (by decide)
        · exact h1 x hx
      · rw [List.mem_singleton.mp hx]; exact callT_of (by decide)
    · rw [List.filterMap_append, List.filterMap_append, h2]
      simp [defD]
  | sk _ ih =>
    refine ⟨fun x hx => ?_, by rw [List.filterMap_append, ih.2]; simp [defD]⟩
    rcases List.mem_append.mp hx with hx | hx
    · exact ih.1 x hx
    · rw [List.mem_singleton.mp hx]; exact callT_of (by decide)
theorem funs_callT {k : Nat} {rs : List D} (f : Funs ws pl k rs) : (∀ r ∈ rs, CallT pl r) ∧ rs.filterMap defD = (pl.take k).map fun p => (p.1, p.2.map D.str) := by
  induction f with
  | nil => simp
  | @next k rs fr p _ hp hfr ih =>
    obtain ⟨h1, h2⟩ := fun_callT hfr
    refine ⟨fun x hx => ?_, ?_⟩
    · rcases List.mem_append.mp hx with hx | hx
      · exact ih.1 x hx
      · exact fun n g ops e => by
          obtain ⟨q, hq, h⟩ := h1 x hx n g ops e
          exact ⟨q, List.mem_of_mem_drop hq, h⟩
    · rw [List.filterMap_append, ih.2, h2, List.take_add_one, hp]
      simp
end
/-! typed -/
theorem rights_typed : ∀ {rs : List D}, (∀ r ∈ rs, RightR r) → ∃ P : List Rw, rs = P.map rwD ∧ ∀ r ∈ P, wfR r
  | [], _ => ⟨[], rfl, by simp⟩
  | d :: rs, h => by
    obtain ⟨w, ps, rfl, _, ok⟩ := h d (by simp)
    obtain ⟨r, e, hr⟩ := typed_of ok
    obtain ⟨P, rfl, hP⟩ := rights_typed (rs := rs) fun x hx => h x (by simp [hx])
    exact ⟨r :: P, by rw [e]; rfl, fun x hx => by rcases List.mem_cons.mp hx with rfl | hx; exact hr; exact hP x hx⟩
/-- a program of the pool's kind -/
structure PrgT (P : List Rw) (pl : List (Str × List Str)) : Prop where
  len : P.length ≤ 60
  wf : ∀ r ∈ P, wfR r
  run : RunO (P.map rwD) none
  defs : (P.map rwD).filterMap defD = pl.map fun p => (p.1, p.2.map D.str)
  nd : (pl.map (·.1)).Nodup
  call : ∀ n f ops, Rw.call n f ops ∈ P → ∃ p ∈ pl, p.1 = f ∧ p.2.length = ops.length
theorem callT_typed {pl : List (Str × List Str)} {n f : Str} {ops : List Key} (h : CallT pl (rwD (.call n f ops))) : ∃ p ∈ pl, p.1 = f ∧ p.2.length = ops.length := by
  obtain ⟨p, hp, h1, h2⟩ := h n f (ops.map kD) rfl
  exact ⟨p, hp, h1, by simpa using h2⟩
theorem funs_typed {ws : List Str} {pl : List (Str × List Str)} {rs : List D} (nd : ws.Nodup) (g : ∀ w ∈ ws, goodW w) (hp : PlanIn ws pl) (f : Funs ws pl pl.length rs) (hl : rs.length ≤ 60) : ∃ P, rs = P.map rwD ∧ PrgT P pl := by
  have pg := hp.good nd g
  obtain ⟨P, rfl, wf⟩ := rights_typed (funs_right g pg f)
  obtain ⟨h1, h2⟩ := funs_callT f
  refine ⟨P, rfl, by simpa using hl, wf, funs_runO f, by rw [h2, List.take_length], pg.nd, fun n f ops hm => callT_typed (h1 _ (List.mem_map.mpr ⟨_, hm, rfl⟩))⟩
end VL
namespace VL
open PySem PySem.Spec PyProof.Rows L2 RZ
/-! ### what shape tells of the pool's programs -/
theorem topS_e (k : Nat) (s : ShS) : (topS k s).ends = s.ends ∧ (topS k s).stack = s.stack := by unfold topS; split <;> exact ⟨rfl, rfl⟩
theorem defS_e (k : Nat) (w : Str) (s : ShS) : (defS k w s).ends = s.ends ∧ (defS k w s).stack = s.stack := by unfold defS; split <;> exact ⟨rfl, rfl⟩
theorem elseS_e {k : Nat} {w : Str} {s s' : ShS} (h : elseS k w s = some s') : s'.ends = s.ends ∧ s'.stack = s.stack := by
  unfold elseS at h
  split at h
  · split at h
    · cases h; exact ⟨rfl, rfl⟩
    · cases h
  · cases h; exact ⟨rfl, rfl⟩
theorem pushS_e (k : Nat) (w : Str) (s : ShS) : (pushS k w s).ends = s.ends := by unfold pushS; split <;> rfl
theorem step_ends {k : Nat} {w : Str} {s s' : ShS} (e : stepS k w s = some s') :
    (¬ (w = Str.ofString "give" ∨ w = Str.ofString "end") → s'.ends = s.ends) ∧ ((w = Str.ofString "give" ∨ w = Str.ofString "end") → ∀ j, s.stack.getLast? = some j → s'.ends = s.ends.set j (some k)) := by
  unfold stepS at e
  have t1 := topS_e k s
  have t2 := defS_e k w (topS k s)
  cases q : elseS k w (defS k w (topS k s)) with
  | none => rw [q] at e; cases e
  | some a =>
    rw [q] at e
    have t3 := elseS_e q
    simp only [Option.bind_some] at e
    cases q2 : footS k w a with
    | none => rw [q2] at e; cases e
    | some b =>
      rw [q2] at e
      simp only [Option.map_some, Option.some.injEq] at e
      subst e
      rw [pushS_e]
      unfold footS at q2
      have ee : a.ends = s.ends := by rw [t3.1, t2.1, t1.1]
      have es : a.stack = s.stack := by rw [t3.2, t2.2, t1.2]
      constructor
      · intro c
        rw [if_neg c] at q2
        cases q2
        exact ee
      · intro c j hj
        rw [if_pos c, es, hj] at q2
        simp only [Option.some.injEq] at q2
        subst q2
        show a.ends.set j (some k) = _
        rw [ee]
def giveW (rows : List D) (j : Nat) : Prop := wA rows j = some (Str.ofString "give")
/-- the give of a def -/
def GiveOf (rows : List D) (s : ShS) (t : Nat) : Prop := ∃ g, s.ends[t]? = some (some g) ∧ t < g ∧ g < rows.length ∧ giveW rows g ∧ ∀ j, t ≤ j → j < g → ¬ giveW rows j
structure InvD (rows : List D) (k : Nat) (m : Mode) (s : ShS) : Prop where
  cl : ∀ t < k, wA rows t = some (Str.ofString "def") → (∀ d st, m = some (d, st) → d ≠ t) → GiveOf rows s t
  op : ∀ d st, m = some (d, st) → d < k ∧ ∀ j, d ≤ j → j < k → ¬ giveW rows j
  sk : ∀ j < k, homeV rows j = none → wA rows j = some (Str.ofString "skip")
theorem GiveOf.to {rows : List D} {s s' : ShS} {t : Nat} (h : GiveOf rows s t) (e : s'.ends[t]? = s.ends[t]?) : GiveOf rows s' t := by
  unfold GiveOf; rw [e]; exact h
theorem invD_step {rows : List D} {k : Nat} {w : Str} {m m' : Mode} {s s' : ShS} (hk : k < rows.length) (hw : wA rows k = some w) (t : StepM k w m m') (so : m = none → m' = none → w = Str.ofString "skip") (I : Inv31 rows k m s) (J : InvD rows k m s) (e : stepS k w s = some s') : InvD rows (k + 1) m' s' := by
  obtain ⟨e1, e2⟩ := step_ends e
  have stk := I.stk
  have hs := I.hs
  have sk : homeV rows k = none → wA rows k = some (Str.ofString "skip") := fun h => by
    unfold homeV at h
    split at h
    · cases h
    · rename_i nd
      rw [hs] at h
      cases m with
      | some p => cases h
      | none =>
        cases t with
        | dfn => exact absurd hw nd
        | out _ => rw [hw, so rfl rfl]
  have ends_same : ¬ (w = Str.ofString "give" ∨ w = Str.ofString "end") → ∀ t : Nat, s'.ends[t]? = s.ends[t]? := fun c t => by rw [e1 c]
  cases t with
  | dfn =>
    refine ⟨fun t ht hd nt => ?_, fun d st h => ?_, next_of J.sk sk⟩
    · have : t ≠ k := fun z => nt k [] rfl z.symm
      exact (J.cl t (by omega) hd (fun d st h => by cases h)).to (ends_same (by simp) t)
    · cases h
      refine ⟨by omega, fun j h1 h2 => ?_⟩
      have : j = k := by omega
      subst this
      unfold giveW
      rw [hw]; simp
  | out hp =>
    obtain ⟨p1, p2, p3, p4, p5, p6⟩ := plain_ne hp
    refine ⟨fun t ht hd nt => ?_, (fun d st h => by cases h), next_of J.sk sk⟩
    have : t ≠ k := fun z => by subst z; rw [hw] at hd; exact p1 (by simpa using hd)
    exact (J.cl t (by omega) hd (fun d st h => by cases h)).to (ends_same (by simp [p4, p5]) t)
  | ins hp =>
    obtain ⟨p1, p2, p3, p4, p5, p6⟩ := plain_ne hp
    refine ⟨fun t ht hd nt => ?_, fun d st h => ?_, next_of J.sk sk⟩
    · have : t ≠ k := fun z => by subst z; rw [hw] at hd; exact p1 (by simpa using hd)
      exact (J.cl t (by omega) hd nt).to (ends_same (by simp [p4, p5]) t)
    · obtain ⟨h1, h2⟩ := J.op d st h
      refine ⟨by omega, fun j g1 g2 => ?_⟩
      rcases Nat.lt_succ_iff_lt_or_eq.mp g2 with g2 | rfl
      · exact h2 j g1 g2
      · unfold giveW; rw [hw]; simpa using p4
  | @opn d0 st0 z hz =>
    have w1 : Str.ofString z ≠ Str.ofString "def" := by rcases hz with rfl | rfl <;> simp
    have w2 : Str.ofString z ≠ Str.ofString "give" := by rcases hz with rfl | rfl <;> simp
    have w3 : Str.ofString z ≠ Str.ofString "end" := by rcases hz with rfl | rfl <;> simp
    refine ⟨fun t ht hd nt => ?_, fun d st h => ?_, next_of J.sk sk⟩
    · have : t ≠ k := fun q => by subst q; rw [hw] at hd; exact w1 (by simpa using hd)
      exact (J.cl t (by omega) hd (fun d st h => by cases h; exact nt _ _ rfl)).to (ends_same (by simpa using ⟨by simpa using w2, by simpa using w3⟩) t)
    · cases h
      obtain ⟨h1, h2⟩ := J.op _ _ rfl
      refine ⟨by omega, fun j g1 g2 => ?_⟩
      rcases Nat.lt_succ_iff_lt_or_eq.mp g2 with g2 | rfl
      · exact h2 j g1 g2
      · unfold giveW; rw [hw]; simpa using w2
  | els =>
    refine ⟨fun t ht hd nt => ?_, fun d st h => ?_, next_of J.sk sk⟩
    · have : t ≠ k := fun q => by subst q; rw [hw] at hd; simp at hd
      exact (J.cl t (by omega) hd (fun d st h => by cases h; exact nt _ _ rfl)).to (ends_same (by simp) t)
    · cases h
      obtain ⟨h1, h2⟩ := J.op _ _ rfl
      refine ⟨by omega, fun j g1 g2 => ?_⟩
      rcases Nat.lt_succ_iff_lt_or_eq.mp g2 with g2 | rfl
      · exact h2 j g1 g2
      · unfold giveW; rw [hw]; simp
  | @cls d0 j0 z st0 =>
    have lv := I.lv _ _ rfl
    have jw : wA rows j0 = some (Str.ofString "while") ∨ wA rows j0 = some (Str.ofString "if") := by
      rcases lv.1.2.1 with h | h
      · exact .inl h.2
      · exact .inr h.2
    have en : s'.ends = s.ends.set j0 (some k) := e2 (.inr rfl) j0 (by rw [stk]; simp only [List.map_cons, List.reverse_cons]; rw [← List.cons_append, List.getLast?_concat])
    refine ⟨fun t ht hd nt => ?_, fun d st h => ?_, next_of J.sk sk⟩
    · have : t ≠ k := fun q => by subst q; rw [hw] at hd; simp at hd
      have tj : j0 ≠ t := fun q => by subst q; rcases jw with jw | jw <;> (rw [jw] at hd; simp at hd)
      exact (J.cl t (by omega) hd (fun d st h => by cases h; exact nt _ _ rfl)).to (by rw [en, List.getElem?_set_ne tj])
    · cases h
      obtain ⟨h1, h2⟩ := J.op _ _ rfl
      refine ⟨by omega, fun j g1 g2 => ?_⟩
      rcases Nat.lt_succ_iff_lt_or_eq.mp g2 with g2 | rfl
      · exact h2 j g1 g2
      · unfold giveW; rw [hw]; simp
  | @giv d0 =>
    have en : s'.ends = s.ends.set d0 (some k) := e2 (.inl rfl) d0 (by rw [stk]; simp)
    obtain ⟨h1, h2⟩ := J.op _ _ rfl
    refine ⟨fun t ht hd nt => ?_, (fun d st h => by cases h), next_of J.sk sk⟩
    have : t ≠ k := fun q => by subst q; rw [hw] at hd; simp at hd
    by_cases tj : d0 = t
    · subst tj
      refine ⟨k, ?_, by omega, hk, hw, fun j g1 g2 => h2 j g1 g2⟩
      rw [en, List.getElem?_set_self (by rw [I.ok.l2]; omega)]
    · exact (J.cl t (by omega) hd (fun d st h => by cases h; exact tj)).to (by rw [en, List.getElem?_set_ne tj])
theorem run_invD {rs : List D} {m : Mode} (n : RunO rs m) : ∀ {rows rest : List D}, rows = rs ++ rest → ∃ s, runS 0 rs (.start rows.length) = some s ∧ Inv31 rows rs.length m s ∧ InvD rows rs.length m s := by
  induction n with
  | nil =>
    intro rows rest e
    exact ⟨_, rfl, inv_start rows, by simp, by simp, by simp⟩
  | @snoc rs r w m m' h hw t so ih =>
    intro rows rest e
    obtain ⟨s, h1, h2, h3⟩ := ih (rows := rows) (rest := r :: rest) (by simpa using e)
    have hk : rs.length < rows.length := by rw [e]; simp
    have wk : wA rows rs.length = some w := by unfold wA; rw [e]; simp [hw]
    obtain ⟨s', e1, e2⟩ := step_to hk wk t h2
    refine ⟨s', ?_, by simpa using e2, by simpa using invD_step hk wk t so h2 h3 e1⟩
    rw [runS_app _ _ _ _ _ _ h1 hw]
    simpa using e1
/-- a program of the pool, and its shape -/
structure Prg (P : List Rw) (pl : List (Str × List Str)) (s : ShS) : Prop where
  t : PrgT P pl
  g : GoodPr P s
  i : Inv31 (P.map rwD) P.length none s
  d : InvD (P.map rwD) P.length none s
theorem wA_rw {P : List Rw} {k : Nat} {r : Rw} (h : P[k]? = some r) : wA (P.map rwD) k = some (Str.ofString (rwW r)) := by
  unfold wA; simp [h, wordR_rw]
theorem wA_inv {P : List Rw} {k : Nat} {w : Str} (h : wA (P.map rwD) k = some w) : ∃ r, P[k]? = some r ∧ w = Str.ofString (rwW r) := by
  unfold wA at h
  cases e : P[k]? with
  | none => simp [e] at h
  | some r => simp [e, wordR_rw] at h; exact ⟨r, rfl, h.symm⟩
theorem defs_def {P : List Rw} {n : Str} {ps : List Str} (h : Rw.deff n ps ∈ P) : (n, ps.map D.str) ∈ (P.map rwD).filterMap defD := List.mem_filterMap.mpr ⟨_, List.mem_map.mpr ⟨_, h, rfl⟩, by simp [rwD, rwL, defD]⟩
theorem defD_rw {r : Rw} {n : Str} {ds : List D} (h : defD (rwD r) = some (n, ds)) : ∃ ps, r = .deff n ps ∧ ds = ps.map D.str := by
  cases r with
  | deff m ps => simp [rwD, rwL, defD] at h; exact ⟨ps, by rw [h.1], h.2.symm⟩
  | _ => rw [rwD, rwL, defD_ne (by simp)] at h; cases h
theorem nodup_fst {pl : List (Str × List Str)} (nd : (pl.map (·.1)).Nodup) {p q : Str × List Str} (hp : p ∈ pl) (hq : q ∈ pl) (e : p.1 = q.1) : p = q := by
  induction pl with
  | nil => cases hp
  | cons x xs ih =>
    rw [List.map_cons, List.nodup_cons] at nd
    rcases List.mem_cons.mp hp with rfl | hp2
    · rcases List.mem_cons.mp hq with rfl | hq2
      · rfl
      · exact absurd (List.mem_map.mpr ⟨q, hq2, e.symm⟩) nd.1
    · rcases List.mem_cons.mp hq with rfl | hq2
      · exact absurd (List.mem_map.mpr ⟨p, hp2, e⟩ : q.1 ∈ xs.map (·.1)) nd.1
      · exact ih nd.2 hp2 hq2
theorem strs_inj2 {a b : List Str} (h : a.map D.str = b.map D.str) : a = b := List.map_inj_right (f := D.str) (fun _ _ e => by injection e) |>.mp h
theorem PrgT.prg {P : List Rw} {pl : List (Str × List Str)} (t : PrgT P pl) : ∃ s, Prg P pl s := by
  obtain ⟨s, h1, h2, h3⟩ := run_invD t.run (rows := P.map rwD) (rest := []) (by simp)
  simp only [List.length_map] at h1 h2 h3
  refine ⟨s, t, ⟨t.len, t.wf, h1, ?_⟩, h2, h3⟩
  intro n f ops hm
  obtain ⟨p, hp, rfl, hl⟩ := t.call n f ops hm
  have hm2 : (p.1, p.2.map D.str) ∈ (P.map rwD).filterMap defD := by rw [t.defs]; exact List.mem_map.mpr ⟨p, hp, rfl⟩
  obtain ⟨d, hd, e⟩ := List.mem_filterMap.mp hm2
  obtain ⟨r, hr, rfl⟩ := List.mem_map.mp hd
  obtain ⟨ps, rfl, e2⟩ := defD_rw e
  have fx : ∃ x ∈ P, isDefR p.1 x = true := ⟨_, hr, by simp [isDefR]⟩
  have lt : defI P p.1 < P.length := List.findIdx_lt_length_of_exists fx
  have hx := List.findIdx_getElem (p := isDefR p.1) (xs := P) (w := lt)
  obtain ⟨ps', e3⟩ : ∃ ps', P[defI P p.1] = .deff p.1 ps' := by
    have hx : isDefR p.1 P[defI P p.1] = true := hx
    generalize P[defI P p.1] = x at hx
    cases x <;> simp [isDefR] at hx
    exact ⟨_, by rw [hx]⟩
  have e4 : P[defI P p.1]? = some (.deff p.1 ps') := by rw [List.getElem?_eq_getElem lt, e3]
  have hm3 := defs_def (List.mem_of_getElem? e4)
  rw [t.defs] at hm3
  obtain ⟨q, hq, e5⟩ := List.mem_map.mp hm3
  simp only [Prod.mk.injEq] at e5
  have := nodup_fst t.nd hq hp e5.1
  subst this
  have e6 := strs_inj2 e5.2
  obtain ⟨g, g1, g2, g3, g4, g5⟩ := h3.cl (defI P q.1) lt (by rw [wA_rw e4]; rfl) (fun d st h => by cases h)
  obtain ⟨rg, hrg, ew⟩ := wA_inv g4
  obtain ⟨o, rfl⟩ : ∃ o, rg = .give o := by cases rg <;> simp at ew; exact ⟨_, rfl⟩
  exact ⟨_, ps', g, o, rfl, e4, g1, hrg, by rw [← e6]; exact hl⟩
end VL
namespace VL
open PySem PySem.Spec PyProof.Rows L2 RZ
/-! ### calls, lists, loops: what the laws' texts want again and again -/
theorem callQ_is {sp : PSp} {g : WA} {rh : Ev} {mu : Sto} {ws : List W} {ds dds : List D} {d : D} (hg : Iss g rh mu ws) (hs : snaps mu ws = some ds) (hp : ∀ Q : W → Sto → Prop, (∀ w mu', (if allD ws = true then snap mu' w else snapF mu' w) = some d → Q w mu') → sp (ds ++ dds) Q) : Is (wCallP false sp dds g) rh mu (.d d) := fun K hK => hg _ (by
  simp only [hs]
  exact hp _ fun w mu' e => by simp only [Bool.false_eq_true, if_false, backF, e]; exact hK)
theorem asDs_comp {A1 : Type} (f : A1 → D) (xs : List A1) : asDs (xs.map (W.d ∘ f)) = some (xs.map f) := asDs_mapf f xs
theorem listF_is {a : WE} {rh : Ev} {mu : Sto} {ds : List D} (ha : Is a rh mu (.d (.lst ds))) : Is (wCall (fList false) (wCons a wNil)) rh mu (.d (.lst ds)) := fun K hK => ha _ (by
  simp
  exact hK)
theorem listL_is {a : WE} {rh : Ev} {mu : Sto} {ds : List D} {l : Nat} (ha : Is a rh mu (.loc l)) (e : mu[l]? = some (.lst ds)) : Is (wCall (fList false) (wCons a wNil)) rh mu (.d (.lst ds)) := fun K hK => ha _ (by
  simp [e]
  exact hK)
theorem addF_is {a b : WE} {rh : Ev} {mu : Sto} {xs ys : List D} (hl : xs.length + ys.length ≤ 1000000) (ha : Is a rh mu (.d (.lst xs))) (hb : Is b rh mu (.d (.lst ys))) : Is (wOp (fAdd false) a b) rh mu (.d (.lst (xs ++ ys))) := op_to _ _ _ ha hb fun K hK => by
  simp [sizeLine_eq]
  exact ⟨by omega, hK⟩
end VL
namespace VL
open PySem PySem.Spec PyProof.Rows L2 RZ
theorem for_enumP {a : WE} {g : WG} {b : WS} {V : EV} {rh : Ev} {mu : Sto} {A1 : Type} {f : A1 → D} {xs : List A1} (h : Is a rh mu (.d (.lst (xs.map f)))) (I : Nat → Ev → Sto → Prop) (hend : ∀ rh mu, I xs.length rh mu → V.nx rh mu)
    (hs : ∀ k x, xs[k]? = some x → ∀ rh mu, I k rh mu → ∀ N : Ev → Sto → Prop, (∀ rh' mu', I (k + 1) rh' mu' → N rh' mu') → g (.d (.tup [.int (k : Nat), f x])) rh mu fun rh' mu' => b { V with nx := N, ct := N, bk := V.nx } rh' mu') (h0 : I 0 rh mu) : wFor (wEnum (wCons a wNil)) g b V rh mu := h _ (by
  refine ⟨rfl, ?_⟩
  simp only [seqW]
  refine forL_idx I (fun _ _ _ _ => by first | rfl | trivial | simp [chkW]) (fun rh mu q => hend rh mu ?_) (fun i x e rh mu q N hN => ?_) h0
  · rw [enumW_len] at q; simpa using q
  · obtain ⟨y, e1, rfl⟩ := enumW_get _ _ _ _ e
    rw [List.map_map, List.getElem?_map] at e1
    cases c : xs[i]? with
    | none => rw [c] at e1; cases e1
    | some z =>
      rw [c] at e1
      cases e1
      have := hs i z c rh mu q N hN
      simpa [mkTup] using this)
theorem isStr_is {e : WE} {rh : Ev} {mu : Sto} {k : Key} (h : Is e rh mu (.d (kD k))) : IsB (wTru (wCall fIsi (wCons e (wCons (wTy "str") wNil)))) rh mu k.isRight := fun K hK => h _ (by
  cases k <;> simpa using hK)
@[simp] def p__law_homes : D → (W → Sto → Prop) → Prop := fun a Q => ∃ rows, a = .lst rows ∧ (∀ r ∈ rows, ∃ w, wordR r = some w) ∧ rows.length ≤ 1000 ∧ Q (.loc 0) [.lst (((List.range rows.length).map (homeV rows)).map optD)]
def w__law_homes : WS := (wSeq (wAsg (wLst true wNil) (wgName 1))
    (wSeq (wAsg (wC .non) (wgName 2))
    (wSeq (wFor (wEnum (wCons (wVar 0) wNil)) (wgTup 2 (wgCons (wgName 3) (wgCons (wgName 4) wgNil))) (wSeq (wIfS (wTest (wOp (fEq false) (wOp fIx (wVar 4) (wC (.int 0))) (wC (.str "def")))) (wAsg (wVar 3) (wgName 2)) wNext)
    (wSeq (wDrop (wBM fApp (wVar 1) (wCons (wVar 2) wNil)))
    (wIfS (wTest (wOp (fEq false) (wOp fIx (wVar 4) (wC (.int 0))) (wC (.str "give")))) (wAsg (wC .non) (wgName 2)) wNext))))
    (wRet (wVar 1)))))
@[simp] def sp__law_homes : PSp := sp1 p__law_homes
theorem v__law_homes : ∀ a Q, p__law_homes a Q → w__law_homes (evr Q) (startE ["_law_program_here", "_law_homes_here", "_law_here", "_law_k", "_law_row"] [.d a]) [] := by
  intro a Q h
  obtain ⟨rows, rfl, hw, hl, h⟩ := h
  simp [w__law_homes, sizeLine_eq]
  refine forL_rem (fun items rh mu => ∃ (k : Nat) (ys : List D) (a b : Option W), items = enumW k (ys.map W.d) ∧ rh = [some (.d (.lst rows)), some (.loc 0), some (.d (optD (homeS rows k))), a, b] ∧ rows.drop k = ys ∧ k ≤ rows.length ∧ mu = [.lst (((List.range k).map (homeV rows)).map optD)]) (fun _ _ _ _ => trivial) ?_ ?_ ⟨0, rows, _, _, rfl, rfl, rfl, by omega, rfl⟩
  · rintro _ _ ⟨k, ys, a, b, e, rfl, hd, hk, rfl⟩
    cases ys with
    | cons y ys => simp [enumW] at e
    | nil =>
      have : k = rows.length := by
        have := congrArg List.length hd
        simp at this; omega
      subst this
      simpa using h
  · rintro x items _ _ ⟨k, ys, a, b, e, rfl, hd, hk, rfl⟩ N hN
    cases ys with
    | nil => simp [enumW] at e
    | cons y ys =>
      have hlt : k < rows.length := by
        have := congrArg List.length hd
        simp at this; omega
      rw [List.drop_eq_getElem_cons hlt] at hd
      injection hd with hd1 hd2
      obtain ⟨w, hy⟩ := hw y (by rw [← hd1]; exact List.getElem_mem hlt)
      have wk : wA rows k = some w := by unfold wA; rw [List.getElem?_eq_getElem hlt, hd1]; exact hy
      obtain ⟨rest, rfl⟩ := wordR_tup hy
      rw [List.map_cons, enumW] at e
      injection e with e1 e2
      subst e1
      have nx := hN [some (.d (.lst rows)), some (.loc 0), some (.d (optD (homeS rows (k + 1)))), some (.d (.int (k : Nat))), some (.d (.tup (.str w :: rest)))] [.lst (((List.range (k + 1)).map (homeV rows)).map optD)] ⟨k + 1, ys, _, _, e2, rfl, hd2, by omega, rfl⟩
      rw [List.range_succ, List.map_append, List.map_append] at nx
      by_cases c1 : w = Str.ofString "def"
      · subst c1
        simp [homeS, homeV, wk, optD] at nx
        simp [optD, sizeLine_eq]
        exact ⟨by omega, nx⟩
      have d1 : ¬ Str.ofString "def" = w := fun z => c1 z.symm
      have v1 : homeV rows k = homeS rows k := by simp [homeV, wk, c1]
      by_cases c2 : w = Str.ofString "give"
      · subst c2
        simp [homeS, v1, wk] at nx
        simp [c1, d1, sizeLine_eq]
        exact ⟨by omega, nx⟩
      have d2 : ¬ Str.ofString "give" = w := fun z => c2 z.symm
      simp [homeS, v1, wk, c1, c2] at nx
      simp [c1, d1, c2, d2, sizeLine_eq]
      exact ⟨by omega, nx⟩
/-! ### the law's moves -/
theorem letter_dot {s : Str} (h : nameOk s = true) : Txt.startswith s (Str.ofString ".") = false := by
  unfold nameOk at h
  rw [Bool.and_eq_true, Bool.and_eq_true, decide_eq_true_eq, List.all_eq_true] at h
  obtain ⟨⟨h1, _⟩, h3⟩ := h
  cases e : Txt.startswith s (Str.ofString ".") with
  | false => rfl
  | true =>
    exfalso
    unfold Txt.startswith Builtin.Str.subAt at e
    rw [dot_len, dot_cps] at e
    have l : 0 < s.cps.size := h1
    have c := h3 s.cps[0] (by simp [Array.getElem_mem])
    simp at e
    have e2 : s.cps[0] = 46 := by
      have q := congrArg (fun z : Array Nat => z[0]?) e.2
      simp only [Array.getElem?_extract] at q
      simp [l] at q
      exact q.2
    rw [e2] at c
    revert c
    decide +kernel
def classL : Key → Str
  | .inr s => if Txt.startswith s (Str.ofString ".") = true then s else Str.ofString "#"
  | .inl _ => Str.ofString "#"
theorem classL_K {k : Key} (h : okKy k = true) : classL k = classK k := by
  cases k with
  | inl n => rfl
  | inr s =>
    unfold okKy fldK okO at h
    rw [Bool.or_eq_true] at h
    show (if Txt.startswith s (Str.ofString ".") = true then s else Str.ofString "#") = (if fldS s = true then s else Str.ofString "#")
    rcases h with h | h
    · have h2 : Txt.startswith s (Str.ofString ".") = true := by unfold fldS at h; rw [Bool.and_eq_true] at h; exact h.1
      rw [if_pos (show fldS s = true from h), if_pos h2]
    · have h2 := letter_dot h
      have h3 : fldS s = false := by unfold fldS; rw [h2]; rfl
      rw [h2, h3]
@[simp] def p__law_class : D → (W → Sto → Prop) → Prop := fun a Q => ∃ k : Key, a = kD k ∧ Q (.d (.str (classL k))) []
def w__law_class : WS := (wSeq (wIfS (wAnd (wTru (wCall fIsi (wCons (wVar 0) (wCons (wTy "str") wNil)))) (wTru (wM1 fStarts (wVar 0) (wC (.str "."))))) (wRet (wVar 0)) wNext)
    (wRet (wC (.str "#"))))
@[simp] def sp__law_class : PSp := sp1 p__law_class
theorem v__law_class : ∀ a Q, p__law_class a Q → w__law_class (evr Q) (startE ["_law_key_here"] [.d a]) [] := by
  rintro _ Q ⟨k, rfl, h⟩
  cases k with
  | inl n => simpa [w__law_class, classL] using h
  | inr s =>
    unfold classL at h
    cases e : Txt.startswith s (Str.ofString ".") <;> simp [w__law_class, e] at h ⊢ <;> exact h
theorem classL_is {a : WE} {rh : Ev} {mu : Sto} {k : Key} (ha : Is a rh mu (.d (kD k))) (hk : okKy k = true) : Is (wCallP false sp__law_class [] (wCons a wNil)) rh mu (.d (.str (classK k))) := by
  rw [← classL_K hk]
  exact callF_is (ws := [.d (kD k)]) (iss1 ha iss0) rfl (w0 := .d (.str (classL k))) (mu0 := []) (fun Q q => ⟨k, rfl, q⟩) (by simp)
@[simp] def p__law_call_moves : D → D → D → (W → Sto → Prop) → Prop := fun a b c Q => ∃ (P : List Rw) (s : ShS) (home : Nat) (n f : Str) (ops : List Key), a = prgD P ∧ b = .int (home : Nat) ∧ c = rwD (.call n f ops) ∧ GoodPr P s ∧ InvD (P.map rwD) P.length none s ∧ Rw.call n f ops ∈ P ∧
  Q (.loc 0) [.lst ((callF P s.ends home n f ops).map flD)]
def w__law_call_moves : WS := (wSeq (wAsg (wC (.int 0)) (wgName 3))
    (wSeq (wWhile (wOr (wTest (wOp (fEq true) (wOp fIx (wOp fIx (wVar 0) (wVar 3)) (wC (.int 0))) (wC (.str "def")))) (wTest (wOp (fEq true) (wOp fIx (wOp fIx (wVar 0) (wVar 3)) (wC (.int 1))) (wOp fIx (wVar 2) (wC (.int 2)))))) (wAsg (wOp (fAdd false) (wVar 3) (wC (.int 1))) (wgName 3)))
    (wSeq (wAsg (wVar 3) (wgName 4))
    (wSeq (wWhile (wTest (wOp (fEq true) (wOp fIx (wOp fIx (wVar 0) (wVar 4)) (wC (.int 0))) (wC (.str "give")))) (wAsg (wOp (fAdd false) (wVar 4) (wC (.int 1))) (wgName 4)))
    (wSeq (wAsg (wLst true wNil) (wgName 5))
    (wSeq (wFor (wZip (wCons (wOp fIx (wOp fIx (wVar 0) (wVar 3)) (wC (.int 2))) (wCons (wOp fIx (wVar 2) (wC (.int 3))) wNil))) (wgTup 2 (wgCons (wgName 6) (wgCons (wgName 7) wgNil))) (wIfS (wTru (wCall fIsi (wCons (wVar 7) (wCons (wTy "str") wNil)))) (wDrop (wBM fApp (wVar 5) (wCons (wTup (wCons (wTup (wCons (wC (.str "name")) (wCons (wVar 3) (wCons (wVar 6) (wCons (wC (.str "")) wNil))))) (wCons (wTup (wCons (wC (.str "name")) (wCons (wVar 1) (wCons (wVar 7) (wCons (wC (.str "")) wNil))))) wNil))) wNil))) wNext))
    (wSeq (wIfS (wTru (wCall fIsi (wCons (wOp fIx (wOp fIx (wVar 0) (wVar 4)) (wC (.int 1))) (wCons (wTy "str") wNil)))) (wDrop (wBM fApp (wVar 5) (wCons (wTup (wCons (wTup (wCons (wC (.str "name")) (wCons (wVar 1) (wCons (wOp fIx (wVar 2) (wC (.int 1))) (wCons (wC (.str "")) wNil))))) (wCons (wTup (wCons (wC (.str "name")) (wCons (wVar 3) (wCons (wOp fIx (wOp fIx (wVar 0) (wVar 4)) (wC (.int 1))) (wCons (wC (.str "")) wNil))))) wNil))) wNil))) wNext)
    (wRet (wVar 5)))))))))
@[simp] def sp__law_call_moves : PSp := sp3 p__law_call_moves
theorem add1_is {i k : Nat} {rh : Ev} {mu : Sto} (h : rh[i]? = some (some (.d (.int (k : Nat))))) : Is (wOp (fAdd false) (wVar i) (wC (.int 1))) rh mu (.d (.int ((k + 1 : Nat) : Nat))) := op_to _ _ _ (var_is h) (int_is _) fun K hK => by simpa using hK
theorem v__law_call_moves : ∀ a b c Q, p__law_call_moves a b c Q → w__law_call_moves (evr Q) (startE ["_law_program_here", "_law_home", "_law_row", "_law_there", "_law_last", "_law_moves_here", "_law_name", "_law_operand_here"] [.d a, .d b, .d c]) [] := by
  rintro _ _ _ Q ⟨P, s, home, n, f, ops, rfl, rfl, rfl, gp, iD, hm, hq⟩
  have hl := gp.len
  have wfc := gp.wf _ hm
  obtain ⟨t0, ps, g, o, et, ht, he, hg, hps⟩ := gp.calls n f ops hm
  have hlt : ∀ j, j < defI P f → ∀ r, P[j]? = some r → isDefR f r = false := fun j hj r hr => by
    have := List.not_of_lt_findIdx (p := isDefR f) (xs := P) hj
    obtain ⟨hl, rfl⟩ := List.getElem?_eq_some_iff.mp hr
    simpa using this
  have e1 : parsAt P (defI P f) = ps := by rw [et]; simp [parsAt, ht]
  have e2 : giveOf P s.ends (defI P f) = o := by rw [et]; simp [giveOf, he, hg]
  unfold callF at hq
  rw [e1, e2] at hq
  rw [et] at hlt hq
  clear e1 e2 et
  have tl : t0 < P.length := (List.getElem?_eq_some_iff.mp ht).1
  obtain ⟨g', b1, b2, b3, b4, b5⟩ := iD.cl t0 tl (by rw [wA_rw ht]; rfl) (fun d st h => by cases h)
  rw [he] at b1
  simp only [Option.some.injEq] at b1
  subst b1
  have wfo : okO o = true := gp.wf _ (List.mem_of_getElem? hg)
  unfold w__law_call_moves
  refine seq_to [some (.d (prgD P)), some (.d (.int (home : Nat))), some (.d (rwD (.call n f ops))), some (.d (.int 0)), none, none, none, none] [] (fun K hK => asg_to _ (int_is _) hK) ?_
  refine seq_to [some (.d (prgD P)), some (.d (.int (home : Nat))), some (.d (rwD (.call n f ops))), some (.d (.int (t0 : Nat))), none, none, none, none] [] (fun K hK => ?_) ?_
  · refine ⟨fun m rh mu => ∃ k : Nat, k ≤ t0 ∧ m = t0 - k ∧ mu = [] ∧ rh = [some (.d (prgD P)), some (.d (.int (home : Nat))), some (.d (rwD (.call n f ops))), some (.d (.int (k : Nat))), none, none, none, none], ⟨t0, 0, by omega, rfl, rfl, rfl⟩, ?_⟩
    rintro m _ _ ⟨k, hk, rfl, rfl, rfl⟩
    obtain ⟨r, hr⟩ : ∃ r, P[k]? = some r := ⟨_, List.getElem?_eq_getElem (by omega)⟩
    have ri := prg_is (a := wVar 0) (b := wVar 3) (rh := [some (.d (prgD P)), some (.d (.int (home : Nat))), some (.d (rwD (.call n f ops))), some (.d (.int (k : Nat))), none, none, none, none]) (mu := []) (var_is rfl) (var_is rfl) hr
    have ci : Is (wOp fIx (wVar 2) (wC (.int 2))) [some (.d (prgD P)), some (.d (.int (home : Nat))), some (.d (rwD (.call n f ops))), some (.d (.int (k : Nat))), none, none, none, none] [] (.d (.str f)) := part_is (i := 2) (var_is rfl) rfl
    by_cases c : k = t0
    · subst c
      rw [ht] at hr
      cases hr
      refine or_isF (neC_is false (part_is (i := 0) ri rfl) (by simp)) (b := false) (fun K2 hK2 => ?_) _ hK
      exact part_is (i := 1) ri rfl _ (ci _ (by simpa using hK2))
    · have nd := hlt k (by omega) r hr
      have go : ∀ x : W, x = .d (.int ((k + 1 : Nat) : Nat)) → ∃ m', m' < t0 - k ∧ ∃ k' : Nat, k' ≤ t0 ∧ m' = t0 - k' ∧ ([] : Sto) = [] ∧ [some (W.d (prgD P)), some (.d (.int (home : Nat))), some (.d (rwD (.call n f ops))), some x, none, none, none, none] = [some (.d (prgD P)), some (.d (.int (home : Nat))), some (.d (rwD (.call n f ops))), some (.d (.int (k' : Nat))), none, none, none, none] := fun x hx => ⟨t0 - (k + 1), by omega, k + 1, by omega, rfl, rfl, by rw [hx]⟩
      by_cases c2 : rwW r = "def"
      · obtain ⟨f', ps', rfl⟩ : ∃ f' ps', r = .deff f' ps' := by cases r <;> simp at c2; exact ⟨_, _, rfl⟩
        have nf : f' ≠ f := by simpa [isDefR] using nd
        have nb : (f' == f) = false := by simpa using nf
        refine or_isF (neC_is false (part_is (i := 0) ri rfl) (by simp)) (b := true) (fun K2 hK2 => ?_) _ (asg_to _ (add1_is rfl) (go _ rfl))
        exact part_is (i := 1) ri rfl _ (ci _ (by simpa [nb] using hK2))
      · exact or_isT (neC_is true (part_is (i := 0) ri rfl) (by simpa using c2)) _ (asg_to _ (add1_is rfl) (go _ rfl))
  refine seq_to _ _ (fun K hK => asg_to _ (var_is rfl) hK) ?_
  refine seq_to [some (.d (prgD P)), some (.d (.int (home : Nat))), some (.d (rwD (.call n f ops))), some (.d (.int (t0 : Nat))), some (.d (.int (g : Nat))), none, none, none] [] (fun K hK => ?_) ?_
  · refine ⟨fun m rh mu => ∃ k : Nat, t0 ≤ k ∧ k ≤ g ∧ m = g - k ∧ mu = [] ∧ rh = [some (.d (prgD P)), some (.d (.int (home : Nat))), some (.d (rwD (.call n f ops))), some (.d (.int (t0 : Nat))), some (.d (.int (k : Nat))), none, none, none], ⟨g - t0, t0, by omega, by omega, rfl, rfl, rfl⟩, ?_⟩
    rintro m _ _ ⟨k, hk0, hk, rfl, rfl, rfl⟩
    simp only [List.length_map] at b3
    obtain ⟨r, hr⟩ : ∃ r, P[k]? = some r := ⟨_, List.getElem?_eq_getElem (by omega)⟩
    have ri := prg_is (a := wVar 0) (b := wVar 4) (rh := [some (.d (prgD P)), some (.d (.int (home : Nat))), some (.d (rwD (.call n f ops))), some (.d (.int (t0 : Nat))), some (.d (.int (k : Nat))), none, none, none]) (mu := []) (var_is rfl) (var_is rfl) hr
    by_cases c : k = g
    · subst c
      rw [hg] at hr
      cases hr
      exact neC_is false (part_is (i := 0) ri rfl) (by simp) _ hK
    · have nd := b5 k hk0 (by omega)
      unfold giveW at nd
      rw [wA_rw hr] at nd
      refine neC_is true (part_is (i := 0) ri rfl) (by simpa using nd) _ (asg_to _ (add1_is rfl) ⟨g - (k + 1), by omega, k + 1, by omega, by omega, rfl, rfl, rfl⟩)
  have rt := prg_is (a := wVar 0) (b := wVar 3) (rh := [some (.d (prgD P)), some (.d (.int (home : Nat))), some (.d (rwD (.call n f ops))), some (.d (.int (t0 : Nat))), some (.d (.int (g : Nat))), some (.loc 0), none, none]) (mu := [.lst []]) (var_is rfl) (var_is rfl) ht
  refine seq_to [some (.d (prgD P)), some (.d (.int (home : Nat))), some (.d (rwD (.call n f ops))), some (.d (.int (t0 : Nat))), some (.d (.int (g : Nat))), some (.loc 0), none, none] [.lst []] (fun K hK => by simpa [sizeLine_eq] using hK) ?_
  have la := argF_len t0 home ps ops
  refine seq_R (fun rh mu => ∃ x y, rh = [some (.d (prgD P)), some (.d (.int (home : Nat))), some (.d (rwD (.call n f ops))), some (.d (.int (t0 : Nat))), some (.d (.int (g : Nat))), some (.loc 0), x, y] ∧ mu = [.lst ((argF t0 home ps ops).map flD)]) (fun K hK => ?_) ?_
  · refine for_zipT (xs := ps.map D.str) (ys := ops.map kD) (part_is (i := 2) rt rfl) (part_is (i := 3) (var_is (i := 2) rfl) rfl) fun chk hc => ?_
    rw [zip_map2, List.map_map]
    refine forL_S _ (fun xs rh mu => ∃ (fs : List Flow) (x y : Option W), rh = [some (.d (prgD P)), some (.d (.int (home : Nat))), some (.d (rwD (.call n f ops))), some (.d (.int (t0 : Nat))), some (.d (.int (g : Nat))), some (.loc 0), x, y] ∧ mu = [.lst (fs.map flD)] ∧ fs.length + xs.length ≤ 1000 ∧
      fs ++ xs.filterMap (fun x => match x.2 with | .inr m => some (Pl.name t0 x.1, Pl.name home m) | .inl _ => none) = argF t0 home ps ops) (fun _ _ mu _ => hc mu) ?_ ?_ ⟨[], none, none, rfl, rfl, ?_, rfl⟩
    · rintro _ _ ⟨fs, x, y, rfl, rfl, _, e⟩
      simp at e
      exact hK _ _ ⟨x, y, rfl, by rw [e]⟩
    · rintro ⟨p, k⟩ xs _ _ ⟨fs, x, y, rfl, rfl, hll, e⟩ X hX
      refine tup2_to ?_
      simp only [List.length_cons] at hll
      refine ifS_to _ (isStr_is (k := k) (var_is (i := 7) rfl)) ?_
      cases k with
      | inl i => exact hX _ _ ⟨fs, _, _, rfl, rfl, by omega, by simpa using e⟩
      | inr m =>
        refine app_to (l := 0) (xs := fs.map flD) _ (var_is rfl) (flow_is (p := .name t0 p) (q := .name home m) (tup4_is (int_is _) (var_is rfl) (var_is rfl) (int_is _)) (tup4_is (int_is _) (var_is rfl) (var_is rfl) (int_is _))) rfl (by rw [sizeLine_eq]; simp; omega) ?_
        refine hX _ _ ⟨fs ++ [(.name t0 p, .name home m)], _, _, rfl, by simp, by simp; omega, by simpa using e⟩
    · have := wfc.2.2.1
      simp [List.length_zip]; omega
  · rintro _ _ ⟨x, y, rfl, rfl⟩
    have gi : ∀ mu, Is (wOp fIx (wOp fIx (wVar 0) (wVar 4)) (wC (.int 1))) [some (.d (prgD P)), some (.d (.int (home : Nat))), some (.d (rwD (.call n f ops))), some (.d (.int (t0 : Nat))), some (.d (.int (g : Nat))), some (.loc 0), x, y] mu (.d (kD o)) := fun mu => part_is (i := 1) (prg_is (var_is rfl) (var_is rfl) hg) rfl
    refine seq_to [some (.d (prgD P)), some (.d (.int (home : Nat))), some (.d (rwD (.call n f ops))), some (.d (.int (t0 : Nat))), some (.d (.int (g : Nat))), some (.loc 0), x, y] [.lst ((argF t0 home ps ops ++ givF home n t0 o).map flD)] (fun K hK => ?_) ?_
    · refine ifS_to _ (isStr_is (gi _)) ?_
      have := wfc.2.2.1
      cases o with
      | inl i => simpa [givF] using hK
      | inr m =>
        refine app_to (l := 0) (xs := (argF t0 home ps ops).map flD) _ (var_is rfl) (flow_is (p := .name home n) (q := .name t0 m) (tup4_is (int_is _) (var_is rfl) (part_is (i := 1) (var_is (i := 2) rfl) rfl) (int_is _)) (tup4_is (int_is _) (var_is rfl) (gi _) (int_is _))) rfl (by rw [sizeLine_eq]; simp; omega) ?_
        simpa [givF] using hK
    · exact ret_to _ (var_is rfl) hq
@[simp] def p__law_moves : D → (W → Sto → Prop) → Prop := fun a Q => ∃ (P : List Rw) (pl : List (Str × List Str)) (s : ShS), a = prgD P ∧ Prg P pl s ∧ ∀ l mu, mu[l]? = some (.lst ((flowsP P s).map flD)) → Q (.loc l) mu
def w__law_moves : WS := (wSeq (wAsg (wCallP false sp__law_homes [] (wCons (wVar 0) wNil)) (wgName 1))
    (wSeq (wAsg (wLst true wNil) (wgName 2))
    (wSeq (wFor (wEnum (wCons (wVar 0) wNil)) (wgTup 2 (wgCons (wgName 3) (wgCons (wgName 4) wgNil))) (wSeq (wAsg (wOp fIx (wVar 1) (wVar 3)) (wgName 5))
    (wIfS (wTest (wOp (fEq false) (wOp fIx (wVar 4) (wC (.int 0))) (wC (.str "new")))) (wDrop (wBM fApp (wVar 2) (wCons (wTup (wCons (wTup (wCons (wC (.str "name")) (wCons (wVar 5) (wCons (wOp fIx (wVar 4) (wC (.int 1))) (wCons (wC (.str "")) wNil))))) (wCons (wTup (wCons (wC (.str "row")) (wCons (wVar 3) (wCons (wC (.str "")) (wCons (wC (.str "")) wNil))))) wNil))) wNil))) (wIfS (wAnd (wTest (wOp (fEq false) (wOp fIx (wVar 4) (wC (.int 0))) (wC (.str "put")))) (wTru (wCall fIsi (wCons (wOp fIx (wVar 4) (wC (.int 2))) (wCons (wTy "str") wNil))))) (wDrop (wBM fApp (wVar 2) (wCons (wTup (wCons (wTup (wCons (wC (.str "name")) (wCons (wVar 5) (wCons (wOp fIx (wVar 4) (wC (.int 1))) (wCons (wC (.str "")) wNil))))) (wCons (wTup (wCons (wC (.str "name")) (wCons (wVar 5) (wCons (wOp fIx (wVar 4) (wC (.int 2))) (wCons (wC (.str "")) wNil))))) wNil))) wNil))) (wIfS (wTest (wOp (fEq false) (wOp fIx (wVar 4) (wC (.int 0))) (wC (.str "get")))) (wDrop (wBM fApp (wVar 2) (wCons (wTup (wCons (wTup (wCons (wC (.str "name")) (wCons (wVar 5) (wCons (wOp fIx (wVar 4) (wC (.int 1))) (wCons (wC (.str "")) wNil))))) (wCons (wTup (wCons (wC (.str "cells")) (wCons (wVar 5) (wCons (wOp fIx (wVar 4) (wC (.int 2))) (wCons (wCallP false sp__law_class [] (wCons (wOp fIx (wVar 4) (wC (.int 3))) wNil)) wNil))))) wNil))) wNil))) (wIfS (wAnd (wTest (wOp (fEq false) (wOp fIx (wVar 4) (wC (.int 0))) (wC (.str "set")))) (wTru (wCall fIsi (wCons (wOp fIx (wVar 4) (wC (.int 3))) (wCons (wTy "str") wNil))))) (wDrop (wBM fApp (wVar 2) (wCons (wTup (wCons (wTup (wCons (wC (.str "cells")) (wCons (wVar 5) (wCons (wOp fIx (wVar 4) (wC (.int 1))) (wCons (wCallP false sp__law_class [] (wCons (wOp fIx (wVar 4) (wC (.int 2))) wNil)) wNil))))) (wCons (wTup (wCons (wC (.str "name")) (wCons (wVar 5) (wCons (wOp fIx (wVar 4) (wC (.int 3))) (wCons (wC (.str "")) wNil))))) wNil))) wNil))) (wIfS (wTest (wOp (fEq false) (wOp fIx (wVar 4) (wC (.int 0))) (wC (.str "call")))) (wAsg (wOp (fAdd true) (wVar 2) (wCallP false sp__law_call_moves [] (wCons (wVar 0) (wCons (wVar 5) (wCons (wVar 4) wNil))))) (wgName 2)) wNext)))))))
    (wRet (wVar 2)))))
@[simp] def sp__law_moves : PSp := sp1 p__law_moves
theorem homes_is {P : List Rw} {a : WE} {rh : Ev} {mu : Sto} (hl : P.length ≤ 1000) (h : Is a rh mu (.d (prgD P))) : Is (wCallP false sp__law_homes [] (wCons a wNil)) rh mu (.d (.lst (((List.range P.length).map (homeV (P.map rwD))).map optD))) :=
  callF_is (ws := [.d (prgD P)]) (iss1 h iss0) rfl (w0 := .loc 0) (mu0 := [.lst (((List.range P.length).map (homeV (P.map rwD))).map optD)]) (fun Q q => ⟨P.map rwD, rfl, fun r hr => by obtain ⟨x, _, rfl⟩ := List.mem_map.mp hr; exact ⟨_, wordR_rw x⟩, by simpa using hl, by simpa using q⟩) (by simp)
theorem cat_to {a b : WE} {i l : Nat} {V : EV} {rh : Ev} {mu : Sto} {xs ys : List D} (ha : Is a rh mu (.loc l)) (hb : Is b rh mu (.d (.lst ys))) (h1 : mu[l]? = some (.lst xs)) (hl : xs.length + ys.length ≤ sizeLine) (q : V.nx (rh.set i (some (.loc mu.length))) (mu ++ [.lst (xs ++ ys)])) : wAsg (wOp (fAdd true) a b) (wgName i) V rh mu := ha _ (hb _ (by
  simp [h1]; exact ⟨hl, q⟩))
theorem v__law_moves : ∀ a Q, p__law_moves a Q → w__law_moves (evr Q) (startE ["_law_program_here", "_law_homes_here", "_law_moves_here", "_law_k", "_law_row", "_law_home"] [.d a]) [] := by
  rintro _ Q ⟨P, pl, s, rfl, pr, hq⟩
  have gp := pr.g
  have hl := gp.len
  unfold w__law_moves
  refine seq_to _ _ (fun K hK => asg_to _ (homes_is (P := P) (by omega) (var_is rfl)) hK) ?_
  refine seq_to [some (.d (prgD P)), some (.d (.lst (((List.range P.length).map (homeV (P.map rwD))).map optD))), some (.loc 0), none, none, none] [.lst []] (fun K hK => by simpa [sizeLine_eq] using hK) ?_
  refine seq_R (fun rh mu => ∃ l x y z, rh = [some (.d (prgD P)), some (.d (.lst (((List.range P.length).map (homeV (P.map rwD))).map optD))), some (.loc l), x, y, z] ∧ mu[l]? = some (.lst ((flowsP P s).map flD))) (fun K hK => ?_) ?_
  · refine for_enumP (var_is rfl) (fun k rh mu => ∃ l x y z, rh = [some (.d (prgD P)), some (.d (.lst (((List.range P.length).map (homeV (P.map rwD))).map optD))), some (.loc l), x, y, z] ∧ mu[l]? = some (.lst (((List.range k).flatMap (flowsAt P s)).map flD))) (fun rh mu h => hK _ _ h) ?_ ⟨0, none, none, none, rfl, rfl⟩
    rintro k r hr _ mu ⟨l, x, y, z, rfl, hmu⟩ N hN
    refine tup2_to ?_
    have hk := (List.getElem?_eq_some_iff.mp hr).1
    have hm := List.mem_of_getElem? hr
    have hh := pr.i.hm k hk
    have wr := gp.wf r hm
    have fl := flat_len (flowsAt P s) 5 (flowsAt_len gp.wf) k
    have nx : ((List.range (k + 1)).flatMap (flowsAt P s)).map flD = ((List.range k).flatMap (flowsAt P s)).map flD ++ (flowsAt P s k).map flD := by
      rw [List.range_succ, List.flatMap_append, List.flatMap_singleton, List.map_append]
    have fl2 := flowsAt_len (s := s) gp.wf k
    generalize (List.range k).flatMap (flowsAt P s) = F at *
    have hat : ((List.range P.length).map (homeV (P.map rwD)))[k]? = some (homeV (P.map rwD) k) := by simp [hk]
    refine seq_to _ _ (fun K hK => asg_to _ (ix_lst (var_is rfl) (var_is rfl) (atI_map2 optD hat)) hK) ?_
    have v4 : ∀ x mu, Is (wVar 4) [some (.d (prgD P)), some (.d (.lst (((List.range P.length).map (homeV (P.map rwD))).map optD))), some (.loc l), some (.d (.int (k : Nat))), some (.d (rwD r)), x] mu (.d (rwD r)) := fun x mu => var_is rfl
    have e0 : flowsAt P s k = match homeV (P.map rwD) k with | some h => rowF P s.ends h k r | none => [] := by
      unfold flowsAt; rw [hh, hr]; cases homeV (P.map rwD) k <;> rfl
    have sm : ∀ rh', (∃ l' x y z, rh' = [some (W.d (prgD P)), some (.d (.lst (((List.range P.length).map (homeV (P.map rwD))).map optD))), some (.loc l'), x, y, z] ∧ l' = l) → flowsAt P s k = [] → N rh' mu := fun rh' ⟨l', x, y, z, e, e'⟩ e2 => hN _ _ ⟨l', x, y, z, e, by rw [e', nx, e2]; simpa using hmu⟩
    cases hv : homeV (P.map rwD) k with
    | none =>
      rw [hv] at e0
      have w := pr.d.sk k hk hv
      rw [wA_rw hr] at w
      have w : rwW r = "skip" := by simpa using w
      have ne : ∀ z : String, z ≠ "skip" → (Str.ofString (rwW r) == Str.ofString z) = false := fun z hz => by rw [w]; simpa using Ne.symm hz
      refine ifS_F (word_is false (v4 _ _) (ne _ (by decide))) (ifS_F (and_isF (word_is false (v4 _ _) (ne _ (by decide)))) (ifS_F (word_is false (v4 _ _) (ne _ (by decide))) (ifS_F (and_isF (word_is false (v4 _ _) (ne _ (by decide)))) (ifS_F (word_is false (v4 _ _) (ne _ (by decide))) ?_))))
      exact sm _ ⟨l, _, _, _, rfl, rfl⟩ e0
    | some h =>
      rw [hv] at e0
      have e0 : flowsAt P s k = rowF P s.ends h k r := e0
      have ap : ∀ (e : WE) (f : Flow), flowsAt P s k = [f] → Is e [some (.d (prgD P)), some (.d (.lst (((List.range P.length).map (homeV (P.map rwD))).map optD))), some (.loc l), some (.d (.int (k : Nat))), some (.d (rwD r)), some (.d (.int (h : Nat)))] mu (.d (flD f)) →
          wDrop (wBM fApp (wVar 2) (wCons e wNil)) { nx := N, rt := (evr Q).rt, bk := K, ct := N } [some (.d (prgD P)), some (.d (.lst (((List.range P.length).map (homeV (P.map rwD))).map optD))), some (.loc l), some (.d (.int (k : Nat))), some (.d (rwD r)), some (.d (.int (h : Nat)))] mu := fun e f ef he =>
        app_to (l := l) (xs := F.map flD) _ (var_is rfl) he hmu (by rw [sizeLine_eq]; simp; omega) (hN _ _ ⟨l, _, _, _, rfl, by rw [nx, ef]; exact set_at hmu⟩)
      by_cases c1 : rwW r = "new"
      · obtain ⟨n, rfl⟩ : ∃ n, r = .new n := by cases r <;> simp at c1; exact ⟨_, rfl⟩
        exact ifS_T (word_is true (v4 _ _) (by simp)) (ap _ (.name h n, .row k) e0 (flow_is (p := .name h n) (q := .row k) (tup4_is (int_is _) (var_is rfl) (part_is (i := 1) (v4 _ _) rfl) (int_is _)) (tup4_is (int_is _) (var_is rfl) (int_is _) (int_is _))))
      refine ifS_F (word_is false (v4 _ _) (by simpa using c1)) ?_
      by_cases c2 : rwW r = "put"
      · obtain ⟨n, o, rfl⟩ : ∃ n o, r = .put n o := by cases r <;> simp at c2; exact ⟨_, _, rfl⟩
        cases o with
        | inr m => exact ifS_T (and_isT (word_is true (v4 _ _) (by simp)) (isStr_is (k := .inr m) (part_is (i := 2) (v4 _ _) rfl))) (ap _ (.name h n, .name h m) e0 (flow_is (p := .name h n) (q := .name h m) (tup4_is (int_is _) (var_is rfl) (part_is (i := 1) (v4 _ _) rfl) (int_is _)) (tup4_is (int_is _) (var_is rfl) (part_is (i := 2) (v4 _ _) rfl) (int_is _))))
        | inl i =>
          refine ifS_F (and_isT (word_is true (v4 _ _) (by simp)) (isStr_is (k := .inl i) (part_is (i := 2) (v4 _ _) rfl))) (ifS_F (word_is false (v4 _ _) (by simp)) (ifS_F (and_isF (word_is false (v4 _ _) (by simp))) (ifS_F (word_is false (v4 _ _) (by simp)) ?_)))
          exact sm _ ⟨l, _, _, _, rfl, rfl⟩ e0
      refine ifS_F (and_isF (word_is false (v4 _ _) (by simpa using c2))) ?_
      by_cases c3 : rwW r = "get"
      · obtain ⟨n, o, ky, rfl⟩ : ∃ n o ky, r = .get n o ky := by cases r <;> simp at c3; exact ⟨_, _, _, rfl⟩
        exact ifS_T (word_is true (v4 _ _) (by simp)) (ap _ (.name h n, .cells h o (classK ky)) e0 (flow_is (p := .name h n) (q := .cells h o (classK ky)) (tup4_is (int_is _) (var_is rfl) (part_is (i := 1) (v4 _ _) rfl) (int_is _)) (tup4_is (int_is _) (var_is rfl) (part_is (i := 2) (v4 _ _) rfl) (classL_is (part_is (i := 3) (v4 _ _) rfl) wr.2.2))))
      refine ifS_F (word_is false (v4 _ _) (by simpa using c3)) ?_
      by_cases c4 : rwW r = "set"
      · obtain ⟨o, ky, v, rfl⟩ : ∃ o ky v, r = .set o ky v := by cases r <;> simp at c4; exact ⟨_, _, _, rfl⟩
        cases v with
        | inr m => exact ifS_T (and_isT (word_is true (v4 _ _) (by simp)) (isStr_is (k := .inr m) (part_is (i := 3) (v4 _ _) rfl))) (ap _ (.cells h o (classK ky), .name h m) e0 (flow_is (p := .cells h o (classK ky)) (q := .name h m) (tup4_is (int_is _) (var_is rfl) (part_is (i := 1) (v4 _ _) rfl) (classL_is (part_is (i := 2) (v4 _ _) rfl) wr.2.1)) (tup4_is (int_is _) (var_is rfl) (part_is (i := 3) (v4 _ _) rfl) (int_is _))))
        | inl i =>
          refine ifS_F (and_isT (word_is true (v4 _ _) (by simp)) (isStr_is (k := .inl i) (part_is (i := 3) (v4 _ _) rfl))) (ifS_F (word_is false (v4 _ _) (by simp)) ?_)
          exact sm _ ⟨l, _, _, _, rfl, rfl⟩ e0
      refine ifS_F (and_isF (word_is false (v4 _ _) (by simpa using c4))) ?_
      by_cases c5 : rwW r = "call"
      · obtain ⟨n, f, ops, rfl⟩ : ∃ n f ops, r = .call n f ops := by cases r <;> simp at c5; exact ⟨_, _, _, rfl⟩
        refine ifS_T (word_is true (v4 _ _) (by simp)) ?_
        have e0 : flowsAt P s k = callF P s.ends h n f ops := e0
        rw [e0] at fl2 nx
        refine cat_to (l := l) (xs := F.map flD) (ys := (callF P s.ends h n f ops).map flD) (var_is rfl) (callF_is (ws := [.d (prgD P), .d (.int (h : Nat)), .d (rwD (.call n f ops))]) (iss1 (var_is rfl) (iss1 (var_is rfl) (iss1 (var_is rfl) iss0))) rfl (w0 := .loc 0) (mu0 := [.lst ((callF P s.ends h n f ops).map flD)]) (fun Q' q => ⟨P, s, h, n, f, ops, rfl, rfl, rfl, gp, pr.d, hm, q⟩) (by simp)) hmu (by rw [sizeLine_eq]; simp; omega) ?_
        refine hN _ _ ⟨mu.length, _, _, _, rfl, ?_⟩
        rw [nx]; simp
      refine ifS_F (word_is false (v4 _ _) (by simpa using c5)) ?_
      have e1 : rowF P s.ends h k r = [] := by cases r <;> simp at c1 c2 c3 c4 c5 <;> rfl
      exact sm _ ⟨l, _, _, _, rfl, rfl⟩ (e0.trans e1)
  · rintro _ mu ⟨l, x, y, z, rfl, hmu⟩
    exact ret_to _ (var_is rfl) (hq l mu hmu)
end VL
namespace VL
open PySem PySem.Spec PyProof.Rows L2 RZ
/-! ### the law's own growing: keys that lack something -/
def isName : Pl → Bool
  | .name _ _ => true
  | _ => false
def goalsL (N : Tab) : Pl → List (Nat × Str)
  | .name h n => [(h, n)]
  | .cells h n c => ((List.range 60).filter (tOf N h n).testBit).map fun r => (r, c)
  | .row _ => []
def whT (N C : Tab) (g : Pl) : Tab := if isName g = true then N else C
def lackB (N C : Tab) (f : Flow) (k : Nat × Str) : Bool := decide (tOf (whT N C f.1) k.1 k.2 ||| hadT N C f.2 ≠ tOf (whT N C f.1) k.1 k.2)
def lacksL (N C : Tab) (f : Flow) : List (Nat × Str) := (goalsL N f.1).filter (lackB N C f)
def putG (g : Pl) (N C : Tab) (k : Nat × Str) (v : Nat) : Tab × Tab := if isName g = true then (tPut N k.1 k.2 v, C) else (N, tPut C k.1 k.2 v)
theorem goalsL_len (N : Tab) (g : Pl) : (goalsL N g).length ≤ 60 := by
  cases g with
  | row k => simp [goalsL]
  | name h n => simp [goalsL]
  | cells h n c => have := List.length_filter_le (tOf N h n).testBit (List.range 60); simpa [goalsL] using this
theorem whT_bit {N C : Tab} {g : Pl} {h : Nat} {w : Str} {b : Nat} : (tOf (whT N C g) h w).testBit b = true ↔ XT N C (!isName g) h w b := by
  unfold whT
  cases c : isName g <;> simp [XT]
theorem keeps_had {N C : Tab} (tn : TabOk N) (tc : TabOk C) (h : Nat) (n c : Str) : keepsT C (tOf N h n) c = hadT N C (.cells h n c) := nat_bits fun j => by
  rw [keeps_bit, had_bit tn]
  simp only [Src, XT]
  constructor
  · rintro ⟨⟨r, w, v⟩, hr, h1, h2, h3⟩
    simp only at h1 h2 h3
    subst h1
    exact ⟨r, h2, by unfold tOf; rw [tGet_of tc.nd hr]; exact h3⟩
  · rintro ⟨r, h1, h2⟩
    unfold tOf at h2
    cases e : tGet C r c with
    | none => rw [e] at h2; simp at h2
    | some v => rw [e] at h2; exact ⟨(r, c, v), tGet_mem e, rfl, h1, h2⟩
def FlOk (fl : List Flow) : Prop := ∀ f ∈ fl, (∀ k, f.1 ≠ .row k) ∧ (∀ k, f.2 = .row k → k < 60)
theorem FlOk.pl {fl : List Flow} (h : FlOk fl) {f : Flow} (hf : f ∈ fl) : plOk f.2 := by
  have := (h f hf).2
  cases e : f.2 with
  | row k => exact Nat.lt_trans (this k e) (by decide)
  | name _ _ => trivial
  | cells _ _ _ => trivial
theorem goal_of {N C : Tab} {g : Pl} {k : Nat × Str} (h : k ∈ goalsL N g) : Goal (XT N C) g (!isName g) k.1 k.2 := by
  cases g with
  | row r => cases h
  | name a n => simp [goalsL] at h; subst h; exact ⟨rfl, rfl, rfl⟩
  | cells a n c =>
    obtain ⟨r, hr, rfl⟩ := List.mem_map.mp h
    rw [List.mem_filter] at hr
    exact ⟨rfl, rfl, hr.2⟩
theorem goal_mem {N C : Tab} {g : Pl} {k : Bool} {h : Nat} {w : Str} (b60 : ∀ a n r, (tOf N a n).testBit r = true → r < 60) (q : Goal (XT N C) g k h w) : k = !isName g ∧ (h, w) ∈ goalsL N g := by
  cases g with
  | row r => exact q.elim
  | name a n => obtain ⟨rfl, rfl, rfl⟩ := q; simp [isName, goalsL]
  | cells a n c =>
    obtain ⟨rfl, rfl, q⟩ := q
    refine ⟨rfl, List.mem_map.mpr ⟨h, List.mem_filter.mpr ⟨List.mem_range.mpr (b60 _ _ _ q), q⟩, rfl⟩⟩
theorem XT_put {N C : Tab} {g : Pl} {k : Nat × Str} {v : Nat} (kk : Bool) (h : Nat) (w : Str) (b : Nat) : XT (putG g N C k v).1 (putG g N C k v).2 kk h w b ↔ if kk = (!isName g) ∧ k.1 = h ∧ k.2 = w then v.testBit b = true else XT N C kk h w b := by
  unfold putG
  cases c : isName g <;> cases kk <;> simp [XT, tOf_put] <;> split <;> simp_all
/-- tables that grow from a start -/
structure LI (fl : List Flow) (N0 C0 N C : Tab) : Prop where
  n : TabOk N
  c : TabOk C
  up : ∀ k h w b, XT N C k h w b → ∀ X : Rel, ClosedF fl X → (∀ k h w b, XT N0 C0 k h w b → X k h w b) → X k h w b
  lo : ∀ k h w b, XT N0 C0 k h w b → XT N C k h w b
  kn : ∀ k ∈ tKeys N, k ∈ gN fl ++ tKeys N0
  kc : ∀ k ∈ tKeys C, k ∈ gC fl ++ tKeys C0
  b60 : ∀ k h w b, XT N C k h w b → b < 60
theorem LI.start {fl : List Flow} {N0 C0 : Tab} (n : TabOk N0) (c : TabOk C0) (b60 : ∀ k h w b, XT N0 C0 k h w b → b < 60) : LI fl N0 C0 N0 C0 :=
  ⟨n, c, fun k h w b q X _ hs => hs _ _ _ _ q, fun _ _ _ _ q => q, fun k hk => List.mem_append.mpr (.inr hk), fun k hk => List.mem_append.mpr (.inr hk), b60⟩
theorem LI.lenN {fl : List Flow} {N0 C0 N C : Tab} (g : LI fl N0 C0 N C) : N.length ≤ fl.length + N0.length := by
  have h1 := List.Nodup.length_le_of_subset g.n.nd (fun k hk => g.kn k hk)
  have h2 : (gN fl).length ≤ fl.length := List.length_filterMap_le _ fl
  simp [tKeys] at h1
  omega
theorem LI.lenC {fl : List Flow} {N0 C0 N C : Tab} (g : LI fl N0 C0 N C) : C.length ≤ 64 * fl.length + C0.length := by
  have h1 := List.Nodup.length_le_of_subset g.c.nd (fun k hk => g.kc k hk)
  have h2 := gC_len fl
  simp [tKeys] at h1
  omega
def univL (fl : List Flow) (N0 C0 : Tab) : List (Bool × Nat × Str × Nat) := (gN fl ++ tKeys N0).flatMap (fun k => (List.range 64).map fun b => (false, k.1, k.2, b)) ++ (gC fl ++ tKeys C0).flatMap (fun k => (List.range 64).map fun b => (true, k.1, k.2, b))
theorem LI.univ {fl : List Flow} {N0 C0 N C : Tab} (g : LI fl N0 C0 N C) {k : Bool} {h : Nat} {w : Str} {b : Nat} (q : XT N C k h w b) : (k, h, w, b) ∈ univL fl N0 C0 := by
  unfold univL
  rw [List.mem_append]
  cases k with
  | false =>
    refine .inl (List.mem_flatMap.mpr ⟨_, g.kn _ (tOf_key q), ?_⟩)
    exact List.mem_map.mpr ⟨b, List.mem_range.mpr (g.n.bit_lt q), rfl⟩
  | true =>
    refine .inr (List.mem_flatMap.mpr ⟨_, g.kc _ (tOf_key q), ?_⟩)
    exact List.mem_map.mpr ⟨b, List.mem_range.mpr (g.c.bit_lt q), rfl⟩
def misU (fl : List Flow) (N0 C0 N C : Tab) : Nat := (univL fl N0 C0).countP fun x => !XTb N C x
theorem misU_m {N C N' C' : Tab} (m : ∀ k h w b, XT N C k h w b → XT N' C' k h w b) (x : Bool × Nat × Str × Nat) (h : (!XTb N' C' x) = true) : (!XTb N C x) = true := by
  obtain ⟨k, a, w, b⟩ := x
  simp only [Bool.not_eq_true', ← Bool.not_eq_true] at h ⊢
  exact fun z => h ((XTb_iff _ _ _ _ _ _).mpr (m _ _ _ _ ((XTb_iff _ _ _ _ _ _).mp z)))
theorem misU_le {fl : List Flow} {N0 C0 N C N' C' : Tab} (m : ∀ k h w b, XT N C k h w b → XT N' C' k h w b) : misU fl N0 C0 N' C' ≤ misU fl N0 C0 N C := List.countP_mono_left fun x _ => misU_m m x
theorem misU_lt {fl : List Flow} {N0 C0 N C N' C' : Tab} (i : LI fl N0 C0 N' C') (m : ∀ k h w b, XT N C k h w b → XT N' C' k h w b) (h : ∃ k a w b, XT N' C' k a w b ∧ ¬ XT N C k a w b) : misU fl N0 C0 N' C' < misU fl N0 C0 N C := by
  obtain ⟨k, a, w, b, h1, h2⟩ := h
  refine countP_lt (fun x _ => misU_m m x) ⟨(k, a, w, b), i.univ h1, ?_, ?_⟩
  · simp only [Bool.not_eq_true', ← Bool.not_eq_true]
    exact fun z => h2 ((XTb_iff _ _ _ _ _ _).mp z)
  · simp only [Bool.not_eq_false']
    exact (XTb_iff _ _ _ _ _ _).mpr h1
/-- a key of the goal gets what the origin has -/
theorem LI.put {fl : List Flow} {N0 C0 N C : Tab} (i : LI fl N0 C0 N C) (ok : FlOk fl) {f : Flow} (hf : f ∈ fl) {k : Nat × Str} (hg : Goal (XT N C) f.1 (!isName f.1) k.1 k.2) (nz : hadT N C f.2 ≠ 0) :
    LI fl N0 C0 (putG f.1 N C k (tOf (whT N C f.1) k.1 k.2 ||| hadT N C f.2)).1 (putG f.1 N C k (tOf (whT N C f.1) k.1 k.2 ||| hadT N C f.2)).2 ∧
    (∀ kk h w b, XT N C kk h w b → XT (putG f.1 N C k (tOf (whT N C f.1) k.1 k.2 ||| hadT N C f.2)).1 (putG f.1 N C k (tOf (whT N C f.1) k.1 k.2 ||| hadT N C f.2)).2 kk h w b) := by
  have hl := had_lt i.n i.c (ok.pl hf)
  have mono : ∀ kk h w b, XT N C kk h w b → XT (putG f.1 N C k (tOf (whT N C f.1) k.1 k.2 ||| hadT N C f.2)).1 (putG f.1 N C k (tOf (whT N C f.1) k.1 k.2 ||| hadT N C f.2)).2 kk h w b := fun kk h w b q => by
    rw [XT_put]
    split
    · rename_i c
      obtain ⟨rfl, rfl, rfl⟩ := c
      rw [Nat.testBit_or, whT_bit.mpr q]; rfl
    · exact q
  refine ⟨⟨?_, ?_, fun kk h w b q X hX hs => ?_, fun kk h w b q => mono _ _ _ _ (i.lo _ _ _ _ q), ?_, ?_, fun kk h w b q => ?_⟩, mono⟩
  · unfold putG whT
    cases c : isName f.1 with
    | true => exact i.n.put (or_lt64 (i.n.of_lt _ _) hl) (or_ne0 nz)
    | false => exact i.n
  · unfold putG whT
    cases c : isName f.1 with
    | true => exact i.c
    | false => exact i.c.put (or_lt64 (i.c.of_lt _ _) hl) (or_ne0 nz)
  · rw [XT_put] at q
    have up : ∀ k h w b, XT N C k h w b → X k h w b := fun k h w b q => i.up k h w b q X hX hs
    split at q
    · rename_i c
      obtain ⟨rfl, rfl, rfl⟩ := c
      rw [Nat.testBit_or, Bool.or_eq_true] at q
      rcases q with q | q
      · exact up _ _ _ _ (whT_bit.mp q)
      · exact hX f hf b (((had_bit i.n _ _).mp q).mono up) _ _ _ (hg.mono up)
    · exact up _ _ _ _ q
  · unfold putG
    cases c : isName f.1 with
    | false => exact i.kn
    | true =>
      intro z hz
      simp only [if_true] at hz
      rw [tPut_keys] at hz
      split at hz
      · exact i.kn z hz
      · rcases List.mem_append.mp hz with hz | hz
        · exact i.kn z hz
        · rw [List.mem_singleton] at hz
          refine List.mem_append.mpr (.inl ?_)
          cases e : f.1 with
          | row r => rw [e] at c; cases c
          | cells _ _ _ => rw [e] at c; cases c
          | name h n =>
            rw [e] at hg
            obtain ⟨_, h1, h2⟩ := hg
            unfold gN
            rw [List.mem_filterMap]
            exact ⟨f, hf, by rw [e]; simp [hz, h1, h2]⟩
  · unfold putG
    cases c : isName f.1 with
    | true => exact i.kc
    | false =>
      intro z hz
      simp only [Bool.false_eq_true, if_false] at hz
      rw [tPut_keys] at hz
      split at hz
      · exact i.kc z hz
      · rcases List.mem_append.mp hz with hz | hz
        · exact i.kc z hz
        · rw [List.mem_singleton] at hz
          refine List.mem_append.mpr (.inl ?_)
          cases e : f.1 with
          | row r => rw [e] at hg; exact hg.elim
          | name _ _ => rw [e] at c; cases c
          | cells h n cl =>
            rw [e] at hg
            obtain ⟨_, h2, h3⟩ := hg
            have r60 := i.b60 _ _ _ _ h3
            unfold gC
            rw [List.mem_flatMap]
            refine ⟨f, hf, ?_⟩
            unfold gC1
            rw [e]
            exact List.mem_map.mpr ⟨k.1, List.mem_range.mpr (by omega), by rw [hz, ← h2]⟩
  · rw [XT_put] at q
    split at q
    · rw [Nat.testBit_or, Bool.or_eq_true] at q
      rcases q with q | q
      · exact i.b60 _ _ _ _ (whT_bit.mp q)
      · have := (had_bit (C := C) i.n f.2 b).mp q
        cases e : f.2 with
        | row r => rw [e] at this; cases this; exact (ok f hf).2 _ e
        | name a1 a2 => rw [e] at this; exact i.b60 false a1 a2 b this
        | cells _ _ _ => rw [e] at this; obtain ⟨r, _, h2⟩ := this; exact i.b60 _ _ _ _ h2
    · exact i.b60 _ _ _ _ q
/-- a round: the moves that are done -/
structure LR (fl : List Flow) (N0 C0 : Tab) (m : Nat) (done : List Flow) (N C : Tab) (f : Bool) : Prop where
  inv : LI fl N0 C0 N C
  le : misU fl N0 C0 N C ≤ m
  fr : f = true → misU fl N0 C0 N C < m
  no : f = false → ClosedF done (XT N C)
/-- within a move: the keys that are left -/
structure LK (fl : List Flow) (N0 C0 : Tab) (m : Nat) (done : List Flow) (g : Flow) (N1 C1 : Tab) (xs : List (Nat × Str)) (N C : Tab) (f : Bool) : Prop where
  inv : LI fl N0 C0 N C
  mono : ∀ k h w b, XT N1 C1 k h w b → XT N C k h w b
  tn : TabOk N1
  le : misU fl N0 C0 N C ≤ m
  fr : f = true → misU fl N0 C0 N C < m
  no : f = false → N = N1 ∧ C = C1 ∧ xs = lacksL N1 C1 g ∧ ClosedF done (XT N1 C1)
  sub : ∀ x ∈ xs, x ∈ lacksL N1 C1 g
theorem LR.start {fl : List Flow} {N0 C0 N C : Tab} (i : LI fl N0 C0 N C) : LR fl N0 C0 (misU fl N0 C0 N C) [] N C false := ⟨i, Nat.le_refl _, (fun h => nomatch h), (fun _ x hx => nomatch hx)⟩
theorem LR.keys {fl : List Flow} {N0 C0 N C : Tab} {m : Nat} {done : List Flow} {f : Bool} (r : LR fl N0 C0 m done N C f) (g : Flow) : LK fl N0 C0 m done g N C (lacksL N C g) N C f :=
  ⟨r.inv, fun _ _ _ _ q => q, r.inv.n, r.le, r.fr, fun h => ⟨rfl, rfl, rfl, r.no h⟩, fun _ q => q⟩
theorem lack_nz {N C : Tab} {g : Flow} {k : Nat × Str} (h : k ∈ lacksL N C g) : hadT N C g.2 ≠ 0 := fun e => by
  unfold lacksL at h
  rw [List.mem_filter] at h
  have := h.2
  unfold lackB at this
  rw [e] at this
  simp at this
theorem had_mono {N C N' C' : Tab} (tn : TabOk N) (tn' : TabOk N') (m : ∀ k h w b, XT N C k h w b → XT N' C' k h w b) {p : Pl} (h : hadT N C p ≠ 0) : hadT N' C' p ≠ 0 := by
  obtain ⟨b, hb⟩ : ∃ b, (hadT N C p).testBit b = true := Nat.exists_testBit_of_ne_zero h
  have := (had_bit tn' p b).mpr (((had_bit tn p b).mp hb).mono m)
  intro e
  rw [e] at this
  simp at this
theorem LK.step {fl : List Flow} {N0 C0 N1 C1 N C : Tab} {m : Nat} {done : List Flow} {g : Flow} {x : Nat × Str} {xs : List (Nat × Str)} {f : Bool} (r : LK fl N0 C0 m done g N1 C1 (x :: xs) N C f) (ok : FlOk fl) (hg : g ∈ fl) :
    LK fl N0 C0 m done g N1 C1 xs (putG g.1 N C x (tOf (whT N C g.1) x.1 x.2 ||| hadT N C g.2)).1 (putG g.1 N C x (tOf (whT N C g.1) x.1 x.2 ||| hadT N C g.2)).2 true := by
  have hx := r.sub x (by simp)
  have nz := had_mono r.tn r.inv.n r.mono (lack_nz hx)
  have gl : Goal (XT N C) g.1 (!isName g.1) x.1 x.2 := by
    unfold lacksL at hx
    rw [List.mem_filter] at hx
    exact (goal_of hx.1).mono r.mono
  obtain ⟨i, mo⟩ := r.inv.put ok hg gl nz
  have le := misU_le (fl := fl) (N0 := N0) (C0 := C0) mo
  refine ⟨i, fun k h w b q => mo _ _ _ _ (r.mono _ _ _ _ q), r.tn, Nat.le_trans le r.le, fun _ => ?_, (fun h => nomatch h), fun y hy => r.sub y (by simp [hy])⟩
  cases f with
  | true => exact Nat.lt_of_le_of_lt le (r.fr rfl)
  | false =>
    obtain ⟨rfl, rfl, _, _⟩ := r.no rfl
    refine Nat.lt_of_lt_of_le (misU_lt i mo ?_) r.le
    unfold lacksL at hx
    rw [List.mem_filter] at hx
    have := hx.2
    unfold lackB at this
    rw [decide_eq_true_eq, or_new] at this
    obtain ⟨b, h1, h2⟩ := this
    refine ⟨!isName g.1, x.1, x.2, b, ?_, fun q => ?_⟩
    · rw [XT_put, if_pos ⟨rfl, rfl, rfl⟩, Nat.testBit_or, h1, Bool.or_true]
    · rw [whT_bit.mpr q] at h2; cases h2
theorem LK.done {fl : List Flow} {N0 C0 N1 C1 N C : Tab} {m : Nat} {done : List Flow} {g : Flow} {f : Bool} (r : LK fl N0 C0 m done g N1 C1 [] N C f) : LR fl N0 C0 m (done ++ [g]) N C f := by
  refine ⟨r.inv, r.le, r.fr, fun h => ?_⟩
  obtain ⟨rfl, rfl, e, cl⟩ := r.no h
  intro y hy b hs k a w hgl
  rcases List.mem_append.mp hy with hy | hy
  · exact cl y hy b hs k a w hgl
  · rw [List.mem_singleton] at hy
    subst hy
    obtain ⟨rfl, hm⟩ := goal_mem (fun a n k q => r_lt r.inv q) hgl
    refine whT_bit.mp ?_
    refine Classical.byContradiction fun c => ?_
    have : (a, w) ∈ lacksL N C y := List.mem_filter.mpr ⟨hm, ?_⟩
    · rw [← e] at this; cases this
    · unfold lackB
      rw [decide_eq_true_eq, or_new]
      exact ⟨b, (had_bit r.inv.n _ _).mpr hs, by simpa using c⟩
where r_lt {fl : List Flow} {N0 C0 N C : Tab} (i : LI fl N0 C0 N C) {a : Nat} {n : Str} {r : Nat} (q : (tOf N a n).testBit r = true) : r < 60 := i.b60 false a n r q
theorem LI.least {fl : List Flow} {N C : Tab} (i : LI fl [] [] N C) (c : ClosedF fl (XT N C)) : Least fl N C := ⟨i.n, i.c, fun k h w b => ⟨fun q X hX => i.up k h w b q X hX (fun k h w b q => by cases k <;> (unfold XT tOf tGet at q; simp at q)), fun q => q _ c⟩⟩
theorem LI.nil (fl : List Flow) : LI fl [] [] [] [] := .start .nil .nil fun k h w b q => by cases k <;> (unfold XT tOf tGet at q; simp at q)
end VL
namespace VL
open PySem PySem.Spec PyProof.Rows L2 RZ
theorem nkeys_to {a : WE} {rh : Ev} {mu : Sto} {l : Nat} {lk : Obj × NL} {kvs : List (D × W)} {Q : List W → (Sto → Prop) → Sto → Prop} (h : Is a rh mu (.loc l)) (e : mu[l]? = some (.dn (some lk) kvs)) (hl : kvs.length ≤ sizeLine) (q : Q (kvs.map fun p => .d p.1) (chkN l lk kvs) mu) : wNKeys a rh mu Q := h _ (by
  simp only [e]; exact ⟨hl, q⟩)
@[simp] def p__law_had : W → W → W → Sto → (W → Sto → Prop) → Prop := fun a b c mu Q => ∃ (i j : Nat) (N M : Tab) (p : Pl), a = .loc i ∧ b = .loc j ∧ c = .d (plD p) ∧ mu[i]? = some (.dn none (tN N)) ∧ mu[j]? = some (.dn none (tN M)) ∧ TabOk N ∧ TabOk M ∧ M.length ≤ 1000000 ∧ plOk p ∧ Q (.d (.int (hadT N M p : Nat))) mu
def w__law_had : WS := (wSeq (wAsg (wVar 2) (wgTup 4 (wgCons (wgName 3) (wgCons (wgName 4) (wgCons (wgName 5) (wgCons (wgName 6) wgNil))))))
    (wSeq (wIfS (wTest (wOp (fEq false) (wVar 3) (wC (.str "row")))) (wRet (wOp (fI CShl fun i j => i * 2 ^ j.toNat) (wC (.int 1)) (wVar 4))) wNext)
    (wSeq (wAsg (wNGet2 (wVar 0) (wTup (wCons (wVar 4) (wCons (wVar 5) wNil))) (wC (.int 0))) (wgName 7))
    (wSeq (wIfS (wTest (wOp (fEq false) (wVar 3) (wC (.str "name")))) (wRet (wVar 7)) wNext)
    (wSeq (wAsg (wC (.int 0)) (wgName 8))
    (wSeq (wLock (wFor (wNKeys (wVar 1)) (wgTup 2 (wgCons (wgName 9) (wgCons (wgName 10) wgNil))) (wIfS (wAnd (wTest (wOp (fEq false) (wVar 10) (wVar 6))) (wTest (wOp (fEq false) (wOp (fI CR0 gMod) (wOp (fI (fun _ j => 0 ≤ j) fun i j => i / 2 ^ j.toNat) (wVar 7) (wVar 9)) (wC (.int 2))) (wC (.int 1))))) (wAsg (wOp (fI0 Builtin.bitOr) (wVar 8) (wNGet (wVar 1) (wTup (wCons (wVar 9) (wCons (wVar 10) wNil))))) (wgName 8)) wNext)))
    (wRet (wVar 8))))))))
@[simp] def sp__law_had : VSp := sS3 p__law_had
theorem v__law_had : ∀ a b c mu Q, p__law_had a b c mu Q → w__law_had (evr Q) (startE ["_law_names", "_law_cells", "_law_origin", "_law_word", "_law_home", "_law_name", "_law_kind", "_law_some", "_law_total", "_law_row", "_law_other"] [a, b, c]) mu := by
  rintro _ _ _ mu Q ⟨i, j, N, M, p, rfl, rfl, rfl, ei, ej, tn, tc, hl, pok, hh⟩
  unfold w__law_had
  cases p with
  | row r =>
    refine seq_to _ _ (fun K hK => asgG_to _ (var_is rfl) (tup4_to hK)) ?_
    refine seq_do fun X => ifS_T (eqS_is true rfl (by decide)) (ret_to _ (fun K hK => ?_) hh)
    have h1 : r < 64 := pok
    simp [hadT] at hK
    simp [shl63 (show r ≤ 63 by omega)]
    exact hK
  | name h n =>
    refine seq_to _ _ (fun K hK => asgG_to _ (var_is rfl) (tup4_to hK)) ?_
    refine seq_to _ _ (fun K hK => ifS_F (eqS_is false rfl (by decide)) hK) ?_
    refine seq_to _ _ (fun K hK => asg_to _ (nget2_is (l := i) (T := N) (h := h) (w := n) (var_is rfl) (key_is (N := N) (C := M) rfl rfl) (int_is _) ei) hK) ?_
    exact seq_do fun X => ifS_T (eqS_is true rfl (by decide)) (ret_to _ (var_is rfl) hh)
  | cells h n c =>
    refine seq_to _ _ (fun K hK => asgG_to _ (var_is rfl) (tup4_to hK)) ?_
    refine seq_to _ _ (fun K hK => ifS_F (eqS_is false rfl (by decide)) hK) ?_
    refine seq_to _ _ (fun K hK => asg_to _ (nget2_is (l := i) (T := N) (h := h) (w := n) (var_is rfl) (key_is (N := N) (C := M) rfl rfl) (int_is _) ei) hK) ?_
    refine seq_to _ _ (fun K hK => ifS_F (eqS_is false rfl (by decide)) hK) ?_
    refine seq_to _ _ (fun K hK => asg_to _ (int_is _) hK) ?_
    rw [← keeps_had tn tc] at hh
    generalize tOf N h n = some1 at *
    refine seq_go ⟨j, tN M, ej, fun lk => ?_⟩
    have e1 := set_at (y := .dn (some lk) (tN M)) ej
    have et : (tN M).map (fun p => W.d p.1) = M.map (fun r => .d (tKey r.1 r.2.1)) := by simp [tN]
    refine nkeys_to (l := j) (lk := lk) (kvs := tN M) (var_is rfl) e1 (by rw [tN_len, sizeLine_eq]; omega) ?_
    rw [et]
    refine forL_S _ (fun R rh mu' => mu' = mu.set j (.dn (some lk) (tN M)) ∧ (∀ r ∈ R, r ∈ M) ∧ ∃ (acc : Nat) (x1 x2 : Option W), rh = [some (.loc i), some (.loc j), some (.d (plD (.cells h n c))), some (.d (.str (Str.ofString "cells"))), some (.d (.int (h : Nat))), some (.d (.str n)), some (.d (.str c)), some (.d (.int (some1 : Nat))), some (.d (.int (acc : Nat))), x1, x2] ∧
      R.foldl (fun acc r => if r.2.1 = c ∧ some1.testBit r.1 = true then acc ||| r.2.2 else acc) acc = keepsT M some1 c) (fun _ _ _ ⟨q, _⟩ => by subst q; exact e1) ?_ ?_ ⟨rfl, fun _ h => h, 0, _, _, rfl, rfl⟩
    · rintro _ _ ⟨rfl, _, acc, x1, x2, rfl, eq⟩
      refine ⟨e1, ?_⟩
      rw [set_back ej]
      rw [← eq] at hh
      simpa using hh
    · rintro ⟨a, b, v⟩ R _ _ ⟨rfl, hR, acc, x1, x2, rfl, eq⟩ X hX
      have g1 := tGet_of tc.nd (h := a) (w := b) (v := v) (hR _ (by simp))
      have g2 := valN_t M a b
      rw [g1] at g2
      have hR' : ∀ r ∈ R, r ∈ M := fun r hr => hR r (by simp [hr])
      rw [List.foldl_cons] at eq
      have kt : tKey a b = .tup [.int (a : Nat), .str b] := rfl
      simp only [kt] at g2 ⊢
      refine tup2_to ?_
      by_cases c1 : b = c
      · subst c1
        by_cases c2 : some1.testBit a = true
        · rw [if_pos ⟨rfl, c2⟩] at eq
          refine ifS_T (fun K hK => by simpa [int_bitB, c2] using hK) (asg_to (.d (.int ((acc ||| v : Nat) : Nat))) (fun K hK => by simpa [e1, g2, sizeLine_eq] using hK) (hX _ _ ⟨rfl, hR', _, _, _, rfl, eq⟩))
        · rw [if_neg fun z => c2 z.2] at eq
          refine ifS_F (fun K hK => by simpa [int_bitB, c2] using hK) (hX _ _ ⟨rfl, hR', _, _, _, rfl, eq⟩)
      · rw [if_neg fun z => c1 z.1] at eq
        refine ifS_F (fun K hK => by simpa [c1] using hK) (hX _ _ ⟨rfl, hR', _, _, _, rfl, eq⟩)
def kyD (k : Nat × Str) : D := tKey k.1 k.2
@[simp] def p__law_goals : W → W → Sto → (W → Sto → Prop) → Prop := fun a b mu Q => ∃ (i : Nat) (N : Tab) (g : Pl), a = .loc i ∧ b = .d (plD g) ∧ mu[i]? = some (.dn none (tN N)) ∧ notRow g ∧ Q (.loc mu.length) (mu ++ [.lst ((goalsL N g).map kyD)])
def w__law_goals : WS := (wSeq (wAsg (wVar 1) (wgTup 4 (wgCons (wgName 2) (wgCons (wgName 3) (wgCons (wgName 4) (wgCons (wgName 5) wgNil))))))
    (wSeq (wIfS (wTest (wOp (fEq false) (wVar 2) (wC (.str "name")))) (wRet (wLst true (wCons (wTup (wCons (wVar 3) (wCons (wVar 4) wNil))) wNil))) wNext)
    (wSeq (wAsg (wNGet2 (wVar 0) (wTup (wCons (wVar 3) (wCons (wVar 4) wNil))) (wC (.int 0))) (wgName 6))
    (wRet (wLc true (wRng1 (wCons (wC (.int 60)) wNil)) (wgName 7) (wTest (wOp (fEq false) (wOp (fI CR0 gMod) (wOp (fI (fun _ j => 0 ≤ j) fun i j => i / 2 ^ j.toNat) (wVar 6) (wVar 7)) (wC (.int 2))) (wC (.int 1)))) (wTup (wCons (wVar 7) (wCons (wVar 5) wNil))) [7])))))
@[simp] def sp__law_goals : VSp := sS2 p__law_goals
theorem v__law_goals : ∀ a b mu Q, p__law_goals a b mu Q → w__law_goals (evr Q) (startE ["_law_names", "_law_goal", "_law_word", "_law_home", "_law_name", "_law_kind", "_law_some", "_law_row"] [a, b]) mu := by
  rintro _ _ _ Q ⟨i, N, g, rfl, rfl, ei, nr, hh⟩
  unfold w__law_goals
  cases g with
  | row r => exact nr.elim
  | name h n =>
    refine seq_to _ _ (fun K hK => asgG_to _ (var_is rfl) (tup4_to hK)) ?_
    exact seq_do fun X => ifS_T (eqS_is true rfl (by decide)) (ret1_to (key_is (N := N) (C := N) (h := h) (w := n) rfl rfl) hh)
  | cells h n c =>
    refine seq_to _ _ (fun K hK => asgG_to _ (var_is rfl) (tup4_to hK)) ?_
    refine seq_to _ _ (fun K hK => ifS_F (eqS_is false rfl (by decide)) hK) ?_
    refine seq_to _ _ (fun K hK => asg_to _ (nget2_is (l := i) (T := N) (h := h) (w := n) (var_is rfl) (key_is (N := N) (C := N) rfl rfl) (int_is _) ei) hK) ?_
    have en : rngW 0 60 = (List.range 60).map fun k : Nat => W.d (.int (k : Nat)) := by
      rw [rngW_nats, List.map_map]; rfl
    show wLc _ _ _ _ _ _ _ _ _
    simp only [wLc, wRng1, wCons, wC, wNil]
    refine ⟨by decide, by decide, ?_⟩
    show lcL _ _ _ _ _ (rngW 0 60) _ _ _
    rw [en]
    refine lc_AF _ (fun r : Nat => (tOf N h n).testBit r) (fun r : Nat => .d (kyD (r, c))) trivial (fun r hr A B q => ?_) ?_
    · by_cases b : (tOf N h n).testBit r = true
      · rw [if_pos b] at q
        have := (int_bit (tOf N h n) r).mpr b
        simp [this, sizeLine_eq]
        exact q
      · rw [if_neg b] at q
        have := (int_bit0 (tOf N h n) r).mpr (by simpa using b)
        simp [this]
        exact q
    · have e : ((List.range 60).filter (fun r : Nat => (tOf N h n).testBit r)).map (fun r : Nat => W.d (kyD (r, c))) = ((goalsL N (.cells h n c)).map kyD).map W.d := by
        simp only [goalsL, List.map_map]; rfl
      rw [e]
      have l := goalsL_len N (.cells h n c)
      simp [sizeLine_eq, asDs_comp]
      exact hh
theorem had_law_is {N M : Tab} {rh : Ev} {mu : Sto} {i j : Nat} {p : Pl} {e : WE} (h0 : rh[0]? = some (some (.loc i))) (h1 : rh[1]? = some (some (.loc j))) (he : Is e rh mu (.d (plD p))) (ei : mu[i]? = some (.dn none (tN N))) (ej : mu[j]? = some (.dn none (tN M))) (tn : TabOk N) (tc : TabOk M) (hl : M.length ≤ 1000000) (pok : plOk p) :
    Is (wCallS sp__law_had [] (wCons (wVar 0) (wCons (wVar 1) (wCons e wNil)))) rh mu (.d (.int (hadT N M p : Nat))) := fun K hK =>
  callS_to (ws := [.loc i, .loc j, .d (plD p)]) (iss1 (var_is h0) (iss1 (var_is h1) (iss1 he iss0))) ⟨i, j, N, M, p, rfl, rfl, rfl, ei, ej, tn, tc, hl, pok, hK⟩
theorem where_to {V : EV} {rh : Ev} {mu : Sto} {i j k : Nat} {e : WE} {b : Bool} (hi : rh[0]? = some (some (.loc i))) (hj : rh[1]? = some (some (.loc j))) (he : Is e rh (mu ++ [.lstW [.loc j, .loc i]]) (.d (.bl b)))
    (h : V.nx (rh.set k (some (.loc (if b = true then i else j)))) (mu ++ [.lstW [.loc j, .loc i]])) : wAsg (wOp fIx (wLst false (wCons (wVar 1) (wCons (wVar 0) wNil))) (wCall fInt (wCons e wNil))) (wgName k) V rh mu := by
  simp [hi, hj, asDs, sizeLine_eq]
  refine he _ ?_
  cases b <;> simpa using h
theorem isName_is {e : WE} {rh : Ev} {mu : Sto} {g : Pl} (he : Is e rh mu (.d (plD g))) : Is (wOp (fEq false) (wOp fIx e (wC (.int 0))) (wC (.str (Str.ofString "name")))) rh mu (.d (.bl (isName g))) := fun K hK => he _ (by
  cases g <;> simp [plD, isName] at hK ⊢ <;> exact hK)
theorem lackT_is {ge : WE} {rh : Ev} {mu : Sto} {i a b : Nat} (h1 : Is ge rh mu (.d (.int (a : Nat)))) (h2 : Is (wVar i) rh mu (.d (.int (b : Nat)))) : IsB (wTest (wOp (fEq true) (wOp (fI0 Builtin.bitOr) ge (wVar i)) ge)) rh mu (decide (a ||| b ≠ a)) := fun K hK => h1 _ (h2 _ (h1 _ (by
  rw [← ne_dec] at hK
  simpa [onBl] using hK)))
@[simp] def p__law_lacks : W → W → W → Sto → (W → Sto → Prop) → Prop := fun a b c mu Q => ∃ (i j : Nat) (N M : Tab) (f : Flow), a = .loc i ∧ b = .loc j ∧ c = .d (flD f) ∧ mu[i]? = some (.dn none (tN N)) ∧ mu[j]? = some (.dn none (tN M)) ∧ TabOk N ∧ TabOk M ∧ M.length ≤ 1000000 ∧ plOk f.2 ∧ notRow f.1 ∧
  Q (.loc (mu.length + 2)) (mu ++ [.lstW [.loc j, .loc i], .lst ((goalsL N f.1).map kyD), .lst ((lacksL N M f).map kyD)])
def w__law_lacks : WS := (wSeq (wAsg (wVar 2) (wgTup 2 (wgCons (wgName 3) (wgCons (wgName 4) wgNil))))
    (wSeq (wAsg (wCallS sp__law_had [] (wCons (wVar 0) (wCons (wVar 1) (wCons (wVar 4) wNil)))) (wgName 5))
    (wSeq (wAsg (wOp fIx (wLst false (wCons (wVar 1) (wCons (wVar 0) wNil))) (wCall fInt (wCons (wOp (fEq false) (wOp fIx (wVar 3) (wC (.int 0))) (wC (.str "name"))) wNil))) (wgName 6))
    (wRet (wLc true (wSeqI (wCallS sp__law_goals [] (wCons (wVar 0) (wCons (wVar 3) wNil)))) (wgName 7) (wTest (wOp (fEq true) (wOp (fI0 Builtin.bitOr) (wNGet2 (wVar 6) (wVar 7) (wC (.int 0))) (wVar 5)) (wNGet2 (wVar 6) (wVar 7) (wC (.int 0))))) (wVar 7) [7])))))
@[simp] def sp__law_lacks : VSp := sS3 p__law_lacks
theorem get_app {A1 : Type} {xs : List A1} {i : Nat} {x : A1} (h : xs[i]? = some x) (ys : List A1) : (xs ++ ys)[i]? = some x := by
  rw [List.getElem?_append_left (List.getElem?_eq_some_iff.mp h).1, h]
theorem wh_at {mu : Sto} {i j : Nat} {N M : Tab} (g : Pl) (ei : mu[i]? = some (.dn none (tN N))) (ej : mu[j]? = some (.dn none (tN M))) : mu[if isName g = true then i else j]? = some (.dn none (tN (whT N M g))) := by
  unfold whT; split <;> assumption
theorem v__law_lacks : ∀ a b c mu Q, p__law_lacks a b c mu Q → w__law_lacks (evr Q) (startE ["_law_names", "_law_cells", "_law_move", "_law_goal", "_law_origin", "_law_some", "_law_where", "_law_key_here"] [a, b, c]) mu := by
  rintro _ _ _ _ Q ⟨i, j, N, M, ⟨gl, og⟩, rfl, rfl, rfl, ei, ej, tn, tc, hl, pok, nr, hh⟩
  unfold w__law_lacks
  refine seq_to _ _ (fun K hK => asgG_to _ (var_is rfl) (tup2_to hK)) ?_
  refine seq_to _ _ (fun K hK => asg_to _ (had_law_is (p := og) rfl rfl (var_is rfl) ei ej tn tc hl pok) hK) ?_
  refine seq_to _ _ (fun K hK => where_to rfl rfl (isName_is (g := gl) (var_is rfl)) hK) ?_
  rename_i mu
  have e1 := get_app ei [.lstW [.loc j, .loc i]]
  have ew := wh_at gl e1 (get_app ej [.lstW [.loc j, .loc i]])
  have ew2 := get_app ew [.lst ((goalsL N gl).map kyD)]
  show wLc _ _ _ _ _ _ _ _ _
  simp only [wLc, wSeqI]
  refine callS_to (ws := [.loc i, .d (plD gl)]) (iss1 (var_is rfl) (iss1 (var_is rfl) iss0)) ⟨i, N, gl, rfl, rfl, e1, nr, ?_⟩
  have es : seqW ((mu ++ [.lstW [.loc j, .loc i]]) ++ [.lst ((goalsL N gl).map kyD)]) (.loc (mu ++ [C.lstW [.loc j, .loc i]]).length) = some ((goalsL N gl).map fun k => W.d (kyD k)) := by
    simp
  simp only [es]
  refine lc_AF _ (lackB N M (gl, og)) (fun k => .d (kyD k)) es (fun k hk A B q => ?_) ?_
  · have g : ∀ rh : Ev, rh[6]? = some (some (.loc (if isName gl = true then i else j))) → rh[7]? = some (some (.d (kyD k))) → Is (wNGet2 (wVar 6) (wVar 7) (wC (.int 0))) rh ((mu ++ [.lstW [.loc j, .loc i]]) ++ [.lst ((goalsL N gl).map kyD)]) (.d (.int (tOf (whT N M gl) k.1 k.2 : Nat))) := fun rh h6 h7 =>
      nget2_is (var_is h6) (var_is h7) (int_is _) ew2
    refine lackT_is (g _ rfl rfl) (var_is rfl) _ ?_
    show if decide (_ ≠ _) = true then _ else _
    unfold lackB at q
    by_cases b : decide (tOf (whT N M gl) k.1 k.2 ||| hadT N M og ≠ tOf (whT N M gl) k.1 k.2) = true
    · rw [if_pos b] at q ⊢; exact q
    · rw [if_neg b] at q ⊢; exact q
  · have e : ((goalsL N gl).filter (lackB N M (gl, og))).map (fun k => W.d (kyD k)) = ((lacksL N M (gl, og)).map kyD).map W.d := by
      simp only [lacksL, List.map_map]; rfl
    rw [e]
    have l := goalsL_len N gl
    have l2 := List.length_filter_le (lackB N M (gl, og)) (goalsL N gl)
    have l3 : (lacksL N M (gl, og)).length ≤ 60 := by unfold lacksL; exact Nat.le_trans l2 l
    simp [sizeLine_eq, asDs_comp]
    simpa using hh
/-- the store while the tables grow -/
structure GS (i j : Nat) (N M : Tab) (mu mu' : Sto) : Prop where
  li : i < mu.length
  lj : j < mu.length
  ei : mu'[i]? = some (.dn none (tN N))
  ej : mu'[j]? = some (.dn none (tN M))
  len : mu.length ≤ mu'.length
  rest : ∀ k, k < mu.length → k ≠ i → k ≠ j → mu'[k]? = mu[k]?
theorem GS.app {i j : Nat} {N M : Tab} {mu mu' : Sto} (g : GS i j N M mu mu') (xs : Sto) : GS i j N M mu (mu' ++ xs) :=
  ⟨g.li, g.lj, get_app g.ei xs, get_app g.ej xs, by have := g.len; simp; omega, fun k h1 h2 h3 => by
    have := g.len
    rw [List.getElem?_append_left (by omega)]; exact g.rest k h1 h2 h3⟩
theorem GS.put {i j : Nat} {N M : Tab} {mu mu' : Sto} (g : GS i j N M mu mu') (ij : i ≠ j) (p : Pl) (k : Nat × Str) (v : Nat) :
    GS i j (putG p N M k v).1 (putG p N M k v).2 mu (mu'.set (if isName p = true then i else j) (.dn none (tN (tPut (whT N M p) k.1 k.2 v)))) := by
  have h1 := g.li
  have h2 := g.lj
  have h3 := g.len
  unfold putG whT
  cases c : isName p with
  | true => exact ⟨h1, h2, by simp only [if_true]; exact List.getElem?_set_self (by omega), by simp [ij]; exact g.ej, by simpa using h3, fun k q1 q2 q3 => by simp [Ne.symm q2]; exact g.rest k q1 q2 q3⟩
  | false => exact ⟨h1, h2, by simp [Ne.symm ij]; exact g.ei, by simp only [Bool.false_eq_true, if_false]; exact List.getElem?_set_self (by omega), by simpa using h3, fun k q1 q2 q3 => by simp [Ne.symm q3]; exact g.rest k q1 q2 q3⟩
theorem FlOk.nr {fl : List Flow} (h : FlOk fl) {f : Flow} (hf : f ∈ fl) : notRow f.1 := by
  have := (h f hf).1
  cases e : f.1 with
  | row k => exact this k e
  | name _ _ => trivial
  | cells _ _ _ => trivial
end VL
namespace VL
open PySem PySem.Spec PyProof.Rows L2 RZ
/-! ### the names of rows, with their homes: sorted -/
theorem name_nodotP {s : Str} (h : nameOk s = true) : Txt.startswith s (Str.ofString ".") = false := by
  unfold nameOk at h
  rw [Bool.and_eq_true, Bool.and_eq_true, decide_eq_true_eq, decide_eq_true_eq, List.all_eq_true] at h
  cases e : Txt.startswith s (Str.ofString ".") with
  | false => rfl
  | true =>
    exfalso
    unfold Txt.startswith Builtin.Str.subAt at e
    rw [dot_len, dot_cps] at e
    have h1 : (46 : Nat) ∈ s.cps.toList := by
      simp at e
      have h2 := congrArg Array.toList e.2
      rw [Array.toList_extract] at h2
      have h3 : (46 : Nat) ∈ s.cps.toList.extract 0 1 := by rw [h2]; simp
      simp only [List.extract_eq_take_drop, List.drop_zero] at h3
      exact List.mem_of_mem_take h3
    have := h.2 _ h1
    revert this
    decide +kernel
def partsK : Rw → List Key
  | .doo n a _ b => [.inr n, a, b]
  | .deff _ ps => ps.map .inr
  | .call n _ ops => .inr n :: ops
  | .fail _ => []
  | .give o => [o] | .iff o => [o] | .whil o => [o]
  | .put n o => [.inr n, o]
  | .new n => [.inr n]
  | .get n o k => [.inr n, .inr o, k]
  | .set o k v => [.inr o, k, v]
  | _ => []
def nameK : Key → Option Str
  | .inr s => if Txt.startswith s (Str.ofString ".") = true then none else some s
  | .inl _ => none
def namesR (r : Rw) : List Str := (partsK r).filterMap nameK
theorem parts_len {r : Rw} (h : wfR r) : (partsK r).length ≤ 5 := by
  cases r <;> simp [partsK]
  · have := h.2.1; omega
  · have := h.2.2.1; omega
theorem names_lenR {r : Rw} (h : wfR r) : (namesR r).length ≤ 5 := Nat.le_trans (List.length_filterMap_le _ _) (parts_len h)
theorem names_newR {n : Str} (h : nameOk n = true) : namesR (.new n) = [n] := by
  simp [namesR, partsK, nameK, name_nodotP h]
@[simp] def p__law_names_in : D → (W → Sto → Prop) → Prop := fun a Q => ∃ r : Rw, a = rwD r ∧ wfR r ∧ Q (.loc 0) [.lst ((namesR r).map D.str)]
def w__law_names_in : WS := (wSeq (wIfS (wTest (wOp (fEq false) (wOp fIx (wVar 0) (wC (.int 0))) (wC (.str "do")))) (wAsg (wLst false (wCons (wOp fIx (wVar 0) (wC (.int 1))) (wCons (wOp fIx (wVar 0) (wC (.int 2))) (wCons (wOp fIx (wVar 0) (wC (.int 4))) wNil)))) (wgName 1)) (wIfS (wTest (wOp (fEq false) (wOp fIx (wVar 0) (wC (.int 0))) (wC (.str "def")))) (wAsg (wCall (fList false) (wCons (wOp fIx (wVar 0) (wC (.int 2))) wNil)) (wgName 1)) (wIfS (wTest (wOp (fEq false) (wOp fIx (wVar 0) (wC (.int 0))) (wC (.str "call")))) (wAsg (wOp (fAdd false) (wLst false (wCons (wOp fIx (wVar 0) (wC (.int 1))) wNil)) (wCall (fList false) (wCons (wOp fIx (wVar 0) (wC (.int 3))) wNil))) (wgName 1)) (wIfS (wTest (wOp (fEq false) (wOp fIx (wVar 0) (wC (.int 0))) (wC (.str "fail")))) (wAsg (wLst false wNil) (wgName 1)) (wAsg (wCall (fList false) (wCons (wSl false (wVar 0) (wPart (wC (.int 1))) wNoPart) wNil)) (wgName 1))))))
    (wRet (wLc true (wSeqI (wVar 1)) (wgName 2) (wAnd (wTru (wCall fIsi (wCons (wVar 2) (wCons (wTy "str") wNil)))) (wNot (wTru (wM1 fStarts (wVar 2) (wC (.str ".")))))) (wVar 2) [2])))
@[simp] def sp__law_names_in : PSp := sp1 p__law_names_in
theorem v__law_names_in : ∀ a Q, p__law_names_in a Q → w__law_names_in (evr Q) (startE ["_law_row", "_law_some", "_law_one"] [.d a]) [] := by
  rintro _ Q ⟨r, rfl, wf, hq⟩
  unfold w__law_names_in
  have v0 : ∀ x mu, Is (wVar 0) [some (.d (rwD r)), x, none] mu (.d (rwD r)) := fun x mu => var_is rfl
  refine seq_to [some (.d (rwD r)), some (.d (.lst ((partsK r).map kD))), none] [] (fun K hK => ?_) ?_
  · by_cases c1 : rwW r = "do"
    · obtain ⟨n, a, w, b, rfl⟩ : ∃ n a w b, r = .doo n a w b := by cases r <;> simp at c1; exact ⟨_, _, _, _, rfl⟩
      refine ifS_T (word_is true (v0 _ _) (by simp)) (asg_to _ (fun K hK => ?_) hK)
      simp only [wLst, wCons, wNil]
      refine part_is (i := 1) (v0 _ _) rfl _ (part_is (i := 2) (v0 _ _) rfl _ (part_is (i := 4) (v0 _ _) rfl _ ?_))
      simpa [sizeLine_eq, partsK, asDs] using hK
    refine ifS_F (word_is false (v0 _ _) (by simpa using c1)) ?_
    by_cases c2 : rwW r = "def"
    · obtain ⟨n, ps, rfl⟩ : ∃ n ps, r = .deff n ps := by cases r <;> simp at c2; exact ⟨_, _, rfl⟩
      refine ifS_T (word_is true (v0 _ _) (by simp)) (asg_to _ (fun K hK => ?_) hK)
      simp only [wCall, wCons, wNil]
      refine part_is (i := 2) (v0 _ _) rfl _ ?_
      simpa [partsK, Function.comp_def] using hK
    refine ifS_F (word_is false (v0 _ _) (by simpa using c2)) ?_
    by_cases c3 : rwW r = "call"
    · obtain ⟨n, f, ops, rfl⟩ : ∃ n f ops, r = .call n f ops := by cases r <;> simp at c3; exact ⟨_, _, _, rfl⟩
      refine ifS_T (word_is true (v0 _ _) (by simp)) (asg_to _ (fun K hK => ?_) hK)
      have l4 := wf.2.2.1
      have h1 : Is (wLst false (wCons (wOp fIx (wVar 0) (wC (.int 1))) wNil)) [some (.d (rwD (.call n f ops))), none, none] [] (.d (.lst [.str n])) := fun K hK => by
        simp only [wLst, wCons, wNil]
        refine part_is (i := 1) (v0 _ _) rfl _ ?_
        simpa [sizeLine_eq, asDs] using hK
      have h2 : Is (wCall (fList false) (wCons (wOp fIx (wVar 0) (wC (.int 3))) wNil)) [some (.d (rwD (.call n f ops))), none, none] [] (.d (.lst (ops.map kD))) := fun K hK => by
        simp only [wCall, wCons, wNil]
        refine part_is (i := 3) (v0 _ _) rfl _ ?_
        simpa [asDs_comp] using hK
      exact addF_is (by simp; omega) h1 h2 _ hK
    refine ifS_F (word_is false (v0 _ _) (by simpa using c3)) ?_
    by_cases c4 : rwW r = "fail"
    · obtain ⟨n, rfl⟩ : ∃ n, r = .fail n := by cases r <;> simp at c4; exact ⟨_, rfl⟩
      refine ifS_T (word_is true (v0 _ _) (by simp)) (asg_to _ (fun K hK => ?_) hK)
      simpa [sizeLine_eq, partsK] using hK
    refine ifS_F (word_is false (v0 _ _) (by simpa using c4)) (asg_to _ (fun K hK => ?_) hK)
    simp only [wCall, wSl, wPart, wNoPart, wCons, wNil, wC]
    refine v0 _ _ _ ?_
    have e : cutL (rwL r) (some 1) none = (partsK r).map kD := by
      cases r <;> simp at c1 c2 c3 c4 <;> rfl
    have l1 : (rwL r).length ≠ 0 := by simp [rwL]
    have e2 : HT.sIx (rwL r).length 0 (some 1) ≠ 0 := by
      rw [show (1 : Int) = ((1 : Nat) : Int) from rfl, HT.sIx_nat]
      omega
    simp [rwD, e, e2, asDs_comp]
    exact hK
  · simp only [wRet, wLc, wSeqI]
    refine var_is (i := 1) rfl _ ?_
    simp only [seqW, List.map_map]
    refine lc_A0 (W.d ∘ kD) (fun k => (nameK k).map fun s => W.d (.str s)) trivial (fun k hk A B hA => ?_) ?_
    · cases k with
      | inl i =>
        simp
        exact hA
      | inr s =>
        simp only [nameK] at hA
        cases c : Txt.startswith s (Str.ofString ".") with
        | true =>
          rw [c] at hA
          simp [c]
          exact hA
        | false =>
          rw [c] at hA
          simp [c]
          exact hA
    · have e : (partsK r).filterMap (fun k => (nameK k).map fun s => W.d (.str s)) = ((namesR r).map D.str).map W.d := by
        unfold namesR
        rw [List.map_map, List.map_filterMap]; rfl
      rw [List.nil_append, e]
      simp only [newLW, asDs_map, newL, if_true]
      exact hq
theorem names_inP {a : WE} {rh : Ev} {mu : Sto} {r : Rw} (ha : Is a rh mu (.d (rwD r))) (wf : wfR r) : Is (wCallP false sp__law_names_in [] (wCons a wNil)) rh mu (.d (.lst ((namesR r).map D.str))) :=
  callQ_is (ws := [.d (rwD r)]) (iss1 ha iss0) rfl fun Q q => ⟨r, rfl, wf, q _ _ (by simp)⟩
def pD (ks : List (Nat × Str)) : List (D × W) := ks.map fun k => (tKey k.1 k.2, .d (.bl true))
theorem pD_put (ks : List (Nat × Str)) (k : Nat × Str) : ∃ ks', putN (pD ks) (tKey k.1 k.2) (.d (.bl true)) = pD ks' ∧ ks'.length ≤ ks.length + 1 ∧ ks' ≠ [] := by
  induction ks with
  | nil => exact ⟨[k], rfl, by simp, by simp⟩
  | cons j ks ih =>
    show ∃ ks', (if keq (tKey j.1 j.2) (tKey k.1 k.2) = true then _ else _ :: putN (pD ks) (tKey k.1 k.2) _) = pD ks' ∧ _
    by_cases c : keq (tKey j.1 j.2) (tKey k.1 k.2) = true
    · rw [if_pos c]; exact ⟨j :: ks, rfl, by simp, by simp⟩
    · rw [if_neg c]
      obtain ⟨ks', e, l, _⟩ := ih
      rw [e]
      exact ⟨j :: ks', rfl, by simp; omega, by simp⟩
def kyK (k : Nat × Str) : List Key := [.inl (k.1 : Nat), .inr k.2]
def unKy : List Key → Nat × Str
  | [.inl a, .inr b] => (a.toNat, b)
  | _ => (0, Str.ofString "")
theorem unKy_K (k : Nat × Str) : unKy (kyK k) = k := by obtain ⟨a, b⟩ := k; simp [unKy, kyK]
def srtP (ks : List (Nat × Str)) : List (Nat × Str) := (srtL (ks.map kyK)).map unKy
theorem srtP_perm (ks : List (Nat × Str)) : (srtP ks).Perm ks := by
  have h := (srtL_perm (ks.map kyK)).map unKy
  rw [List.map_map] at h
  have e : (unKy ∘ kyK) = id := funext unKy_K
  rw [e, List.map_id] at h
  exact h
theorem srtP_rows (ks : List (Nat × Str)) : (srtL (ks.map kyK)).map rowD = (srtP ks).map kyD := by
  unfold srtP
  rw [List.map_map]
  refine List.map_congr_left fun x hx => ?_
  obtain ⟨r, _, rfl⟩ := List.mem_map.mp (srtL_mem.mp hx)
  show rowD (kyK r) = kyD (unKy (kyK r))
  rw [unKy_K]; rfl
theorem keys_rows (ks : List (Nat × Str)) : rowsOf (ks.map kyD) = some (ks.map kyK) := by
  have e : ks.map kyD = (ks.map kyK).map rowD := by rw [List.map_map]; rfl
  rw [e, rowsOf_map]
theorem keys_sig (ks : List (Nat × Str)) : ∃ sg, ∀ r ∈ ks.map kyK, RowSig sg r := ⟨[false], fun r hr => by obtain ⟨z, _, rfl⟩ := List.mem_map.mp hr; rfl⟩
@[simp] def p__law_pairs : D → (W → Sto → Prop) → Prop := fun a Q => ∃ (P : List Rw) (pl : List (Str × List Str)) (s : ShS), a = prgD P ∧ Prg P pl s ∧ ∀ ks l mu, ks.length ≤ 1000 → ((∃ n, Rw.new n ∈ P) → ks ≠ []) → mu[l]? = some (.lst (ks.map kyD)) → Q (.loc l) mu
def w__law_pairs : WS := (wSeq (wAsg (wCallP false sp__law_homes [] (wCons (wVar 0) wNil)) (wgName 1))
    (wSeq (wAsg wNNew (wgName 2))
    (wSeq (wFor (wEnum (wCons (wVar 0) wNil)) (wgTup 2 (wgCons (wgName 3) (wgCons (wgName 4) wgNil))) (wFor (wSeqI (wCallP false sp__law_names_in [] (wCons (wVar 4) wNil))) (wgName 5) (wNPut (wVar 2) (wTup (wCons (wOp fIx (wVar 1) (wVar 3)) (wCons (wVar 5) wNil))) (wC (.bl true)))))
    (wRet (wCall (fSortedN true) (wCons (wVar 2) wNil))))))
@[simp] def sp__law_pairs : PSp := sp1 p__law_pairs
theorem v__law_pairs : ∀ a Q, p__law_pairs a Q → w__law_pairs (evr Q) (startE ["_law_program_here", "_law_homes_here", "_law_pairs_here", "_law_k", "_law_row", "_law_name"] [.d a]) [] := by
  rintro _ Q ⟨P, pl, s, rfl, pr, hq⟩
  have hl := pr.g.len
  unfold w__law_pairs
  obtain ⟨H, eH⟩ : ∃ H : D, H = .lst (((List.range P.length).map (homeV (P.map rwD))).map optD) := ⟨_, rfl⟩
  refine seq_to [some (.d (prgD P)), some (.d H), none, none, none, none] [] (fun K hK => asg_to _ (by rw [eH]; exact homes_is (P := P) (by omega) (var_is rfl)) hK) ?_
  refine seq_to [some (.d (prgD P)), some (.d H), some (.loc 0), none, none, none] [.dn none (pD [])] (fun K hK => by simpa [pD] using hK) ?_
  refine seq_R (fun rh mu => ∃ ks x y z, rh = [some (.d (prgD P)), some (.d H), some (.loc 0), x, y, z] ∧ mu = [.dn none (pD ks)] ∧ ks.length ≤ 300 ∧ ((∃ n, Rw.new n ∈ P) → ks ≠ [])) (fun K hK => ?_) ?_
  · refine for_enumP (var_is (i := 0) rfl) (fun k rh mu => ∃ ks x y z, rh = [some (.d (prgD P)), some (.d H), some (.loc 0), x, y, z] ∧ mu = [.dn none (pD ks)] ∧ ks.length ≤ 5 * k ∧ ∀ i n, i < k → P[i]? = some (.new n) → ks ≠ []) ?_ ?_ ⟨[], none, none, none, rfl, rfl, by simp, fun i n h => by omega⟩
    · rintro _ _ ⟨ks, x, y, z, rfl, rfl, l, h⟩
      refine hK _ _ ⟨ks, x, y, z, rfl, rfl, by omega, fun ⟨n, hn⟩ => ?_⟩
      obtain ⟨i, hi⟩ := List.mem_iff_getElem?.mp hn
      exact h i n (List.getElem?_eq_some_iff.mp hi).1 hi
    · rintro k r hr _ _ ⟨ks, x, y, z, rfl, rfl, l, h⟩ N hN
      have hk := (List.getElem?_eq_some_iff.mp hr).1
      have wf := pr.g.wf r (List.mem_of_getElem? hr)
      have nl := names_lenR wf
      refine tup2_to ?_
      show wFor _ _ _ _ _ _
      refine for_lstM (names_inP (r := r) (var_is rfl) wf) ?_
      refine forL_S (fun n => .d (.str n)) (fun xs rh mu => ∃ (done : List Str) (ks' : List (Nat × Str)) (z : Option W), namesR r = done ++ xs ∧ rh = [some (.d (prgD P)), some (.d H), some (.loc 0), some (.d (.int (k : Nat))), some (.d (rwD r)), z] ∧ mu = [.dn none (pD ks')] ∧ ks'.length ≤ 5 * k + done.length ∧ (ks ≠ [] → ks' ≠ []) ∧ (done ≠ [] → ks' ≠ [])) (fun _ _ _ _ => trivial) ?_ ?_ ⟨[], ks, z, rfl, rfl, rfl, by simpa using l, fun q => q, fun q => absurd rfl q⟩
      · rintro _ _ ⟨done, ks', z, e, rfl, rfl, l', g1, g2⟩
        rw [List.append_nil] at e
        refine hN _ _ ⟨ks', _, _, _, rfl, rfl, by rw [e] at nl; omega, fun i n hi hn => ?_⟩
        by_cases c : i = k
        · subst c
          rw [hr] at hn
          cases hn
          have : nameOk n = true := wf
          rw [names_newR this] at e
          exact g2 (by rw [← e]; simp)
        · exact g1 (h i n (by omega) hn)
      · rintro n xs _ _ ⟨done, ks', z, e, rfl, rfl, l', g1, g2⟩ M hM
        obtain ⟨h', hv⟩ : ∃ h', homeV (P.map rwD) k = some h' := by
          cases c : homeV (P.map rwD) k with
          | some h' => exact ⟨h', rfl⟩
          | none =>
            exfalso
            have := pr.d.sk k hk c
            rw [wA_rw hr] at this
            have : rwW r = "skip" := by simpa using this
            cases r <;> simp at this
            simp [namesR, partsK] at e
        have hat : ((List.range P.length).map (homeV (P.map rwD)))[k]? = some (some h') := by simp [hk, hv]
        have hi : Is (wOp fIx (wVar 1) (wVar 3)) [some (.d (prgD P)), some (.d H), some (.loc 0), some (.d (.int (k : Nat))), some (.d (rwD r)), some (.d (.str n))] [.dn none (pD ks')] (.d (.int (h' : Nat))) := ix_lst (by rw [eH]; exact var_is rfl) (var_is rfl) (atI_map2 optD hat)
        obtain ⟨ks2, e2, l2, n2⟩ := pD_put ks' (h', n)
        have el : namesR r = (done ++ [n]) ++ xs := by rw [e]; simp
        have ll := congrArg List.length el
        simp at ll
        refine nput_to 0 (pD ks') (tKey h' n) (.d (.bl true)) (int_is _) (var_is rfl) (tup2_is hi (var_is rfl)) rfl (keyOk_t _ _) (by rw [sizeLine_eq]; simp [pD]; omega) (hM _ _ ⟨done ++ [n], ks2, _, el, rfl, by rw [e2]; rfl, by simp; omega, fun _ => n2, fun _ => n2⟩)
  rintro _ _ ⟨ks, x, y, z, rfl, rfl, l, h⟩
  have pl := (srtP_perm ks).length_eq
  simp only [wRet, wCall, wCons, wNil]
  refine var_is (i := 2) rfl _ ?_
  have e1 : (pD ks).map (·.1) = ks.map kyD := by unfold pD; rw [List.map_map]; rfl
  have fin := hq (srtP ks) 1 [.dn none (pD ks), .lst ((srtP ks).map kyD)] (by omega) (fun q e => h q (List.length_eq_zero_iff.mp (by rw [← pl, e]; rfl))) rfl
  show fSortedN true _ _ _
  simp only [fSortedN, getN, List.getElem?_cons_zero, e1, keys_rows, newL, if_true]
  refine ⟨by rw [sizeLine_eq]; simp; omega, keys_sig ks, ?_⟩
  rw [srtP_rows]
  exact fin
/-! the new rows; what is drawn from lists; seeds -/
def isNewR : Rw → Bool
  | .new _ => true
  | _ => false
def newsI (P : List Rw) : List Nat := (P.zipIdx.filter fun p => isNewR p.1).map (·.2)
theorem newsI_in {P : List Rw} {k : Nat} (h : k ∈ newsI P) : k < P.length ∧ ∃ n, P[k]? = some (.new n) := by
  unfold newsI at h
  obtain ⟨⟨r, j⟩, hp, rfl⟩ := List.mem_map.mp h
  obtain ⟨h1, h2⟩ := List.mem_filter.mp hp
  rw [List.mem_zipIdx_iff_getElem?] at h1
  simp only at h1 h2 ⊢
  have := (List.getElem?_eq_some_iff.mp h1).1
  cases r <;> simp [isNewR] at h2
  exact ⟨this, _, h1⟩
theorem newsI_has {P : List Rw} (h : newsI P ≠ []) : ∃ n, Rw.new n ∈ P := by
  cases e : newsI P with
  | nil => exact absurd e h
  | cons k r =>
    obtain ⟨_, n, hn⟩ := newsI_in (P := P) (k := k) (by rw [e]; simp)
    exact ⟨n, List.mem_of_getElem? hn⟩
theorem enumW_zip {A1 : Type} (f : A1 → D) : ∀ (xs : List A1) (n : Nat), enumW n (xs.map fun x => W.d (f x)) = (xs.zipIdx n).map fun p => W.d (.tup [.int (p.2 : Nat), f p.1])
  | [], n => rfl
  | x :: xs, n => by
    rw [List.map_cons, enumW, enumW_zip f xs (n + 1), List.zipIdx_cons, List.map_cons]
    simp [mkTup, asDs]
theorem newsC_to {o : Bool} {a : WE} {u v : Nat} {rh : Ev} {mu : Sto} {P : List Rw} {Q : W → Sto → Prop} (ha : Is a rh mu (.d (prgD P))) (h1 : ∀ x y : W, (((wipeE rh [u, v]).set u (some x)).set v (some y))[u]? = some (some x)) (h2 : ∀ x y : W, (((wipeE rh [u, v]).set u (some x)).set v (some y))[v]? = some (some y))
    (q : newLW o (((newsI P).map fun k : Nat => D.int (k : Nat)).map W.d) mu Q) : wLc o (wEnum (wCons a wNil)) (wgTup 2 (wgCons (wgName u) (wgCons (wgName v) wgNil))) (wTest (wOp (fEq false) (wOp fIx (wVar v) (wC (.int 0))) (wC (.str (Str.ofString "new"))))) (wVar u) [u, v] rh mu Q := by
  simp only [wLc, wEnum, wCons, wNil]
  refine ha _ ⟨rfl, ?_⟩
  simp only [prgD, seqW, List.map_map]
  have e : enumW 0 (P.map (W.d ∘ rwD)) = P.zipIdx.map fun p => W.d (.tup [.int (p.2 : Nat), rwD p.1]) := enumW_zip rwD P 0
  rw [e]
  refine lc_AF (fun p : Rw × Nat => W.d (.tup [.int (p.2 : Nat), rwD p.1])) (fun p => isNewR p.1) (fun p => W.d (.int (p.2 : Nat))) trivial (fun p hp A B hA => ?_) ?_
  · refine tup2_to ?_
    refine word_is (r := p.1) (isNewR p.1) (var_is (h2 _ _)) (by cases p.1 <;> simp [isNewR]) _ ?_
    by_cases c : isNewR p.1 = true
    · rw [if_pos c] at hA ⊢
      exact var_is (h1 _ _) _ hA
    · rw [if_neg c] at hA ⊢
      exact hA
  · have e2 : (P.zipIdx.filter fun p => isNewR p.1).map (fun p => W.d (.int (p.2 : Nat))) = ((newsI P).map fun k : Nat => D.int (k : Nat)).map W.d := by
      unfold newsI
      rw [List.map_map, List.map_map]; rfl
    rw [e2]; exact q
theorem noneT_is {a : WE} {rh : Ev} {mu : Sto} {xs : List Nat} (ha : Is a rh mu (.d (.lst (xs.map fun k : Nat => D.int (k : Nat))))) : IsB (wTest (wOp (fEq true) a (wLst false wNil))) rh mu (decide (xs ≠ [])) := fun K hK => by
  simp only [wTest, wOp]
  refine ha _ ?_
  cases xs with
  | nil => simpa [sizeLine_eq, onBl] using hK
  | cons x xs =>
    have : ddeps (xs.map fun k : Nat => D.int (k : Nat)) = 0 := by clear ha hK; induction xs with | nil => rfl | cons y ys ih => simp [ih]
    simp [sizeLine_eq, onBl, this]
    simpa using hK
theorem pick_is {A1 : Type} (f : A1 → D) {xs : List A1} {a i : WE} {rh : Ev} {mu : Sto} {z : Int} (ha : Is a rh mu (.d (.lst (xs.map f)))) (hi : Is i rh mu (.d (.int z))) (h0 : 0 ≤ z) (ne : xs ≠ []) : ∃ x ∈ xs, Is (wOp fIx a (wOp (fI CR0 gMod) i (wCall fLen (wCons a wNil)))) rh mu (.d (f x)) := by
  have lp : 0 < xs.length := List.length_pos_iff.mpr ne
  have hb : (z % (xs.length : Int)).toNat < xs.length := by
    have h1 := Int.emod_lt_of_pos z (show (0 : Int) < xs.length by omega)
    have h2 := Int.emod_nonneg z (show (xs.length : Int) ≠ 0 by omega)
    omega
  refine ⟨xs[(z % (xs.length : Int)).toNat], List.getElem_mem _, ?_⟩
  refine ix_lst ha (i := z % (xs.length : Int)) (op_to _ (.d (.int (xs.length : Nat))) _ hi (fun K hK => ?_) fun K hK => ?_) ?_
  · simp only [wCall, wCons, wNil]
    refine ha _ ?_
    simpa using hK
  · have h1 : xs ≠ [] := ne
    have h2 := gMod_pos (i := z) (show (0 : Int) < (xs.length : Int) by omega)
    simp [h1]
    rw [h2]
    exact hK
  · have e := atI_map2 f (List.getElem?_eq_getElem hb)
    have h2 := Int.emod_nonneg z (show (xs.length : Int) ≠ 0 by omega)
    rw [Int.toNat_of_nonneg h2] at e
    exact e
/-- ["#", "." + words[0], "." + words[1]][..] -/
theorem kind3_is {ws : List Str} {a i : WE} {rh : Ev} {mu : Sto} {z : Int} (ha : Is a rh mu (.d (.lst (ws.map D.str)))) (hi : Is i rh mu (.d (.int z))) (h0 : 0 ≤ z) (h3 : z < 3) (l : 2 ≤ ws.length) (hg : ∀ w ∈ ws, goodW w) :
    ∃ c : Str, Is (wOp fIx (wLst false (wCons (wC (.str (Str.ofString "#"))) (wCons (wOp (fAdd false) (wC (.str (Str.ofString "."))) (wOp fIx a (wC (.int 0)))) (wCons (wOp (fAdd false) (wC (.str (Str.ofString "."))) (wOp fIx a (wC (.int 1)))) wNil)))) i) rh mu (.d (.str c)) := by
  obtain ⟨x0, hx0, e0⟩ := at_word (ws := ws) (i := 0) (n := 2) (by omega) (by omega) (by omega)
  obtain ⟨x1, hx1, e1⟩ := at_word (ws := ws) (i := 1) (n := 2) (by omega) (by omega) (by omega)
  have g0 := (hg x0 (List.mem_of_mem_take hx0)).2.1
  have g1 := (hg x1 (List.mem_of_mem_take hx1)).2.1
  have dot : ∀ {x : Str} {j : Int}, x.length ≤ 8 → atI (ws.map D.str) j = some (.str x) → Is (wOp (fAdd false) (wC (.str (Str.ofString "."))) (wOp fIx a (wC (.int j)))) rh mu (.d (.str (Str.ofString "." ++ x))) := fun {x j} hx e => op_to _ _ _ (int_is _) (ix_lst ha (int_is _) e) fun K hK => by
    simp [sizeLine_eq]
    refine ⟨?_, hK⟩
    show 1 + x.length ≤ 16777216
    omega
  have hl : Is (wLst false (wCons (wC (.str (Str.ofString "#"))) (wCons (wOp (fAdd false) (wC (.str (Str.ofString "."))) (wOp fIx a (wC (.int 0)))) (wCons (wOp (fAdd false) (wC (.str (Str.ofString "."))) (wOp fIx a (wC (.int 1)))) wNil)))) rh mu (.d (.lst ([Str.ofString "#", Str.ofString "." ++ x0, Str.ofString "." ++ x1].map D.str))) := fun K hK => by
    simp only [wLst, wCons, wNil, wC]
    refine dot g0 e0 _ (dot g1 e1 _ ?_)
    simpa [sizeLine_eq, asDs] using hK
  have hb : z.toNat < [Str.ofString "#", Str.ofString "." ++ x0, Str.ofString "." ++ x1].length := by simp; omega
  refine ⟨[Str.ofString "#", Str.ofString "." ++ x0, Str.ofString "." ++ x1][z.toNat], ix_lst hl hi ?_⟩
  have e := atI_map2 D.str (List.getElem?_eq_getElem hb)
  rw [Int.toNat_of_nonneg h0] at e
  exact e
/-- tables of rows below sixty -/
structure TabS (T : Tab) : Prop where
  ok : TabOk T
  lt : ∀ h w b, (tOf T h w).testBit b = true → b < 60
theorem TabS.nil : TabS [] := ⟨.nil, fun h w b q => by unfold tOf tGet at q; simp at q⟩
theorem TabS.put {T : Tab} (t : TabS T) {k : Nat} (hk : k < 60) (h : Nat) (w : Str) : TabS (tPut T h w (tOf T h w ||| 2 ^ k)) where
  ok := t.ok.put (or_lt64 (t.ok.of_lt _ _) (Nat.pow_lt_pow_right (by decide) (by omega))) (or_ne0 (by have := Nat.two_pow_pos k; omega))
  lt := fun a x b q => by
    rw [tOf_put] at q
    split at q
    · rw [Nat.testBit_or, Bool.or_eq_true, Nat.testBit_two_pow] at q
      rcases q with q | q
      · exact t.lt _ _ _ q
      · simp at q; omega
    · exact t.lt _ _ _ q
theorem TabS.xt {N C : Tab} (n : TabS N) (c : TabS C) (k : Bool) (h : Nat) (w : Str) (b : Nat) (q : XT N C k h w b) : b < 60 := by
  cases k
  · exact n.lt _ _ _ q
  · exact c.lt _ _ _ q
/-- 1 << k -/
theorem shl_is {a : WE} {rh : Ev} {mu : Sto} {k : Nat} (ha : Is a rh mu (.d (.int (k : Nat)))) (hk : k < 64) : Is (wOp (fI CShl fun i j => i * 2 ^ j.toNat) (wC (.int 1)) a) rh mu (.d (.int ((2 ^ k : Nat) : Nat))) := op_to _ _ _ (int_is _) ha fun K hK => by
  simp [shl63 (show k ≤ 63 by omega)]
  simpa using hK
/-- t[key] = t.get(key, 0) | some -/
theorem seed_to {o i v : WE} {V : EV} {rh : Ev} {mu : Sto} {l : Nat} {T : Tab} {h n : Nat} {w : Str} (ho : Is o rh mu (.loc l)) (hi : Is i rh mu (.d (tKey h w))) (hv : Is v rh mu (.d (.int (n : Nat)))) (e : mu[l]? = some (.dn none (tN T))) (hl : T.length < sizeLine)
    (q : V.nx rh (mu.set l (.dn none (tN (tPut T h w (tOf T h w ||| n)))))) : wNPut o i (wOp (fI0 Builtin.bitOr) (wNGet2 o i (wC (.int 0))) v) V rh mu :=
  nputT_to l T h w (tOf T h w ||| n) (op_to _ _ _ (nget2_is ho hi (int_is _) e) hv fun K hK => by simpa using hK) ho hi e hl q
theorem rowF_row {P : List Rw} {ends : List (Option Nat)} {home k : Nat} {r : Rw} : ∀ f ∈ rowF P ends home k r, (∀ j, f.1 ≠ .row j) ∧ ∀ j, f.2 = .row j → j = k := by
  have hg : ∀ (n : Str) (t : Nat) (o : Key), ∀ f ∈ givF home n t o, (∀ j, f.1 ≠ .row j) ∧ ∀ j, f.2 = .row j → j = k := fun n t o f hf => by
    cases o <;> simp [givF] at hf
    subst hf; simp
  have ha : ∀ (t : Nat) (ps : List Str) (ops : List Key), ∀ f ∈ argF t home ps ops, (∀ j, f.1 ≠ .row j) ∧ ∀ j, f.2 = .row j → j = k := fun t ps ops f hf => by
    unfold argF at hf
    obtain ⟨⟨p, o⟩, _, e⟩ := List.mem_filterMap.mp hf
    cases o <;> simp at e
    subst e; simp
  intro f hf
  cases r with
  | call n g ops =>
    rcases List.mem_append.mp hf with hf | hf
    · exact ha _ _ _ f hf
    · exact hg _ _ _ f hf
  | put n o => cases o <;> simp [rowF] at hf; subst hf; simp
  | set o k v => cases v <;> simp [rowF] at hf; subst hf; simp
  | new n => simp [rowF] at hf; subst hf; simp
  | get n o k => simp [rowF] at hf; subst hf; simp
  | _ => simp [rowF] at hf
theorem flowsP_60 {P : List Rw} {s : ShS} (hl : P.length ≤ 60) : FlOk (flowsP P s) := fun f hf => by
  unfold flowsP at hf
  obtain ⟨k, hk, hf⟩ := List.mem_flatMap.mp hf
  rw [List.mem_range] at hk
  unfold flowsAt at hf
  split at hf
  · obtain ⟨h1, h2⟩ := rowF_row f hf
    exact ⟨h1, fun j e => by have := h2 j e; omega⟩
  · cases hf
end VL
namespace VL
open PySem PySem.Spec PyProof.Rows L2 RZ
/-! ### the program's closed -/
theorem tPut_fresh : ∀ {T : Tab} {h : Nat} {w : Str} {v : Nat}, (h, w) ∉ tKeys T → tPut T h w v = T ++ [(h, w, v)]
  | [], _, _, _, _ => rfl
  | (a, b, c) :: r, h, w, v, hn => by
    have h1 : ¬ (a = h ∧ b = w) := fun ⟨e1, e2⟩ => hn (by subst e1 e2; simp [tKeys])
    have h2 : (h, w) ∉ tKeys r := fun z => hn (by simp [tKeys] at z ⊢; exact .inr z)
    rw [tPut, if_neg h1, tPut_fresh h2]; rfl
theorem tOf_srtC {T : Tab} (nd : (tKeys T).Nodup) (h : Nat) (w : Str) : tOf (srtT T) h w = tOf T h w := by
  unfold tOf
  rw [tGet_perm (srtT_perm T).symm nd]
theorem tabOk_perm {T T' : Tab} (p : T'.Perm T) (t : TabOk T) : TabOk T' := by
  refine ⟨?_, ?_, ?_⟩
  · exact ((p.map _).nodup_iff).mpr t.nd
  · exact fun r hr => t.lt r (p.mem_iff.mp hr)
  · exact fun r hr => t.nz r (p.mem_iff.mp hr)
def Clo1 (N C : Tab) (f : Flow) : Prop := ∀ b, Src (XT N C) f.2 b → ∀ k h w, Goal (XT N C) f.1 k h w → XT N C k h w b
@[simp] def p_closed : D → D → (W → Sto → Prop) → Prop := fun a b Q => ∃ (P : List Rw) (s : ShS) (N C : Tab), a = prgD P ∧ b = .tup [.lst (tabL N), .lst (tabL C)] ∧ GoodPr P s ∧ TabOk N ∧ TabOk C ∧ N.length + C.length ≤ 500000 ∧ ∀ (r : Bool) mu, (r = true ↔ ClosedF (flowsP P s) (XT N C)) → Q (.d (.bl r)) mu
def w_closed : WS := (wSeq (wAsg (wMake "Draft" sp_Draft_init wNil) (wgName 2))
    (wSeq (wFor (wSeqI (wOp fIx (wVar 1) (wC (.int 0)))) (wgTup 3 (wgCons (wgName 3) (wgCons (wgName 4) (wgCons (wgName 5) wgNil)))) (wNPut (wFld cn_names "names" (wVar 2)) (wTup (wCons (wVar 3) (wCons (wVar 4) wNil))) (wVar 5)))
    (wSeq (wFor (wSeqI (wOp fIx (wVar 1) (wC (.int 1)))) (wgTup 3 (wgCons (wgName 6) (wgCons (wgName 7) (wgCons (wgName 5) wgNil)))) (wNPut (wFld cn_cells "cells" (wVar 2)) (wTup (wCons (wVar 6) (wCons (wVar 7) wNil))) (wVar 5)))
    (wSeq (wFor (wSeqI (wCallP false sp_all_flows [] (wCons (wVar 0) wNil))) (wgTup 2 (wgCons (wgName 8) (wgCons (wgName 9) wgNil))) (wIfS (wTru (wMeth tab_grown "grown" (wVar 2) (wCons (wVar 8) (wCons (wMeth tab_had_by "had_by" (wVar 2) (wCons (wVar 9) wNil)) wNil)))) (wRet (wC (.bl false))) wNext))
    (wRet (wC (.bl true)))))))
@[simp] def sp_closed : PSp := sp2 p_closed
theorem xt_len {N C N' C' : Tab} (tn : TabOk N) (tc : TabOk C) (tn' : TabOk N') (tc' : TabOk C') (h : ∀ k a w b, XT N' C' k a w b ↔ XT N C k a w b) : N'.length = N.length ∧ C'.length = C.length := by
  refine ⟨(tab_same tn' tn fun a w => tOf_bits fun b => ?_).length_eq, (tab_same tc' tc fun a w => tOf_bits fun b => ?_).length_eq⟩
  · exact h false a w b
  · exact h true a w b
theorem clo_iff {N C N' C' : Tab} {f : Flow} (h : ∀ k a w b, XT N' C' k a w b ↔ XT N C k a w b) : Clo1 N' C' f ↔ Clo1 N C f := by
  have e : XT N' C' = XT N C := funext fun k => funext fun a => funext fun w => funext fun b => propext (h k a w b)
  unfold Clo1
  rw [e]
theorem grown_clo {g : Flow} {N C : Tab} (tn : TabOk N) (h : (grownT g.1 (hadT N C g.2) N C).2.2 = false) : Clo1 N C g ∧ ∀ k a w b, XT (grownT g.1 (hadT N C g.2) N C).1 (grownT g.1 (hadT N C g.2) N C).2.1 k a w b ↔ XT N C k a w b := by
  obtain ⟨s1, s2⟩ := grown_sem (g := g.1) (s := hadT N C g.2) (C := C) tn
  have no : ¬ ∃ k h w b, Goal (XT N C) g.1 k h w ∧ (hadT N C g.2).testBit b = true ∧ ¬ XT N C k h w b := fun z => by
    rw [s2.mpr z] at h; cases h
  have c : Clo1 N C g := fun b hb k a w hg => Classical.byContradiction fun q => no ⟨k, a, w, b, hg, (had_bit tn g.2 b).mpr hb, q⟩
  exact ⟨c, fun k a w b => ⟨fun q => by
    rcases (s1 k a w b).mp q with q | ⟨q1, q2⟩
    · exact q
    · exact c b ((had_bit tn g.2 b).mp q2) k a w q1, fun q => (s1 k a w b).mpr (.inl q)⟩⟩
theorem grown_not {g : Flow} {N C : Tab} (tn : TabOk N) (h : (grownT g.1 (hadT N C g.2) N C).2.2 = true) : ¬ Clo1 N C g := fun c => by
  obtain ⟨s1, s2⟩ := grown_sem (g := g.1) (s := hadT N C g.2) (C := C) tn
  obtain ⟨k, a, w, b, q1, q2, q3⟩ := s2.mp h
  exact q3 (c b ((had_bit tn g.2 b).mp q2) k a w q1)
theorem v_closed : ∀ a b Q, p_closed a b Q → w_closed (evr Q) (startE ["program", "table", "draft", "home", "name", "some", "row", "kind", "goal", "origin"] [.d a, .d b]) [] := by
  rintro _ _ Q ⟨P, s, N, C, rfl, rfl, g, tn, tc, hl, hq⟩
  have fo := flowsP_ok (s := s) g.len
  have pN := srtT_perm N
  have pC := srtT_perm C
  have tn1 := tabOk_perm pN tn
  have tc1 := tabOk_perm pC tc
  have xt : ∀ k a w b, XT (srtT N) (srtT C) k a w b ↔ XT N C k a w b := fun k a w b => by
    cases k
    · show (tOf (srtT N) a w).testBit b = true ↔ (tOf N a w).testBit b = true
      rw [tOf_srtC tn.nd]
    · show (tOf (srtT C) a w).testBit b = true ↔ (tOf C a w).testBit b = true
      rw [tOf_srtC tc.nd]
  have lN := pN.length_eq
  have lC := pC.length_eq
  unfold w_closed
  refine seq_to [some (.d (prgD P)), some (.d (.tup [.lst (tabL N), .lst (tabL C)])), some (.loc 0), none, none, none, none, none, none, none] (drM [] []) (fun K hK => ?_) ?_
  · simp
    exact hK
  refine seq_R (fun rh mu => ∃ a b c, rh = [some (.d (prgD P)), some (.d (.tup [.lst (tabL N), .lst (tabL C)])), some (.loc 0), a, b, c, none, none, none, none] ∧ mu = drM (srtT N) []) (fun K hK => ?_) ?_
  · refine for_lstM (f := trD) (xs := srtT N) (ix_tup (var_is (i := 1) rfl) (int_is _) (by simp; rfl)) ?_
    refine forL_S (fun r => .d (trD r)) (fun xs rh mu => ∃ done a b c, srtT N = done ++ xs ∧ rh = [some (.d (prgD P)), some (.d (.tup [.lst (tabL N), .lst (tabL C)])), some (.loc 0), a, b, c, none, none, none, none] ∧ mu = drM done []) (fun _ _ _ _ => trivial) (fun rh mu ⟨done, a, b, c, e, h1, h2⟩ => hK rh mu ⟨a, b, c, h1, by rw [h2, e, List.append_nil]⟩) ?_ ⟨[], none, none, none, rfl, rfl, rfl⟩
    rintro ⟨x, y, v⟩ xs _ _ ⟨done, a, b, c, e, rfl, rfl⟩ X hX
    refine tup3_to ?_
    have nd := tn1.nd
    rw [e] at nd
    have fr : (x, y) ∉ tKeys done := fun z => by
      simp only [tKeys, List.map_append, List.map_cons] at nd z
      exact (List.nodup_append.mp nd).2.2 _ z _ (by simp) rfl
    have ln : done.length ≤ N.length := by rw [← lN, e]; simp
    refine nputT_to 1 done x y v (var_is (i := 5) rfl) (fld_names0 rfl) (key_is (N := N) (C := C) (i := 3) (j := 4) rfl rfl) rfl (by rw [sizeLine_eq]; omega) (hX _ _ ⟨done ++ [(x, y, v)], _, _, _, by rw [e]; simp, rfl, ?_⟩)
    rw [tPut_fresh fr]
    rfl
  rintro _ _ ⟨a, b, c, rfl, rfl⟩
  refine seq_R (fun rh mu => ∃ a b c d e, rh = [some (.d (prgD P)), some (.d (.tup [.lst (tabL N), .lst (tabL C)])), some (.loc 0), a, b, c, d, e, none, none] ∧ mu = drM (srtT N) (srtT C)) (fun K hK => ?_) ?_
  · refine for_lstM (f := trD) (xs := srtT C) (ix_tup (var_is (i := 1) rfl) (int_is _) (by simp; rfl)) ?_
    refine forL_S (fun r => .d (trD r)) (fun xs rh mu => ∃ done a b c d e', srtT C = done ++ xs ∧ rh = [some (.d (prgD P)), some (.d (.tup [.lst (tabL N), .lst (tabL C)])), some (.loc 0), a, b, c, d, e', none, none] ∧ mu = drM (srtT N) done) (fun _ _ _ _ => trivial) (fun rh mu ⟨done, a, b, c, d, e', e, h1, h2⟩ => hK rh mu ⟨a, b, c, d, e', h1, by rw [h2, e, List.append_nil]⟩) ?_ ⟨[], a, b, c, none, none, rfl, rfl, rfl⟩
    rintro ⟨x, y, v⟩ xs _ _ ⟨done, a, b, c, d, e', e, rfl, rfl⟩ X hX
    refine tup3_to ?_
    have nd := tc1.nd
    rw [e] at nd
    have fr : (x, y) ∉ tKeys done := fun z => by
      simp only [tKeys, List.map_append, List.map_cons] at nd z
      exact (List.nodup_append.mp nd).2.2 _ z _ (by simp) rfl
    have ln : done.length ≤ C.length := by rw [← lC, e]; simp
    refine nputT_to 2 done x y v (var_is (i := 5) rfl) (fld_cells0 rfl) (key_is (N := N) (C := C) (i := 6) (j := 7) rfl rfl) rfl (by rw [sizeLine_eq]; omega) (hX _ _ ⟨done ++ [(x, y, v)], _, _, _, _, _, by rw [e]; simp, rfl, ?_⟩)
    rw [tPut_fresh fr]
    rfl
  rintro _ _ ⟨a, b, c, d, e, rfl, rfl⟩
  refine seq_R (fun rh mu => ClosedF (flowsP P s) (XT N C)) (fun K hK => ?_) (fun rh mu hc => ret_to (.d (.bl true)) (int_is _) (hq true _ ⟨fun _ => hc, fun _ => rfl⟩))
  refine for_lstM (f := flD) (xs := flowsP P s) (callF_is (ws := [.d (prgD P)]) (iss1 (var_is (i := 0) rfl) iss0) rfl (w0 := .loc 5) (mu0 := shC [] s ++ [.lst ((flowsP P s).map flD)]) (fun Q' q => ⟨P, s, rfl, g, q⟩) (by simp [shC])) ?_
  refine forL_S (fun f => .d (flD f)) (fun xs rh mu => ∃ (N' C' : Tab) (done : List Flow) (x y : Option W), flowsP P s = done ++ xs ∧ TabOk N' ∧ TabOk C' ∧ (∀ k a w b, XT N' C' k a w b ↔ XT N C k a w b) ∧ (∀ f ∈ done, Clo1 N C f) ∧ mu = drM N' C' ∧ rh = [some (.d (prgD P)), some (.d (.tup [.lst (tabL N), .lst (tabL C)])), some (.loc 0), a, b, c, d, e, x, y]) (fun _ _ _ _ => trivial) ?_ ?_ ⟨srtT N, srtT C, [], none, none, rfl, tn1, tc1, xt, fun f hf => (by cases hf), rfl, rfl⟩
  · rintro _ _ ⟨N', C', done, x, y, e1, _, _, _, cl, rfl, rfl⟩
    rw [List.append_nil] at e1
    exact hK _ _ (fun f hf => cl f (by rw [← e1]; exact hf))
  · rintro ⟨gl, og⟩ xs _ _ ⟨N', C', done, x, y, e1, t1, t2, xt', cl, rfl, rfl⟩ X hX
    refine tup2_to ?_
    have hm : (gl, og) ∈ flowsP P s := by rw [e1]; simp
    obtain ⟨nr, po⟩ := fo _ hm
    obtain ⟨l1, l2⟩ := xt_len tn tc t1 t2 xt'
    have gr : ∀ {K : Bool → Sto → Prop}, K (grownT gl (hadT N' C' og) N' C').2.2 (drM (grownT gl (hadT N' C' og) N' C').1 (grownT gl (hadT N' C' og) N' C').2.1) → (wTru (wMeth tab_grown "grown" (wVar 2) (wCons (wVar 8) (wCons (wMeth tab_had_by "had_by" (wVar 2) (wCons (wVar 9) wNil)) wNil)))) [some (.d (prgD P)), some (.d (.tup [.lst (tabL N), .lst (tabL C)])), some (.loc 0), a, b, c, d, e, some (.d (plD gl)), some (.d (plD og))] (drM N' C') K := fun {K} h => by
      refine grown_is (N := N') (C := C') (i := 2) (j := 8) t1 nr (by omega) rfl rfl (had_is (i := 2) (j := 9) t1 po rfl rfl) ?_
      simpa using h
    cases cc : (grownT gl (hadT N' C' og) N' C').2.2 with
    | false =>
      obtain ⟨c1, c2⟩ := grown_clo (g := (gl, og)) t1 cc
      obtain ⟨o1, o2⟩ := grown_ok (g := gl) t1 t2 (had_lt t1 t2 po)
      refine gr ?_
      rw [cc]
      exact hX _ _ ⟨_, _, done ++ [(gl, og)], _, _, by rw [e1]; simp, o1, o2, fun k a w b => (c2 k a w b).trans (xt' k a w b), fun f hf => by
        rcases List.mem_append.mp hf with hf | hf
        · exact cl f hf
        · rw [List.mem_singleton] at hf; subst hf; exact (clo_iff xt').mp c1, rfl, rfl⟩
    | true =>
      have c1 := grown_not (g := (gl, og)) t1 cc
      refine gr ?_
      rw [cc]
      exact hq false _ ⟨fun z => (by cases z), fun z => absurd (fun b hb => z _ hm b hb) (fun q => c1 ((clo_iff xt').mpr q))⟩
end VL
namespace VL
open PySem PySem.Spec PyProof.Rows L2 RZ
/-! ### law k24: closed tables -/
theorem has_60 {fl : List Flow} (ok : FlOk fl) {k : Bool} {h : Nat} {w : Str} {b : Nat} (q : Has fl k h w b) : b < 60 := by
  refine q (fun _ _ _ b => b < 60) fun f hf b hs k h w hg => ?_
  cases e : f.2 with
  | row r => rw [e] at hs; cases hs; exact (ok f hf).2 _ e
  | name a n => rw [e] at hs; exact hs
  | cells a n c => rw [e] at hs; obtain ⟨r, _, h2⟩ := hs; exact h2
theorem has_keys {fl : List Flow} {N1 C1 : Tab} (l : Least fl N1 C1) : N1.length ≤ fl.length ∧ C1.length ≤ 64 * fl.length := by
  have key : ∀ k h w b, Has fl k h w b → (k = false → (h, w) ∈ gN fl) ∧ (k = true → (h, w) ∈ gC fl) := fun k h w b q => by
    refine (q (fun k h w b => Has fl k h w b ∧ ((k = false → (h, w) ∈ gN fl) ∧ (k = true → (h, w) ∈ gC fl))) fun f hf b' hs k h w hg => ?_).2
    refine ⟨has_closed fl f hf b' (hs.mono fun _ _ _ _ q => q.1) k h w (hg.mono fun _ _ _ _ q => q.1), ?_⟩
    cases e : f.1 with
    | row r => rw [e] at hg; exact hg.elim
    | name a n =>
      rw [e] at hg
      obtain ⟨rfl, rfl, rfl⟩ := hg
      refine ⟨fun _ => ?_, fun z => by cases z⟩
      unfold gN
      rw [List.mem_filterMap]
      exact ⟨f, hf, by rw [e]⟩
    | cells a n c =>
      rw [e] at hg
      obtain ⟨rfl, rfl, hh⟩ := hg
      refine ⟨fun z => (by cases z), fun _ => ?_⟩
      have h64 : h < 64 := l.n.bit_lt (h := a) (w := n) ((l.eq false a n h).mpr hh.1)
      unfold gC
      rw [List.mem_flatMap]
      refine ⟨f, hf, ?_⟩
      unfold gC1
      rw [e]
      exact List.mem_map.mpr ⟨h, List.mem_range.mpr h64, rfl⟩
  have sub : ∀ {T : Tab} {L : List (Nat × Str)}, TabOk T → (∀ h w b, (tOf T h w).testBit b = true → (h, w) ∈ L) → T.length ≤ L.length := fun {T L} t h => by
    have := List.Nodup.length_le_of_subset t.nd (l₂ := L) fun k hk => by
      obtain ⟨r, hr, rfl⟩ := List.mem_map.mp hk
      obtain ⟨b, hb⟩ := Nat.exists_testBit_of_ne_zero (t.nz r hr)
      refine h r.1 r.2.1 b ?_
      unfold tOf
      rw [tGet_of t.nd (show (r.1, r.2.1, r.2.2) ∈ T from hr)]; exact hb
    simpa [tKeys] using this
  refine ⟨Nat.le_trans (sub l.n fun h w b q => (key _ _ _ _ ((l.eq false h w b).mp q)).1 rfl) (List.length_filterMap_le _ _), Nat.le_trans (sub l.c fun h w b q => (key _ _ _ _ ((l.eq true h w b).mp q)).2 rfl) (gC_len fl)⟩
theorem least_S {fl : List Flow} {N1 C1 : Tab} (ok : FlOk fl) (l : Least fl N1 C1) : TabS N1 ∧ TabS C1 :=
  ⟨⟨l.n, fun h w b q => has_60 ok ((l.eq false h w b).mp q)⟩, ⟨l.c, fun h w b q => has_60 ok ((l.eq true h w b).mp q)⟩⟩
abbrev tC (T : Tab) : VL.C := .dn none (tN T)
def Bits60 (v : Nat) : Prop := ∀ b, v.testBit b = true → b < 60
theorem Bits60.lt {v : Nat} (h : Bits60 v) : v < 2 ^ 64 := Nat.lt_pow_two_of_testBit _ fun i hi => by
  cases q : v.testBit i with
  | false => rfl
  | true => have := h i q; omega
theorem TabS.putv {T : Tab} (t : TabS T) {v : Nat} (hv : Bits60 v) (nz : v ≠ 0) (h : Nat) (w : Str) : TabS (tPut T h w v) where
  ok := t.ok.put hv.lt nz
  lt := fun a x b q => by
    rw [tOf_put] at q
    split at q
    · exact hv b q
    · exact t.lt _ _ _ q
theorem TabS.val {T : Tab} (t : TabS T) {r : TRow} (h : r ∈ T) : Bits60 r.2.2 ∧ r.2.2 ≠ 0 := by
  refine ⟨fun b q => t.lt r.1 r.2.1 b ?_, t.ok.nz r h⟩
  unfold tOf
  rw [tGet_of t.ok.nd (show (r.1, r.2.1, r.2.2) ∈ T from h)]; exact q
@[simp] def p__law_news : D → (W → Sto → Prop) → Prop := fun a Q => ∃ P : List Rw, a = prgD P ∧ Q (.loc 0) [.lst ((newsI P).map fun k : Nat => D.int (k : Nat))]
def w__law_news : WS := (wRet (wLc true (wEnum (wCons (wVar 0) wNil)) (wgTup 2 (wgCons (wgName 1) (wgCons (wgName 2) wgNil))) (wTest (wOp (fEq false) (wOp fIx (wVar 2) (wC (.int 0))) (wC (.str "new")))) (wVar 1) [1, 2]))
@[simp] def sp__law_news : PSp := sp1 p__law_news
theorem v__law_news : ∀ a Q, p__law_news a Q → w__law_news (evr Q) (startE ["_law_program_here", "_law_k", "_law_row"] [.d a]) [] := by
  rintro _ Q ⟨P, rfl, hq⟩
  unfold w__law_news
  simp only [wRet]
  refine newsC_to (var_is (i := 0) rfl) (fun _ _ => rfl) (fun _ _ => rfl) ?_
  simp only [newLW, asDs_map, newL, if_true]
  exact hq
theorem news_is {P : List Rw} {a : WE} {rh : Ev} {mu : Sto} (ha : Is a rh mu (.d (prgD P))) : Is (wCallP false sp__law_news [] (wCons a wNil)) rh mu (.d (.lst ((newsI P).map fun k : Nat => D.int (k : Nat)))) :=
  callQ_is (ws := [.d (prgD P)]) (iss1 ha iss0) rfl fun Q q => ⟨P, rfl, q _ _ (by simp)⟩
theorem sortN_is {o : WE} {rh : Ev} {mu : Sto} {l : Nat} {T : Tab} (ho : Is o rh mu (.loc l)) (e : mu[l]? = some (.dn none (tN T))) (hl : T.length ≤ 1000000) : Is (wCall (fSortedN false) (wCons o wNil)) rh mu (.d (.lst ((srtP (tKeys T)).map kyD))) := fun K hK => by
  simp only [wCall, wCons, wNil]
  refine ho _ ?_
  have e1 : (tN T).map (·.1) = (tKeys T).map kyD := by unfold tN tKeys; rw [List.map_map, List.map_map]; rfl
  show fSortedN false _ _ _
  simp only [fSortedN, getN, e, e1, keys_rows, newL, Bool.false_eq_true, if_false]
  refine ⟨by rw [sizeLine_eq]; simp [tKeys]; omega, keys_sig _, ?_⟩
  rw [srtP_rows]; exact hK
theorem ngetT_is {o i : WE} {rh : Ev} {mu : Sto} {l : Nat} {T : Tab} {h v : Nat} {w : Str} {lk : Option (Obj × NL)} (ho : Is o rh mu (.loc l)) (hi : Is i rh mu (.d (tKey h w))) (e : mu[l]? = some (.dn lk (tN T))) (q : tGet T h w = some v) : Is (wNGet o i) rh mu (.d (.int (v : Nat))) := fun K hK => by
  refine ho _ (hi _ ?_)
  simp only [getN, e, valN_t, q]
  exact ⟨keyOk_t h w, hK⟩
theorem modT_is {a : WE} {rh : Ev} {mu : Sto} {z n m : Int} (b : Bool) (hn : 0 < n) (hm : m = m) (ha : Is a rh mu (.d (.int z))) (hb : (z % n == m) = b) : IsB (wTest (wOp (fEq false) (wOp (fI CR0 gMod) a (wC (.int n))) (wC (.int m)))) rh mu b := fun K hK => by
  simp only [wTest, wOp, wC]
  refine ha _ ?_
  have : n ≠ 0 := by omega
  simp [this, onBl, gMod_pos hn]
  rw [hb]; exact hK
@[simp] def p__law_spoiled : W → W → W → Sto → (W → Sto → Prop) → Prop := fun a b c mu Q => ∃ (i : Nat) (T : Tab) (n : Int) (xs : List Nat), a = .loc i ∧ b = .d (.int n) ∧ c = .d (.lst (xs.map fun k : Nat => D.int (k : Nat))) ∧ mu[i]? = some (.dn none (tN T)) ∧ TabS T ∧ T.length ≤ 200000 ∧ (∀ k ∈ xs, k < 60) ∧
  ∀ T', TabS T' → T'.length ≤ T.length → Q (.loc mu.length) (mu ++ [tC T'])
def w__law_spoiled : WS := (wSeq (wAsg wNNew (wgName 3))
    (wSeq (wFor (wEnum (wCons (wCall (fSortedN false) (wCons (wVar 0) wNil)) wNil)) (wgTup 2 (wgCons (wgName 4) (wgCons (wgName 5) wgNil))) (wSeq (wAsg (wOp (fI CR0 gMod) (wOp (fMul false) (wOp (fI CD gDiv) (wVar 1) (wOp (fAdd false) (wVar 4) (wC (.int 1)))) (wC (.int 48271))) (wC (.int 65521))) (wgName 6))
    (wSeq (wAsg (wNGet (wVar 0) (wVar 5)) (wgName 7))
    (wSeq (wIfS (wTest (wOp (fEq false) (wOp (fI CR0 gMod) (wVar 6) (wC (.int 7))) (wC (.int 1)))) (wAsg (wC (.int 0)) (wgName 7)) wNext)
    (wSeq (wIfS (wAnd (wTest (wOp (fEq false) (wOp (fI CR0 gMod) (wVar 6) (wC (.int 7))) (wC (.int 2)))) (wTest (wOp (fEq true) (wVar 2) (wLst false wNil)))) (wAsg (wOp (fI0 Builtin.bitOr) (wVar 7) (wOp (fI CShl fun i j => i * 2 ^ j.toNat) (wC (.int 1)) (wOp fIx (wVar 2) (wOp (fI CR0 gMod) (wOp (fI CD gDiv) (wVar 6) (wC (.int 7))) (wCall fLen (wCons (wVar 2) wNil)))))) (wgName 7)) wNext)
    (wSeq (wIfS (wAnd (wTest (wOp (fEq false) (wOp (fI CR0 gMod) (wVar 6) (wC (.int 7))) (wC (.int 3)))) (wTest (wOp (fEq true) (wVar 2) (wLst false wNil)))) (wAsg (wOp (fI0 Builtin.bitAnd) (wVar 7) (wOp (fI0 fun i j => i - j) (wOp (fI0 fun i j => i - j) (wOp (fI CPow fun i j => i ^ j.toNat) (wC (.int 2)) (wC (.int 60))) (wC (.int 1))) (wOp (fI CShl fun i j => i * 2 ^ j.toNat) (wC (.int 1)) (wOp fIx (wVar 2) (wOp (fI CR0 gMod) (wOp (fI CD gDiv) (wVar 6) (wC (.int 7))) (wCall fLen (wCons (wVar 2) wNil))))))) (wgName 7)) wNext)
    (wIfS (wTest (wOp (fB0 fun i j => decide (j < i)) (wVar 7) (wC (.int 0)))) (wNPut (wVar 3) (wVar 5) (wVar 7)) wNext)))))))
    (wRet (wVar 3))))
@[simp] def sp__law_spoiled : VSp := sS3 p__law_spoiled
theorem v__law_spoiled : ∀ a b c mu Q, p__law_spoiled a b c mu Q → w__law_spoiled (evr Q) (startE ["_law_some", "_law_cell", "_law_news_here", "_law_other", "_law_k", "_law_key_here", "_law_number", "_law_bits"] [a, b, c]) mu := by
  rintro _ _ _ mu Q ⟨i, T, n, xs, rfl, rfl, rfl, ei, ts, tl, hx, hq⟩
  unfold w__law_spoiled
  generalize hd : (D.lst (xs.map fun k : Nat => D.int (k : Nat))) = nd
  refine seq_to [some (.loc i), some (.d (.int n)), some (.d nd), some (.loc mu.length), none, none, none, none] (mu ++ [tC []]) (fun K hK => by simpa [tN, tC] using hK) ?_
  have sl := (srtP_perm (tKeys T)).length_eq
  have ei2 : ∀ c : VL.C, (mu ++ [c])[i]? = some (.dn none (tN T)) := fun c => get_app ei _
  refine seq_R (fun rh mu' => ∃ T' x y z u, rh = [some (.loc i), some (.d (.int n)), some (.d nd), some (.loc mu.length), x, y, z, u] ∧ mu' = mu ++ [tC T'] ∧ TabS T' ∧ T'.length ≤ T.length) (fun K hK => ?_) ?_
  · refine for_enumP (sortN_is (var_is (i := 0) rfl) (ei2 _) (by omega)) (fun k rh mu' => ∃ T' x y z u, rh = [some (.loc i), some (.d (.int n)), some (.d nd), some (.loc mu.length), x, y, z, u] ∧ mu' = mu ++ [tC T'] ∧ TabS T' ∧ T'.length ≤ k) ?_ ?_ ⟨[], none, none, none, none, rfl, rfl, .nil, by simp⟩
    · rintro _ _ ⟨T', x, y, z, u, rfl, rfl, t, l⟩
      exact hK _ _ ⟨T', x, y, z, u, rfl, rfl, t, by rw [sl] at l; simpa [tKeys] using l⟩
    · rintro k q hqk _ _ ⟨T', x, y, z, u, rfl, rfl, t, l⟩ N hN
      have hkl := (List.getElem?_eq_some_iff.mp hqk).1
      rw [sl] at hkl
      have hkl : k < T.length := by simpa [tKeys] using hkl
      have hm : q ∈ tKeys T := (srtP_perm _).mem_iff.mp (List.mem_of_getElem? hqk)
      obtain ⟨r, hr, er⟩ := List.mem_map.mp hm
      subst er
      have gv := tGet_of ts.ok.nd (show (r.1, r.2.1, r.2.2) ∈ T from hr)
      obtain ⟨b60, _⟩ := ts.val hr
      refine tup2_to ?_
      show wSeq _ _ _ _ _
      obtain ⟨z1, ez1⟩ : ∃ z1 : Int, z1 = n / ((k : Int) + 1) * 48271 % 65521 := ⟨_, rfl⟩
      refine seq_to [some (.loc i), some (.d (.int n)), some (.d nd), some (.loc mu.length), some (.d (.int (k : Nat))), some (.d (kyD (r.1, r.2.1))), some (.d (.int z1)), u] (mu ++ [tC T']) (fun K hK => ?_) ?_
      · refine asg_to _ (op_to _ (.d (.int 65521)) (.d (.int z1)) (op_to _ (.d (.int 48271)) (.d (.int (n / ((k : Int) + 1) * 48271))) (op_to _ (.d (.int ((k : Int) + 1))) (.d (.int (n / ((k : Int) + 1)))) (var_is (i := 1) rfl) (op_to _ _ _ (var_is (i := 4) rfl) (int_is _) fun K hK => by simpa using hK) fun K hK => ?_) (int_is _) fun K hK => by simpa using hK) (int_is _) fun K hK => by simp; rw [← ez1]; exact hK) hK
        simp only [fI]
        refine ⟨CD_of (by omega) (Nat.lt_of_lt_of_le (show ((k : Int) + 1).natAbs < 2 ^ 30 by omega) (Nat.pow_le_pow_right (by decide) (by decide))), ?_⟩
        simp [show (0 : Int) < (k : Int) + 1 by omega]; exact hK
      have z0 : 0 ≤ z1 := by omega
      refine seq_to [some (.loc i), some (.d (.int n)), some (.d nd), some (.loc mu.length), some (.d (.int (k : Nat))), some (.d (kyD (r.1, r.2.1))), some (.d (.int z1)), some (.d (.int (r.2.2 : Nat)))] (mu ++ [tC T']) (fun K hK => asg_to _ (ngetT_is (var_is (i := 0) rfl) (var_is (i := 5) rfl) (ei2 (tC T')) gv) hK) ?_
      generalize r.2.2 = v0 at b60
      have z6 : ∀ {x mu'}, Is (wVar 6) [some (.loc i), some (.d (.int n)), some (.d nd), some (.loc mu.length), some (.d (.int (k : Nat))), some (.d (kyD (r.1, r.2.1))), some (.d (.int z1)), x] mu' (.d (.int z1)) := fun {x mu'} => var_is rfl
      have z2 : ∀ {x mu'}, Is (wVar 2) [some (.loc i), some (.d (.int n)), some (.d nd), some (.loc mu.length), some (.d (.int (k : Nat))), some (.d (kyD (r.1, r.2.1))), some (.d (.int z1)), x] mu' (.d (.lst (xs.map fun k : Nat => D.int (k : Nat)))) := fun {x mu'} => by rw [hd]; exact var_is rfl
      refine seq_R (fun rh mu' => ∃ v : Nat, Bits60 v ∧ mu' = mu ++ [tC T'] ∧ rh = [some (.loc i), some (.d (.int n)), some (.d nd), some (.loc mu.length), some (.d (.int (k : Nat))), some (.d (kyD (r.1, r.2.1))), some (.d (.int z1)), some (.d (.int (v : Nat)))]) (fun K hK => ?_) ?_
      · by_cases c : z1 % 7 = 1
        · exact ifS_T (modT_is true (by omega) rfl z6 (by simp [c])) (asg_to _ (int_is _) (hK _ _ ⟨0, fun b q => by simp at q, rfl, rfl⟩))
        · exact ifS_F (modT_is false (by omega) rfl z6 (by simpa using c)) (hK _ _ ⟨v0, b60, rfl, rfl⟩)
      rintro _ _ ⟨v1, b1, rfl, rfl⟩
      have dv : ∀ {x mu'}, Is (wOp (fI CD gDiv) (wVar 6) (wC (.int 7))) [some (.loc i), some (.d (.int n)), some (.d nd), some (.loc mu.length), some (.d (.int (k : Nat))), some (.d (kyD (r.1, r.2.1))), some (.d (.int z1)), x] mu' (.d (.int (z1 / 7))) := fun {x mu'} => op_to _ _ _ z6 (int_is _) fun K hK => by simpa using hK
      refine seq_R (fun rh mu' => ∃ v : Nat, Bits60 v ∧ mu' = mu ++ [tC T'] ∧ rh = [some (.loc i), some (.d (.int n)), some (.d nd), some (.loc mu.length), some (.d (.int (k : Nat))), some (.d (kyD (r.1, r.2.1))), some (.d (.int z1)), some (.d (.int (v : Nat)))]) (fun K hK => ?_) ?_
      · by_cases c : z1 % 7 = 2
        · by_cases ne : xs = []
          · exact ifS_F (and_isT (modT_is true (by omega) rfl z6 (by simp [c])) (by simpa [ne] using noneT_is (xs := xs) z2)) (hK _ _ ⟨v1, b1, rfl, rfl⟩)
          · obtain ⟨j, hj, pj⟩ := pick_is (fun k : Nat => D.int (k : Nat)) (xs := xs) (rh := [some (.loc i), some (.d (.int n)), some (.d nd), some (.loc mu.length), some (.d (.int (k : Nat))), some (.d (kyD (r.1, r.2.1))), some (.d (.int z1)), some (.d (.int (v1 : Nat)))]) (mu := mu ++ [tC T']) z2 dv (by omega) ne
            have j60 := hx j hj
            refine ifS_T (and_isT (modT_is true (by omega) rfl z6 (by simp [c])) (by have := noneT_is (xs := xs) (rh := [some (.loc i), some (.d (.int n)), some (.d nd), some (.loc mu.length), some (.d (.int (k : Nat))), some (.d (kyD (r.1, r.2.1))), some (.d (.int z1)), some (.d (.int (v1 : Nat)))]) (mu := mu ++ [tC T']) z2; rwa [decide_eq_true ne] at this)) ?_
            refine asg_to (.d (.int ((v1 ||| 2 ^ j : Nat) : Nat))) (op_to _ _ _ (var_is (i := 7) rfl) (shl_is pj (by omega)) fun K hK => ?_) (hK _ _ ⟨v1 ||| 2 ^ j, fun b q => ?_, rfl, rfl⟩)
            · generalize (2 ^ j : Nat) = z at hK ⊢
              simpa using hK
            · rw [Nat.testBit_or, Bool.or_eq_true, Nat.testBit_two_pow] at q
              rcases q with q | q
              · exact b1 b q
              · simp at q; omega
        · exact ifS_F (and_isF (modT_is false (by omega) rfl z6 (by simpa using c))) (hK _ _ ⟨v1, b1, rfl, rfl⟩)
      rintro _ _ ⟨v2, b2, rfl, rfl⟩
      refine seq_R (fun rh mu' => ∃ v : Nat, Bits60 v ∧ mu' = mu ++ [tC T'] ∧ rh = [some (.loc i), some (.d (.int n)), some (.d nd), some (.loc mu.length), some (.d (.int (k : Nat))), some (.d (kyD (r.1, r.2.1))), some (.d (.int z1)), some (.d (.int (v : Nat)))]) (fun K hK => ?_) ?_
      · by_cases c : z1 % 7 = 3
        · by_cases ne : xs = []
          · exact ifS_F (and_isT (modT_is true (by omega) rfl z6 (by simp [c])) (by simpa [ne] using noneT_is (xs := xs) z2)) (hK _ _ ⟨v2, b2, rfl, rfl⟩)
          · obtain ⟨j, hj, pj⟩ := pick_is (fun k : Nat => D.int (k : Nat)) (xs := xs) (rh := [some (.loc i), some (.d (.int n)), some (.d nd), some (.loc mu.length), some (.d (.int (k : Nat))), some (.d (kyD (r.1, r.2.1))), some (.d (.int z1)), some (.d (.int (v2 : Nat)))]) (mu := mu ++ [tC T']) z2 dv (by omega) ne
            have j60 := hx j hj
            refine ifS_T (and_isT (modT_is true (by omega) rfl z6 (by simp [c])) (by have := noneT_is (xs := xs) (rh := [some (.loc i), some (.d (.int n)), some (.d nd), some (.loc mu.length), some (.d (.int (k : Nat))), some (.d (kyD (r.1, r.2.1))), some (.d (.int z1)), some (.d (.int (v2 : Nat)))]) (mu := mu ++ [tC T']) z2; rwa [decide_eq_true ne] at this)) ?_
            have p60 : (2 : Nat) ^ j ≤ 2 ^ 59 := Nat.pow_le_pow_right (by decide) (by omega)
            have hm : Is (wOp (fI0 fun i j => i - j) (wOp (fI0 fun i j => i - j) (wOp (fI CPow fun i j => i ^ j.toNat) (wC (.int 2)) (wC (.int 60))) (wC (.int 1))) (wOp (fI CShl fun i j => i * 2 ^ j.toNat) (wC (.int 1)) (wOp fIx (wVar 2) (wOp (fI CR0 gMod) (wOp (fI CD gDiv) (wVar 6) (wC (.int 7))) (wCall fLen (wCons (wVar 2) wNil)))))) [some (.loc i), some (.d (.int n)), some (.d nd), some (.loc mu.length), some (.d (.int (k : Nat))), some (.d (kyD (r.1, r.2.1))), some (.d (.int z1)), some (.d (.int (v2 : Nat)))] (mu ++ [tC T']) (.d (.int ((2 ^ 60 - 1 - 2 ^ j : Nat) : Nat))) := op_to (.d (.int (2 ^ 60 - 1))) _ _ (fun K hK => by simpa using hK) (shl_is pj (by omega)) fun K hK => by
              have e : ((2 : Int) ^ 60 - 1 - ((2 ^ j : Nat) : Int)) = ((2 ^ 60 - 1 - 2 ^ j : Nat) : Int) := by omega
              simp only [fI0]
              rw [e]; exact hK
            refine asg_to (.d (.int ((v2 &&& (2 ^ 60 - 1 - 2 ^ j) : Nat) : Nat))) (op_to _ _ _ (var_is (i := 7) rfl) hm fun K hK => ?_) (hK _ _ ⟨v2 &&& (2 ^ 60 - 1 - 2 ^ j), fun b q => ?_, rfl, rfl⟩)
            · generalize (2 ^ 60 - 1 - 2 ^ j : Nat) = z at hK ⊢
              simpa using hK
            · rw [Nat.testBit_and, Bool.and_eq_true] at q
              exact b2 b q.1
        · exact ifS_F (and_isF (modT_is false (by omega) rfl z6 (by simpa using c))) (hK _ _ ⟨v2, b2, rfl, rfl⟩)
      rintro _ _ ⟨v3, b3, rfl, rfl⟩
      by_cases c : v3 = 0
      · subst c
        refine ifS_F (fun K hK => by simpa [onBl] using hK) (hN _ _ ⟨T', _, _, _, _, rfl, rfl, t, by omega⟩)
      · refine ifS_T (fun K hK => ?_) ?_
        · have : 0 < v3 := by omega
          simp [onBl, this]; simpa [this] using hK
        · have pl := tPut_len T' r.1 r.2.1 v3
          exact nputT_to mu.length T' r.1 r.2.1 v3 (var_is (i := 7) rfl) (var_is (i := 3) rfl) (var_is (i := 5) rfl) (by simp) (by rw [sizeLine_eq]; omega) (hN _ _ ⟨_, _, _, _, _, rfl, by simp, t.putv b3 c r.1 r.2.1, by omega⟩)
  rintro _ _ ⟨T', x, y, z, u, rfl, rfl, t, l⟩
  exact ret_to _ (var_is (i := 3) rfl) (hq T' t l)
theorem pairs_to {P : List Rw} {pl : List (Str × List Str)} {s : ShS} {a : WE} {rh : Ev} {mu : Sto} {K : W → Sto → Prop} (pr : Prg P pl s) (ha : Is a rh mu (.d (prgD P))) (h : ∀ ks : List (Nat × Str), ((∃ n, Rw.new n ∈ P) → ks ≠ []) → K (.d (.lst (ks.map kyD))) mu) : wCallP false sp__law_pairs [] (wCons a wNil) rh mu K := ha _ (by
  simp only [snaps, snap, wNil]
  exact ⟨P, pl, s, rfl, pr, fun ks l mu' h1 h2 e => by simp [e]; exact h ks h2⟩)
@[simp] def p__law_more : W → W → W → W → W → W → Sto → (W → Sto → Prop) → Prop := fun a b c d e f mu Q => ∃ (i j : Nat) (N C : Tab) (n : Int) (P : List Rw) (pl : List (Str × List Str)) (s : ShS) (ws : List Str), a = .loc i ∧ b = .loc j ∧ c = .d (.int n) ∧ d = .d (prgD P) ∧ e = .d (.lst (ws.map D.str)) ∧ f = .d (.lst ((newsI P).map fun k : Nat => D.int (k : Nat))) ∧ i ≠ j ∧ mu[i]? = some (tC N) ∧ mu[j]? = some (tC C) ∧ TabS N ∧ TabS C ∧ N.length ≤ 200000 ∧ C.length ≤ 200000 ∧ Prg P pl s ∧ ws.length = 6 ∧ (∀ w ∈ ws, goodW w) ∧ newsI P ≠ [] ∧
  ∀ N' C' mu', TabS N' → TabS C' → N'.length ≤ N.length + 3 → C'.length ≤ C.length + 3 → mu'[i]? = some (tC N') → mu'[j]? = some (tC C') → Q (.d .non) mu'
def w__law_more : WS := (wSeq (wAsg (wCallP false sp__law_pairs [] (wCons (wVar 3) wNil)) (wgName 6))
    (wFor (wRng1 (wCons (wOp (fI CR0 gMod) (wVar 2) (wC (.int 4))) wNil)) (wgName 7) (wSeq (wAsg (wOp (fI CR0 gMod) (wOp (fMul false) (wOp (fI CD gDiv) (wOp (fI CD gDiv) (wVar 2) (wC (.int 4))) (wOp (fAdd false) (wVar 7) (wC (.int 1)))) (wC (.int 69621))) (wC (.int 65497))) (wgName 8))
    (wSeq (wAsg (wOp (fI CShl fun i j => i * 2 ^ j.toNat) (wC (.int 1)) (wOp fIx (wVar 5) (wOp (fI CR0 gMod) (wVar 8) (wCall fLen (wCons (wVar 5) wNil))))) (wgName 9))
    (wIfS (wTest (wOp (fEq false) (wOp (fI CR0 gMod) (wOp (fI CD gDiv) (wVar 8) (wC (.int 40))) (wC (.int 2))) (wC (.int 0)))) (wSeq (wAsg (wOp fIx (wVar 6) (wOp (fI CR0 gMod) (wOp (fI CD gDiv) (wVar 8) (wC (.int 80))) (wCall fLen (wCons (wVar 6) wNil)))) (wgName 10))
    (wNPut (wVar 0) (wVar 10) (wOp (fI0 Builtin.bitOr) (wNGet2 (wVar 0) (wVar 10) (wC (.int 0))) (wVar 9)))) (wSeq (wAsg (wTup (wCons (wOp fIx (wVar 5) (wOp (fI CR0 gMod) (wOp (fI CD gDiv) (wVar 8) (wC (.int 80))) (wCall fLen (wCons (wVar 5) wNil)))) (wCons (wOp fIx (wLst false (wCons (wC (.str "#")) (wCons (wOp (fAdd false) (wC (.str ".")) (wOp fIx (wVar 4) (wC (.int 0)))) (wCons (wOp (fAdd false) (wC (.str ".")) (wOp fIx (wVar 4) (wC (.int 1)))) wNil)))) (wOp (fI CR0 gMod) (wOp (fI CD gDiv) (wVar 8) (wC (.int 240))) (wC (.int 3)))) wNil))) (wgName 10))
    (wNPut (wVar 1) (wVar 10) (wOp (fI0 Builtin.bitOr) (wNGet2 (wVar 1) (wVar 10) (wC (.int 0))) (wVar 9)))))))))
@[simp] def sp__law_more : VSp := sS6 p__law_more
theorem rngW_mapQ (n : Nat) : rngW 0 n = (List.range n).map fun k : Nat => W.d (.int (k : Nat)) := by
  rw [rngW_nats, List.map_map]; rfl
theorem v__law_more : ∀ a b c d e f mu Q, p__law_more a b c d e f mu Q → w__law_more (evr Q) (startE ["_law_names", "_law_cells", "_law_cell", "_law_program_here", "_law_words_here", "_law_news_here", "_law_pairs_here", "_law_k", "_law_number", "_law_some", "_law_key_here"] [a, b, c, d, e, f]) mu := by
  rintro _ _ _ _ _ _ mu Q ⟨i, j, N, C, n, P, pl, s, ws, rfl, rfl, rfl, rfl, rfl, rfl, ij, ei, ej, tn, tc, ln, lc, pr, w6, wg, c1, hq⟩
  have hl := pr.g.len
  unfold w__law_more
  obtain ⟨m, em, lm⟩ : ∃ m : Nat, n % 4 = (m : Int) ∧ m ≤ 3 := ⟨(n % 4).toNat, by omega, by omega⟩
  generalize hd : (D.lst ((newsI P).map fun k : Nat => D.int (k : Nat))) = nd
  generalize hw : D.lst (ws.map D.str) = wd
  refine seq_R (fun rh mu' => ∃ ks : List (Nat × Str), ((∃ n, Rw.new n ∈ P) → ks ≠ []) ∧ rh = [some (.loc i), some (.loc j), some (.d (.int n)), some (.d (prgD P)), some (.d wd), some (.d nd), some (.d (.lst (ks.map kyD))), none, none, none, none] ∧ mu = mu') (fun K hK => ?_) ?_
  · exact pairs_to pr (var_is (i := 3) rfl) fun ks h => hK _ _ ⟨ks, h, rfl, rfl⟩
  rintro _ _ ⟨ks, hks, rfl, rfl⟩
  have kne := hks (newsI_has c1)
  have ra : Is (wOp (fI CR0 gMod) (wVar 2) (wC (.int 4))) [some (.loc i), some (.loc j), some (.d (.int n)), some (.d (prgD P)), some (.d wd), some (.d nd), some (.d (.lst (ks.map kyD))), none, none, none, none] mu (.d (.int (m : Nat))) := op_to _ _ _ (var_is rfl) (int_is _) fun K hK => by
    simp; rw [em]; exact hK
  simp only [wFor, wRng1, wCons, wNil]
  refine ra _ ⟨by omega, by omega, ?_⟩
  rw [show ((m : Nat) : Int).toNat = m from rfl, rngW_mapQ]
  refine forL_S (fun k : Nat => W.d (.int (k : Nat))) (fun xs rh mu' => ∃ N' C' x y z u, (∀ k ∈ xs, k < 4) ∧ TabS N' ∧ TabS C' ∧ N'.length + xs.length ≤ N.length + m ∧ C'.length + xs.length ≤ C.length + m ∧ mu'[i]? = some (tC N') ∧ mu'[j]? = some (tC C') ∧
    rh = [some (.loc i), some (.loc j), some (.d (.int n)), some (.d (prgD P)), some (.d wd), some (.d nd), some (.d (.lst (ks.map kyD))), x, y, z, u]) (fun _ _ _ _ => by first | trivial | rfl) ?_ ?_ ⟨N, C, none, none, none, none, fun k hk => by have := List.mem_range.mp hk; omega, tn, tc, by simp, by simp, ei, ej, rfl⟩
  · rintro _ mu' ⟨N', C', x, y, z, u, _, t1, t2, l1, l2, e1, e2, rfl⟩
    exact hq N' C' mu' t1 t2 (by simp at l1; omega) (by simp at l2; omega) e1 e2
  · rintro k xs _ mu' ⟨N', C', x, y, z, u, k4, t1, t2, l1, l2, e1, e2, rfl⟩ M hM
    simp only [List.length_cons] at l1 l2
    have hk4 := k4 k (by simp)
    show wSeq _ _ _ _ _
    obtain ⟨z1, ez1⟩ : ∃ z1 : Int, z1 = n / 4 / ((k : Int) + 1) * 69621 % 65497 := ⟨_, rfl⟩
    refine seq_to [some (.loc i), some (.loc j), some (.d (.int n)), some (.d (prgD P)), some (.d wd), some (.d nd), some (.d (.lst (ks.map kyD))), some (.d (.int (k : Nat))), some (.d (.int z1)), z, u] mu' (fun K hK => ?_) ?_
    · refine asg_to _ (op_to _ (.d (.int 65497)) (.d (.int z1)) (op_to _ (.d (.int 69621)) (.d (.int (n / 4 / ((k : Int) + 1) * 69621))) (op_to _ (.d (.int ((k : Int) + 1))) (.d (.int (n / 4 / ((k : Int) + 1)))) (op_to _ (.d (.int 4)) (.d (.int (n / 4))) (var_is (i := 2) rfl) (int_is _) fun K hK => by simpa using hK) (op_to _ _ _ (var_is (i := 7) rfl) (int_is _) fun K hK => by simpa using hK) fun K hK => ?_) (int_is _) fun K hK => by simpa using hK) (int_is _) fun K hK => by simp; rw [← ez1]; exact hK) hK
      simp only [fI]
      refine ⟨CD_of (by omega) (Nat.lt_of_lt_of_le (show ((k : Int) + 1).natAbs < 2 ^ 30 by omega) (Nat.pow_le_pow_right (by decide) (by decide))), ?_⟩
      simp [show (0 : Int) < (k : Int) + 1 by omega]; exact hK
    have z0 : 0 ≤ z1 := by omega
    have z5 : ∀ {x y}, Is (wVar 5) [some (.loc i), some (.loc j), some (.d (.int n)), some (.d (prgD P)), some (.d wd), some (.d nd), some (.d (.lst (ks.map kyD))), some (.d (.int (k : Nat))), some (.d (.int z1)), x, y] mu' (.d (.lst ((newsI P).map fun k : Nat => D.int (k : Nat)))) := fun {x y} => by rw [hd]; exact var_is rfl
    have z8 : ∀ {x y}, Is (wVar 8) [some (.loc i), some (.loc j), some (.d (.int n)), some (.d (prgD P)), some (.d wd), some (.d nd), some (.d (.lst (ks.map kyD))), some (.d (.int (k : Nat))), some (.d (.int z1)), x, y] mu' (.d (.int z1)) := fun {x y} => var_is rfl
    obtain ⟨r, hr, pr1⟩ := pick_is (fun k : Nat => D.int (k : Nat)) (xs := newsI P) (rh := [some (.loc i), some (.loc j), some (.d (.int n)), some (.d (prgD P)), some (.d wd), some (.d nd), some (.d (.lst (ks.map kyD))), some (.d (.int (k : Nat))), some (.d (.int z1)), z, u]) (mu := mu') z5 z8 z0 c1
    have r60 : r < 60 := by have := (newsI_in hr).1; omega
    refine seq_to [some (.loc i), some (.loc j), some (.d (.int n)), some (.d (prgD P)), some (.d wd), some (.d nd), some (.d (.lst (ks.map kyD))), some (.d (.int (k : Nat))), some (.d (.int z1)), some (.d (.int ((2 ^ r : Nat) : Nat))), u] _ (fun K hK => asg_to _ (shl_is pr1 (by omega)) hK) ?_
    have dv : ∀ q : Int, 0 < q → q < 2 ^ 250 → ∀ x y, Is (wOp (fI CD gDiv) (wVar 8) (wC (.int q))) [some (.loc i), some (.loc j), some (.d (.int n)), some (.d (prgD P)), some (.d wd), some (.d nd), some (.d (.lst (ks.map kyD))), some (.d (.int (k : Nat))), some (.d (.int z1)), x, y] mu' (.d (.int (z1 / q))) := fun q hn hn2 x y => op_to _ _ _ z8 (int_is _) fun K hK => by
      have : q ≠ 0 := by omega
      simp only [fI]
      refine ⟨(CD_lit hn hn2).mpr trivial, ?_⟩
      simp [hn]; exact hK
    by_cases c3 : z1 / 40 % 2 = 0
    · refine ifS_T (modT_is true (by omega) rfl (dv 40 (by omega) (by decide) _ _) (by simp [c3])) ?_
      show wSeq _ _ _ _ _
      obtain ⟨q, hq1, pq⟩ := pick_is kyD (xs := ks) (a := wVar 6) (i := wOp (fI CD gDiv) (wVar 8) (wC (.int 80))) (rh := [some (.loc i), some (.loc j), some (.d (.int n)), some (.d (prgD P)), some (.d wd), some (.d nd), some (.d (.lst (ks.map kyD))), some (.d (.int (k : Nat))), some (.d (.int z1)), some (.d (.int ((2 ^ r : Nat) : Nat))), u]) (mu := mu') (var_is rfl) (dv 80 (by omega) (by decide) _ _) (by omega) kne
      refine seq_to [some (.loc i), some (.loc j), some (.d (.int n)), some (.d (prgD P)), some (.d wd), some (.d nd), some (.d (.lst (ks.map kyD))), some (.d (.int (k : Nat))), some (.d (.int z1)), some (.d (.int ((2 ^ r : Nat) : Nat))), some (.d (kyD q))] _ (fun K hK => asg_to _ pq hK) ?_
      have pl2 := tPut_len N' q.1 q.2 (tOf N' q.1 q.2 ||| 2 ^ r)
      exact seed_to (l := i) (var_is rfl) (h := q.1) (w := q.2) (var_is rfl) (var_is rfl) e1 (by rw [sizeLine_eq]; omega) (hM _ _ ⟨_, C', _, _, _, _, fun k hk => k4 k (by simp [hk]), t1.put r60 q.1 q.2, t2, by omega, by omega, set_at e1, by rw [List.getElem?_set_ne ij]; exact e2, rfl⟩)
    · refine ifS_F (modT_is false (by omega) rfl (dv 40 (by omega) (by decide) _ _) (by simpa using c3)) ?_
      show wSeq _ _ _ _ _
      obtain ⟨k2, hk2, pk2⟩ := pick_is (fun k : Nat => D.int (k : Nat)) (xs := newsI P) (i := wOp (fI CD gDiv) (wVar 8) (wC (.int 80))) (rh := [some (.loc i), some (.loc j), some (.d (.int n)), some (.d (prgD P)), some (.d wd), some (.d nd), some (.d (.lst (ks.map kyD))), some (.d (.int (k : Nat))), some (.d (.int z1)), some (.d (.int ((2 ^ r : Nat) : Nat))), u]) (mu := mu') z5 (dv 80 (by omega) (by decide) _ _) (by omega) c1
      obtain ⟨kd, pkd⟩ := kind3_is (ws := ws) (a := wVar 4) (i := wOp (fI CR0 gMod) (wOp (fI CD gDiv) (wVar 8) (wC (.int 240))) (wC (.int 3))) (rh := [some (.loc i), some (.loc j), some (.d (.int n)), some (.d (prgD P)), some (.d wd), some (.d nd), some (.d (.lst (ks.map kyD))), some (.d (.int (k : Nat))), some (.d (.int z1)), some (.d (.int ((2 ^ r : Nat) : Nat))), u]) (mu := mu') (z := z1 / 240 % 3) (by rw [hw]; exact var_is rfl) (op_to _ _ _ (dv 240 (by omega) (by decide) _ _) (int_is _) fun K hK => by simp; exact hK) (by omega) (by omega) (by omega) wg
      refine seq_to [some (.loc i), some (.loc j), some (.d (.int n)), some (.d (prgD P)), some (.d wd), some (.d nd), some (.d (.lst (ks.map kyD))), some (.d (.int (k : Nat))), some (.d (.int z1)), some (.d (.int ((2 ^ r : Nat) : Nat))), some (.d (tKey k2 kd))] _ (fun K hK => asg_to _ (tup2_is pk2 pkd) hK) ?_
      have pl2 := tPut_len C' k2 kd (tOf C' k2 kd ||| 2 ^ r)
      exact seed_to (l := j) (var_is rfl) (h := k2) (w := kd) (var_is rfl) (var_is rfl) e2 (by rw [sizeLine_eq]; omega) (hM _ _ ⟨N', _, _, _, _, _, fun k hk => k4 k (by simp [hk]), t1, t2.put r60 k2 kd, by omega, by omega, by rw [List.getElem?_set_ne (Ne.symm ij)]; exact e1, set_at e2, rfl⟩)
@[simp] def p__law_told : W → Sto → (W → Sto → Prop) → Prop := fun a mu Q => ∃ (i : Nat) (T : Tab), a = .loc i ∧ mu[i]? = some (tC T) ∧ TabOk T ∧ T.length ≤ 1000000 ∧ Q (.loc mu.length) (mu ++ [.lst (tabL T)])
def w__law_told : WS := (wRet (wCall (fSortedR true) (wCons (wLockE (wLc false (wNKeys (wVar 0)) (wgName 1) wYes (wTup (wCons (wOp fIx (wVar 1) (wC (.int 0))) (wCons (wOp fIx (wVar 1) (wC (.int 1))) (wCons (wNGet (wVar 0) (wVar 1)) wNil)))) [1])) wNil)))
@[simp] def sp__law_told : VSp := sS1 p__law_told
theorem v__law_told : ∀ a mu Q, p__law_told a mu Q → w__law_told (evr Q) (startE ["_law_some", "_law_key_here"] [a]) mu := by
  rintro _ mu Q ⟨i, T, rfl, e, ok, hl, hq⟩
  unfold w__law_told
  have comp : Is (wLockE (wLc false (wNKeys (wVar 0)) (wgName 1) wYes (wTup (wCons (wOp fIx (wVar 1) (wC (.int 0))) (wCons (wOp fIx (wVar 1) (wC (.int 1))) (wCons (wNGet (wVar 0) (wVar 1)) wNil)))) [1])) [some (.loc i), none] mu (.d (.lst (T.map trD))) := by
    refine lockE_is e fun lk K hK => ?_
    have e1 := set_at (y := .dn (some lk) (tN T)) e
    refine nkeys_to (l := i) (lk := lk) (kvs := tN T) (var_is (i := 0) rfl) e1 (by rw [tN_len, sizeLine_eq]; omega) ?_
    have et : (tN T).map (fun p => W.d p.1) = T.map (fun r => .d (tKey r.1 r.2.1)) := by simp [tN]
    rw [et]
    refine lc_A _ (fun r => .d (trD r)) e1 (fun r hr A hA => ?_) (by simpa using hK)
    have g1 := tGet_of ok.nd (h := r.1) (w := r.2.1) (v := r.2.2) hr
    have g2 := ngetT_is (rh := [some (.loc i), some (.d (tKey r.1 r.2.1))]) (i := wVar 1) (o := wVar 0) (var_is rfl) (var_is rfl) e1 g1
    have kt : tKey r.1 r.2.1 = .tup [.int (r.1 : Nat), .str r.2.1] := rfl
    show wTup _ [some (.loc i), some (.d (tKey r.1 r.2.1))] _ A
    simp only [wTup, wCons, wNil]
    refine ix_tup (ds := [.int (r.1 : Nat), .str r.2.1]) (var_is (i := 1) rfl) (int_is _) (by rfl) _ ?_
    refine ix_tup (ds := [.int (r.1 : Nat), .str r.2.1]) (var_is (i := 1) rfl) (int_is _) (by rfl) _ ?_
    refine g2 _ ?_
    simp [sizeLine_eq]
    exact hA
  simp only [wRet, wCall, wCons, wNil]
  exact comp _ (sortedR_own hq)
/-! what lacks nothing -/
theorem lacks_clo {N C : Tab} (tn : TabS N) (tc : TabOk C) (f : Flow) : lacksL N C f = [] ↔ Clo1 N C f := by
  constructor
  · intro e b hs k a w hgl
    obtain ⟨rfl, hm⟩ := goal_mem (fun a n r q => tn.lt a n r q) hgl
    refine whT_bit.mp ?_
    refine Classical.byContradiction fun c => ?_
    have : (a, w) ∈ lacksL N C f := List.mem_filter.mpr ⟨hm, ?_⟩
    · rw [e] at this; cases this
    · unfold lackB
      rw [decide_eq_true_eq, or_new]
      exact ⟨b, (had_bit tn.ok _ _).mpr hs, by simpa using c⟩
  · intro cl
    unfold lacksL
    rw [List.filter_eq_nil_iff]
    intro x hx hl
    unfold lackB at hl
    rw [decide_eq_true_eq, or_new] at hl
    obtain ⟨b, h1, h2⟩ := hl
    have := cl b ((had_bit tn.ok f.2 b).mp h1) _ x.1 x.2 (goal_of hx)
    rw [whT_bit.mpr this] at h2; cases h2
theorem clos_iff {N C : Tab} (tn : TabS N) (tc : TabOk C) (fl : List Flow) : (∀ f ∈ fl, lacksL N C f = []) ↔ ClosedF fl (XT N C) :=
  ⟨fun h f hf b hs k a w hg => (lacks_clo tn tc f).mp (h f hf) b hs k a w hg, fun h f hf => (lacks_clo tn tc f).mpr fun b hs k a w hg => h f hf b hs k a w hg⟩
theorem flDs_dep : ∀ fs : List Flow, ddeps (fs.map flD) ≤ 4
  | [] => by simp
  | f :: fs => by
    have h := flDs_dep fs
    have p : ∀ p : Pl, ddep (plD p) ≤ 1 := fun p => by cases p <;> simp [plD]
    have p1 := p f.1
    have p2 := p f.2
    simp [flD]
    omega
theorem tabs_dep : ∀ T : List TRow, ddeps (T.map trD) ≤ 2
  | [] => by simp
  | r :: T => by
    have h := tabs_dep T
    simp [trD]
    omega
theorem kys_dep : ∀ ks : List (Nat × Str), ddeps (ks.map kyD) ≤ 2
  | [] => by simp
  | r :: T => by
    have h := kys_dep T
    simp [kyD, tKey]
    omega
theorem makers_to {P : List Rw} {s : ShS} {a : WE} {rh : Ev} {mu : Sto} {K : W → Sto → Prop} (g : GoodPr P s) (ha : Is a rh mu (.d (prgD P))) (h : ∀ N C, Least (flowsP P s) N C → K (.d (.tup [.lst (tabL N), .lst (tabL C)])) mu) : wCallP false sp_makers [] (wCons a wNil) rh mu K := ha _ (by
  simp only [snaps, snap, wNil]
  exact ⟨P, s, rfl, g, fun N C l => by simp [drM]; exact h N C l⟩)
theorem closed_isB {P : List Rw} {s : ShS} {N C : Tab} {a b : WE} {rh : Ev} {mu : Sto} {r : Bool} (g : GoodPr P s) (tn : TabOk N) (tc : TabOk C) (l : N.length + C.length ≤ 500000) (cl : r = true ↔ ClosedF (flowsP P s) (XT N C)) (ha : Is a rh mu (.d (prgD P))) (hb : Is b rh mu (.d (.tup [.lst (tabL N), .lst (tabL C)]))) : Is (wCallP false sp_closed [] (wCons a (wCons b wNil))) rh mu (.d (.bl r)) :=
  callQ_is (ws := [.d (prgD P), .d (.tup [.lst (tabL N), .lst (tabL C)])]) (iss1 ha (iss1 hb iss0)) rfl fun Q q => ⟨P, s, N, C, rfl, rfl, g, tn, tc, l, fun r' mu' hr => q _ _ (by
    have : r' = r := Bool.eq_iff_iff.mpr (hr.trans cl.symm)
    rw [this]; simp)⟩
theorem moves_is {P : List Rw} {pl : List (Str × List Str)} {s : ShS} {a : WE} {rh : Ev} {mu : Sto} (pr : Prg P pl s) (ha : Is a rh mu (.d (prgD P))) : Is (wCallP false sp__law_moves [] (wCons a wNil)) rh mu (.d (.lst ((flowsP P s).map flD))) :=
  callQ_is (ws := [.d (prgD P)]) (iss1 ha iss0) rfl fun Q q => ⟨P, pl, s, rfl, pr, fun l mu e => q _ _ (by simp [e])⟩
def w_law : WS := (wSeq (wAsg (wCallP false sp__law_words [] (wCons (wCallP false sp__law_cell_at [] (wCons (wVar 0) (wCons (wC (.int 0)) wNil))) (wCons (wC (.int 6)) wNil))) (wgName 1))
    (wSeq (wAsg (wCallP false sp__law_program [] (wCons (wSl false (wVar 0) (wPart (wC (.int 3))) (wPart (wC (.int 33)))) (wCons (wVar 1) (wCons (wCallP false sp__law_plan [] (wCons (wCallP false sp__law_cell_at [] (wCons (wVar 0) (wCons (wC (.int 1)) wNil))) (wCons (wVar 1) wNil))) wNil)))) (wgName 2))
    (wSeq (wAsg (wCallP false sp__law_news [] (wCons (wVar 2) wNil)) (wgName 3))
    (wSeq (wAsg (wCallP false sp__law_cell_at [] (wCons (wVar 0) (wCons (wC (.int 2)) wNil))) (wgName 4))
    (wSeq (wAsg (wCallP false sp_makers [] (wCons (wCall (fList false) (wCons (wVar 2) wNil)) wNil)) (wgName 5))
    (wSeq (wAsg wNNew (wgName 6))
    (wSeq (wAsg wNNew (wgName 7))
    (wSeq (wIfS (wTest (wOp (fB0 fun i j => decide (i < j)) (wOp (fI CR0 gMod) (wVar 4) (wC (.int 3))) (wC (.int 2)))) (wSeq (wFor (wSeqI (wOp fIx (wVar 5) (wC (.int 0)))) (wgTup 3 (wgCons (wgName 8) (wgCons (wgName 9) (wgCons (wgName 10) wgNil)))) (wNPut (wVar 6) (wTup (wCons (wVar 8) (wCons (wVar 9) wNil))) (wVar 10)))
    (wFor (wSeqI (wOp fIx (wVar 5) (wC (.int 1)))) (wgTup 3 (wgCons (wgName 11) (wgCons (wgName 12) (wgCons (wgName 10) wgNil)))) (wNPut (wVar 7) (wTup (wCons (wVar 11) (wCons (wVar 12) wNil))) (wVar 10)))) wNext)
    (wSeq (wIfS (wTest (wOp (fEq false) (wOp (fI CR0 gMod) (wVar 4) (wC (.int 3))) (wC (.int 1)))) (wSeq (wAsg (wCallS sp__law_spoiled [] (wCons (wVar 6) (wCons (wOp (fI CD gDiv) (wVar 4) (wC (.int 3))) (wCons (wVar 3) wNil)))) (wgName 6))
    (wAsg (wCallS sp__law_spoiled [] (wCons (wVar 7) (wCons (wOp (fI CD gDiv) (wVar 4) (wC (.int 21))) (wCons (wVar 3) wNil)))) (wgName 7))) wNext)
    (wSeq (wIfS (wTest (wOp (fEq true) (wVar 3) (wLst false wNil))) (wDrop (wCallS sp__law_more [] (wCons (wVar 6) (wCons (wVar 7) (wCons (wOp (fI CD gDiv) (wVar 4) (wC (.int 3))) (wCons (wVar 2) (wCons (wVar 1) (wCons (wVar 3) wNil)))))))) wNext)
    (wSeq (wAsg (wTup (wCons (wCallS sp__law_told [] (wCons (wVar 6) wNil)) (wCons (wCallS sp__law_told [] (wCons (wVar 7) wNil)) wNil))) (wgName 13))
    (wSeq (wAsg (wOp (fEq false) (wLc false (wSeqI (wCallP false sp__law_moves [] (wCons (wVar 2) wNil))) (wgName 15) (wTest (wOp (fEq true) (wCallS sp__law_lacks [] (wCons (wVar 6) (wCons (wVar 7) (wCons (wVar 15) wNil)))) (wLst false wNil))) (wVar 15) [15]) (wLst false wNil)) (wgName 14))
    (wSeq (wAsg (wTup (wCons (wCall (fList false) (wCons (wOp fIx (wVar 13) (wC (.int 0))) wNil)) (wCons (wCall (fList false) (wCons (wOp fIx (wVar 13) (wC (.int 1))) wNil)) wNil))) (wgName 16))
    (wSeq (wFor (wRng1 (wCons (wC (.int 2)) wNil)) (wgName 17) (wSeq (wAsg (wCallP false sp_closed [] (wCons (wVar 2) (wCons (wVar 16) wNil))) (wgName 18))
    (wIfS (wOr (wNot (wTru (wCall fIsi (wCons (wVar 18) (wCons (wTy "bool") wNil))))) (wOr (wTest (wOp (fEq true) (wVar 18) (wVar 14))) (wTest (wOp (fEq true) (wVar 16) (wVar 13))))) (wRet (wC (.bl false))) wNext)))
    (wRet (wOp (fIsB false) (wCallP false sp_closed [] (wCons (wVar 2) (wCons (wVar 5) wNil))) (wC (.bl true))))))))))))))))))
theorem v_law : ∀ (ns : List Int) (Q : W → Sto → Prop), ns.length ≤ 63 → (∀ mu, Q (.d (.bl true)) mu) → w_law (evr Q) (startE ["_law_script", "_law_words_here", "_law_rows", "_law_news_here", "_law_cell", "_law_first", "_law_names", "_law_cells", "_law_home", "_law_name", "_law_some", "_law_row", "_law_kind", "_law_table", "_law_due", "_law_move", "_law_lent", "_law_turn", "_law_told_here"] [.d (.scr ns)]) [] := by
  intro ns Q hn h
  simp only [w_law]
  refine seq_R (fun rh mu => ∃ ws : List Str, rh = [some (.d (.scr ns)), some (.d (.lst (ws.map D.str))), none, none, none, none, none, none, none, none, none, none, none, none, none, none, none, none, none] ∧ mu = [] ∧ ws.length = 6 ∧ (∀ w ∈ ws, goodW w) ∧ ws.Nodup) (fun K hK => ?_) ?_
  · simp
    exact fun ws h1 h2 h3 => hK _ _ ⟨ws, rfl, rfl, h1, h2, h3⟩
  rintro _ _ ⟨ws, rfl, rfl, w1, w2, w3⟩
  refine seq_R (fun rh mu => ∃ pl P, rh = [some (.d (.scr ns)), some (.d (.lst (ws.map D.str))), some (.d (prgD P)), none, none, none, none, none, none, none, none, none, none, none, none, none, none, none, none] ∧ mu = [] ∧ PrgT P pl) (fun K hK => ?_) ?_
  · simp
    refine ⟨by omega, w3, fun pl hp => ⟨_, rfl, _, rfl, by have := cutL_len ns (some 3) (some 33); omega, by omega, w2, hp, fun rs mu hf hl hc => ?_⟩⟩
    obtain ⟨P, rfl, pt⟩ := funs_typed w3 w2 hp hf hl
    exact hK _ _ ⟨pl, P, rfl, rfl, pt⟩
  rintro _ _ ⟨pl, P, rfl, rfl, pt⟩
  obtain ⟨s, pr⟩ := pt.prg
  have hl := pt.len
  have fo : FlOk (flowsP P s) := flowsP_60 hl
  have fl := flowsP_len pr.g
  obtain ⟨c0, ec0⟩ : ∃ c0 : Int, c0 = ns[2]?.getD 0 := ⟨_, rfl⟩
  generalize hy : some (W.d (.scr ns)) = y0
  generalize hwd : D.lst (ws.map D.str) = wd
  generalize hnd : (D.lst ((newsI P).map fun k : Nat => D.int (k : Nat))) = nd
  generalize hpd : prgD P = pd
  have vp : ∀ {rh : Ev} {mu : Sto}, rh[2]? = some (some (.d pd)) → Is (wVar 2) rh mu (.d (prgD P)) := fun {rh mu} e => by rw [hpd]; exact var_is e
  refine seq_to [y0, some (.d wd), some (.d pd), some (.d nd), none, none, none, none, none, none, none, none, none, none, none, none, none, none, none] [] (fun K hK => asg_to _ (by rw [← hnd]; exact news_is (vp rfl)) hK) ?_
  refine seq_to [y0, some (.d wd), some (.d pd), some (.d nd), some (.d (.int c0)), none, none, none, none, none, none, none, none, none, none, none, none, none, none] [] (fun K hK => by
    rw [ec0] at hK
    rw [← hy] at hK ⊢
    simp; exact hK) ?_
  refine seq_R (fun rh mu' => ∃ N1 C1, mu' = [] ∧ Least (flowsP P s) N1 C1 ∧ rh = [y0, some (.d wd), some (.d pd), some (.d nd), some (.d (.int c0)), some (.d (.tup [.lst (tabL N1), .lst (tabL C1)])), none, none, none, none, none, none, none, none, none, none, none, none, none]) (fun K hK => makers_to pr.g (listF_is (by have := vp (mu := []) (rh := [y0, some (.d wd), some (.d pd), some (.d nd), some (.d (.int c0)), none, none, none, none, none, none, none, none, none, none, none, none, none, none]) rfl; exact this)) fun N1 C1 l => hK _ _ ⟨N1, C1, rfl, l, rfl⟩) ?_
  rintro _ _ ⟨N1, C1, rfl, lst, rfl⟩
  obtain ⟨k1, k2⟩ := has_keys lst
  obtain ⟨s1, s2⟩ := least_S fo lst
  have hc1 : ClosedF (flowsP P s) (XT N1 C1) := by
    have e : XT N1 C1 = Has (flowsP P s) := funext fun k => funext fun h => funext fun w => funext fun b => propext (lst.eq k h w b)
    rw [e]; exact has_closed _
  obtain ⟨fd, hfd⟩ : ∃ fd : D, fd = .tup [.lst (tabL N1), .lst (tabL C1)] := ⟨_, rfl⟩
  rw [← hfd]
  refine seq_to [y0, some (.d wd), some (.d pd), some (.d nd), some (.d (.int c0)), some (.d fd), some (.loc 0), none, none, none, none, none, none, none, none, none, none, none, none] [tC []] (fun K hK => by simpa [tN, tC] using hK) ?_
  refine seq_to [y0, some (.d wd), some (.d pd), some (.d nd), some (.d (.int c0)), some (.d fd), some (.loc 0), some (.loc 1), none, none, none, none, none, none, none, none, none, none, none] [tC [], tC []] (fun K hK => by simpa [tN, tC] using hK) ?_
  refine seq_R (fun rh mu => ∃ N C x y z u v, mu = [tC N, tC C] ∧ TabS N ∧ TabS C ∧ N.length ≤ 100000 ∧ C.length ≤ 150000 ∧ rh = [y0, some (.d wd), some (.d pd), some (.d nd), some (.d (.int c0)), some (.d fd), some (.loc 0), some (.loc 1), x, y, z, u, v, none, none, none, none, none, none]) (fun K hK => ?_) ?_
  · by_cases c : c0 % 3 < 2
    · refine ifS_T (fun K hK => by simp [onBl, c]; exact hK) ?_
      have vf : ∀ {rh : Ev} {mu : Sto}, rh[5]? = some (some (.d fd)) → Is (wVar 5) rh mu (.d (.tup [.lst ((srtT N1).map trD), .lst ((srtT C1).map trD)])) := fun {rh mu} e => by rw [show D.tup [.lst ((srtT N1).map trD), .lst ((srtT C1).map trD)] = fd from hfd.symm]; exact var_is e
      refine seq_R (fun rh mu => ∃ N x y z, mu = [tC N, tC []] ∧ TabS N ∧ N.length ≤ 100000 ∧ rh = [y0, some (.d wd), some (.d pd), some (.d nd), some (.d (.int c0)), some (.d fd), some (.loc 0), some (.loc 1), x, y, z, none, none, none, none, none, none, none, none]) (fun K hK => ?_) ?_
      · refine for_lstM (f := trD) (xs := srtT N1) (ix_tup (vf rfl) (int_is _) rfl) ?_
        have pl := (srtT_perm N1).length_eq
        refine forL_S (fun r => .d (trD r)) (fun xs rh mu => ∃ N x y z, mu = [tC N, tC []] ∧ TabS N ∧ N.length + xs.length ≤ 100000 ∧ (∀ r ∈ xs, r ∈ N1) ∧ rh = [y0, some (.d wd), some (.d pd), some (.d nd), some (.d (.int c0)), some (.d fd), some (.loc 0), some (.loc 1), x, y, z, none, none, none, none, none, none, none, none]) (fun _ _ _ _ => trivial) (fun rh mu ⟨N, x, y, z, h1, h2, h3, _, h4⟩ => hK rh mu ⟨N, x, y, z, h1, h2, by simpa using h3, h4⟩) ?_ ⟨[], none, none, none, rfl, .nil, by simp; omega, fun r hr => (srtT_perm N1).mem_iff.mp hr, rfl⟩
        rintro r xs _ _ ⟨N, x, y, z, rfl, tn, ln, hm, rfl⟩ M hM
        simp only [List.length_cons] at ln
        refine tup3_to ?_
        obtain ⟨b1, b2⟩ := s1.val (hm r (by simp))
        have pl2 := tPut_len N r.1 r.2.1 r.2.2
        exact nputT_to 0 N r.1 r.2.1 r.2.2 (var_is (i := 10) rfl) (var_is (i := 6) rfl) (tup2_is (var_is (i := 8) rfl) (var_is (i := 9) rfl)) rfl (by rw [sizeLine_eq]; omega) (hM _ _ ⟨_, _, _, _, rfl, tn.putv b1 b2 r.1 r.2.1, by omega, fun r hr => hm r (by simp [hr]), rfl⟩)
      rintro _ _ ⟨N, x, y, z, rfl, tn, ln, rfl⟩
      refine for_lstM (f := trD) (xs := srtT C1) (ix_tup (vf rfl) (int_is _) rfl) ?_
      have pl := (srtT_perm C1).length_eq
      refine forL_S (fun r => .d (trD r)) (fun xs rh mu => ∃ C x y z u v, mu = [tC N, tC C] ∧ TabS C ∧ C.length + xs.length ≤ 150000 ∧ (∀ r ∈ xs, r ∈ C1) ∧ rh = [y0, some (.d wd), some (.d pd), some (.d nd), some (.d (.int c0)), some (.d fd), some (.loc 0), some (.loc 1), x, y, z, u, v, none, none, none, none, none, none]) (fun _ _ _ _ => trivial) (fun rh mu ⟨C, x, y, z, u, v, h1, h2, h3, _, h4⟩ => hK rh mu ⟨N, C, x, y, z, u, v, h1, tn, h2, ln, by simpa using h3, h4⟩) ?_ ⟨[], x, y, z, none, none, rfl, .nil, by simp; omega, fun r hr => (srtT_perm C1).mem_iff.mp hr, rfl⟩
      rintro r xs _ _ ⟨C, x, y, z, u, v, rfl, tc, lc, hm, rfl⟩ M hM
      simp only [List.length_cons] at lc
      refine tup3_to ?_
      obtain ⟨b1, b2⟩ := s2.val (hm r (by simp))
      have pl2 := tPut_len C r.1 r.2.1 r.2.2
      exact nputT_to 1 C r.1 r.2.1 r.2.2 (var_is (i := 10) rfl) (var_is (i := 7) rfl) (tup2_is (var_is (i := 11) rfl) (var_is (i := 12) rfl)) rfl (by rw [sizeLine_eq]; omega) (hM _ _ ⟨_, _, _, _, _, _, rfl, tc.putv b1 b2 r.1 r.2.1, by omega, fun r hr => hm r (by simp [hr]), rfl⟩)
    · refine ifS_F (fun K hK => by simp [onBl, c]; exact hK) (hK _ _ ⟨[], [], none, none, none, none, none, rfl, .nil, .nil, by simp, by simp, rfl⟩)
  rintro _ _ ⟨N, C, x, y, z, u, v, rfl, tn, tc, ln, lc, rfl⟩
  have nx60 : ∀ k ∈ newsI P, k < 60 := fun k hk => by have := (newsI_in hk).1; omega
  refine seq_R (fun rh mu => ∃ i j N C, i ≠ j ∧ mu[i]? = some (tC N) ∧ mu[j]? = some (tC C) ∧ TabS N ∧ TabS C ∧ N.length ≤ 100000 ∧ C.length ≤ 150000 ∧ rh = [y0, some (.d wd), some (.d pd), some (.d nd), some (.d (.int c0)), some (.d fd), some (.loc i), some (.loc j), x, y, z, u, v, none, none, none, none, none, none]) (fun K hK => ?_) ?_
  · have vn : ∀ {rh : Ev} {mu : Sto}, rh[3]? = some (some (.d nd)) → Is (wVar 3) rh mu (.d (.lst ((newsI P).map fun k : Nat => D.int (k : Nat)))) := fun {rh mu} e => by rw [hnd]; exact var_is e
    have dvc : ∀ (q : Int) {rh : Ev} {mu : Sto}, 0 < q → q < 2 ^ 250 → rh[4]? = some (some (.d (.int c0))) → Is (wOp (fI CD gDiv) (wVar 4) (wC (.int q))) rh mu (.d (.int (c0 / q))) := fun q {rh mu} hn hn2 e => op_to _ _ _ (var_is e) (int_is _) fun K hK => by
      have : q ≠ 0 := by omega
      simp only [fI]
      refine ⟨(CD_lit hn hn2).mpr trivial, ?_⟩
      simp [hn]; exact hK
    by_cases c : c0 % 3 = 1
    · refine ifS_T (modT_is true (by omega) rfl (var_is (i := 4) rfl) (by simp [c])) ?_
      refine seq_R (fun rh mu => ∃ N', TabS N' ∧ N'.length ≤ 100000 ∧ mu = [tC N, tC C, tC N'] ∧ rh = [y0, some (.d wd), some (.d pd), some (.d nd), some (.d (.int c0)), some (.d fd), some (.loc 2), some (.loc 1), x, y, z, u, v, none, none, none, none, none, none]) (fun K hK => ?_) ?_
      · refine callS_to (ws := [.loc 0, .d (.int (c0 / 3)), .d nd]) (iss1 (var_is (i := 6) rfl) (iss1 (dvc 3 (by omega) (by decide) rfl) (iss1 (var_is (i := 3) rfl) iss0))) ⟨0, N, c0 / 3, newsI P, rfl, rfl, by rw [hnd], rfl, tn, by omega, nx60, fun T' t' l' => ?_⟩
        exact hK _ _ ⟨T', t', by omega, rfl, rfl⟩
      rintro _ _ ⟨N', tn', ln', rfl, rfl⟩
      refine callS_to (ws := [.loc 1, .d (.int (c0 / 21)), .d nd]) (iss1 (var_is (i := 7) rfl) (iss1 (dvc 21 (by omega) (by decide) rfl) (iss1 (var_is (i := 3) rfl) iss0))) ⟨1, C, c0 / 21, newsI P, rfl, rfl, by rw [hnd], rfl, tc, by omega, nx60, fun T' t' l' => ?_⟩
      exact hK _ _ ⟨2, 3, N', T', by omega, rfl, rfl, tn', t', ln', by omega, rfl⟩
    · exact ifS_F (modT_is false (by omega) rfl (var_is (i := 4) rfl) (by simpa using c)) (hK _ _ ⟨0, 1, N, C, by omega, rfl, rfl, tn, tc, ln, lc, rfl⟩)
  clear tn tc ln lc
  rintro _ mu ⟨i, j, N, C, ij, ei, ej, tn, tc, ln, lc, rfl⟩
  refine seq_R (fun rh mu => ∃ N C, mu[i]? = some (tC N) ∧ mu[j]? = some (tC C) ∧ TabS N ∧ TabS C ∧ N.length ≤ 100003 ∧ C.length ≤ 150003 ∧ rh = [y0, some (.d wd), some (.d pd), some (.d nd), some (.d (.int c0)), some (.d fd), some (.loc i), some (.loc j), x, y, z, u, v, none, none, none, none, none, none]) (fun K hK => ?_) ?_
  · have vn : ∀ {rh : Ev} {mu : Sto}, rh[3]? = some (some (.d nd)) → Is (wVar 3) rh mu (.d (.lst ((newsI P).map fun k : Nat => D.int (k : Nat)))) := fun {rh mu} e => by rw [hnd]; exact var_is e
    by_cases ne : newsI P = []
    · have := noneT_is (xs := newsI P) (a := wVar 3) (rh := [y0, some (.d wd), some (.d pd), some (.d nd), some (.d (.int c0)), some (.d fd), some (.loc i), some (.loc j), x, y, z, u, v, none, none, none, none, none, none]) (mu := mu) (vn rfl)
      exact ifS_F (by simpa [ne] using this) (hK _ _ ⟨N, C, ei, ej, tn, tc, by omega, by omega, rfl⟩)
    · have := noneT_is (xs := newsI P) (a := wVar 3) (rh := [y0, some (.d wd), some (.d pd), some (.d nd), some (.d (.int c0)), some (.d fd), some (.loc i), some (.loc j), x, y, z, u, v, none, none, none, none, none, none]) (mu := mu) (vn rfl)
      rw [decide_eq_true ne] at this
      refine ifS_T this ?_
      have d3 : Is (wOp (fI CD gDiv) (wVar 4) (wC (.int 3))) [y0, some (.d wd), some (.d pd), some (.d nd), some (.d (.int c0)), some (.d fd), some (.loc i), some (.loc j), x, y, z, u, v, none, none, none, none, none, none] mu (.d (.int (c0 / 3))) := op_to _ _ _ (var_is rfl) (int_is _) fun K hK => by simpa using hK
      refine callS_to (ws := [.loc i, .loc j, .d (.int (c0 / 3)), .d pd, .d wd, .d nd]) (iss1 (var_is (i := 6) rfl) (iss1 (var_is (i := 7) rfl) (iss1 d3 (iss1 (var_is (i := 2) rfl) (iss1 (var_is (i := 1) rfl) (iss1 (var_is (i := 3) rfl) iss0)))))) ⟨i, j, N, C, c0 / 3, P, pl, s, ws, rfl, rfl, rfl, by rw [hpd], by rw [hwd], by rw [hnd], ij, ei, ej, tn, tc, by omega, by omega, pr, w1, w2, ne, fun N' C' mu' tn' tc' l1 l2 e1 e2 => ?_⟩
      exact hK _ _ ⟨N', C', e1, e2, tn', tc', by omega, by omega, rfl⟩
  clear tn tc ln lc ei ej
  rintro _ mu ⟨N, C, ei, ej, tn, tc, ln, lc, rfl⟩
  obtain ⟨p, ep⟩ : ∃ p, p = mu.length := ⟨_, rfl⟩
  have ip := (List.getElem?_eq_some_iff.mp ei).1
  have jp := (List.getElem?_eq_some_iff.mp ej).1
  refine seq_to [y0, some (.d wd), some (.d pd), some (.d nd), some (.d (.int c0)), some (.d fd), some (.loc i), some (.loc j), x, y, z, u, v, some (.tup [.loc p, .loc (p + 1)]), none, none, none, none, none] ((mu ++ [.lst (tabL N)]) ++ [.lst (tabL C)]) (fun K hK => ?_) ?_
  · simp only [wAsg, wTup, wCons, wNil]
    refine callS_to (ws := [.loc i]) (iss1 (var_is (i := 6) rfl) iss0) ⟨i, N, rfl, ei, tn.ok, by omega, ?_⟩
    refine callS_to (ws := [.loc j]) (iss1 (var_is (i := 7) rfl) iss0) ⟨j, C, rfl, get_app ej _, tc.ok, by omega, ?_⟩
    simp [sizeLine_eq]
    rw [ep] at hK
    simpa using hK
  have g1 := get_app (get_app ei [.lst (tabL N)]) [.lst (tabL C)]
  have g2 := get_app (get_app ej [.lst (tabL N)]) [.lst (tabL C)]
  have g3 : ((mu ++ [VL.C.lst (tabL N)]) ++ [VL.C.lst (tabL C)])[p]? = some (.lst (tabL N)) := by rw [ep]; simp
  have g4 : ((mu ++ [VL.C.lst (tabL N)]) ++ [VL.C.lst (tabL C)])[p + 1]? = some (.lst (tabL C)) := by rw [ep]; simp
  generalize (mu ++ [VL.C.lst (tabL N)]) ++ [VL.C.lst (tabL C)] = mu1 at g1 g2 g3 g4 ⊢
  refine seq_R (fun rh mu2 => ∃ b : Bool, (b = true ↔ ClosedF (flowsP P s) (XT N C)) ∧ mu2[p]? = some (.lst (tabL N)) ∧ mu2[p + 1]? = some (.lst (tabL C)) ∧ rh = [y0, some (.d wd), some (.d pd), some (.d nd), some (.d (.int c0)), some (.d fd), some (.loc i), some (.loc j), x, y, z, u, v, some (.tup [.loc p, .loc (p + 1)]), some (.d (.bl b)), none, none, none, none]) (fun K hK => ?_) ?_
  · simp only [wAsg, wOp, wLc, wSeqI]
    refine moves_is pr (vp rfl) _ ?_
    simp only [seqW, List.map_map]
    refine lc_S (W.d ∘ flD) (fun xs acc mu2 => ∃ (done fs : List Flow), flowsP P s = done ++ xs ∧ acc = fs.map (W.d ∘ flD) ∧ (fs = [] ↔ ∀ f ∈ done, lacksL N C f = []) ∧ mu2[i]? = some (tC N) ∧ mu2[j]? = some (tC C) ∧ mu2[p]? = some (.lst (tabL N)) ∧ mu2[p + 1]? = some (.lst (tabL C))) (fun _ _ _ _ => trivial) ?_ ?_ ⟨[], [], rfl, rfl, by simp, g1, g2, g3, g4⟩
    · rintro _ mu2 ⟨done, fs, e, rfl, h1, h2, h3, h4, h5⟩
      rw [List.append_nil] at e
      rw [← e] at h1
      have d1 := flDs_dep fs
      have nx := hK [y0, some (.d wd), some (.d pd), some (.d nd), some (.d (.int c0)), some (.d fd), some (.loc i), some (.loc j), x, y, z, u, v, some (.tup [.loc p, .loc (p + 1)]), some (.d (.bl (decide (fs = [])))), none, none, none, none] mu2 ⟨_, by rw [decide_eq_true_eq, h1]; exact clos_iff tn tc.ok _, h4, h5, rfl⟩
      have e2 : fs.map (W.d ∘ flD) = (fs.map flD).map W.d := by rw [List.map_map]
      rw [e2]
      simp only [newLW, asDs_map, newL, Bool.false_eq_true, if_false]
      cases fs with
      | nil => simpa [sizeLine_eq] using nx
      | cons f fs =>
        simp at d1
        simp [sizeLine_eq, d1]
        exact ⟨by omega, nx⟩
    · rintro f xs acc mu2 ⟨done, fs, e, rfl, h1, h2, h3, h4, h5⟩ A B hA hB
      have hm : f ∈ flowsP P s := by rw [e]; simp
      show wTest _ [y0, some (.d wd), some (.d pd), some (.d nd), some (.d (.int c0)), some (.d fd), some (.loc i), some (.loc j), x, y, z, u, v, some (.tup [.loc p, .loc (p + 1)]), none, some (.d (flD f)), none, none, none] mu2 _
      simp only [wTest, wOp]
      refine callS_to (ws := [.loc i, .loc j, .d (flD f)]) (iss1 (var_is (i := 6) rfl) (iss1 (var_is (i := 7) rfl) (iss1 (var_is (i := 15) rfl) iss0))) ⟨i, j, N, C, f, rfl, rfl, rfl, h2, h3, tn.ok, tc.ok, by omega, fo.pl hm, fo.nr hm, ?_⟩
      have h2' := get_app h2 [.lstW [.loc j, .loc i], .lst ((goalsL N f.1).map kyD), .lst ((lacksL N C f).map kyD)]
      have h3' := get_app h3 [.lstW [.loc j, .loc i], .lst ((goalsL N f.1).map kyD), .lst ((lacksL N C f).map kyD)]
      have h4' := get_app h4 [.lstW [.loc j, .loc i], .lst ((goalsL N f.1).map kyD), .lst ((lacksL N C f).map kyD)]
      have h5' := get_app h5 [.lstW [.loc j, .loc i], .lst ((goalsL N f.1).map kyD), .lst ((lacksL N C f).map kyD)]
      have h6 : (mu2 ++ [.lstW [.loc j, .loc i], .lst ((goalsL N f.1).map kyD), .lst ((lacksL N C f).map kyD)])[mu2.length + 2]? = some (.lst ((lacksL N C f).map kyD)) := by simp
      generalize mu2 ++ [.lstW [.loc j, .loc i], .lst ((goalsL N f.1).map kyD), .lst ((lacksL N C f).map kyD)] = mu3 at h2' h3' h4' h5' h6 ⊢
      generalize mu2.length + 2 = kk at h6 ⊢
      have kd := kys_dep (lacksL N C f)
      cases hL : lacksL N C f with
      | nil =>
        rw [hL] at h6
        simp [h6, sizeLine_eq, onBl]
        exact hB _ ⟨done ++ [f], fs, by rw [e]; simp, rfl, ⟨fun q g hg => by
          rcases List.mem_append.mp hg with hg | hg
          · exact h1.mp q g hg
          · rw [List.mem_singleton] at hg; subst hg; exact hL, fun q => h1.mpr fun g hg => q g (by simp [hg])⟩, h2', h3', h4', h5'⟩
      | cons q qs =>
        rw [hL] at h6 kd
        have nx := hA (.d (flD f)) mu3 ⟨done ++ [f], fs ++ [f], by rw [e]; simp, by simp, ⟨fun q => by simp at q, fun q => by have := q f (by simp); rw [hL] at this; cases this⟩, h2', h3', h4', h5'⟩
        simp at kd
        simp [h6, sizeLine_eq, onBl, kd]
        exact ⟨by omega, nx⟩
  clear ei ej g1 g2 g3 g4
  rintro _ mu2 ⟨b, hb, g3, g4, rfl⟩
  have o13 : ∀ (k : Int) (l : Nat) {w14 w15 w16 w17 w18 : Option W} {mu : Sto}, (k = 0 ∧ l = p ∨ k = 1 ∧ l = p + 1) → Is (wOp fIx (wVar 13) (wC (.int k))) [y0, some (.d wd), some (.d pd), some (.d nd), some (.d (.int c0)), some (.d fd), some (.loc i), some (.loc j), x, y, z, u, v, some (.tup [.loc p, .loc (p + 1)]), w14, w15, w16, w17, w18] mu (.loc l) := fun k l {w14 w15 w16 w17 w18 mu} h K hK => by
    rcases h with ⟨rfl, rfl⟩ | ⟨rfl, rfl⟩ <;> simpa using hK
  obtain ⟨ld, hld⟩ : ∃ ld : D, ld = .tup [.lst (tabL N), .lst (tabL C)] := ⟨_, rfl⟩
  refine seq_to [y0, some (.d wd), some (.d pd), some (.d nd), some (.d (.int c0)), some (.d fd), some (.loc i), some (.loc j), x, y, z, u, v, some (.tup [.loc p, .loc (p + 1)]), some (.d (.bl b)), none, some (.d ld), none, none] mu2 (fun K hK => asg_to _ (by rw [hld]; exact tup2_is (listL_is (o13 0 p (.inl ⟨rfl, rfl⟩)) g3) (listL_is (o13 1 (p + 1) (.inr ⟨rfl, rfl⟩)) g4)) hK) ?_
  have vl : ∀ {rh : Ev} {mu : Sto}, rh[16]? = some (some (.d ld)) → Is (wVar 16) rh mu (.d (.tup [.lst (tabL N), .lst (tabL C)])) := fun {rh mu} e => by rw [← hld]; exact var_is e
  have q1 : ddeps (tabL N) ≤ 2 := tabs_dep (srtT N)
  have q2 : ddeps (tabL C) ≤ 2 := tabs_dep (srtT C)
  have f1 : deqvs (tabL N) (tabL N) = true := deqvs_refl (tabL N) (by omega)
  have f2 : deqvs (tabL C) (tabL C) = true := deqvs_refl (tabL C) (by omega)
  refine seq_R (fun rh mu3 => ∃ w17 w18, mu2 = mu3 ∧ rh = [y0, some (.d wd), some (.d pd), some (.d nd), some (.d (.int c0)), some (.d fd), some (.loc i), some (.loc j), x, y, z, u, v, some (.tup [.loc p, .loc (p + 1)]), some (.d (.bl b)), none, some (.d ld), w17, w18]) (fun K hK => ?_) ?_
  · simp only [wFor, wRng1, wCons, wNil, wC]
    simp
    rw [show rngW 0 2 = [0, 1].map fun k : Nat => W.d (.int (k : Nat)) from rfl]
    refine forL_S (fun k : Nat => W.d (.int (k : Nat))) (fun xs rh mu3 => ∃ w17 w18, mu2 = mu3 ∧ rh = [y0, some (.d wd), some (.d pd), some (.d nd), some (.d (.int c0)), some (.d fd), some (.loc i), some (.loc j), x, y, z, u, v, some (.tup [.loc p, .loc (p + 1)]), some (.d (.bl b)), none, some (.d ld), w17, w18]) (fun _ _ _ _ => by first | trivial | rfl) (fun rh mu3 h => hK rh mu3 h) ?_ ⟨none, none, rfl, rfl⟩
    rintro k xs _ _ ⟨w17, w18, rfl, rfl⟩ M hM
    show wSeq _ _ _ _ _
    refine seq_to [y0, some (.d wd), some (.d pd), some (.d nd), some (.d (.int c0)), some (.d fd), some (.loc i), some (.loc j), x, y, z, u, v, some (.tup [.loc p, .loc (p + 1)]), some (.d (.bl b)), none, some (.d ld), some (.d (.int (k : Nat))), some (.d (.bl b))] mu2 (fun K hK => asg_to _ (closed_isB pr.g tn.ok tc.ok (by omega) hb (vp rfl) (vl rfl)) hK) ?_
    refine ifS_F (or_isF (fun K hK => ?_) (or_isF (fun K hK => ?_) fun K hK => ?_)) (hM _ _ ⟨_, _, rfl, rfl⟩)
    · simpa using hK
    · simpa [onBl] using hK
    · simp only [wTest, wOp]
      refine vl rfl _ (var_is (i := 13) rfl _ ?_)
      simp [g3, g4, f1, f2, onBl]
      exact ⟨by omega, hK⟩
  rintro _ _ ⟨w17, w18, rfl, rfl⟩
  refine ret_to (.d (.bl true)) (fun K hK => ?_) (h _)
  simp only [wOp]
  refine closed_isB (N := N1) (C := C1) (r := true) pr.g lst.n lst.c (by omega) ⟨fun _ => hc1, fun _ => rfl⟩ (vp rfl) (by rw [← hfd]; exact var_is (i := 5) rfl) _ ?_
  simpa using hK
end VL
namespace VLD
open PySem PySem.Spec PyProof.Rows L2 RZ VL
def top (i : Nat) : Stmt := PySem.Challenge.pw_slicewise_k24_closed_tables.main.body.getD i (.Pass ⟨0, 0, 0, 0⟩)
theorem ulen1 {us : List Value} (h : us.length = 1) : ∃ a0 : Value, us = [a0] := by
  match us, h with
  | [_], _ => exact ⟨_, rfl⟩
theorem ulen2 {us : List Value} (h : us.length = 2) : ∃ a0 a1 : Value, us = [a0, a1] := by
  match us, h with
  | [_, _], _ => exact ⟨_, _, rfl⟩
theorem ulen3 {us : List Value} (h : us.length = 3) : ∃ a0 a1 a2 : Value, us = [a0, a1, a2] := by
  match us, h with
  | [_, _, _], _ => exact ⟨_, _, _, rfl⟩
theorem ulen4 {us : List Value} (h : us.length = 4) : ∃ a0 a1 a2 a3 : Value, us = [a0, a1, a2, a3] := by
  match us, h with
  | [_, _, _, _], _ => exact ⟨_, _, _, _, rfl⟩
theorem ulen5 {us : List Value} (h : us.length = 5) : ∃ a0 a1 a2 a3 a4 : Value, us = [a0, a1, a2, a3, a4] := by
  match us, h with
  | [_, _, _, _, _], _ => exact ⟨_, _, _, _, _, rfl⟩
theorem ulen6 {us : List Value} (h : us.length = 6) : ∃ a0 a1 a2 a3 a4 a5 : Value, us = [a0, a1, a2, a3, a4, a5] := by
  match us, h with
  | [_, _, _, _, _, _], _ => exact ⟨_, _, _, _, _, _, rfl⟩
structure Txt (K : KW) (mg : Str → Option Value) : Prop where
  n_str : mg "str" = none
  n_isinstance : mg "isinstance" = none
  n_len : mg "len" = none
  n_all : mg "all" = none
  n_list : mg "list" = none
  n_enumerate : mg "enumerate" = none
  n_sorted : mg "sorted" = none
  n_zip : mg "zip" = none
  n_range : mg "range" = none
  n_tuple : mg "tuple" = none
  n_sum : mg "sum" = none
  n_int : mg "int" = none
  n_bool : mg "bool" = none
  c_LETTERS : ∃ v u, mg "LETTERS" = some u ∧ L2.RelV v u ∧ ∀ F, RepD K F k_LETTERS v
  fl_names : Flds K cn_names "names"
  fl_cells : Flds K cn_cells "cells"
section
variable {P : Program} {K : KW} {mg : Str → Option Value} {base : Heap}
abbrev s_is_name : Stmt := top 2
theorem sc_is_name : FnScope ["thing", "sign"] ["thing"] (defScope s_is_name) := ⟨rfl, rfl, rfl, by decide +kernel, rfl, by decide +kernel, by decide +kernel⟩
theorem d_is_name {f : Addr} {fd : FuncData} (F : Fun K "is_name" "is_name" s_is_name f fd) (hm : mg "is_name" = some (.ref f)) (T : Txt K mg) : Def P K.w K mg base "is_name" 1 [] (pSp sp_is_name) :=
  def_mk F hm sc_is_name (F.binds (ps := ["thing"]) fun _ _ _ _ _ _ us hl => (by obtain ⟨_, rfl⟩ := ulen1 hl; rfl)) (fun _ _ _ h => len1 h) fun cdv A outer s H E y => ⟨w_is_name, (vss_cons (vs_if (VW.vt (vw_or (vt_not (vt_truth y (ve_isi y T.n_isinstance (va_cons (ve_v y 0) (va_cons (ve_ty y T.n_str) va_nil))))) (vw_or (vt_cmp (c_lt y) (ve_len y T.n_len (va_cons (ve_v y 0) va_nil)) ve_int) (vw_or1 (vt_cmp (c_gt y) (ve_len y T.n_len (va_cons (ve_v y 0) va_nil)) ve_int))))) (vss_one (vs_ret ve_bl)) vss_nil)
    (vss_one (vs_ret (ve_all y T.n_all (va_cons (ve_lc y false (own := [("sign", 1)]) (vi_str (ve_v y 0)) (fun _ => (blkOk_at (S := defScope s_is_name) (by decide +kernel))) (vk_name (YOk.blk y _) 1 [1]) vts_nil (ve_cmp (c_inS (YOk.blk y _)) (ve_v (YOk.blk y _) 1) (ve_glob (YOk.blk y _) T.c_LETTERS))) va_nil))))), at1 v_is_name⟩
abbrev s_is_field : Stmt := top 3
theorem sc_is_field : FnScope ["thing"] ["thing"] (defScope s_is_field) := ⟨rfl, rfl, rfl, by decide +kernel, rfl, by decide +kernel, by decide +kernel⟩
theorem d_is_field {f : Addr} {fd : FuncData} (F : Fun K "is_field" "is_field" s_is_field f fd) (hm : mg "is_field" = some (.ref f)) (T : Txt K mg) (d_is_name : Def P K.w K mg base "is_name" 1 [] (pSp sp_is_name)) : Def P K.w K mg base "is_field" 2 [] (pSp sp_is_field) :=
  def_mk F hm sc_is_field (F.binds (ps := ["thing"]) fun _ _ _ _ _ _ us hl => (by obtain ⟨_, rfl⟩ := ulen1 hl; rfl)) (fun _ _ _ h => len1 h) fun cdv A outer s H E y => ⟨w_is_field, (vss_one (vs_ret (ve_andV (ve_isi y T.n_isinstance (va_cons (ve_v y 0) (va_cons (ve_ty y T.n_str) va_nil))) (ve_andV (ve_starts (ve_v y 0) ve_str) (ve_one (ve_callP y false d_is_name (by decide) (va_cons (ve_slice y false (ve_v y 0) (vo_some ve_int) vo_none) va_nil))))))), at1 v_is_field⟩
abbrev s_class_of : Stmt := top 4
theorem sc_class_of : FnScope ["key"] ["key"] (defScope s_class_of) := ⟨rfl, rfl, rfl, by decide +kernel, rfl, by decide +kernel, by decide +kernel⟩
theorem d_class_of {f : Addr} {fd : FuncData} (F : Fun K "class_of" "class_of" s_class_of f fd) (hm : mg "class_of" = some (.ref f)) (T : Txt K mg) (d_is_field : Def P K.w K mg base "is_field" 2 [] (pSp sp_is_field)) : Def P K.w K mg base "class_of" 3 [] (pSp sp_class_of) :=
  def_mk F hm sc_class_of (F.binds (ps := ["key"]) fun _ _ _ _ _ _ us hl => (by obtain ⟨_, rfl⟩ := ulen1 hl; rfl)) (fun _ _ _ h => len1 h) fun cdv A outer s H E y => ⟨w_class_of, (vss_cons (vs_if (vt_truth y (ve_callP y false d_is_field (by decide) (va_cons (ve_v y 0) va_nil))) (vss_one (vs_ret (ve_v y 0))) vss_nil)
    (vss_one (vs_ret ve_str))), at1 v_class_of⟩
abbrev s_shape : Stmt := top 6
theorem sc_shape : FnScope ["program", "nothing", "row", "heads", "ends", "elses", "homes", "stack", "place", "word"] ["program"] (defScope s_shape) := ⟨rfl, rfl, rfl, by decide +kernel, rfl, by decide +kernel, by decide +kernel⟩
theorem d_shape {f : Addr} {fd : FuncData} (F : Fun K "shape" "shape" s_shape f fd) (hm : mg "shape" = some (.ref f)) (T : Txt K mg) : Def P K.w K mg base "shape" 1 [] sp_shape :=
  def_mk F hm sc_shape (F.binds (ps := ["program"]) fun _ _ _ _ _ _ us hl => (by obtain ⟨_, rfl⟩ := ulen1 hl; rfl)) (fun _ _ _ h => lenS1 h) fun cdv A outer s H E y => ⟨w_shape, (vss_cons (vs_setLc y false 1 (own := [("row", 2)]) (sw_true rfl rfl rfl (by decide +kernel)) (vi_seq y (ve_v y 0)) (blkOk_at (S := defScope s_shape) (by decide +kernel)) (vk_name (YOk.blk y _) 2 [2]) vts_nil ve_non)
    (vss_cons (vs_set y 3 (ve_list y true T.n_list (va_cons (ve_v y 1) va_nil)))
    (vss_cons (vs_set y 4 (ve_list y true T.n_list (va_cons (ve_v y 1) va_nil)))
    (vss_cons (vs_set y 5 (ve_list y true T.n_list (va_cons (ve_v y 1) va_nil)))
    (vss_cons (vs_set y 6 (ve_list y true T.n_list (va_cons (ve_v y 1) va_nil)))
    (vss_cons (vs_set y 7 (ve_lst true va_nil))
    (vss_cons (vs_for PassesOwn.never rfl (vi_enum y T.n_enumerate (va_cons (ve_v y 0) va_nil)) (vk_tup y 2 (vks_cons (vk_name y 8 [8, 2]) (vks_cons (vk_name y 2 [8, 2]) (vks_nil [8, 2])))) (vss_cons (vs_set y 9 (ve_ix y (ve_v y 2) ve_int))
    (vss_cons (vs_if (vt_cmp (c_ne y) (ve_v y 7) (ve_lst false va_nil)) (vss_cons (vs_asg (ve_ix y (ve_v y 7) (ve_neg ve_int)) (vg_subL (ve_v y 3) (ve_v y 8)))
    (vss_one (vs_asg (ve_ix y (ve_v y 7) ve_int) (vg_subL (ve_v y 6) (ve_v y 8))))) vss_nil)
    (vss_cons (vs_if (vt_cmp (c_eq y) (ve_v y 9) ve_str) (vss_one (vs_asg (ve_v y 8) (vg_subL (ve_v y 6) (ve_v y 8)))) vss_nil)
    (vss_cons (vs_if (vt_cmp (c_eq y) (ve_v y 9) ve_str) (vss_one (vs_asg (ve_v y 8) (vg_subL (ve_v y 5) (ve_ix y (ve_v y 7) (ve_neg ve_int))))) vss_nil)
    (vss_cons (vs_if (VW.vt (vw_or (vt_cmp (c_eq y) (ve_v y 9) ve_str) (vw_or1 (vt_cmp (c_eq y) (ve_v y 9) ve_str)))) (vss_one (vs_asg (ve_v y 8) (vg_subL (ve_v y 4) (ve_pop y (ve_v y 7))))) vss_nil)
    (vss_one (vs_if (VW.vt (vw_or (vt_cmp (c_eq y) (ve_v y 9) ve_str) (vw_or (vt_cmp (c_eq y) (ve_v y 9) ve_str) (vw_or1 (vt_cmp (c_eq y) (ve_v y 9) ve_str))))) (vss_one (vs_expr (ve_append y (ve_v y 7) (va_cons (ve_v y 8) va_nil)))) vss_nil))))))))
    (vss_one (vs_ret (ve_tup (va_cons (ve_v y 3) (va_cons (ve_v y 4) (va_cons (ve_v y 5) (va_cons (ve_v y 6) va_nil)))))))))))))), atS1 v_shape⟩
abbrev s_numbers_of : Stmt := top 8
theorem sc_numbers_of : FnScope ["rows", "some", "row"] ["rows"] (defScope s_numbers_of) := ⟨rfl, rfl, rfl, by decide +kernel, rfl, by decide +kernel, by decide +kernel⟩
theorem d_numbers_of {f : Addr} {fd : FuncData} (F : Fun K "numbers_of" "numbers_of" s_numbers_of f fd) (hm : mg "numbers_of" = some (.ref f)) (T : Txt K mg) : Def P K.w K mg base "numbers_of" 1 [] (pSp sp_numbers_of) :=
  def_mk F hm sc_numbers_of (F.binds (ps := ["rows"]) fun _ _ _ _ _ _ us hl => (by obtain ⟨_, rfl⟩ := ulen1 hl; rfl)) (fun _ _ _ h => len1 h) fun cdv A outer s H E y => ⟨w_numbers_of, (vss_cons (vs_set y 1 (ve_lst true va_nil))
    (vss_cons (vs_set y 2 ve_int)
    (vss_cons (vs_while PassesOwn.never (vt_cmp (c_gt y) (ve_shr (ve_v y 0) (ve_v y 2)) ve_int) (vss_cons (vs_if (vt_cmp (c_eq y) (ve_and (ve_shr (ve_v y 0) (ve_v y 2)) ve_int) ve_int) (vss_one (vs_expr (ve_append y (ve_v y 1) (va_cons (ve_v y 2) va_nil)))) vss_nil)
    (vss_one (vs_augAdd y 2 ve_int))))
    (vss_one (vs_ret (ve_v y 1)))))), at1 v_numbers_of⟩
abbrev s_Draft_init : Stmt := inClass (top 9) 0
theorem sc_Draft_init : FnScope ["self"] ["self"] (defScope s_Draft_init) := ⟨rfl, rfl, rfl, by decide +kernel, rfl, by decide +kernel, by decide +kernel⟩
theorem d_Draft_init {f : Addr} {fd : FuncData} (F : Fun K "__init__" "Draft.__init__" s_Draft_init f fd) (T : Txt K mg) : FDef P K.w K mg base f 1 sp_Draft_init :=
  fdef_mk F sc_Draft_init (F.binds (ps := ["self"]) fun _ _ _ _ _ _ us hl => (by obtain ⟨_, rfl⟩ := ulen1 hl; rfl)) (fun _ _ _ h => lenS1 h) fun cdv A outer s H E y => ⟨w_Draft_init, (vss_cons (vs_fld y T.fl_names (ve_v y 0) (ve_nnew y))
    (vss_one (vs_fld y T.fl_cells (ve_v y 0) (ve_nnew y)))), atS1 v_Draft_init⟩
abbrev s_Draft_of_name : Stmt := inClass (top 9) 1
theorem sc_Draft_of_name : FnScope ["self", "home", "name"] ["self", "home", "name"] (defScope s_Draft_of_name) := ⟨rfl, rfl, rfl, by decide +kernel, rfl, by decide +kernel, by decide +kernel⟩
theorem d_Draft_of_name {f : Addr} {fd : FuncData} (F : Fun K "of_name" "Draft.of_name" s_Draft_of_name f fd) (T : Txt K mg) : FDef P K.w K mg base f 1 sp_Draft_of_name :=
  fdef_mk F sc_Draft_of_name (F.binds (ps := ["self", "home", "name"]) fun _ _ _ _ _ _ us hl => (by obtain ⟨_, _, _, rfl⟩ := ulen3 hl; rfl)) (fun _ _ _ h => lenS3 h) fun cdv A outer s H E y => ⟨w_Draft_of_name, (vss_one (vs_ret (ve_nget2 y (ve_fld y T.fl_names (ve_v y 0)) (ve_tup (va_cons (ve_v y 1) (va_cons (ve_v y 2) va_nil))) ve_int))), atS3 v_Draft_of_name⟩
abbrev s_Draft_of_cells : Stmt := inClass (top 9) 2
theorem sc_Draft_of_cells : FnScope ["self", "home", "name", "kind", "total", "row"] ["self", "home", "name", "kind"] (defScope s_Draft_of_cells) := ⟨rfl, rfl, rfl, by decide +kernel, rfl, by decide +kernel, by decide +kernel⟩
theorem d_Draft_of_cells {f : Addr} {fd : FuncData} (F : Fun K "of_cells" "Draft.of_cells" s_Draft_of_cells f fd) (T : Txt K mg) (d_numbers_of : Def P K.w K mg base "numbers_of" 1 [] (pSp sp_numbers_of)) (t_of_name : MTabOk P K.w K mg base "of_name" 1 tab_of_name) : FDef P K.w K mg base f 2 sp_Draft_of_cells :=
  fdef_mk F sc_Draft_of_cells (F.binds (ps := ["self", "home", "name", "kind"]) fun _ _ _ _ _ _ us hl => (by obtain ⟨_, _, _, _, rfl⟩ := ulen4 hl; rfl)) (fun _ _ _ h => lenS4 h) fun cdv A outer s H E y => ⟨w_Draft_of_cells, (vss_cons (vs_set y 4 ve_int)
    (vss_cons (vs_for PassesOwn.never rfl (vi_seq y (ve_callP y false d_numbers_of (by decide) (va_cons (ve_meth y t_of_name (by decide) (ve_v y 0) (va_cons (ve_v y 1) (va_cons (ve_v y 2) va_nil)) _) va_nil))) (vk_name y 5 [5]) (vss_one (vs_set y 4 (ve_or (ve_v y 4) (ve_nget2 y (ve_fld y T.fl_cells (ve_v y 0)) (ve_tup (va_cons (ve_v y 5) (va_cons (ve_v y 3) va_nil))) ve_int)))))
    (vss_one (vs_ret (ve_v y 4))))), atS4 v_Draft_of_cells⟩
abbrev s_Draft_had_by : Stmt := inClass (top 9) 3
theorem sc_Draft_had_by : FnScope ["self", "origin", "word", "home", "name", "kind"] ["self", "origin"] (defScope s_Draft_had_by) := ⟨rfl, rfl, rfl, by decide +kernel, rfl, by decide +kernel, by decide +kernel⟩
theorem d_Draft_had_by {f : Addr} {fd : FuncData} (F : Fun K "had_by" "Draft.had_by" s_Draft_had_by f fd) (T : Txt K mg) (t_of_name : MTabOk P K.w K mg base "of_name" 1 tab_of_name) (t_of_cells : MTabOk P K.w K mg base "of_cells" 2 tab_of_cells) : FDef P K.w K mg base f 3 sp_Draft_had_by :=
  fdef_mk F sc_Draft_had_by (F.binds (ps := ["self", "origin"]) fun _ _ _ _ _ _ us hl => (by obtain ⟨_, _, rfl⟩ := ulen2 hl; rfl)) (fun _ _ _ h => lenS2 h) fun cdv A outer s H E y => ⟨w_Draft_had_by, (vss_cons (vs_asg (ve_v y 1) (VK.vg (vk_tup y 4 (vks_cons (vk_name y 2 [2, 3, 4, 5]) (vks_cons (vk_name y 3 [2, 3, 4, 5]) (vks_cons (vk_name y 4 [2, 3, 4, 5]) (vks_cons (vk_name y 5 [2, 3, 4, 5]) (vks_nil [2, 3, 4, 5]))))))))
    (vss_cons (vs_if (vt_cmp (c_eq y) (ve_v y 2) ve_str) (vss_one (vs_ret (ve_shl ve_int (ve_v y 3)))) vss_nil)
    (vss_cons (vs_if (vt_cmp (c_eq y) (ve_v y 2) ve_str) (vss_one (vs_ret (ve_meth y t_of_name (by decide) (ve_v y 0) (va_cons (ve_v y 3) (va_cons (ve_v y 4) va_nil)) _))) vss_nil)
    (vss_one (vs_ret (ve_meth y t_of_cells (by decide) (ve_v y 0) (va_cons (ve_v y 3) (va_cons (ve_v y 4) (va_cons (ve_v y 5) va_nil))) _)))))), atS2 v_Draft_had_by⟩
abbrev s_Draft_grown : Stmt := inClass (top 9) 4
theorem sc_Draft_grown : FnScope ["self", "goal", "some", "word", "home", "name", "kind", "ahead", "fresh", "row"] ["self", "goal", "some"] (defScope s_Draft_grown) := ⟨rfl, rfl, rfl, by decide +kernel, rfl, by decide +kernel, by decide +kernel⟩
theorem d_Draft_grown {f : Addr} {fd : FuncData} (F : Fun K "grown" "Draft.grown" s_Draft_grown f fd) (T : Txt K mg) (d_numbers_of : Def P K.w K mg base "numbers_of" 1 [] (pSp sp_numbers_of)) (t_of_name : MTabOk P K.w K mg base "of_name" 1 tab_of_name) : FDef P K.w K mg base f 2 sp_Draft_grown :=
  fdef_mk F sc_Draft_grown (F.binds (ps := ["self", "goal", "some"]) fun _ _ _ _ _ _ us hl => (by obtain ⟨_, _, _, rfl⟩ := ulen3 hl; rfl)) (fun _ _ _ h => lenS3 h) fun cdv A outer s H E y => ⟨w_Draft_grown, (vss_cons (vs_asg (ve_v y 1) (VK.vg (vk_tup y 4 (vks_cons (vk_name y 3 [3, 4, 5, 6]) (vks_cons (vk_name y 4 [3, 4, 5, 6]) (vks_cons (vk_name y 5 [3, 4, 5, 6]) (vks_cons (vk_name y 6 [3, 4, 5, 6]) (vks_nil [3, 4, 5, 6]))))))))
    (vss_cons (vs_if (vt_cmp (c_eq y) (ve_v y 2) ve_int) (vss_one (vs_ret ve_bl)) vss_nil)
    (vss_cons (vs_if (vt_cmp (c_eq y) (ve_v y 3) ve_str) (vss_cons (vs_set y 7 (ve_meth y t_of_name (by decide) (ve_v y 0) (va_cons (ve_v y 4) (va_cons (ve_v y 5) va_nil)) _))
    (vss_cons (vs_nput y (ve_fld y T.fl_names (ve_v y 0)) (ve_tup (va_cons (ve_v y 4) (va_cons (ve_v y 5) va_nil))) (ve_or (ve_v y 7) (ve_v y 2)))
    (vss_one (vs_ret (ve_cmp (c_ne y) (ve_or (ve_v y 7) (ve_v y 2)) (ve_v y 7)))))) vss_nil)
    (vss_cons (vs_set y 8 ve_bl)
    (vss_cons (vs_for PassesOwn.never rfl (vi_seq y (ve_callP y false d_numbers_of (by decide) (va_cons (ve_meth y t_of_name (by decide) (ve_v y 0) (va_cons (ve_v y 4) (va_cons (ve_v y 5) va_nil)) _) va_nil))) (vk_name y 9 [9]) (vss_cons (vs_set y 7 (ve_nget2 y (ve_fld y T.fl_cells (ve_v y 0)) (ve_tup (va_cons (ve_v y 9) (va_cons (ve_v y 6) va_nil))) ve_int))
    (vss_cons (vs_nput y (ve_fld y T.fl_cells (ve_v y 0)) (ve_tup (va_cons (ve_v y 9) (va_cons (ve_v y 6) va_nil))) (ve_or (ve_v y 7) (ve_v y 2)))
    (vss_one (vs_set y 8 (ve_orV (ve_v y 8) (ve_one (ve_cmp (c_ne y) (ve_or (ve_v y 7) (ve_v y 2)) (ve_v y 7)))))))))
    (vss_one (vs_ret (ve_v y 8)))))))), atS3 v_Draft_grown⟩
abbrev s_Draft_told : Stmt := inClass (top 9) 5
theorem sc_Draft_told : FnScope ["self", "names", "key", "some"] ["self"] (defScope s_Draft_told) := ⟨rfl, rfl, rfl, by decide +kernel, rfl, by decide +kernel, by decide +kernel⟩
theorem d_Draft_told {f : Addr} {fd : FuncData} (F : Fun K "told" "Draft.told" s_Draft_told f fd) (T : Txt K mg) : FDef P K.w K mg base f 1 sp_Draft_told :=
  fdef_mk F sc_Draft_told (F.binds (ps := ["self"]) fun _ _ _ _ _ _ us hl => (by obtain ⟨_, rfl⟩ := ulen1 hl; rfl)) (fun _ _ _ h => lenS1 h) fun cdv A outer s H E y => ⟨w_Draft_told, (vss_cons (vs_set y 1 (ve_sortedR y true T.n_sorted (va_cons (ve_lock (ve_lc y false (own := [("key", 2), ("some", 3)]) (vi_nitems y (ve_fld y T.fl_names (ve_v y 0))) (fun _ => (blkOk_at (S := defScope s_Draft_told) (by decide +kernel))) (vk_tup (YOk.blk y _) 2 (vks_cons (vk_name (YOk.blk y _) 2 [2, 3]) (vks_cons (vk_name (YOk.blk y _) 3 [2, 3]) (vks_nil [2, 3])))) vts_nil (ve_tup (va_cons (ve_ix (YOk.blk y _) (ve_v (YOk.blk y _) 2) ve_int) (va_cons (ve_ix (YOk.blk y _) (ve_v (YOk.blk y _) 2) ve_int) (va_cons (ve_v (YOk.blk y _) 3) va_nil)))))) va_nil)))
    (vss_one (vs_ret (ve_tup (va_cons (ve_v y 1) (va_cons (ve_sortedR y true T.n_sorted (va_cons (ve_lock (ve_lc y false (own := [("key", 2), ("some", 3)]) (vi_nitems y (ve_fld y T.fl_cells (ve_v y 0))) (fun _ => (blkOk_at (S := defScope s_Draft_told) (by decide +kernel))) (vk_tup (YOk.blk y _) 2 (vks_cons (vk_name (YOk.blk y _) 2 [2, 3]) (vks_cons (vk_name (YOk.blk y _) 3 [2, 3]) (vks_nil [2, 3])))) vts_nil (ve_tup (va_cons (ve_ix (YOk.blk y _) (ve_v (YOk.blk y _) 2) ve_int) (va_cons (ve_ix (YOk.blk y _) (ve_v (YOk.blk y _) 2) ve_int) (va_cons (ve_v (YOk.blk y _) 3) va_nil)))))) va_nil)) va_nil)))))), atS1 v_Draft_told⟩
abbrev s_call_flows : Stmt := top 10
theorem sc_call_flows : FnScope ["program", "ends", "home", "parts", "there", "flows", "name", "operand", "given"] ["program", "ends", "home", "parts"] (defScope s_call_flows) := ⟨rfl, rfl, rfl, by decide +kernel, rfl, by decide +kernel, by decide +kernel⟩
theorem d_call_flows {f : Addr} {fd : FuncData} (F : Fun K "call_flows" "call_flows" s_call_flows f fd) (hm : mg "call_flows" = some (.ref f)) (T : Txt K mg) (d_is_name : Def P K.w K mg base "is_name" 1 [] (pSp sp_is_name)) : Def P K.w K mg base "call_flows" 2 [] (pSp sp_call_flows) :=
  def_mk F hm sc_call_flows (F.binds (ps := ["program", "ends", "home", "parts"]) fun _ _ _ _ _ _ us hl => (by obtain ⟨_, _, _, _, rfl⟩ := ulen4 hl; rfl)) (fun _ _ _ h => len4 h) fun cdv A outer s H E y => ⟨w_call_flows, (vss_cons (vs_set y 4 ve_int)
    (vss_cons (vs_while PassesOwn.never (VW.vt (vw_or (vt_cmp (c_ne y) (ve_ix y (ve_ix y (ve_v y 0) (ve_v y 4)) ve_int) ve_str) (vw_or1 (vt_cmp (c_ne y) (ve_ix y (ve_ix y (ve_v y 0) (ve_v y 4)) ve_int) (ve_ix y (ve_v y 3) ve_int))))) (vss_one (vs_augAdd y 4 ve_int)))
    (vss_cons (vs_set y 5 (ve_lst true va_nil))
    (vss_cons (vs_for PassesOwn.never rfl (vi_zip y T.n_zip (va_cons (ve_ix y (ve_ix y (ve_v y 0) (ve_v y 4)) ve_int) (va_cons (ve_ix y (ve_v y 3) ve_int) va_nil))) (vk_tup y 2 (vks_cons (vk_name y 6 [6, 7]) (vks_cons (vk_name y 7 [6, 7]) (vks_nil [6, 7])))) (vss_one (vs_if (vt_truth y (ve_callP y false d_is_name (by decide) (va_cons (ve_v y 7) va_nil))) (vss_one (vs_expr (ve_append y (ve_v y 5) (va_cons (ve_tup (va_cons (ve_tup (va_cons ve_str (va_cons (ve_v y 4) (va_cons (ve_v y 6) (va_cons ve_str va_nil))))) (va_cons (ve_tup (va_cons ve_str (va_cons (ve_v y 2) (va_cons (ve_v y 7) (va_cons ve_str va_nil))))) va_nil))) va_nil)))) vss_nil)))
    (vss_cons (vs_set y 8 (ve_ix y (ve_ix y (ve_v y 0) (ve_ix y (ve_v y 1) (ve_v y 4))) ve_int))
    (vss_cons (vs_if (vt_truth y (ve_callP y false d_is_name (by decide) (va_cons (ve_v y 8) va_nil))) (vss_one (vs_expr (ve_append y (ve_v y 5) (va_cons (ve_tup (va_cons (ve_tup (va_cons ve_str (va_cons (ve_v y 2) (va_cons (ve_ix y (ve_v y 3) ve_int) (va_cons ve_str va_nil))))) (va_cons (ve_tup (va_cons ve_str (va_cons (ve_v y 4) (va_cons (ve_v y 8) (va_cons ve_str va_nil))))) va_nil))) va_nil)))) vss_nil)
    (vss_one (vs_ret (ve_v y 5))))))))), at4 v_call_flows⟩
abbrev s_row_flows : Stmt := top 11
theorem sc_row_flows : FnScope ["program", "ends", "home", "row", "parts"] ["program", "ends", "home", "row"] (defScope s_row_flows) := ⟨rfl, rfl, rfl, by decide +kernel, rfl, by decide +kernel, by decide +kernel⟩
theorem d_row_flows {f : Addr} {fd : FuncData} (F : Fun K "row_flows" "row_flows" s_row_flows f fd) (hm : mg "row_flows" = some (.ref f)) (T : Txt K mg) (d_is_name : Def P K.w K mg base "is_name" 1 [] (pSp sp_is_name)) (d_class_of : Def P K.w K mg base "class_of" 3 [] (pSp sp_class_of)) (d_call_flows : Def P K.w K mg base "call_flows" 2 [] (pSp sp_call_flows)) : Def P K.w K mg base "row_flows" 4 [] (pSp sp_row_flows) :=
  def_mk F hm sc_row_flows (F.binds (ps := ["program", "ends", "home", "row"]) fun _ _ _ _ _ _ us hl => (by obtain ⟨_, _, _, _, rfl⟩ := ulen4 hl; rfl)) (fun _ _ _ h => len4 h) fun cdv A outer s H E y => ⟨w_row_flows, (vss_cons (vs_set y 4 (ve_ix y (ve_v y 0) (ve_v y 3)))
    (vss_cons (vs_if (vt_cmp (c_eq y) (ve_ix y (ve_v y 4) ve_int) ve_str) (vss_one (vs_ret (ve_lst true (va_cons (ve_tup (va_cons (ve_tup (va_cons ve_str (va_cons (ve_v y 2) (va_cons (ve_ix y (ve_v y 4) ve_int) (va_cons ve_str va_nil))))) (va_cons (ve_tup (va_cons ve_str (va_cons (ve_v y 3) (va_cons ve_str (va_cons ve_str va_nil))))) va_nil))) va_nil)))) vss_nil)
    (vss_cons (vs_if (VW.vt (vw_and (vt_cmp (c_eq y) (ve_ix y (ve_v y 4) ve_int) ve_str) (vw_and1 (vt_truth y (ve_callP y false d_is_name (by decide) (va_cons (ve_ix y (ve_v y 4) ve_int) va_nil)))))) (vss_one (vs_ret (ve_lst true (va_cons (ve_tup (va_cons (ve_tup (va_cons ve_str (va_cons (ve_v y 2) (va_cons (ve_ix y (ve_v y 4) ve_int) (va_cons ve_str va_nil))))) (va_cons (ve_tup (va_cons ve_str (va_cons (ve_v y 2) (va_cons (ve_ix y (ve_v y 4) ve_int) (va_cons ve_str va_nil))))) va_nil))) va_nil)))) vss_nil)
    (vss_cons (vs_if (vt_cmp (c_eq y) (ve_ix y (ve_v y 4) ve_int) ve_str) (vss_one (vs_ret (ve_lst true (va_cons (ve_tup (va_cons (ve_tup (va_cons ve_str (va_cons (ve_v y 2) (va_cons (ve_ix y (ve_v y 4) ve_int) (va_cons ve_str va_nil))))) (va_cons (ve_tup (va_cons ve_str (va_cons (ve_v y 2) (va_cons (ve_ix y (ve_v y 4) ve_int) (va_cons (ve_callP y false d_class_of (by decide) (va_cons (ve_ix y (ve_v y 4) ve_int) va_nil)) va_nil))))) va_nil))) va_nil)))) vss_nil)
    (vss_cons (vs_if (VW.vt (vw_and (vt_cmp (c_eq y) (ve_ix y (ve_v y 4) ve_int) ve_str) (vw_and1 (vt_truth y (ve_callP y false d_is_name (by decide) (va_cons (ve_ix y (ve_v y 4) ve_int) va_nil)))))) (vss_one (vs_ret (ve_lst true (va_cons (ve_tup (va_cons (ve_tup (va_cons ve_str (va_cons (ve_v y 2) (va_cons (ve_ix y (ve_v y 4) ve_int) (va_cons (ve_callP y false d_class_of (by decide) (va_cons (ve_ix y (ve_v y 4) ve_int) va_nil)) va_nil))))) (va_cons (ve_tup (va_cons ve_str (va_cons (ve_v y 2) (va_cons (ve_ix y (ve_v y 4) ve_int) (va_cons ve_str va_nil))))) va_nil))) va_nil)))) vss_nil)
    (vss_cons (vs_if (vt_cmp (c_eq y) (ve_ix y (ve_v y 4) ve_int) ve_str) (vss_one (vs_ret (ve_callP y true d_call_flows (by decide) (va_cons (ve_v y 0) (va_cons (ve_v y 1) (va_cons (ve_v y 2) (va_cons (ve_v y 4) va_nil))))))) vss_nil)
    (vss_one (vs_ret (ve_lst true va_nil))))))))), at4 v_row_flows⟩
abbrev s_all_flows : Stmt := top 12
theorem sc_all_flows : FnScope ["program", "heads", "ends", "elses", "homes", "flows", "row"] ["program"] (defScope s_all_flows) := ⟨rfl, rfl, rfl, by decide +kernel, rfl, by decide +kernel, by decide +kernel⟩
theorem d_all_flows {f : Addr} {fd : FuncData} (F : Fun K "all_flows" "all_flows" s_all_flows f fd) (hm : mg "all_flows" = some (.ref f)) (T : Txt K mg) (d_shape : Def P K.w K mg base "shape" 1 [] sp_shape) (d_row_flows : Def P K.w K mg base "row_flows" 4 [] (pSp sp_row_flows)) : Def P K.w K mg base "all_flows" 5 [] (pSp sp_all_flows) :=
  def_mk F hm sc_all_flows (F.binds (ps := ["program"]) fun _ _ _ _ _ _ us hl => (by obtain ⟨_, rfl⟩ := ulen1 hl; rfl)) (fun _ _ _ h => len1 h) fun cdv A outer s H E y => ⟨w_all_flows, (vss_cons (vs_asg (ve_callS y d_shape (by decide) (va_cons (ve_v y 0) va_nil)) (VK.vg (vk_tup y 4 (vks_cons (vk_name y 1 [1, 2, 3, 4]) (vks_cons (vk_name y 2 [1, 2, 3, 4]) (vks_cons (vk_name y 3 [1, 2, 3, 4]) (vks_cons (vk_name y 4 [1, 2, 3, 4]) (vks_nil [1, 2, 3, 4]))))))))
    (vss_cons (vs_set y 5 (ve_lst true va_nil))
    (vss_cons (vs_for PassesOwn.never rfl (vi_rng1 y T.n_range (va_cons (ve_len y T.n_len (va_cons (ve_v y 0) va_nil)) va_nil)) (vk_name y 6 [6]) (vss_one (vs_if (vt_cmp (c_isn y) (ve_ix y (ve_v y 4) (ve_v y 6)) ve_non) (vss_one (vs_expr (ve_extend y (ve_v y 5) (va_cons (ve_callP y false d_row_flows (by decide) (va_cons (ve_v y 0) (va_cons (ve_v y 2) (va_cons (ve_ix y (ve_v y 4) (ve_v y 6)) (va_cons (ve_v y 6) va_nil))))) va_nil)))) vss_nil)))
    (vss_one (vs_ret (ve_v y 5)))))), at1 v_all_flows⟩
abbrev s_makers : Stmt := top 13
theorem sc_makers : FnScope ["program", "draft", "flows", "fresh", "goal", "origin"] ["program"] (defScope s_makers) := ⟨rfl, rfl, rfl, by decide +kernel, rfl, by decide +kernel, by decide +kernel⟩
theorem d_makers {f : Addr} {fd : FuncData} (F : Fun K "makers" "makers" s_makers f fd) (hm : mg "makers" = some (.ref f)) (T : Txt K mg) (d_all_flows : Def P K.w K mg base "all_flows" 5 [] (pSp sp_all_flows)) (t_grown : MTabOk P K.w K mg base "grown" 2 tab_grown) (t_had_by : MTabOk P K.w K mg base "had_by" 3 tab_had_by) (t_told : MTabOk P K.w K mg base "told" 1 tab_told) (c_Draft : CDef P K.w K mg base "Draft" 1 sp_Draft_init) : Def P K.w K mg base "makers" 6 [] (pSp sp_makers) :=
  def_mk F hm sc_makers (F.binds (ps := ["program"]) fun _ _ _ _ _ _ us hl => (by obtain ⟨_, rfl⟩ := ulen1 hl; rfl)) (fun _ _ _ h => len1 h) fun cdv A outer s H E y => ⟨w_makers, (vss_cons (vs_set y 1 (ve_make0 y c_Draft (by decide)))
    (vss_cons (vs_set y 2 (ve_callP y false d_all_flows (by decide) (va_cons (ve_v y 0) va_nil)))
    (vss_cons (vs_set y 3 ve_bl)
    (vss_cons (vs_while PassesOwn.never (vt_truth y (ve_v y 3)) (vss_cons (vs_set y 3 ve_bl)
    (vss_one (vs_for PassesOwn.never rfl (vi_seq y (ve_v y 2)) (vk_tup y 2 (vks_cons (vk_name y 4 [4, 5]) (vks_cons (vk_name y 5 [4, 5]) (vks_nil [4, 5])))) (vss_one (vs_if (vt_truth y (ve_meth y t_grown (by decide) (ve_v y 1) (va_cons (ve_v y 4) (va_cons (ve_meth y t_had_by (by decide) (ve_v y 1) (va_cons (ve_v y 5) va_nil) _) va_nil)) _)) (vss_one (vs_set y 3 ve_bl)) vss_nil))))))
    (vss_one (vs_ret (ve_meth0 y t_told (by decide) (ve_v y 1) _))))))), at1 v_makers⟩
abbrev s_closed : Stmt := top 14
theorem sc_closed : FnScope ["program", "table", "draft", "home", "name", "some", "row", "kind", "goal", "origin"] ["program", "table"] (defScope s_closed) := ⟨rfl, rfl, rfl, by decide +kernel, rfl, by decide +kernel, by decide +kernel⟩
theorem d_closed {f : Addr} {fd : FuncData} (F : Fun K "closed" "closed" s_closed f fd) (hm : mg "closed" = some (.ref f)) (T : Txt K mg) (d_all_flows : Def P K.w K mg base "all_flows" 5 [] (pSp sp_all_flows)) (t_grown : MTabOk P K.w K mg base "grown" 2 tab_grown) (t_had_by : MTabOk P K.w K mg base "had_by" 3 tab_had_by) (c_Draft : CDef P K.w K mg base "Draft" 1 sp_Draft_init) : Def P K.w K mg base "closed" 6 [] (pSp sp_closed) :=
  def_mk F hm sc_closed (F.binds (ps := ["program", "table"]) fun _ _ _ _ _ _ us hl => (by obtain ⟨_, _, rfl⟩ := ulen2 hl; rfl)) (fun _ _ _ h => len2 h) fun cdv A outer s H E y => ⟨w_closed, (vss_cons (vs_set y 2 (ve_make0 y c_Draft (by decide)))
    (vss_cons (vs_for PassesOwn.never rfl (vi_seq y (ve_ix y (ve_v y 1) ve_int)) (vk_tup y 3 (vks_cons (vk_name y 3 [3, 4, 5]) (vks_cons (vk_name y 4 [3, 4, 5]) (vks_cons (vk_name y 5 [3, 4, 5]) (vks_nil [3, 4, 5]))))) (vss_one (vs_nput y (ve_fld y T.fl_names (ve_v y 2)) (ve_tup (va_cons (ve_v y 3) (va_cons (ve_v y 4) va_nil))) (ve_v y 5))))
    (vss_cons (vs_for PassesOwn.never rfl (vi_seq y (ve_ix y (ve_v y 1) ve_int)) (vk_tup y 3 (vks_cons (vk_name y 6 [6, 7, 5]) (vks_cons (vk_name y 7 [6, 7, 5]) (vks_cons (vk_name y 5 [6, 7, 5]) (vks_nil [6, 7, 5]))))) (vss_one (vs_nput y (ve_fld y T.fl_cells (ve_v y 2)) (ve_tup (va_cons (ve_v y 6) (va_cons (ve_v y 7) va_nil))) (ve_v y 5))))
    (vss_cons (vs_for PassesOwn.never rfl (vi_seq y (ve_callP y false d_all_flows (by decide) (va_cons (ve_v y 0) va_nil))) (vk_tup y 2 (vks_cons (vk_name y 8 [8, 9]) (vks_cons (vk_name y 9 [8, 9]) (vks_nil [8, 9])))) (vss_one (vs_if (vt_truth y (ve_meth y t_grown (by decide) (ve_v y 2) (va_cons (ve_v y 8) (va_cons (ve_meth y t_had_by (by decide) (ve_v y 2) (va_cons (ve_v y 9) va_nil) _) va_nil)) _)) (vss_one (vs_ret ve_bl)) vss_nil)))
    (vss_one (vs_ret ve_bl)))))), at2 v_closed⟩
abbrev s__law_cell_at : Stmt := top 16
theorem sc__law_cell_at : FnScope ["_law_script", "_law_k"] ["_law_script", "_law_k"] (defScope s__law_cell_at) := ⟨rfl, rfl, rfl, by decide +kernel, rfl, by decide +kernel, by decide +kernel⟩
theorem d__law_cell_at {f : Addr} {fd : FuncData} (F : Fun K "_law_cell_at" "_law_cell_at" s__law_cell_at f fd) (hm : mg "_law_cell_at" = some (.ref f)) (T : Txt K mg) : Def P K.w K mg base "_law_cell_at" 1 [] (pSp sp__law_cell_at) :=
  def_mk F hm sc__law_cell_at (F.binds (ps := ["_law_script", "_law_k"]) fun _ _ _ _ _ _ us hl => (by obtain ⟨_, _, rfl⟩ := ulen2 hl; rfl)) (fun _ _ _ h => len2 h) fun cdv A outer s H E y => ⟨w__law_cell_at, (vss_cons (vs_if (vt_cmp (c_lt y) (ve_v y 1) (ve_len y T.n_len (va_cons (ve_v y 0) va_nil))) (vss_one (vs_ret (ve_ix y (ve_v y 0) (ve_v y 1)))) vss_nil)
    (vss_one (vs_ret ve_int))), at2 v__law_cell_at⟩
abbrev s__law_words : Stmt := top 17
theorem sc__law_words : FnScope ["_law_cell", "_law_many", "_law_letters", "_law_size", "_law_at", "_law_words_here", "_law_k", "_law_word", "_law_j", "_law_number"] ["_law_cell", "_law_many"] (defScope s__law_words) := ⟨rfl, rfl, rfl, by decide +kernel, rfl, by decide +kernel, by decide +kernel⟩
theorem d__law_words {f : Addr} {fd : FuncData} (F : Fun K "_law_words" "_law_words" s__law_words f fd) (hm : mg "_law_words" = some (.ref f)) (T : Txt K mg) : Def P K.w K mg base "_law_words" 1 [] (pSp sp__law_words) :=
  def_mk F hm sc__law_words (F.binds (ps := ["_law_cell", "_law_many"]) fun _ _ _ _ _ _ us hl => (by obtain ⟨_, _, rfl⟩ := ulen2 hl; rfl)) (fun _ _ _ h => len2 h) fun cdv A outer s H E y => ⟨w__law_words, (vss_cons (vs_set y 2 ve_str)
    (vss_cons (vs_set y 0 (ve_mod (ve_v y 0) (ve_pow ve_int ve_int)))
    (vss_cons (vs_set y 3 (ve_add y false ve_int (ve_mod (ve_v y 0) ve_int)))
    (vss_cons (vs_set y 4 (ve_mod (ve_fdiv (ve_v y 0) ve_int) (ve_v y 3)))
    (vss_cons (vs_set y 5 (ve_lst true va_nil))
    (vss_cons (vs_for PassesOwn.never rfl (vi_rng1 y T.n_range (va_cons (ve_v y 1) va_nil)) (vk_name y 6 [6]) (vss_cons (vs_set y 7 ve_str)
    (vss_cons (vs_for PassesOwn.never rfl (vi_rng1 y T.n_range (va_cons (ve_v y 3) va_nil)) (vk_name y 8 [8]) (vss_cons (vs_set y 9 (ve_add y false (ve_fdiv (ve_fdiv (ve_v y 0) ve_int) (ve_add y false (ve_v y 8) ve_int)) (ve_mul false (ve_v y 8) (ve_v y 8))))
    (vss_cons (vs_if (vt_cmp (c_eq y) (ve_v y 8) (ve_v y 4)) (vss_one (vs_augAdd y 9 (ve_v y 6))) vss_nil)
    (vss_one (vs_set y 7 (ve_add y false (ve_v y 7) (ve_ix y (ve_v y 2) (ve_mod (ve_v y 9) ve_int))))))))
    (vss_one (vs_expr (ve_append y (ve_v y 5) (va_cons (ve_v y 7) va_nil)))))))
    (vss_cons (vs_if (vt_cmp (c_eq y) (ve_mod (ve_fdiv (ve_v y 0) ve_int) ve_int) ve_int) (vss_one (vs_asg (ve_add y false (ve_ix y (ve_v y 5) ve_int) (ve_ix y (ve_v y 2) (ve_mod (ve_fdiv (ve_v y 0) ve_int) ve_int))) (vg_subL (ve_v y 5) ve_int))) vss_nil)
    (vss_one (vs_ret (ve_v y 5)))))))))), at2 v__law_words⟩
abbrev s__law_operand : Stmt := top 18
theorem sc__law_operand : FnScope ["_law_number", "_law_words_here"] ["_law_number", "_law_words_here"] (defScope s__law_operand) := ⟨rfl, rfl, rfl, by decide +kernel, rfl, by decide +kernel, by decide +kernel⟩
theorem d__law_operand {f : Addr} {fd : FuncData} (F : Fun K "_law_operand" "_law_operand" s__law_operand f fd) (hm : mg "_law_operand" = some (.ref f)) (T : Txt K mg) : Def P K.w K mg base "_law_operand" 1 [] (pSp sp__law_operand) :=
  def_mk F hm sc__law_operand (F.binds (ps := ["_law_number", "_law_words_here"]) fun _ _ _ _ _ _ us hl => (by obtain ⟨_, _, rfl⟩ := ulen2 hl; rfl)) (fun _ _ _ h => len2 h) fun cdv A outer s H E y => ⟨w__law_operand, (vss_cons (vs_if (vt_cmp (c_gt y) (ve_mod (ve_v y 0) ve_int) ve_int) (vss_one (vs_ret (ve_ix y (ve_v y 1) (ve_mod (ve_fdiv (ve_v y 0) ve_int) ve_int)))) vss_nil)
    (vss_cons (vs_if (vt_cmp (c_eq y) (ve_mod (ve_v y 0) ve_int) ve_int) (vss_one (vs_ret (ve_sub (ve_mod (ve_add y false (ve_mul false (ve_mul false (ve_v y 0) ve_int) (ve_pow ve_int ve_int)) (ve_v y 0)) (ve_mul false ve_int (ve_pow ve_int ve_int))) (ve_pow ve_int ve_int)))) vss_nil)
    (vss_one (vs_ret (ve_sub (ve_mod (ve_fdiv (ve_v y 0) ve_int) ve_int) ve_int))))), at2 v__law_operand⟩
abbrev s__law_key : Stmt := top 19
theorem sc__law_key : FnScope ["_law_number", "_law_words_here"] ["_law_number", "_law_words_here"] (defScope s__law_key) := ⟨rfl, rfl, rfl, by decide +kernel, rfl, by decide +kernel, by decide +kernel⟩
theorem d__law_key {f : Addr} {fd : FuncData} (F : Fun K "_law_key" "_law_key" s__law_key f fd) (hm : mg "_law_key" = some (.ref f)) (T : Txt K mg) (d__law_operand : Def P K.w K mg base "_law_operand" 1 [] (pSp sp__law_operand)) : Def P K.w K mg base "_law_key" 2 [] (pSp sp__law_key) :=
  def_mk F hm sc__law_key (F.binds (ps := ["_law_number", "_law_words_here"]) fun _ _ _ _ _ _ us hl => (by obtain ⟨_, _, rfl⟩ := ulen2 hl; rfl)) (fun _ _ _ h => len2 h) fun cdv A outer s H E y => ⟨w__law_key, (vss_cons (vs_if (vt_cmp (c_eq y) (ve_mod (ve_v y 0) ve_int) ve_int) (vss_one (vs_ret (ve_add y true ve_str (ve_ix y (ve_v y 1) (ve_mod (ve_fdiv (ve_v y 0) ve_int) ve_int))))) vss_nil)
    (vss_one (vs_ret (ve_callP y true d__law_operand (by decide) (va_cons (ve_fdiv (ve_v y 0) ve_int) (va_cons (ve_v y 1) va_nil)))))), at2 v__law_key⟩
abbrev s__law_call : Stmt := top 20
theorem sc__law_call : FnScope ["_law_number", "_law_name", "_law_words_here", "_law_later", "_law_other", "_law_parameters", "_law_operands", "_law_k"] ["_law_number", "_law_name", "_law_words_here", "_law_later"] (defScope s__law_call) := ⟨rfl, rfl, rfl, by decide +kernel, rfl, by decide +kernel, by decide +kernel⟩
theorem d__law_call {f : Addr} {fd : FuncData} (F : Fun K "_law_call" "_law_call" s__law_call f fd) (hm : mg "_law_call" = some (.ref f)) (T : Txt K mg) (d__law_operand : Def P K.w K mg base "_law_operand" 1 [] (pSp sp__law_operand)) : Def P K.w K mg base "_law_call" 2 [] (pSp sp__law_call) :=
  def_mk F hm sc__law_call (F.binds (ps := ["_law_number", "_law_name", "_law_words_here", "_law_later"]) fun _ _ _ _ _ _ us hl => (by obtain ⟨_, _, _, _, rfl⟩ := ulen4 hl; rfl)) (fun _ _ _ h => len4 h) fun cdv A outer s H E y => ⟨w__law_call, (vss_cons (vs_asg (ve_ix y (ve_v y 3) (ve_mod (ve_v y 0) (ve_len y T.n_len (va_cons (ve_v y 3) va_nil)))) (VK.vg (vk_tup y 2 (vks_cons (vk_name y 4 [4, 5]) (vks_cons (vk_name y 5 [4, 5]) (vks_nil [4, 5]))))))
    (vss_cons (vs_set y 6 (ve_lst true va_nil))
    (vss_cons (vs_for PassesOwn.never rfl (vi_rng1 y T.n_range (va_cons (ve_len y T.n_len (va_cons (ve_v y 5) va_nil)) va_nil)) (vk_name y 7 [7]) (vss_one (vs_expr (ve_append y (ve_v y 6) (va_cons (ve_callP y false d__law_operand (by decide) (va_cons (ve_fdiv (ve_v y 0) (ve_add y false (ve_len y T.n_len (va_cons (ve_v y 3) va_nil)) (ve_v y 7))) (va_cons (ve_v y 2) va_nil))) va_nil)))))
    (vss_one (vs_ret (ve_tup (va_cons ve_str (va_cons (ve_v y 1) (va_cons (ve_v y 4) (va_cons (ve_tuple y T.n_tuple (va_cons (ve_v y 6) va_nil)) va_nil)))))))))), at4 v__law_call⟩
abbrev s__law_simple : Stmt := top 21
theorem sc__law_simple : FnScope ["_law_number", "_law_words_here", "_law_later", "_law_kind", "_law_name", "_law_other", "_law_rest", "_law_word"] ["_law_number", "_law_words_here", "_law_later"] (defScope s__law_simple) := ⟨rfl, rfl, rfl, by decide +kernel, rfl, by decide +kernel, by decide +kernel⟩
theorem d__law_simple {f : Addr} {fd : FuncData} (F : Fun K "_law_simple" "_law_simple" s__law_simple f fd) (hm : mg "_law_simple" = some (.ref f)) (T : Txt K mg) (d__law_operand : Def P K.w K mg base "_law_operand" 1 [] (pSp sp__law_operand)) (d__law_key : Def P K.w K mg base "_law_key" 2 [] (pSp sp__law_key)) (d__law_call : Def P K.w K mg base "_law_call" 2 [] (pSp sp__law_call)) : Def P K.w K mg base "_law_simple" 3 [] (pSp sp__law_simple) :=
  def_mk F hm sc__law_simple (F.binds (ps := ["_law_number", "_law_words_here", "_law_later"]) fun _ _ _ _ _ _ us hl => (by obtain ⟨_, _, _, rfl⟩ := ulen3 hl; rfl)) (fun _ _ _ h => len3 h) fun cdv A outer s H E y => ⟨w__law_simple, (vss_cons (vs_set y 3 (ve_mod (ve_v y 0) ve_int))
    (vss_cons (vs_set y 4 (ve_ix y (ve_v y 1) (ve_mod (ve_fdiv (ve_v y 0) ve_int) ve_int)))
    (vss_cons (vs_set y 5 (ve_ix y (ve_v y 1) (ve_mod (ve_fdiv (ve_v y 0) ve_int) ve_int)))
    (vss_cons (vs_set y 6 (ve_fdiv (ve_v y 0) ve_int))
    (vss_cons (vs_if (vt_cmp (c_lt y) (ve_v y 3) ve_int) (vss_one (vs_ret (ve_tup (va_cons ve_str (va_cons (ve_v y 4) (va_cons (ve_callP y false d__law_operand (by decide) (va_cons (ve_v y 6) (va_cons (ve_v y 1) va_nil))) va_nil)))))) vss_nil)
    (vss_cons (vs_if (vt_cmp (c_lt y) (ve_v y 3) ve_int) (vss_cons (vs_set y 7 (ve_ix y (ve_lst false (va_cons ve_str (va_cons ve_str (va_cons ve_str (va_cons ve_str (va_cons ve_str (va_cons ve_str (va_cons ve_str va_nil)))))))) (ve_mod (ve_v y 6) ve_int)))
    (vss_one (vs_ret (ve_tup (va_cons ve_str (va_cons (ve_v y 4) (va_cons (ve_callP y false d__law_operand (by decide) (va_cons (ve_fdiv (ve_v y 6) ve_int) (va_cons (ve_v y 1) va_nil))) (va_cons (ve_v y 7) (va_cons (ve_callP y false d__law_operand (by decide) (va_cons (ve_fdiv (ve_v y 6) ve_int) (va_cons (ve_v y 1) va_nil))) va_nil))))))))) vss_nil)
    (vss_cons (vs_if (vt_cmp (c_eq y) (ve_v y 3) ve_int) (vss_one (vs_ret (ve_tup (va_cons ve_str (va_cons (ve_v y 4) va_nil))))) vss_nil)
    (vss_cons (vs_if (vt_cmp (c_lt y) (ve_v y 3) ve_int) (vss_one (vs_ret (ve_tup (va_cons ve_str (va_cons (ve_v y 4) (va_cons (ve_v y 5) (va_cons (ve_callP y false d__law_key (by decide) (va_cons (ve_v y 6) (va_cons (ve_v y 1) va_nil))) va_nil))))))) vss_nil)
    (vss_cons (vs_if (vt_cmp (c_lt y) (ve_v y 3) ve_int) (vss_one (vs_ret (ve_tup (va_cons ve_str (va_cons (ve_v y 5) (va_cons (ve_callP y false d__law_key (by decide) (va_cons (ve_v y 6) (va_cons (ve_v y 1) va_nil))) (va_cons (ve_callP y false d__law_operand (by decide) (va_cons (ve_fdiv (ve_v y 6) ve_int) (va_cons (ve_v y 1) va_nil))) va_nil))))))) vss_nil)
    (vss_cons (vs_if (VW.vt (vw_and (vt_cmp (c_eq y) (ve_v y 3) ve_int) (vw_and1 (vt_cmp (c_ne y) (ve_v y 2) (ve_lst false va_nil))))) (vss_one (vs_ret (ve_callP y true d__law_call (by decide) (va_cons (ve_v y 6) (va_cons (ve_v y 4) (va_cons (ve_v y 1) (va_cons (ve_v y 2) va_nil))))))) vss_nil)
    (vss_cons (vs_if (VW.vt (vw_and (vt_cmp (c_eq y) (ve_v y 3) ve_int) (vw_and1 (vt_cmp (c_eq y) (ve_mod (ve_v y 6) ve_int) ve_int)))) (vss_one (vs_ret (ve_tup (va_cons ve_str (va_cons (ve_ix y (ve_v y 1) (ve_add y false ve_int (ve_mod (ve_fdiv (ve_v y 6) ve_int) ve_int))) va_nil))))) vss_nil)
    (vss_cons (vs_if (VW.vt (vw_and (vt_cmp (c_eq y) (ve_v y 3) ve_int) (vw_and1 (vt_cmp (c_eq y) (ve_mod (ve_v y 6) ve_int) ve_int)))) (vss_one (vs_ret (ve_tup (va_cons ve_str va_nil)))) vss_nil)
    (vss_one (vs_ret (ve_tup (va_cons ve_str (va_cons (ve_v y 4) (va_cons (ve_v y 5) va_nil)))))))))))))))))), at3 v__law_simple⟩
abbrev s__law_lay : Stmt := top 22
theorem sc__law_lay : FnScope ["_law_rows", "_law_stack", "_law_cell", "_law_words_here", "_law_later", "_law_number", "_law_move", "_law_name"] ["_law_rows", "_law_stack", "_law_cell", "_law_words_here", "_law_later"] (defScope s__law_lay) := ⟨rfl, rfl, rfl, by decide +kernel, rfl, by decide +kernel, by decide +kernel⟩
theorem d__law_lay {f : Addr} {fd : FuncData} (F : Fun K "_law_lay" "_law_lay" s__law_lay f fd) (hm : mg "_law_lay" = some (.ref f)) (T : Txt K mg) (d__law_operand : Def P K.w K mg base "_law_operand" 1 [] (pSp sp__law_operand)) (d__law_simple : Def P K.w K mg base "_law_simple" 3 [] (pSp sp__law_simple)) : Def P K.w K mg base "_law_lay" 4 [] sp__law_lay :=
  def_mk F hm sc__law_lay (F.binds (ps := ["_law_rows", "_law_stack", "_law_cell", "_law_words_here", "_law_later"]) fun _ _ _ _ _ _ us hl => (by obtain ⟨_, _, _, _, _, rfl⟩ := ulen5 hl; rfl)) (fun _ _ _ h => lenS5 h) fun cdv A outer s H E y => ⟨w__law_lay, (vss_cons (vs_set y 5 (ve_mod (ve_mul false (ve_fdiv (ve_v y 2) ve_int) ve_int) ve_int))
    (vss_cons (vs_set y 6 (ve_mod (ve_v y 2) ve_int))
    (vss_one (vs_if (VW.vt (vw_and (vt_cmp (c_eq y) (ve_v y 6) ve_int) (vw_and1 (vt_cmp (c_lt y) (ve_len y T.n_len (va_cons (ve_v y 1) va_nil)) ve_int)))) (vss_cons (vs_expr (ve_append y (ve_v y 0) (va_cons (ve_tup (va_cons ve_str (va_cons (ve_callP y false d__law_operand (by decide) (va_cons (ve_v y 5) (va_cons (ve_v y 3) va_nil))) va_nil))) va_nil)))
    (vss_one (vs_expr (ve_append y (ve_v y 1) (va_cons ve_str va_nil))))) (vss_one (vs_if (VW.vt (vw_and (vt_cmp (c_eq y) (ve_v y 6) ve_int) (vw_and1 (vt_cmp (c_lt y) (ve_len y T.n_len (va_cons (ve_v y 1) va_nil)) ve_int)))) (vss_cons (vs_expr (ve_append y (ve_v y 1) (va_cons ve_str va_nil)))
    (vss_one (vs_if (vt_cmp (c_eq y) (ve_mod (ve_v y 5) ve_int) ve_int) (vss_one (vs_expr (ve_append y (ve_v y 0) (va_cons (ve_tup (va_cons ve_str (va_cons (ve_callP y false d__law_operand (by decide) (va_cons (ve_fdiv (ve_v y 5) ve_int) (va_cons (ve_v y 3) va_nil))) va_nil))) va_nil)))) (vss_cons (vs_set y 7 (ve_ix y (ve_v y 3) (ve_mod (ve_fdiv (ve_v y 5) ve_int) ve_int)))
    (vss_cons (vs_expr (ve_append y (ve_v y 0) (va_cons (ve_tup (va_cons ve_str (va_cons (ve_v y 7) va_nil))) va_nil)))
    (vss_one (vs_expr (ve_append y (ve_v y 0) (va_cons (ve_tup (va_cons ve_str (va_cons (ve_v y 7) (va_cons (ve_v y 7) (va_cons ve_str (va_cons ve_int va_nil)))))) va_nil))))))))) (vss_one (vs_if (VW.vt (vw_and (vt_cmp (c_eq y) (ve_v y 6) ve_int) (vw_and (vt_cmp (c_ne y) (ve_v y 1) (ve_lst false va_nil)) (vw_and1 (vt_cmp (c_eq y) (ve_ix y (ve_v y 1) (ve_neg ve_int)) ve_str))))) (vss_cons (vs_expr (ve_append y (ve_v y 0) (va_cons (ve_tup (va_cons ve_str va_nil)) va_nil)))
    (vss_one (vs_asg ve_str (vg_subL (ve_v y 1) (ve_neg ve_int))))) (vss_one (vs_if (VW.vt (vw_and (vt_cmp (c_eq y) (ve_v y 6) ve_int) (vw_and1 (vt_cmp (c_ne y) (ve_v y 1) (ve_lst false va_nil))))) (vss_cons (vs_expr (ve_append y (ve_v y 0) (va_cons (ve_tup (va_cons ve_str va_nil)) va_nil)))
    (vss_one (vs_expr (ve_pop y (ve_v y 1))))) (vss_one (vs_expr (ve_append y (ve_v y 0) (va_cons (ve_callP y false d__law_simple (by decide) (va_cons (ve_v y 5) (va_cons (ve_v y 3) (va_cons (ve_v y 4) va_nil)))) va_nil)))))))))))))), atS5 v__law_lay⟩
abbrev s__law_plan : Stmt := top 23
theorem sc__law_plan : FnScope ["_law_cell", "_law_words_here", "_law_number", "_law_plan_here", "_law_k", "_law_parameters", "_law_j"] ["_law_cell", "_law_words_here"] (defScope s__law_plan) := ⟨rfl, rfl, rfl, by decide +kernel, rfl, by decide +kernel, by decide +kernel⟩
theorem d__law_plan {f : Addr} {fd : FuncData} (F : Fun K "_law_plan" "_law_plan" s__law_plan f fd) (hm : mg "_law_plan" = some (.ref f)) (T : Txt K mg) : Def P K.w K mg base "_law_plan" 1 [] (pSp sp__law_plan) :=
  def_mk F hm sc__law_plan (F.binds (ps := ["_law_cell", "_law_words_here"]) fun _ _ _ _ _ _ us hl => (by obtain ⟨_, _, rfl⟩ := ulen2 hl; rfl)) (fun _ _ _ h => len2 h) fun cdv A outer s H E y => ⟨w__law_plan, (vss_cons (vs_set y 2 (ve_mod (ve_v y 0) (ve_pow ve_int ve_int)))
    (vss_cons (vs_set y 3 (ve_lst true va_nil))
    (vss_cons (vs_for PassesOwn.never rfl (vi_rng1 y T.n_range (va_cons (ve_add y false ve_int (ve_mod (ve_v y 2) ve_int)) va_nil)) (vk_name y 4 [4]) (vss_cons (vs_set y 2 (ve_mod (ve_add y false (ve_add y false (ve_mul false (ve_v y 2) (ve_v y 2)) (ve_mul false ve_int (ve_v y 2))) (ve_v y 4)) ve_int))
    (vss_cons (vs_setLc y false 5 (own := [("_law_j", 6)]) (sw_true rfl rfl rfl (by decide +kernel)) (vi_rng1 y T.n_range (va_cons (ve_mod (ve_v y 2) ve_int) va_nil)) (blkOk_at (S := defScope s__law_plan) (by decide +kernel)) (vk_name (YOk.blk y _) 6 [6]) vts_nil (ve_ix (YOk.blk y _) (ve_v (YOk.blk y _) 1) (ve_mod (ve_add (YOk.blk y _) false (ve_fdiv (ve_v (YOk.blk y _) 2) ve_int) (ve_v (YOk.blk y _) 6)) ve_int)))
    (vss_one (vs_expr (ve_append y (ve_v y 3) (va_cons (ve_tup (va_cons (ve_ix y (ve_v y 1) (ve_v y 4)) (va_cons (ve_tuple y T.n_tuple (va_cons (ve_v y 5) va_nil)) va_nil))) va_nil)))))))
    (vss_one (vs_ret (ve_v y 3)))))), at2 v__law_plan⟩
abbrev s__law_program : Stmt := top 24
theorem sc__law_program : FnScope ["_law_cells", "_law_words_here", "_law_plan_here", "_law_rows", "_law_k", "_law_stack", "_law_start", "_law_stop", "_law_share", "_law_cell", "_law_word"] ["_law_cells", "_law_words_here", "_law_plan_here"] (defScope s__law_program) := ⟨rfl, rfl, rfl, by decide +kernel, rfl, by decide +kernel, by decide +kernel⟩
theorem d__law_program {f : Addr} {fd : FuncData} (F : Fun K "_law_program" "_law_program" s__law_program f fd) (hm : mg "_law_program" = some (.ref f)) (T : Txt K mg) (d__law_lay : Def P K.w K mg base "_law_lay" 4 [] sp__law_lay) (d__law_operand : Def P K.w K mg base "_law_operand" 1 [] (pSp sp__law_operand)) : Def P K.w K mg base "_law_program" 5 [] (pSp sp__law_program) :=
  def_mk F hm sc__law_program (F.binds (ps := ["_law_cells", "_law_words_here", "_law_plan_here"]) fun _ _ _ _ _ _ us hl => (by obtain ⟨_, _, _, rfl⟩ := ulen3 hl; rfl)) (fun _ _ _ h => len3 h) fun cdv A outer s H E y => ⟨w__law_program, (vss_cons (vs_set y 3 (ve_lst true va_nil))
    (vss_cons (vs_for PassesOwn.never rfl (vi_rng1 y T.n_range (va_cons (ve_len y T.n_len (va_cons (ve_v y 2) va_nil)) va_nil)) (vk_name y 4 [4]) (vss_cons (vs_expr (ve_append y (ve_v y 3) (va_cons (ve_tup (va_cons ve_str (va_cons (ve_ix y (ve_ix y (ve_v y 2) (ve_v y 4)) ve_int) (va_cons (ve_ix y (ve_ix y (ve_v y 2) (ve_v y 4)) ve_int) va_nil)))) va_nil)))
    (vss_cons (vs_set y 5 (ve_lst true va_nil))
    (vss_cons (vs_set y 6 (ve_fdiv (ve_mul false (ve_v y 4) (ve_len y T.n_len (va_cons (ve_v y 0) va_nil))) (ve_len y T.n_len (va_cons (ve_v y 2) va_nil))))
    (vss_cons (vs_set y 7 (ve_fdiv (ve_mul false (ve_add y false (ve_v y 4) ve_int) (ve_len y T.n_len (va_cons (ve_v y 0) va_nil))) (ve_len y T.n_len (va_cons (ve_v y 2) va_nil))))
    (vss_cons (vs_set y 8 (ve_slice y false (ve_v y 0) (vo_some (ve_v y 6)) (vo_some (ve_v y 7))))
    (vss_cons (vs_for PassesOwn.never rfl (vi_seq y (ve_v y 8)) (vk_name y 9 [9]) (vss_one (vs_if (vt_cmp (c_lt y) (ve_add y false (ve_len y T.n_len (va_cons (ve_v y 3) va_nil)) (ve_len y T.n_len (va_cons (ve_v y 5) va_nil))) (ve_sub ve_int (ve_mul false ve_int (ve_sub (ve_sub (ve_len y T.n_len (va_cons (ve_v y 2) va_nil)) ve_int) (ve_v y 4))))) (vss_one (vs_expr (ve_callS y d__law_lay (by decide) (va_cons (ve_v y 3) (va_cons (ve_v y 5) (va_cons (ve_v y 9) (va_cons (ve_v y 1) (va_cons (ve_slice y false (ve_v y 2) (vo_some (ve_add y false (ve_v y 4) ve_int)) vo_none) va_nil)))))))) vss_nil)))
    (vss_cons (vs_for PassesOwn.never rfl (vi_seq y (ve_v y 5)) (vk_name y 10 [10]) (vss_one (vs_expr (ve_append y (ve_v y 3) (va_cons (ve_tup (va_cons ve_str va_nil)) va_nil)))))
    (vss_cons (vs_expr (ve_append y (ve_v y 3) (va_cons (ve_tup (va_cons ve_str (va_cons (ve_callP y false d__law_operand (by decide) (va_cons (ve_mod (ve_sum y T.n_sum (va_cons (ve_v y 8) va_nil)) (ve_pow ve_int ve_int)) (va_cons (ve_v y 1) va_nil))) va_nil))) va_nil)))
    (vss_one (vs_if (VW.vt (vw_and (vt_cmp (c_eq y) (ve_mod (ve_v y 4) ve_int) ve_int) (vw_and1 (vt_cmp (c_eq y) (ve_mod (ve_len y T.n_len (va_cons (ve_v y 8) va_nil)) ve_int) ve_int)))) (vss_one (vs_expr (ve_append y (ve_v y 3) (va_cons (ve_tup (va_cons ve_str va_nil)) va_nil)))) vss_nil)))))))))))
    (vss_one (vs_ret (ve_v y 3))))), at3 v__law_program⟩
abbrev s__law_homes : Stmt := top 26
theorem sc__law_homes : FnScope ["_law_program_here", "_law_homes_here", "_law_here", "_law_k", "_law_row"] ["_law_program_here"] (defScope s__law_homes) := ⟨rfl, rfl, rfl, by decide +kernel, rfl, by decide +kernel, by decide +kernel⟩
theorem d__law_homes {f : Addr} {fd : FuncData} (F : Fun K "_law_homes" "_law_homes" s__law_homes f fd) (hm : mg "_law_homes" = some (.ref f)) (T : Txt K mg) : Def P K.w K mg base "_law_homes" 1 [] (pSp sp__law_homes) :=
  def_mk F hm sc__law_homes (F.binds (ps := ["_law_program_here"]) fun _ _ _ _ _ _ us hl => (by obtain ⟨_, rfl⟩ := ulen1 hl; rfl)) (fun _ _ _ h => len1 h) fun cdv A outer s H E y => ⟨w__law_homes, (vss_cons (vs_set y 1 (ve_lst true va_nil))
    (vss_cons (vs_set y 2 ve_non)
    (vss_cons (vs_for PassesOwn.never rfl (vi_enum y T.n_enumerate (va_cons (ve_v y 0) va_nil)) (vk_tup y 2 (vks_cons (vk_name y 3 [3, 4]) (vks_cons (vk_name y 4 [3, 4]) (vks_nil [3, 4])))) (vss_cons (vs_if (vt_cmp (c_eq y) (ve_ix y (ve_v y 4) ve_int) ve_str) (vss_one (vs_set y 2 (ve_v y 3))) vss_nil)
    (vss_cons (vs_expr (ve_append y (ve_v y 1) (va_cons (ve_v y 2) va_nil)))
    (vss_one (vs_if (vt_cmp (c_eq y) (ve_ix y (ve_v y 4) ve_int) ve_str) (vss_one (vs_set y 2 ve_non)) vss_nil)))))
    (vss_one (vs_ret (ve_v y 1)))))), at1 v__law_homes⟩
abbrev s__law_class : Stmt := top 27
theorem sc__law_class : FnScope ["_law_key_here"] ["_law_key_here"] (defScope s__law_class) := ⟨rfl, rfl, rfl, by decide +kernel, rfl, by decide +kernel, by decide +kernel⟩
theorem d__law_class {f : Addr} {fd : FuncData} (F : Fun K "_law_class" "_law_class" s__law_class f fd) (hm : mg "_law_class" = some (.ref f)) (T : Txt K mg) : Def P K.w K mg base "_law_class" 1 [] (pSp sp__law_class) :=
  def_mk F hm sc__law_class (F.binds (ps := ["_law_key_here"]) fun _ _ _ _ _ _ us hl => (by obtain ⟨_, rfl⟩ := ulen1 hl; rfl)) (fun _ _ _ h => len1 h) fun cdv A outer s H E y => ⟨w__law_class, (vss_cons (vs_if (VW.vt (vw_and (vt_truth y (ve_isi y T.n_isinstance (va_cons (ve_v y 0) (va_cons (ve_ty y T.n_str) va_nil)))) (vw_and1 (vt_truth y (ve_starts (ve_v y 0) ve_str))))) (vss_one (vs_ret (ve_v y 0))) vss_nil)
    (vss_one (vs_ret ve_str))), at1 v__law_class⟩
abbrev s__law_call_moves : Stmt := top 28
theorem sc__law_call_moves : FnScope ["_law_program_here", "_law_home", "_law_row", "_law_there", "_law_last", "_law_moves_here", "_law_name", "_law_operand_here"] ["_law_program_here", "_law_home", "_law_row"] (defScope s__law_call_moves) := ⟨rfl, rfl, rfl, by decide +kernel, rfl, by decide +kernel, by decide +kernel⟩
theorem d__law_call_moves {f : Addr} {fd : FuncData} (F : Fun K "_law_call_moves" "_law_call_moves" s__law_call_moves f fd) (hm : mg "_law_call_moves" = some (.ref f)) (T : Txt K mg) : Def P K.w K mg base "_law_call_moves" 1 [] (pSp sp__law_call_moves) :=
  def_mk F hm sc__law_call_moves (F.binds (ps := ["_law_program_here", "_law_home", "_law_row"]) fun _ _ _ _ _ _ us hl => (by obtain ⟨_, _, _, rfl⟩ := ulen3 hl; rfl)) (fun _ _ _ h => len3 h) fun cdv A outer s H E y => ⟨w__law_call_moves, (vss_cons (vs_set y 3 ve_int)
    (vss_cons (vs_while PassesOwn.never (VW.vt (vw_or (vt_cmp (c_ne y) (ve_ix y (ve_ix y (ve_v y 0) (ve_v y 3)) ve_int) ve_str) (vw_or1 (vt_cmp (c_ne y) (ve_ix y (ve_ix y (ve_v y 0) (ve_v y 3)) ve_int) (ve_ix y (ve_v y 2) ve_int))))) (vss_one (vs_set y 3 (ve_add y false (ve_v y 3) ve_int))))
    (vss_cons (vs_set y 4 (ve_v y 3))
    (vss_cons (vs_while PassesOwn.never (vt_cmp (c_ne y) (ve_ix y (ve_ix y (ve_v y 0) (ve_v y 4)) ve_int) ve_str) (vss_one (vs_set y 4 (ve_add y false (ve_v y 4) ve_int))))
    (vss_cons (vs_set y 5 (ve_lst true va_nil))
    (vss_cons (vs_for PassesOwn.never rfl (vi_zip y T.n_zip (va_cons (ve_ix y (ve_ix y (ve_v y 0) (ve_v y 3)) ve_int) (va_cons (ve_ix y (ve_v y 2) ve_int) va_nil))) (vk_tup y 2 (vks_cons (vk_name y 6 [6, 7]) (vks_cons (vk_name y 7 [6, 7]) (vks_nil [6, 7])))) (vss_one (vs_if (vt_truth y (ve_isi y T.n_isinstance (va_cons (ve_v y 7) (va_cons (ve_ty y T.n_str) va_nil)))) (vss_one (vs_expr (ve_append y (ve_v y 5) (va_cons (ve_tup (va_cons (ve_tup (va_cons ve_str (va_cons (ve_v y 3) (va_cons (ve_v y 6) (va_cons ve_str va_nil))))) (va_cons (ve_tup (va_cons ve_str (va_cons (ve_v y 1) (va_cons (ve_v y 7) (va_cons ve_str va_nil))))) va_nil))) va_nil)))) vss_nil)))
    (vss_cons (vs_if (vt_truth y (ve_isi y T.n_isinstance (va_cons (ve_ix y (ve_ix y (ve_v y 0) (ve_v y 4)) ve_int) (va_cons (ve_ty y T.n_str) va_nil)))) (vss_one (vs_expr (ve_append y (ve_v y 5) (va_cons (ve_tup (va_cons (ve_tup (va_cons ve_str (va_cons (ve_v y 1) (va_cons (ve_ix y (ve_v y 2) ve_int) (va_cons ve_str va_nil))))) (va_cons (ve_tup (va_cons ve_str (va_cons (ve_v y 3) (va_cons (ve_ix y (ve_ix y (ve_v y 0) (ve_v y 4)) ve_int) (va_cons ve_str va_nil))))) va_nil))) va_nil)))) vss_nil)
    (vss_one (vs_ret (ve_v y 5)))))))))), at3 v__law_call_moves⟩
abbrev s__law_moves : Stmt := top 29
theorem sc__law_moves : FnScope ["_law_program_here", "_law_homes_here", "_law_moves_here", "_law_k", "_law_row", "_law_home"] ["_law_program_here"] (defScope s__law_moves) := ⟨rfl, rfl, rfl, by decide +kernel, rfl, by decide +kernel, by decide +kernel⟩
theorem d__law_moves {f : Addr} {fd : FuncData} (F : Fun K "_law_moves" "_law_moves" s__law_moves f fd) (hm : mg "_law_moves" = some (.ref f)) (T : Txt K mg) (d__law_homes : Def P K.w K mg base "_law_homes" 1 [] (pSp sp__law_homes)) (d__law_class : Def P K.w K mg base "_law_class" 1 [] (pSp sp__law_class)) (d__law_call_moves : Def P K.w K mg base "_law_call_moves" 1 [] (pSp sp__law_call_moves)) : Def P K.w K mg base "_law_moves" 2 [] (pSp sp__law_moves) :=
  def_mk F hm sc__law_moves (F.binds (ps := ["_law_program_here"]) fun _ _ _ _ _ _ us hl => (by obtain ⟨_, rfl⟩ := ulen1 hl; rfl)) (fun _ _ _ h => len1 h) fun cdv A outer s H E y => ⟨w__law_moves, (vss_cons (vs_set y 1 (ve_callP y false d__law_homes (by decide) (va_cons (ve_v y 0) va_nil)))
    (vss_cons (vs_set y 2 (ve_lst true va_nil))
    (vss_cons (vs_for PassesOwn.never rfl (vi_enum y T.n_enumerate (va_cons (ve_v y 0) va_nil)) (vk_tup y 2 (vks_cons (vk_name y 3 [3, 4]) (vks_cons (vk_name y 4 [3, 4]) (vks_nil [3, 4])))) (vss_cons (vs_set y 5 (ve_ix y (ve_v y 1) (ve_v y 3)))
    (vss_one (vs_if (vt_cmp (c_eq y) (ve_ix y (ve_v y 4) ve_int) ve_str) (vss_one (vs_expr (ve_append y (ve_v y 2) (va_cons (ve_tup (va_cons (ve_tup (va_cons ve_str (va_cons (ve_v y 5) (va_cons (ve_ix y (ve_v y 4) ve_int) (va_cons ve_str va_nil))))) (va_cons (ve_tup (va_cons ve_str (va_cons (ve_v y 3) (va_cons ve_str (va_cons ve_str va_nil))))) va_nil))) va_nil)))) (vss_one (vs_if (VW.vt (vw_and (vt_cmp (c_eq y) (ve_ix y (ve_v y 4) ve_int) ve_str) (vw_and1 (vt_truth y (ve_isi y T.n_isinstance (va_cons (ve_ix y (ve_v y 4) ve_int) (va_cons (ve_ty y T.n_str) va_nil))))))) (vss_one (vs_expr (ve_append y (ve_v y 2) (va_cons (ve_tup (va_cons (ve_tup (va_cons ve_str (va_cons (ve_v y 5) (va_cons (ve_ix y (ve_v y 4) ve_int) (va_cons ve_str va_nil))))) (va_cons (ve_tup (va_cons ve_str (va_cons (ve_v y 5) (va_cons (ve_ix y (ve_v y 4) ve_int) (va_cons ve_str va_nil))))) va_nil))) va_nil)))) (vss_one (vs_if (vt_cmp (c_eq y) (ve_ix y (ve_v y 4) ve_int) ve_str) (vss_one (vs_expr (ve_append y (ve_v y 2) (va_cons (ve_tup (va_cons (ve_tup (va_cons ve_str (va_cons (ve_v y 5) (va_cons (ve_ix y (ve_v y 4) ve_int) (va_cons ve_str va_nil))))) (va_cons (ve_tup (va_cons ve_str (va_cons (ve_v y 5) (va_cons (ve_ix y (ve_v y 4) ve_int) (va_cons (ve_callP y false d__law_class (by decide) (va_cons (ve_ix y (ve_v y 4) ve_int) va_nil)) va_nil))))) va_nil))) va_nil)))) (vss_one (vs_if (VW.vt (vw_and (vt_cmp (c_eq y) (ve_ix y (ve_v y 4) ve_int) ve_str) (vw_and1 (vt_truth y (ve_isi y T.n_isinstance (va_cons (ve_ix y (ve_v y 4) ve_int) (va_cons (ve_ty y T.n_str) va_nil))))))) (vss_one (vs_expr (ve_append y (ve_v y 2) (va_cons (ve_tup (va_cons (ve_tup (va_cons ve_str (va_cons (ve_v y 5) (va_cons (ve_ix y (ve_v y 4) ve_int) (va_cons (ve_callP y false d__law_class (by decide) (va_cons (ve_ix y (ve_v y 4) ve_int) va_nil)) va_nil))))) (va_cons (ve_tup (va_cons ve_str (va_cons (ve_v y 5) (va_cons (ve_ix y (ve_v y 4) ve_int) (va_cons ve_str va_nil))))) va_nil))) va_nil)))) (vss_one (vs_if (vt_cmp (c_eq y) (ve_ix y (ve_v y 4) ve_int) ve_str) (vss_one (vs_set y 2 (ve_add y true (ve_v y 2) (ve_callP y false d__law_call_moves (by decide) (va_cons (ve_v y 0) (va_cons (ve_v y 5) (va_cons (ve_v y 4) va_nil))))))) vss_nil))))))))))))
    (vss_one (vs_ret (ve_v y 2)))))), at1 v__law_moves⟩
abbrev s__law_had : Stmt := top 30
theorem sc__law_had : FnScope ["_law_names", "_law_cells", "_law_origin", "_law_word", "_law_home", "_law_name", "_law_kind", "_law_some", "_law_total", "_law_row", "_law_other"] ["_law_names", "_law_cells", "_law_origin"] (defScope s__law_had) := ⟨rfl, rfl, rfl, by decide +kernel, rfl, by decide +kernel, by decide +kernel⟩
theorem d__law_had {f : Addr} {fd : FuncData} (F : Fun K "_law_had" "_law_had" s__law_had f fd) (hm : mg "_law_had" = some (.ref f)) (T : Txt K mg) : Def P K.w K mg base "_law_had" 1 [] sp__law_had :=
  def_mk F hm sc__law_had (F.binds (ps := ["_law_names", "_law_cells", "_law_origin"]) fun _ _ _ _ _ _ us hl => (by obtain ⟨_, _, _, rfl⟩ := ulen3 hl; rfl)) (fun _ _ _ h => lenS3 h) fun cdv A outer s H E y => ⟨w__law_had, (vss_cons (vs_asg (ve_v y 2) (VK.vg (vk_tup y 4 (vks_cons (vk_name y 3 [3, 4, 5, 6]) (vks_cons (vk_name y 4 [3, 4, 5, 6]) (vks_cons (vk_name y 5 [3, 4, 5, 6]) (vks_cons (vk_name y 6 [3, 4, 5, 6]) (vks_nil [3, 4, 5, 6]))))))))
    (vss_cons (vs_if (vt_cmp (c_eq y) (ve_v y 3) ve_str) (vss_one (vs_ret (ve_shl ve_int (ve_v y 4)))) vss_nil)
    (vss_cons (vs_set y 7 (ve_nget2 y (ve_v y 0) (ve_tup (va_cons (ve_v y 4) (va_cons (ve_v y 5) va_nil))) ve_int))
    (vss_cons (vs_if (vt_cmp (c_eq y) (ve_v y 3) ve_str) (vss_one (vs_ret (ve_v y 7))) vss_nil)
    (vss_cons (vs_set y 8 ve_int)
    (vss_cons (vs_lock (vs_for PassesOwn.never rfl (vi_nkeys y (ve_v y 1)) (vk_tup y 2 (vks_cons (vk_name y 9 [9, 10]) (vks_cons (vk_name y 10 [9, 10]) (vks_nil [9, 10])))) (vss_one (vs_if (VW.vt (vw_and (vt_cmp (c_eq y) (ve_v y 10) (ve_v y 6)) (vw_and1 (vt_cmp (c_eq y) (ve_mod (ve_shr (ve_v y 7) (ve_v y 9)) ve_int) ve_int)))) (vss_one (vs_set y 8 (ve_or (ve_v y 8) (ve_nget y (ve_v y 1) (ve_tup (va_cons (ve_v y 9) (va_cons (ve_v y 10) va_nil))))))) vss_nil))))
    (vss_one (vs_ret (ve_v y 8))))))))), atS3 v__law_had⟩
abbrev s__law_goals : Stmt := top 31
theorem sc__law_goals : FnScope ["_law_names", "_law_goal", "_law_word", "_law_home", "_law_name", "_law_kind", "_law_some", "_law_row"] ["_law_names", "_law_goal"] (defScope s__law_goals) := ⟨rfl, rfl, rfl, by decide +kernel, rfl, by decide +kernel, by decide +kernel⟩
theorem d__law_goals {f : Addr} {fd : FuncData} (F : Fun K "_law_goals" "_law_goals" s__law_goals f fd) (hm : mg "_law_goals" = some (.ref f)) (T : Txt K mg) : Def P K.w K mg base "_law_goals" 1 [] sp__law_goals :=
  def_mk F hm sc__law_goals (F.binds (ps := ["_law_names", "_law_goal"]) fun _ _ _ _ _ _ us hl => (by obtain ⟨_, _, rfl⟩ := ulen2 hl; rfl)) (fun _ _ _ h => lenS2 h) fun cdv A outer s H E y => ⟨w__law_goals, (vss_cons (vs_asg (ve_v y 1) (VK.vg (vk_tup y 4 (vks_cons (vk_name y 2 [2, 3, 4, 5]) (vks_cons (vk_name y 3 [2, 3, 4, 5]) (vks_cons (vk_name y 4 [2, 3, 4, 5]) (vks_cons (vk_name y 5 [2, 3, 4, 5]) (vks_nil [2, 3, 4, 5]))))))))
    (vss_cons (vs_if (vt_cmp (c_eq y) (ve_v y 2) ve_str) (vss_one (vs_ret (ve_lst true (va_cons (ve_tup (va_cons (ve_v y 3) (va_cons (ve_v y 4) va_nil))) va_nil)))) vss_nil)
    (vss_cons (vs_set y 6 (ve_nget2 y (ve_v y 0) (ve_tup (va_cons (ve_v y 3) (va_cons (ve_v y 4) va_nil))) ve_int))
    (vss_one (vs_ret (ve_lc y true (own := [("_law_row", 7)]) (vi_rng1 y T.n_range (va_cons ve_int va_nil)) (fun _ => (blkOk_at (S := defScope s__law_goals) (by decide +kernel))) (vk_name (YOk.blk y _) 7 [7]) (vts_one (vt_cmp (c_eq (YOk.blk y _)) (ve_mod (ve_shr (ve_v (YOk.blk y _) 6) (ve_v (YOk.blk y _) 7)) ve_int) ve_int)) (ve_tup (va_cons (ve_v (YOk.blk y _) 7) (va_cons (ve_v (YOk.blk y _) 5) va_nil))))))))), atS2 v__law_goals⟩
abbrev s__law_lacks : Stmt := top 32
theorem sc__law_lacks : FnScope ["_law_names", "_law_cells", "_law_move", "_law_goal", "_law_origin", "_law_some", "_law_where", "_law_key_here"] ["_law_names", "_law_cells", "_law_move"] (defScope s__law_lacks) := ⟨rfl, rfl, rfl, by decide +kernel, rfl, by decide +kernel, by decide +kernel⟩
theorem d__law_lacks {f : Addr} {fd : FuncData} (F : Fun K "_law_lacks" "_law_lacks" s__law_lacks f fd) (hm : mg "_law_lacks" = some (.ref f)) (T : Txt K mg) (d__law_had : Def P K.w K mg base "_law_had" 1 [] sp__law_had) (d__law_goals : Def P K.w K mg base "_law_goals" 1 [] sp__law_goals) : Def P K.w K mg base "_law_lacks" 2 [] sp__law_lacks :=
  def_mk F hm sc__law_lacks (F.binds (ps := ["_law_names", "_law_cells", "_law_move"]) fun _ _ _ _ _ _ us hl => (by obtain ⟨_, _, _, rfl⟩ := ulen3 hl; rfl)) (fun _ _ _ h => lenS3 h) fun cdv A outer s H E y => ⟨w__law_lacks, (vss_cons (vs_asg (ve_v y 2) (VK.vg (vk_tup y 2 (vks_cons (vk_name y 3 [3, 4]) (vks_cons (vk_name y 4 [3, 4]) (vks_nil [3, 4]))))))
    (vss_cons (vs_set y 5 (ve_callS y d__law_had (by decide) (va_cons (ve_v y 0) (va_cons (ve_v y 1) (va_cons (ve_v y 4) va_nil)))))
    (vss_cons (vs_set y 6 (ve_ix y (ve_lst false (va_cons (ve_v y 1) (va_cons (ve_v y 0) va_nil))) (ve_toInt y T.n_int (va_cons (ve_cmp (c_eq y) (ve_ix y (ve_v y 3) ve_int) ve_str) va_nil))))
    (vss_one (vs_ret (ve_lc y true (own := [("_law_key_here", 7)]) (vi_seq y (ve_callS y d__law_goals (by decide) (va_cons (ve_v y 0) (va_cons (ve_v y 3) va_nil)))) (fun _ => (blkOk_at (S := defScope s__law_lacks) (by decide +kernel))) (vk_name (YOk.blk y _) 7 [7]) (vts_one (vt_cmp (c_ne (YOk.blk y _)) (ve_or (ve_nget2 (YOk.blk y _) (ve_v (YOk.blk y _) 6) (ve_v (YOk.blk y _) 7) ve_int) (ve_v (YOk.blk y _) 5)) (ve_nget2 (YOk.blk y _) (ve_v (YOk.blk y _) 6) (ve_v (YOk.blk y _) 7) ve_int))) (ve_v (YOk.blk y _) 7))))))), atS3 v__law_lacks⟩
abbrev s__law_news : Stmt := top 33
theorem sc__law_news : FnScope ["_law_program_here", "_law_k", "_law_row"] ["_law_program_here"] (defScope s__law_news) := ⟨rfl, rfl, rfl, by decide +kernel, rfl, by decide +kernel, by decide +kernel⟩
theorem d__law_news {f : Addr} {fd : FuncData} (F : Fun K "_law_news" "_law_news" s__law_news f fd) (hm : mg "_law_news" = some (.ref f)) (T : Txt K mg) : Def P K.w K mg base "_law_news" 1 [] (pSp sp__law_news) :=
  def_mk F hm sc__law_news (F.binds (ps := ["_law_program_here"]) fun _ _ _ _ _ _ us hl => (by obtain ⟨_, rfl⟩ := ulen1 hl; rfl)) (fun _ _ _ h => len1 h) fun cdv A outer s H E y => ⟨w__law_news, (vss_one (vs_ret (ve_lc y true (own := [("_law_k", 1), ("_law_row", 2)]) (vi_enum y T.n_enumerate (va_cons (ve_v y 0) va_nil)) (fun _ => (blkOk_at (S := defScope s__law_news) (by decide +kernel))) (vk_tup (YOk.blk y _) 2 (vks_cons (vk_name (YOk.blk y _) 1 [1, 2]) (vks_cons (vk_name (YOk.blk y _) 2 [1, 2]) (vks_nil [1, 2])))) (vts_one (vt_cmp (c_eq (YOk.blk y _)) (ve_ix (YOk.blk y _) (ve_v (YOk.blk y _) 2) ve_int) ve_str)) (ve_v (YOk.blk y _) 1)))), at1 v__law_news⟩
abbrev s__law_spoiled : Stmt := top 34
theorem sc__law_spoiled : FnScope ["_law_some", "_law_cell", "_law_news_here", "_law_other", "_law_k", "_law_key_here", "_law_number", "_law_bits"] ["_law_some", "_law_cell", "_law_news_here"] (defScope s__law_spoiled) := ⟨rfl, rfl, rfl, by decide +kernel, rfl, by decide +kernel, by decide +kernel⟩
theorem d__law_spoiled {f : Addr} {fd : FuncData} (F : Fun K "_law_spoiled" "_law_spoiled" s__law_spoiled f fd) (hm : mg "_law_spoiled" = some (.ref f)) (T : Txt K mg) : Def P K.w K mg base "_law_spoiled" 1 [] sp__law_spoiled :=
  def_mk F hm sc__law_spoiled (F.binds (ps := ["_law_some", "_law_cell", "_law_news_here"]) fun _ _ _ _ _ _ us hl => (by obtain ⟨_, _, _, rfl⟩ := ulen3 hl; rfl)) (fun _ _ _ h => lenS3 h) fun cdv A outer s H E y => ⟨w__law_spoiled, (vss_cons (vs_set y 3 (ve_nnew y))
    (vss_cons (vs_for PassesOwn.never rfl (vi_enum y T.n_enumerate (va_cons (ve_sortedN y false T.n_sorted (va_cons (ve_v y 0) va_nil)) va_nil)) (vk_tup y 2 (vks_cons (vk_name y 4 [4, 5]) (vks_cons (vk_name y 5 [4, 5]) (vks_nil [4, 5])))) (vss_cons (vs_set y 6 (ve_mod (ve_mul false (ve_fdiv (ve_v y 1) (ve_add y false (ve_v y 4) ve_int)) ve_int) ve_int))
    (vss_cons (vs_set y 7 (ve_nget y (ve_v y 0) (ve_v y 5)))
    (vss_cons (vs_if (vt_cmp (c_eq y) (ve_mod (ve_v y 6) ve_int) ve_int) (vss_one (vs_set y 7 ve_int)) vss_nil)
    (vss_cons (vs_if (VW.vt (vw_and (vt_cmp (c_eq y) (ve_mod (ve_v y 6) ve_int) ve_int) (vw_and1 (vt_cmp (c_ne y) (ve_v y 2) (ve_lst false va_nil))))) (vss_one (vs_set y 7 (ve_or (ve_v y 7) (ve_shl ve_int (ve_ix y (ve_v y 2) (ve_mod (ve_fdiv (ve_v y 6) ve_int) (ve_len y T.n_len (va_cons (ve_v y 2) va_nil)))))))) vss_nil)
    (vss_cons (vs_if (VW.vt (vw_and (vt_cmp (c_eq y) (ve_mod (ve_v y 6) ve_int) ve_int) (vw_and1 (vt_cmp (c_ne y) (ve_v y 2) (ve_lst false va_nil))))) (vss_one (vs_set y 7 (ve_and (ve_v y 7) (ve_sub (ve_sub (ve_pow ve_int ve_int) ve_int) (ve_shl ve_int (ve_ix y (ve_v y 2) (ve_mod (ve_fdiv (ve_v y 6) ve_int) (ve_len y T.n_len (va_cons (ve_v y 2) va_nil))))))))) vss_nil)
    (vss_one (vs_if (vt_cmp (c_gt y) (ve_v y 7) ve_int) (vss_one (vs_nput y (ve_v y 3) (ve_v y 5) (ve_v y 7))) vss_nil))))))))
    (vss_one (vs_ret (ve_v y 3))))), atS3 v__law_spoiled⟩
abbrev s__law_names_in : Stmt := top 35
theorem sc__law_names_in : FnScope ["_law_row", "_law_some", "_law_one"] ["_law_row"] (defScope s__law_names_in) := ⟨rfl, rfl, rfl, by decide +kernel, rfl, by decide +kernel, by decide +kernel⟩
theorem d__law_names_in {f : Addr} {fd : FuncData} (F : Fun K "_law_names_in" "_law_names_in" s__law_names_in f fd) (hm : mg "_law_names_in" = some (.ref f)) (T : Txt K mg) : Def P K.w K mg base "_law_names_in" 1 [] (pSp sp__law_names_in) :=
  def_mk F hm sc__law_names_in (F.binds (ps := ["_law_row"]) fun _ _ _ _ _ _ us hl => (by obtain ⟨_, rfl⟩ := ulen1 hl; rfl)) (fun _ _ _ h => len1 h) fun cdv A outer s H E y => ⟨w__law_names_in, (vss_cons (vs_if (vt_cmp (c_eq y) (ve_ix y (ve_v y 0) ve_int) ve_str) (vss_one (vs_set y 1 (ve_lst false (va_cons (ve_ix y (ve_v y 0) ve_int) (va_cons (ve_ix y (ve_v y 0) ve_int) (va_cons (ve_ix y (ve_v y 0) ve_int) va_nil)))))) (vss_one (vs_if (vt_cmp (c_eq y) (ve_ix y (ve_v y 0) ve_int) ve_str) (vss_one (vs_set y 1 (ve_list y false T.n_list (va_cons (ve_ix y (ve_v y 0) ve_int) va_nil)))) (vss_one (vs_if (vt_cmp (c_eq y) (ve_ix y (ve_v y 0) ve_int) ve_str) (vss_one (vs_set y 1 (ve_add y false (ve_lst false (va_cons (ve_ix y (ve_v y 0) ve_int) va_nil)) (ve_list y false T.n_list (va_cons (ve_ix y (ve_v y 0) ve_int) va_nil))))) (vss_one (vs_if (vt_cmp (c_eq y) (ve_ix y (ve_v y 0) ve_int) ve_str) (vss_one (vs_set y 1 (ve_lst false va_nil))) (vss_one (vs_set y 1 (ve_list y false T.n_list (va_cons (ve_slice y false (ve_v y 0) (vo_some ve_int) vo_none) va_nil)))))))))))
    (vss_one (vs_ret (ve_lc y true (own := [("_law_one", 2)]) (vi_seq y (ve_v y 1)) (fun _ => (blkOk_at (S := defScope s__law_names_in) (by decide +kernel))) (vk_name (YOk.blk y _) 2 [2]) (vts_one (VW.vt (vw_and (vt_truth (YOk.blk y _) (ve_isi (YOk.blk y _) T.n_isinstance (va_cons (ve_v (YOk.blk y _) 2) (va_cons (ve_ty (YOk.blk y _) T.n_str) va_nil)))) (vw_and1 (vt_not (vt_truth (YOk.blk y _) (ve_starts (ve_v (YOk.blk y _) 2) ve_str))))))) (ve_v (YOk.blk y _) 2))))), at1 v__law_names_in⟩
abbrev s__law_pairs : Stmt := top 36
theorem sc__law_pairs : FnScope ["_law_program_here", "_law_homes_here", "_law_pairs_here", "_law_k", "_law_row", "_law_name"] ["_law_program_here"] (defScope s__law_pairs) := ⟨rfl, rfl, rfl, by decide +kernel, rfl, by decide +kernel, by decide +kernel⟩
theorem d__law_pairs {f : Addr} {fd : FuncData} (F : Fun K "_law_pairs" "_law_pairs" s__law_pairs f fd) (hm : mg "_law_pairs" = some (.ref f)) (T : Txt K mg) (d__law_homes : Def P K.w K mg base "_law_homes" 1 [] (pSp sp__law_homes)) (d__law_names_in : Def P K.w K mg base "_law_names_in" 1 [] (pSp sp__law_names_in)) : Def P K.w K mg base "_law_pairs" 2 [] (pSp sp__law_pairs) :=
  def_mk F hm sc__law_pairs (F.binds (ps := ["_law_program_here"]) fun _ _ _ _ _ _ us hl => (by obtain ⟨_, rfl⟩ := ulen1 hl; rfl)) (fun _ _ _ h => len1 h) fun cdv A outer s H E y => ⟨w__law_pairs, (vss_cons (vs_set y 1 (ve_callP y false d__law_homes (by decide) (va_cons (ve_v y 0) va_nil)))
    (vss_cons (vs_set y 2 (ve_nnew y))
    (vss_cons (vs_for PassesOwn.never rfl (vi_enum y T.n_enumerate (va_cons (ve_v y 0) va_nil)) (vk_tup y 2 (vks_cons (vk_name y 3 [3, 4]) (vks_cons (vk_name y 4 [3, 4]) (vks_nil [3, 4])))) (vss_one (vs_for PassesOwn.never rfl (vi_seq y (ve_callP y false d__law_names_in (by decide) (va_cons (ve_v y 4) va_nil))) (vk_name y 5 [5]) (vss_one (vs_nput y (ve_v y 2) (ve_tup (va_cons (ve_ix y (ve_v y 1) (ve_v y 3)) (va_cons (ve_v y 5) va_nil))) ve_bl)))))
    (vss_one (vs_ret (ve_sortedN y true T.n_sorted (va_cons (ve_v y 2) va_nil))))))), at1 v__law_pairs⟩
abbrev s__law_more : Stmt := top 37
theorem sc__law_more : FnScope ["_law_names", "_law_cells", "_law_cell", "_law_program_here", "_law_words_here", "_law_news_here", "_law_pairs_here", "_law_k", "_law_number", "_law_some", "_law_key_here"] ["_law_names", "_law_cells", "_law_cell", "_law_program_here", "_law_words_here", "_law_news_here"] (defScope s__law_more) := ⟨rfl, rfl, rfl, by decide +kernel, rfl, by decide +kernel, by decide +kernel⟩
theorem d__law_more {f : Addr} {fd : FuncData} (F : Fun K "_law_more" "_law_more" s__law_more f fd) (hm : mg "_law_more" = some (.ref f)) (T : Txt K mg) (d__law_pairs : Def P K.w K mg base "_law_pairs" 2 [] (pSp sp__law_pairs)) : Def P K.w K mg base "_law_more" 3 [] sp__law_more :=
  def_mk F hm sc__law_more (F.binds (ps := ["_law_names", "_law_cells", "_law_cell", "_law_program_here", "_law_words_here", "_law_news_here"]) fun _ _ _ _ _ _ us hl => (by obtain ⟨_, _, _, _, _, _, rfl⟩ := ulen6 hl; rfl)) (fun _ _ _ h => lenS6 h) fun cdv A outer s H E y => ⟨w__law_more, (vss_cons (vs_set y 6 (ve_callP y false d__law_pairs (by decide) (va_cons (ve_v y 3) va_nil)))
    (vss_one (vs_for PassesOwn.never rfl (vi_rng1 y T.n_range (va_cons (ve_mod (ve_v y 2) ve_int) va_nil)) (vk_name y 7 [7]) (vss_cons (vs_set y 8 (ve_mod (ve_mul false (ve_fdiv (ve_fdiv (ve_v y 2) ve_int) (ve_add y false (ve_v y 7) ve_int)) ve_int) ve_int))
    (vss_cons (vs_set y 9 (ve_shl ve_int (ve_ix y (ve_v y 5) (ve_mod (ve_v y 8) (ve_len y T.n_len (va_cons (ve_v y 5) va_nil))))))
    (vss_one (vs_if (vt_cmp (c_eq y) (ve_mod (ve_fdiv (ve_v y 8) ve_int) ve_int) ve_int) (vss_cons (vs_set y 10 (ve_ix y (ve_v y 6) (ve_mod (ve_fdiv (ve_v y 8) ve_int) (ve_len y T.n_len (va_cons (ve_v y 6) va_nil)))))
    (vss_one (vs_nput y (ve_v y 0) (ve_v y 10) (ve_or (ve_nget2 y (ve_v y 0) (ve_v y 10) ve_int) (ve_v y 9))))) (vss_cons (vs_set y 10 (ve_tup (va_cons (ve_ix y (ve_v y 5) (ve_mod (ve_fdiv (ve_v y 8) ve_int) (ve_len y T.n_len (va_cons (ve_v y 5) va_nil)))) (va_cons (ve_ix y (ve_lst false (va_cons ve_str (va_cons (ve_add y false ve_str (ve_ix y (ve_v y 4) ve_int)) (va_cons (ve_add y false ve_str (ve_ix y (ve_v y 4) ve_int)) va_nil)))) (ve_mod (ve_fdiv (ve_v y 8) ve_int) ve_int)) va_nil))))
    (vss_one (vs_nput y (ve_v y 1) (ve_v y 10) (ve_or (ve_nget2 y (ve_v y 1) (ve_v y 10) ve_int) (ve_v y 9)))))))))))), atS6 v__law_more⟩
abbrev s__law_told : Stmt := top 38
theorem sc__law_told : FnScope ["_law_some", "_law_key_here"] ["_law_some"] (defScope s__law_told) := ⟨rfl, rfl, rfl, by decide +kernel, rfl, by decide +kernel, by decide +kernel⟩
theorem d__law_told {f : Addr} {fd : FuncData} (F : Fun K "_law_told" "_law_told" s__law_told f fd) (hm : mg "_law_told" = some (.ref f)) (T : Txt K mg) : Def P K.w K mg base "_law_told" 1 [] sp__law_told :=
  def_mk F hm sc__law_told (F.binds (ps := ["_law_some"]) fun _ _ _ _ _ _ us hl => (by obtain ⟨_, rfl⟩ := ulen1 hl; rfl)) (fun _ _ _ h => lenS1 h) fun cdv A outer s H E y => ⟨w__law_told, (vss_one (vs_ret (ve_sortedR y true T.n_sorted (va_cons (ve_lock (ve_lc y false (own := [("_law_key_here", 1)]) (vi_nkeys y (ve_v y 0)) (fun _ => (blkOk_at (S := defScope s__law_told) (by decide +kernel))) (vk_name (YOk.blk y _) 1 [1]) vts_nil (ve_tup (va_cons (ve_ix (YOk.blk y _) (ve_v (YOk.blk y _) 1) ve_int) (va_cons (ve_ix (YOk.blk y _) (ve_v (YOk.blk y _) 1) ve_int) (va_cons (ve_nget (YOk.blk y _) (ve_v (YOk.blk y _) 0) (ve_v (YOk.blk y _) 1)) va_nil)))))) va_nil)))), atS1 v__law_told⟩
abbrev s_law : Stmt := top 39
theorem sc_law : FnScope ["_law_script", "_law_words_here", "_law_rows", "_law_news_here", "_law_cell", "_law_first", "_law_names", "_law_cells", "_law_home", "_law_name", "_law_some", "_law_row", "_law_kind", "_law_table", "_law_due", "_law_move", "_law_lent", "_law_turn", "_law_told_here"] ["_law_script"] (defScope s_law) := ⟨rfl, rfl, rfl, by decide +kernel, rfl, by decide +kernel, by decide +kernel⟩
end
theorem d_law_ok {P : Program} {K : KW} {mg : Str → Option Value} {base : Heap} {f : Addr} {fd : FuncData} (F : Fun K "law" "law" s_law f fd) (T : Txt K mg) (d__law_words : Def P K.w K mg base "_law_words" 1 [] (pSp sp__law_words)) (d__law_cell_at : Def P K.w K mg base "_law_cell_at" 1 [] (pSp sp__law_cell_at)) (d__law_program : Def P K.w K mg base "_law_program" 5 [] (pSp sp__law_program)) (d__law_plan : Def P K.w K mg base "_law_plan" 1 [] (pSp sp__law_plan)) (d__law_news : Def P K.w K mg base "_law_news" 1 [] (pSp sp__law_news)) (d_makers : Def P K.w K mg base "makers" 6 [] (pSp sp_makers)) (d__law_spoiled : Def P K.w K mg base "_law_spoiled" 1 [] sp__law_spoiled) (d__law_more : Def P K.w K mg base "_law_more" 3 [] sp__law_more) (d__law_told : Def P K.w K mg base "_law_told" 1 [] sp__law_told) (d__law_moves : Def P K.w K mg base "_law_moves" 2 [] (pSp sp__law_moves)) (d__law_lacks : Def P K.w K mg base "_law_lacks" 2 [] sp__law_lacks) (d_closed : Def P K.w K mg base "closed" 6 [] (pSp sp_closed)) : FnOk P K.w K mg base CX0 7 f fd ["_law_script"] (toSp K (pSp lawSp)) :=
  fnv_ok F sc_law (fun _ _ _ h => lenL h) fun cdv A outer s H E y => ⟨w_law, (vss_cons (vs_set y 1 (ve_callP y false d__law_words (by decide) (va_cons (ve_callP y false d__law_cell_at (by decide) (va_cons (ve_v y 0) (va_cons ve_int va_nil))) (va_cons ve_int va_nil))))
    (vss_cons (vs_set y 2 (ve_callP y false d__law_program (by decide) (va_cons (ve_slice y false (ve_v y 0) (vo_some ve_int) (vo_some ve_int)) (va_cons (ve_v y 1) (va_cons (ve_callP y false d__law_plan (by decide) (va_cons (ve_callP y false d__law_cell_at (by decide) (va_cons (ve_v y 0) (va_cons ve_int va_nil))) (va_cons (ve_v y 1) va_nil))) va_nil)))))
    (vss_cons (vs_set y 3 (ve_callP y false d__law_news (by decide) (va_cons (ve_v y 2) va_nil)))
    (vss_cons (vs_set y 4 (ve_callP y false d__law_cell_at (by decide) (va_cons (ve_v y 0) (va_cons ve_int va_nil))))
    (vss_cons (vs_set y 5 (ve_callP y false d_makers (by decide) (va_cons (ve_list y false T.n_list (va_cons (ve_v y 2) va_nil)) va_nil)))
    (vss_cons (vs_set y 6 (ve_nnew y))
    (vss_cons (vs_set y 7 (ve_nnew y))
    (vss_cons (vs_if (vt_cmp (c_lt y) (ve_mod (ve_v y 4) ve_int) ve_int) (vss_cons (vs_for PassesOwn.never rfl (vi_seq y (ve_ix y (ve_v y 5) ve_int)) (vk_tup y 3 (vks_cons (vk_name y 8 [8, 9, 10]) (vks_cons (vk_name y 9 [8, 9, 10]) (vks_cons (vk_name y 10 [8, 9, 10]) (vks_nil [8, 9, 10]))))) (vss_one (vs_nput y (ve_v y 6) (ve_tup (va_cons (ve_v y 8) (va_cons (ve_v y 9) va_nil))) (ve_v y 10))))
    (vss_one (vs_for PassesOwn.never rfl (vi_seq y (ve_ix y (ve_v y 5) ve_int)) (vk_tup y 3 (vks_cons (vk_name y 11 [11, 12, 10]) (vks_cons (vk_name y 12 [11, 12, 10]) (vks_cons (vk_name y 10 [11, 12, 10]) (vks_nil [11, 12, 10]))))) (vss_one (vs_nput y (ve_v y 7) (ve_tup (va_cons (ve_v y 11) (va_cons (ve_v y 12) va_nil))) (ve_v y 10)))))) vss_nil)
    (vss_cons (vs_if (vt_cmp (c_eq y) (ve_mod (ve_v y 4) ve_int) ve_int) (vss_cons (vs_set y 6 (ve_callS y d__law_spoiled (by decide) (va_cons (ve_v y 6) (va_cons (ve_fdiv (ve_v y 4) ve_int) (va_cons (ve_v y 3) va_nil)))))
    (vss_one (vs_set y 7 (ve_callS y d__law_spoiled (by decide) (va_cons (ve_v y 7) (va_cons (ve_fdiv (ve_v y 4) ve_int) (va_cons (ve_v y 3) va_nil))))))) vss_nil)
    (vss_cons (vs_if (vt_cmp (c_ne y) (ve_v y 3) (ve_lst false va_nil)) (vss_one (vs_expr (ve_callS y d__law_more (by decide) (va_cons (ve_v y 6) (va_cons (ve_v y 7) (va_cons (ve_fdiv (ve_v y 4) ve_int) (va_cons (ve_v y 2) (va_cons (ve_v y 1) (va_cons (ve_v y 3) va_nil))))))))) vss_nil)
    (vss_cons (vs_set y 13 (ve_tup (va_cons (ve_callS y d__law_told (by decide) (va_cons (ve_v y 6) va_nil)) (va_cons (ve_callS y d__law_told (by decide) (va_cons (ve_v y 7) va_nil)) va_nil))))
    (vss_cons (vs_set y 14 (ve_cmp (c_eq y) (ve_lc y false (own := [("_law_move", 15)]) (vi_seq y (ve_callP y false d__law_moves (by decide) (va_cons (ve_v y 2) va_nil))) (fun _ => (blkOk_at (S := defScope s_law) (by decide +kernel))) (vk_name (YOk.blk y _) 15 [15]) (vts_one (vt_cmp (c_ne (YOk.blk y _)) (ve_callS (YOk.blk y _) d__law_lacks (by decide) (va_cons (ve_v (YOk.blk y _) 6) (va_cons (ve_v (YOk.blk y _) 7) (va_cons (ve_v (YOk.blk y _) 15) va_nil)))) (ve_lst false va_nil))) (ve_v (YOk.blk y _) 15)) (ve_lst false va_nil)))
    (vss_cons (vs_set y 16 (ve_tup (va_cons (ve_list y false T.n_list (va_cons (ve_ix y (ve_v y 13) ve_int) va_nil)) (va_cons (ve_list y false T.n_list (va_cons (ve_ix y (ve_v y 13) ve_int) va_nil)) va_nil))))
    (vss_cons (vs_for PassesOwn.never rfl (vi_rng1 y T.n_range (va_cons ve_int va_nil)) (vk_name y 17 [17]) (vss_cons (vs_set y 18 (ve_callP y false d_closed (by decide) (va_cons (ve_v y 2) (va_cons (ve_v y 16) va_nil))))
    (vss_one (vs_if (VW.vt (vw_or (vt_not (vt_truth y (ve_isi y T.n_isinstance (va_cons (ve_v y 18) (va_cons (ve_ty y T.n_bool) va_nil))))) (vw_or (vt_cmp (c_ne y) (ve_v y 18) (ve_v y 14)) (vw_or1 (vt_cmp (c_ne y) (ve_v y 16) (ve_v y 13)))))) (vss_one (vs_ret ve_bl)) vss_nil))))
    (vss_one (vs_ret (ve_cmp (c_isB y) (ve_callP y false d_closed (by decide) (va_cons (ve_v y 2) (va_cons (ve_v y 5) va_nil))) ve_bl))))))))))))))))), atL v_law⟩
theorem all_mk {P : Program} {w : World} {K : PySem.W.Frag} {h : Heap} {mg : Str → Option Value} {fa : Addr} (X : K.In h) (G : h.Ns mainGlobals mg) (hfa : mg "law" = some (.ref fa)) {f_is_name f_is_field f_class_of f_shape f_numbers_of f_Draft_init f_Draft_of_name f_Draft_of_cells f_Draft_had_by f_Draft_grown f_Draft_told f_call_flows f_row_flows f_all_flows f_makers f_closed f__law_cell_at f__law_words f__law_operand f__law_key f__law_call f__law_simple f__law_lay f__law_plan f__law_program f__law_homes f__law_class f__law_call_moves f__law_moves f__law_had f__law_goals f__law_lacks f__law_news f__law_spoiled f__law_names_in f__law_pairs f__law_more f__law_told f_law A_Draft : Addr}
    {oc_is_name kV_is_name dc_is_name pm_is_name cd_is_name ct_is_name : Value} {od_is_name an_is_name : Option Addr} {sl_is_name : Array (Option Value)}
    {oc_is_field kV_is_field dc_is_field pm_is_field cd_is_field ct_is_field : Value} {od_is_field an_is_field : Option Addr} {sl_is_field : Array (Option Value)}
    {oc_class_of kV_class_of dc_class_of pm_class_of cd_class_of ct_class_of : Value} {od_class_of an_class_of : Option Addr} {sl_class_of : Array (Option Value)}
    {oc_shape kV_shape dc_shape pm_shape cd_shape ct_shape : Value} {od_shape an_shape : Option Addr} {sl_shape : Array (Option Value)}
    {oc_numbers_of kV_numbers_of dc_numbers_of pm_numbers_of cd_numbers_of ct_numbers_of : Value} {od_numbers_of an_numbers_of : Option Addr} {sl_numbers_of : Array (Option Value)}
    {oc_Draft_init kV_Draft_init dc_Draft_init pm_Draft_init cd_Draft_init ct_Draft_init : Value} {od_Draft_init an_Draft_init : Option Addr} {sl_Draft_init : Array (Option Value)}
    {oc_Draft_of_name kV_Draft_of_name dc_Draft_of_name pm_Draft_of_name cd_Draft_of_name ct_Draft_of_name : Value} {od_Draft_of_name an_Draft_of_name : Option Addr} {sl_Draft_of_name : Array (Option Value)}
    {oc_Draft_of_cells kV_Draft_of_cells dc_Draft_of_cells pm_Draft_of_cells cd_Draft_of_cells ct_Draft_of_cells : Value} {od_Draft_of_cells an_Draft_of_cells : Option Addr} {sl_Draft_of_cells : Array (Option Value)}
    {oc_Draft_had_by kV_Draft_had_by dc_Draft_had_by pm_Draft_had_by cd_Draft_had_by ct_Draft_had_by : Value} {od_Draft_had_by an_Draft_had_by : Option Addr} {sl_Draft_had_by : Array (Option Value)}
    {oc_Draft_grown kV_Draft_grown dc_Draft_grown pm_Draft_grown cd_Draft_grown ct_Draft_grown : Value} {od_Draft_grown an_Draft_grown : Option Addr} {sl_Draft_grown : Array (Option Value)}
    {oc_Draft_told kV_Draft_told dc_Draft_told pm_Draft_told cd_Draft_told ct_Draft_told : Value} {od_Draft_told an_Draft_told : Option Addr} {sl_Draft_told : Array (Option Value)}
    {oc_call_flows kV_call_flows dc_call_flows pm_call_flows cd_call_flows ct_call_flows : Value} {od_call_flows an_call_flows : Option Addr} {sl_call_flows : Array (Option Value)}
    {oc_row_flows kV_row_flows dc_row_flows pm_row_flows cd_row_flows ct_row_flows : Value} {od_row_flows an_row_flows : Option Addr} {sl_row_flows : Array (Option Value)}
    {oc_all_flows kV_all_flows dc_all_flows pm_all_flows cd_all_flows ct_all_flows : Value} {od_all_flows an_all_flows : Option Addr} {sl_all_flows : Array (Option Value)}
    {oc_makers kV_makers dc_makers pm_makers cd_makers ct_makers : Value} {od_makers an_makers : Option Addr} {sl_makers : Array (Option Value)}
    {oc_closed kV_closed dc_closed pm_closed cd_closed ct_closed : Value} {od_closed an_closed : Option Addr} {sl_closed : Array (Option Value)}
    {oc__law_cell_at kV__law_cell_at dc__law_cell_at pm__law_cell_at cd__law_cell_at ct__law_cell_at : Value} {od__law_cell_at an__law_cell_at : Option Addr} {sl__law_cell_at : Array (Option Value)}
    {oc__law_words kV__law_words dc__law_words pm__law_words cd__law_words ct__law_words : Value} {od__law_words an__law_words : Option Addr} {sl__law_words : Array (Option Value)}
    {oc__law_operand kV__law_operand dc__law_operand pm__law_operand cd__law_operand ct__law_operand : Value} {od__law_operand an__law_operand : Option Addr} {sl__law_operand : Array (Option Value)}
    {oc__law_key kV__law_key dc__law_key pm__law_key cd__law_key ct__law_key : Value} {od__law_key an__law_key : Option Addr} {sl__law_key : Array (Option Value)}
    {oc__law_call kV__law_call dc__law_call pm__law_call cd__law_call ct__law_call : Value} {od__law_call an__law_call : Option Addr} {sl__law_call : Array (Option Value)}
    {oc__law_simple kV__law_simple dc__law_simple pm__law_simple cd__law_simple ct__law_simple : Value} {od__law_simple an__law_simple : Option Addr} {sl__law_simple : Array (Option Value)}
    {oc__law_lay kV__law_lay dc__law_lay pm__law_lay cd__law_lay ct__law_lay : Value} {od__law_lay an__law_lay : Option Addr} {sl__law_lay : Array (Option Value)}
    {oc__law_plan kV__law_plan dc__law_plan pm__law_plan cd__law_plan ct__law_plan : Value} {od__law_plan an__law_plan : Option Addr} {sl__law_plan : Array (Option Value)}
    {oc__law_program kV__law_program dc__law_program pm__law_program cd__law_program ct__law_program : Value} {od__law_program an__law_program : Option Addr} {sl__law_program : Array (Option Value)}
    {oc__law_homes kV__law_homes dc__law_homes pm__law_homes cd__law_homes ct__law_homes : Value} {od__law_homes an__law_homes : Option Addr} {sl__law_homes : Array (Option Value)}
    {oc__law_class kV__law_class dc__law_class pm__law_class cd__law_class ct__law_class : Value} {od__law_class an__law_class : Option Addr} {sl__law_class : Array (Option Value)}
    {oc__law_call_moves kV__law_call_moves dc__law_call_moves pm__law_call_moves cd__law_call_moves ct__law_call_moves : Value} {od__law_call_moves an__law_call_moves : Option Addr} {sl__law_call_moves : Array (Option Value)}
    {oc__law_moves kV__law_moves dc__law_moves pm__law_moves cd__law_moves ct__law_moves : Value} {od__law_moves an__law_moves : Option Addr} {sl__law_moves : Array (Option Value)}
    {oc__law_had kV__law_had dc__law_had pm__law_had cd__law_had ct__law_had : Value} {od__law_had an__law_had : Option Addr} {sl__law_had : Array (Option Value)}
    {oc__law_goals kV__law_goals dc__law_goals pm__law_goals cd__law_goals ct__law_goals : Value} {od__law_goals an__law_goals : Option Addr} {sl__law_goals : Array (Option Value)}
    {oc__law_lacks kV__law_lacks dc__law_lacks pm__law_lacks cd__law_lacks ct__law_lacks : Value} {od__law_lacks an__law_lacks : Option Addr} {sl__law_lacks : Array (Option Value)}
    {oc__law_news kV__law_news dc__law_news pm__law_news cd__law_news ct__law_news : Value} {od__law_news an__law_news : Option Addr} {sl__law_news : Array (Option Value)}
    {oc__law_spoiled kV__law_spoiled dc__law_spoiled pm__law_spoiled cd__law_spoiled ct__law_spoiled : Value} {od__law_spoiled an__law_spoiled : Option Addr} {sl__law_spoiled : Array (Option Value)}
    {oc__law_names_in kV__law_names_in dc__law_names_in pm__law_names_in cd__law_names_in ct__law_names_in : Value} {od__law_names_in an__law_names_in : Option Addr} {sl__law_names_in : Array (Option Value)}
    {oc__law_pairs kV__law_pairs dc__law_pairs pm__law_pairs cd__law_pairs ct__law_pairs : Value} {od__law_pairs an__law_pairs : Option Addr} {sl__law_pairs : Array (Option Value)}
    {oc__law_more kV__law_more dc__law_more pm__law_more cd__law_more ct__law_more : Value} {od__law_more an__law_more : Option Addr} {sl__law_more : Array (Option Value)}
    {oc__law_told kV__law_told dc__law_told pm__law_told cd__law_told ct__law_told : Value} {od__law_told an__law_told : Option Addr} {sl__law_told : Array (Option Value)}
    {oc_law kV_law dc_law pm_law cd_law ct_law : Value} {od_law an_law : Option Addr} {sl_law : Array (Option Value)}
    (x_Draft : PySem.W.nsIn K mainGlobals "Draft" = some (some (.ref A_Draft)))
    (pg_Draft : PySem.W.plainGet K A_Draft Str.empty = true)
    (hd_Draft : PySem.W.hasDictIn K A_Draft = true)
    (po_Draft : PySem.W.plainOver K A_Draft = true)
    (sa_Draft : PySem.W.findIn K (.ref A_Draft) "__setattr__" = some (some (.builtin "object.__setattr__")))
    (mk_Draft : PySem.W.makesIn K A_Draft = true)
    (kc_Draft : PySem.W.keepIn K (.ref A_Draft) = true)
    (in_Draft : PySem.W.findIn K (.ref A_Draft) "__init__" = some (some (.ref f_Draft_init)))
    (na_Draft_names : PySem.W.findIn K (.ref A_Draft) "names" = some none)
    (na_Draft_cells : PySem.W.findIn K (.ref A_Draft) "cells" = some none)
    (me_Draft_of_name : PySem.W.findIn K (.ref A_Draft) "of_name" = some (some (.ref f_Draft_of_name)))
    (me_Draft_of_cells : PySem.W.findIn K (.ref A_Draft) "of_cells" = some (some (.ref f_Draft_of_cells)))
    (me_Draft_had_by : PySem.W.findIn K (.ref A_Draft) "had_by" = some (some (.ref f_Draft_had_by)))
    (me_Draft_grown : PySem.W.findIn K (.ref A_Draft) "grown" = some (some (.ref f_Draft_grown)))
    (me_Draft_told : PySem.W.findIn K (.ref A_Draft) "told" = some (some (.ref f_Draft_told)))
    (a_is_name : PySem.W.nsIn K mainGlobals "is_name" = some (some (.ref f_is_name)))
    (l_is_name : K.lookup f_is_name = some ⟨oc_is_name, od_is_name, .func (PySem.W.fnOf "is_name" "is_name" (defArgs s_is_name) (defBody s_is_name) (defScope s_is_name) .none kV_is_name dc_is_name pm_is_name an_is_name cd_is_name ct_is_name), sl_is_name⟩)
    (c_is_name : PySem.W.codeIn K cd_is_name "is_name" = true)
    (k_is_name : PySem.W.keepIn K (.ref f_is_name) = true)
    (a_is_field : PySem.W.nsIn K mainGlobals "is_field" = some (some (.ref f_is_field)))
    (l_is_field : K.lookup f_is_field = some ⟨oc_is_field, od_is_field, .func (PySem.W.fnOf "is_field" "is_field" (defArgs s_is_field) (defBody s_is_field) (defScope s_is_field) .none kV_is_field dc_is_field pm_is_field an_is_field cd_is_field ct_is_field), sl_is_field⟩)
    (c_is_field : PySem.W.codeIn K cd_is_field "is_field" = true)
    (k_is_field : PySem.W.keepIn K (.ref f_is_field) = true)
    (a_class_of : PySem.W.nsIn K mainGlobals "class_of" = some (some (.ref f_class_of)))
    (l_class_of : K.lookup f_class_of = some ⟨oc_class_of, od_class_of, .func (PySem.W.fnOf "class_of" "class_of" (defArgs s_class_of) (defBody s_class_of) (defScope s_class_of) .none kV_class_of dc_class_of pm_class_of an_class_of cd_class_of ct_class_of), sl_class_of⟩)
    (c_class_of : PySem.W.codeIn K cd_class_of "class_of" = true)
    (k_class_of : PySem.W.keepIn K (.ref f_class_of) = true)
    (a_shape : PySem.W.nsIn K mainGlobals "shape" = some (some (.ref f_shape)))
    (l_shape : K.lookup f_shape = some ⟨oc_shape, od_shape, .func (PySem.W.fnOf "shape" "shape" (defArgs s_shape) (defBody s_shape) (defScope s_shape) .none kV_shape dc_shape pm_shape an_shape cd_shape ct_shape), sl_shape⟩)
    (c_shape : PySem.W.codeIn K cd_shape "shape" = true)
    (k_shape : PySem.W.keepIn K (.ref f_shape) = true)
    (a_numbers_of : PySem.W.nsIn K mainGlobals "numbers_of" = some (some (.ref f_numbers_of)))
    (l_numbers_of : K.lookup f_numbers_of = some ⟨oc_numbers_of, od_numbers_of, .func (PySem.W.fnOf "numbers_of" "numbers_of" (defArgs s_numbers_of) (defBody s_numbers_of) (defScope s_numbers_of) .none kV_numbers_of dc_numbers_of pm_numbers_of an_numbers_of cd_numbers_of ct_numbers_of), sl_numbers_of⟩)
    (c_numbers_of : PySem.W.codeIn K cd_numbers_of "numbers_of" = true)
    (k_numbers_of : PySem.W.keepIn K (.ref f_numbers_of) = true)
    (i_Draft_init : PySem.W.isFn K (.ref f_Draft_init) = true)
    (l_Draft_init : K.lookup f_Draft_init = some ⟨oc_Draft_init, od_Draft_init, .func (PySem.W.fnOf "__init__" "Draft.__init__" (defArgs s_Draft_init) (defBody s_Draft_init) (defScope s_Draft_init) .none kV_Draft_init dc_Draft_init pm_Draft_init an_Draft_init cd_Draft_init ct_Draft_init), sl_Draft_init⟩)
    (c_Draft_init : PySem.W.codeIn K cd_Draft_init "Draft.__init__" = true)
    (k_Draft_init : PySem.W.keepIn K (.ref f_Draft_init) = true)
    (i_Draft_of_name : PySem.W.isFn K (.ref f_Draft_of_name) = true)
    (l_Draft_of_name : K.lookup f_Draft_of_name = some ⟨oc_Draft_of_name, od_Draft_of_name, .func (PySem.W.fnOf "of_name" "Draft.of_name" (defArgs s_Draft_of_name) (defBody s_Draft_of_name) (defScope s_Draft_of_name) .none kV_Draft_of_name dc_Draft_of_name pm_Draft_of_name an_Draft_of_name cd_Draft_of_name ct_Draft_of_name), sl_Draft_of_name⟩)
    (c_Draft_of_name : PySem.W.codeIn K cd_Draft_of_name "Draft.of_name" = true)
    (k_Draft_of_name : PySem.W.keepIn K (.ref f_Draft_of_name) = true)
    (i_Draft_of_cells : PySem.W.isFn K (.ref f_Draft_of_cells) = true)
    (l_Draft_of_cells : K.lookup f_Draft_of_cells = some ⟨oc_Draft_of_cells, od_Draft_of_cells, .func (PySem.W.fnOf "of_cells" "Draft.of_cells" (defArgs s_Draft_of_cells) (defBody s_Draft_of_cells) (defScope s_Draft_of_cells) .none kV_Draft_of_cells dc_Draft_of_cells pm_Draft_of_cells an_Draft_of_cells cd_Draft_of_cells ct_Draft_of_cells), sl_Draft_of_cells⟩)
    (c_Draft_of_cells : PySem.W.codeIn K cd_Draft_of_cells "Draft.of_cells" = true)
    (k_Draft_of_cells : PySem.W.keepIn K (.ref f_Draft_of_cells) = true)
    (i_Draft_had_by : PySem.W.isFn K (.ref f_Draft_had_by) = true)
    (l_Draft_had_by : K.lookup f_Draft_had_by = some ⟨oc_Draft_had_by, od_Draft_had_by, .func (PySem.W.fnOf "had_by" "Draft.had_by" (defArgs s_Draft_had_by) (defBody s_Draft_had_by) (defScope s_Draft_had_by) .none kV_Draft_had_by dc_Draft_had_by pm_Draft_had_by an_Draft_had_by cd_Draft_had_by ct_Draft_had_by), sl_Draft_had_by⟩)
    (c_Draft_had_by : PySem.W.codeIn K cd_Draft_had_by "Draft.had_by" = true)
    (k_Draft_had_by : PySem.W.keepIn K (.ref f_Draft_had_by) = true)
    (i_Draft_grown : PySem.W.isFn K (.ref f_Draft_grown) = true)
    (l_Draft_grown : K.lookup f_Draft_grown = some ⟨oc_Draft_grown, od_Draft_grown, .func (PySem.W.fnOf "grown" "Draft.grown" (defArgs s_Draft_grown) (defBody s_Draft_grown) (defScope s_Draft_grown) .none kV_Draft_grown dc_Draft_grown pm_Draft_grown an_Draft_grown cd_Draft_grown ct_Draft_grown), sl_Draft_grown⟩)
    (c_Draft_grown : PySem.W.codeIn K cd_Draft_grown "Draft.grown" = true)
    (k_Draft_grown : PySem.W.keepIn K (.ref f_Draft_grown) = true)
    (i_Draft_told : PySem.W.isFn K (.ref f_Draft_told) = true)
    (l_Draft_told : K.lookup f_Draft_told = some ⟨oc_Draft_told, od_Draft_told, .func (PySem.W.fnOf "told" "Draft.told" (defArgs s_Draft_told) (defBody s_Draft_told) (defScope s_Draft_told) .none kV_Draft_told dc_Draft_told pm_Draft_told an_Draft_told cd_Draft_told ct_Draft_told), sl_Draft_told⟩)
    (c_Draft_told : PySem.W.codeIn K cd_Draft_told "Draft.told" = true)
    (k_Draft_told : PySem.W.keepIn K (.ref f_Draft_told) = true)
    (a_call_flows : PySem.W.nsIn K mainGlobals "call_flows" = some (some (.ref f_call_flows)))
    (l_call_flows : K.lookup f_call_flows = some ⟨oc_call_flows, od_call_flows, .func (PySem.W.fnOf "call_flows" "call_flows" (defArgs s_call_flows) (defBody s_call_flows) (defScope s_call_flows) .none kV_call_flows dc_call_flows pm_call_flows an_call_flows cd_call_flows ct_call_flows), sl_call_flows⟩)
    (c_call_flows : PySem.W.codeIn K cd_call_flows "call_flows" = true)
    (k_call_flows : PySem.W.keepIn K (.ref f_call_flows) = true)
    (a_row_flows : PySem.W.nsIn K mainGlobals "row_flows" = some (some (.ref f_row_flows)))
    (l_row_flows : K.lookup f_row_flows = some ⟨oc_row_flows, od_row_flows, .func (PySem.W.fnOf "row_flows" "row_flows" (defArgs s_row_flows) (defBody s_row_flows) (defScope s_row_flows) .none kV_row_flows dc_row_flows pm_row_flows an_row_flows cd_row_flows ct_row_flows), sl_row_flows⟩)
    (c_row_flows : PySem.W.codeIn K cd_row_flows "row_flows" = true)
    (k_row_flows : PySem.W.keepIn K (.ref f_row_flows) = true)
    (a_all_flows : PySem.W.nsIn K mainGlobals "all_flows" = some (some (.ref f_all_flows)))
    (l_all_flows : K.lookup f_all_flows = some ⟨oc_all_flows, od_all_flows, .func (PySem.W.fnOf "all_flows" "all_flows" (defArgs s_all_flows) (defBody s_all_flows) (defScope s_all_flows) .none kV_all_flows dc_all_flows pm_all_flows an_all_flows cd_all_flows ct_all_flows), sl_all_flows⟩)
    (c_all_flows : PySem.W.codeIn K cd_all_flows "all_flows" = true)
    (k_all_flows : PySem.W.keepIn K (.ref f_all_flows) = true)
    (a_makers : PySem.W.nsIn K mainGlobals "makers" = some (some (.ref f_makers)))
    (l_makers : K.lookup f_makers = some ⟨oc_makers, od_makers, .func (PySem.W.fnOf "makers" "makers" (defArgs s_makers) (defBody s_makers) (defScope s_makers) .none kV_makers dc_makers pm_makers an_makers cd_makers ct_makers), sl_makers⟩)
    (c_makers : PySem.W.codeIn K cd_makers "makers" = true)
    (k_makers : PySem.W.keepIn K (.ref f_makers) = true)
    (a_closed : PySem.W.nsIn K mainGlobals "closed" = some (some (.ref f_closed)))
    (l_closed : K.lookup f_closed = some ⟨oc_closed, od_closed, .func (PySem.W.fnOf "closed" "closed" (defArgs s_closed) (defBody s_closed) (defScope s_closed) .none kV_closed dc_closed pm_closed an_closed cd_closed ct_closed), sl_closed⟩)
    (c_closed : PySem.W.codeIn K cd_closed "closed" = true)
    (k_closed : PySem.W.keepIn K (.ref f_closed) = true)
    (a__law_cell_at : PySem.W.nsIn K mainGlobals "_law_cell_at" = some (some (.ref f__law_cell_at)))
    (l__law_cell_at : K.lookup f__law_cell_at = some ⟨oc__law_cell_at, od__law_cell_at, .func (PySem.W.fnOf "_law_cell_at" "_law_cell_at" (defArgs s__law_cell_at) (defBody s__law_cell_at) (defScope s__law_cell_at) .none kV__law_cell_at dc__law_cell_at pm__law_cell_at an__law_cell_at cd__law_cell_at ct__law_cell_at), sl__law_cell_at⟩)
    (c__law_cell_at : PySem.W.codeIn K cd__law_cell_at "_law_cell_at" = true)
    (k__law_cell_at : PySem.W.keepIn K (.ref f__law_cell_at) = true)
    (a__law_words : PySem.W.nsIn K mainGlobals "_law_words" = some (some (.ref f__law_words)))
    (l__law_words : K.lookup f__law_words = some ⟨oc__law_words, od__law_words, .func (PySem.W.fnOf "_law_words" "_law_words" (defArgs s__law_words) (defBody s__law_words) (defScope s__law_words) .none kV__law_words dc__law_words pm__law_words an__law_words cd__law_words ct__law_words), sl__law_words⟩)
    (c__law_words : PySem.W.codeIn K cd__law_words "_law_words" = true)
    (k__law_words : PySem.W.keepIn K (.ref f__law_words) = true)
    (a__law_operand : PySem.W.nsIn K mainGlobals "_law_operand" = some (some (.ref f__law_operand)))
    (l__law_operand : K.lookup f__law_operand = some ⟨oc__law_operand, od__law_operand, .func (PySem.W.fnOf "_law_operand" "_law_operand" (defArgs s__law_operand) (defBody s__law_operand) (defScope s__law_operand) .none kV__law_operand dc__law_operand pm__law_operand an__law_operand cd__law_operand ct__law_operand), sl__law_operand⟩)
    (c__law_operand : PySem.W.codeIn K cd__law_operand "_law_operand" = true)
    (k__law_operand : PySem.W.keepIn K (.ref f__law_operand) = true)
    (a__law_key : PySem.W.nsIn K mainGlobals "_law_key" = some (some (.ref f__law_key)))
    (l__law_key : K.lookup f__law_key = some ⟨oc__law_key, od__law_key, .func (PySem.W.fnOf "_law_key" "_law_key" (defArgs s__law_key) (defBody s__law_key) (defScope s__law_key) .none kV__law_key dc__law_key pm__law_key an__law_key cd__law_key ct__law_key), sl__law_key⟩)
    (c__law_key : PySem.W.codeIn K cd__law_key "_law_key" = true)
    (k__law_key : PySem.W.keepIn K (.ref f__law_key) = true)
    (a__law_call : PySem.W.nsIn K mainGlobals "_law_call" = some (some (.ref f__law_call)))
    (l__law_call : K.lookup f__law_call = some ⟨oc__law_call, od__law_call, .func (PySem.W.fnOf "_law_call" "_law_call" (defArgs s__law_call) (defBody s__law_call) (defScope s__law_call) .none kV__law_call dc__law_call pm__law_call an__law_call cd__law_call ct__law_call), sl__law_call⟩)
    (c__law_call : PySem.W.codeIn K cd__law_call "_law_call" = true)
    (k__law_call : PySem.W.keepIn K (.ref f__law_call) = true)
    (a__law_simple : PySem.W.nsIn K mainGlobals "_law_simple" = some (some (.ref f__law_simple)))
    (l__law_simple : K.lookup f__law_simple = some ⟨oc__law_simple, od__law_simple, .func (PySem.W.fnOf "_law_simple" "_law_simple" (defArgs s__law_simple) (defBody s__law_simple) (defScope s__law_simple) .none kV__law_simple dc__law_simple pm__law_simple an__law_simple cd__law_simple ct__law_simple), sl__law_simple⟩)
    (c__law_simple : PySem.W.codeIn K cd__law_simple "_law_simple" = true)
    (k__law_simple : PySem.W.keepIn K (.ref f__law_simple) = true)
    (a__law_lay : PySem.W.nsIn K mainGlobals "_law_lay" = some (some (.ref f__law_lay)))
    (l__law_lay : K.lookup f__law_lay = some ⟨oc__law_lay, od__law_lay, .func (PySem.W.fnOf "_law_lay" "_law_lay" (defArgs s__law_lay) (defBody s__law_lay) (defScope s__law_lay) .none kV__law_lay dc__law_lay pm__law_lay an__law_lay cd__law_lay ct__law_lay), sl__law_lay⟩)
    (c__law_lay : PySem.W.codeIn K cd__law_lay "_law_lay" = true)
    (k__law_lay : PySem.W.keepIn K (.ref f__law_lay) = true)
    (a__law_plan : PySem.W.nsIn K mainGlobals "_law_plan" = some (some (.ref f__law_plan)))
    (l__law_plan : K.lookup f__law_plan = some ⟨oc__law_plan, od__law_plan, .func (PySem.W.fnOf "_law_plan" "_law_plan" (defArgs s__law_plan) (defBody s__law_plan) (defScope s__law_plan) .none kV__law_plan dc__law_plan pm__law_plan an__law_plan cd__law_plan ct__law_plan), sl__law_plan⟩)
    (c__law_plan : PySem.W.codeIn K cd__law_plan "_law_plan" = true)
    (k__law_plan : PySem.W.keepIn K (.ref f__law_plan) = true)
    (a__law_program : PySem.W.nsIn K mainGlobals "_law_program" = some (some (.ref f__law_program)))
    (l__law_program : K.lookup f__law_program = some ⟨oc__law_program, od__law_program, .func (PySem.W.fnOf "_law_program" "_law_program" (defArgs s__law_program) (defBody s__law_program) (defScope s__law_program) .none kV__law_program dc__law_program pm__law_program an__law_program cd__law_program ct__law_program), sl__law_program⟩)
    (c__law_program : PySem.W.codeIn K cd__law_program "_law_program" = true)
    (k__law_program : PySem.W.keepIn K (.ref f__law_program) = true)
    (a__law_homes : PySem.W.nsIn K mainGlobals "_law_homes" = some (some (.ref f__law_homes)))
    (l__law_homes : K.lookup f__law_homes = some ⟨oc__law_homes, od__law_homes, .func (PySem.W.fnOf "_law_homes" "_law_homes" (defArgs s__law_homes) (defBody s__law_homes) (defScope s__law_homes) .none kV__law_homes dc__law_homes pm__law_homes an__law_homes cd__law_homes ct__law_homes), sl__law_homes⟩)
    (c__law_homes : PySem.W.codeIn K cd__law_homes "_law_homes" = true)
    (k__law_homes : PySem.W.keepIn K (.ref f__law_homes) = true)
    (a__law_class : PySem.W.nsIn K mainGlobals "_law_class" = some (some (.ref f__law_class)))
    (l__law_class : K.lookup f__law_class = some ⟨oc__law_class, od__law_class, .func (PySem.W.fnOf "_law_class" "_law_class" (defArgs s__law_class) (defBody s__law_class) (defScope s__law_class) .none kV__law_class dc__law_class pm__law_class an__law_class cd__law_class ct__law_class), sl__law_class⟩)
    (c__law_class : PySem.W.codeIn K cd__law_class "_law_class" = true)
    (k__law_class : PySem.W.keepIn K (.ref f__law_class) = true)
    (a__law_call_moves : PySem.W.nsIn K mainGlobals "_law_call_moves" = some (some (.ref f__law_call_moves)))
    (l__law_call_moves : K.lookup f__law_call_moves = some ⟨oc__law_call_moves, od__law_call_moves, .func (PySem.W.fnOf "_law_call_moves" "_law_call_moves" (defArgs s__law_call_moves) (defBody s__law_call_moves) (defScope s__law_call_moves) .none kV__law_call_moves dc__law_call_moves pm__law_call_moves an__law_call_moves cd__law_call_moves ct__law_call_moves), sl__law_call_moves⟩)
    (c__law_call_moves : PySem.W.codeIn K cd__law_call_moves "_law_call_moves" = true)
    (k__law_call_moves : PySem.W.keepIn K (.ref f__law_call_moves) = true)
    (a__law_moves : PySem.W.nsIn K mainGlobals "_law_moves" = some (some (.ref f__law_moves)))
    (l__law_moves : K.lookup f__law_moves = some ⟨oc__law_moves, od__law_moves, .func (PySem.W.fnOf "_law_moves" "_law_moves" (defArgs s__law_moves) (defBody s__law_moves) (defScope s__law_moves) .none kV__law_moves dc__law_moves pm__law_moves an__law_moves cd__law_moves ct__law_moves), sl__law_moves⟩)
    (c__law_moves : PySem.W.codeIn K cd__law_moves "_law_moves" = true)
    (k__law_moves : PySem.W.keepIn K (.ref f__law_moves) = true)
    (a__law_had : PySem.W.nsIn K mainGlobals "_law_had" = some (some (.ref f__law_had)))
    (l__law_had : K.lookup f__law_had = some ⟨oc__law_had, od__law_had, .func (PySem.W.fnOf "_law_had" "_law_had" (defArgs s__law_had) (defBody s__law_had) (defScope s__law_had) .none kV__law_had dc__law_had pm__law_had an__law_had cd__law_had ct__law_had), sl__law_had⟩)
    (c__law_had : PySem.W.codeIn K cd__law_had "_law_had" = true)
    (k__law_had : PySem.W.keepIn K (.ref f__law_had) = true)
    (a__law_goals : PySem.W.nsIn K mainGlobals "_law_goals" = some (some (.ref f__law_goals)))
    (l__law_goals : K.lookup f__law_goals = some ⟨oc__law_goals, od__law_goals, .func (PySem.W.fnOf "_law_goals" "_law_goals" (defArgs s__law_goals) (defBody s__law_goals) (defScope s__law_goals) .none kV__law_goals dc__law_goals pm__law_goals an__law_goals cd__law_goals ct__law_goals), sl__law_goals⟩)
    (c__law_goals : PySem.W.codeIn K cd__law_goals "_law_goals" = true)
    (k__law_goals : PySem.W.keepIn K (.ref f__law_goals) = true)
    (a__law_lacks : PySem.W.nsIn K mainGlobals "_law_lacks" = some (some (.ref f__law_lacks)))
    (l__law_lacks : K.lookup f__law_lacks = some ⟨oc__law_lacks, od__law_lacks, .func (PySem.W.fnOf "_law_lacks" "_law_lacks" (defArgs s__law_lacks) (defBody s__law_lacks) (defScope s__law_lacks) .none kV__law_lacks dc__law_lacks pm__law_lacks an__law_lacks cd__law_lacks ct__law_lacks), sl__law_lacks⟩)
    (c__law_lacks : PySem.W.codeIn K cd__law_lacks "_law_lacks" = true)
    (k__law_lacks : PySem.W.keepIn K (.ref f__law_lacks) = true)
    (a__law_news : PySem.W.nsIn K mainGlobals "_law_news" = some (some (.ref f__law_news)))
    (l__law_news : K.lookup f__law_news = some ⟨oc__law_news, od__law_news, .func (PySem.W.fnOf "_law_news" "_law_news" (defArgs s__law_news) (defBody s__law_news) (defScope s__law_news) .none kV__law_news dc__law_news pm__law_news an__law_news cd__law_news ct__law_news), sl__law_news⟩)
    (c__law_news : PySem.W.codeIn K cd__law_news "_law_news" = true)
    (k__law_news : PySem.W.keepIn K (.ref f__law_news) = true)
    (a__law_spoiled : PySem.W.nsIn K mainGlobals "_law_spoiled" = some (some (.ref f__law_spoiled)))
    (l__law_spoiled : K.lookup f__law_spoiled = some ⟨oc__law_spoiled, od__law_spoiled, .func (PySem.W.fnOf "_law_spoiled" "_law_spoiled" (defArgs s__law_spoiled) (defBody s__law_spoiled) (defScope s__law_spoiled) .none kV__law_spoiled dc__law_spoiled pm__law_spoiled an__law_spoiled cd__law_spoiled ct__law_spoiled), sl__law_spoiled⟩)
    (c__law_spoiled : PySem.W.codeIn K cd__law_spoiled "_law_spoiled" = true)
    (k__law_spoiled : PySem.W.keepIn K (.ref f__law_spoiled) = true)
    (a__law_names_in : PySem.W.nsIn K mainGlobals "_law_names_in" = some (some (.ref f__law_names_in)))
    (l__law_names_in : K.lookup f__law_names_in = some ⟨oc__law_names_in, od__law_names_in, .func (PySem.W.fnOf "_law_names_in" "_law_names_in" (defArgs s__law_names_in) (defBody s__law_names_in) (defScope s__law_names_in) .none kV__law_names_in dc__law_names_in pm__law_names_in an__law_names_in cd__law_names_in ct__law_names_in), sl__law_names_in⟩)
    (c__law_names_in : PySem.W.codeIn K cd__law_names_in "_law_names_in" = true)
    (k__law_names_in : PySem.W.keepIn K (.ref f__law_names_in) = true)
    (a__law_pairs : PySem.W.nsIn K mainGlobals "_law_pairs" = some (some (.ref f__law_pairs)))
    (l__law_pairs : K.lookup f__law_pairs = some ⟨oc__law_pairs, od__law_pairs, .func (PySem.W.fnOf "_law_pairs" "_law_pairs" (defArgs s__law_pairs) (defBody s__law_pairs) (defScope s__law_pairs) .none kV__law_pairs dc__law_pairs pm__law_pairs an__law_pairs cd__law_pairs ct__law_pairs), sl__law_pairs⟩)
    (c__law_pairs : PySem.W.codeIn K cd__law_pairs "_law_pairs" = true)
    (k__law_pairs : PySem.W.keepIn K (.ref f__law_pairs) = true)
    (a__law_more : PySem.W.nsIn K mainGlobals "_law_more" = some (some (.ref f__law_more)))
    (l__law_more : K.lookup f__law_more = some ⟨oc__law_more, od__law_more, .func (PySem.W.fnOf "_law_more" "_law_more" (defArgs s__law_more) (defBody s__law_more) (defScope s__law_more) .none kV__law_more dc__law_more pm__law_more an__law_more cd__law_more ct__law_more), sl__law_more⟩)
    (c__law_more : PySem.W.codeIn K cd__law_more "_law_more" = true)
    (k__law_more : PySem.W.keepIn K (.ref f__law_more) = true)
    (a__law_told : PySem.W.nsIn K mainGlobals "_law_told" = some (some (.ref f__law_told)))
    (l__law_told : K.lookup f__law_told = some ⟨oc__law_told, od__law_told, .func (PySem.W.fnOf "_law_told" "_law_told" (defArgs s__law_told) (defBody s__law_told) (defScope s__law_told) .none kV__law_told dc__law_told pm__law_told an__law_told cd__law_told ct__law_told), sl__law_told⟩)
    (c__law_told : PySem.W.codeIn K cd__law_told "_law_told" = true)
    (k__law_told : PySem.W.keepIn K (.ref f__law_told) = true)
    (a_law : PySem.W.nsIn K mainGlobals "law" = some (some (.ref f_law)))
    (l_law : K.lookup f_law = some ⟨oc_law, od_law, .func (PySem.W.fnOf "law" "law" (defArgs s_law) (defBody s_law) (defScope s_law) .none kV_law dc_law pm_law an_law cd_law ct_law), sl_law⟩)
    (c_law : PySem.W.codeIn K cd_law "law" = true)
    (k_law : PySem.W.keepIn K (.ref f_law) = true)
    (n_str : PySem.W.nsIn K mainGlobals "str" = some none)
    (n_isinstance : PySem.W.nsIn K mainGlobals "isinstance" = some none)
    (n_len : PySem.W.nsIn K mainGlobals "len" = some none)
    (n_all : PySem.W.nsIn K mainGlobals "all" = some none)
    (n_list : PySem.W.nsIn K mainGlobals "list" = some none)
    (n_enumerate : PySem.W.nsIn K mainGlobals "enumerate" = some none)
    (n_sorted : PySem.W.nsIn K mainGlobals "sorted" = some none)
    (n_zip : PySem.W.nsIn K mainGlobals "zip" = some none)
    (n_range : PySem.W.nsIn K mainGlobals "range" = some none)
    (n_tuple : PySem.W.nsIn K mainGlobals "tuple" = some none)
    (n_sum : PySem.W.nsIn K mainGlobals "sum" = some none)
    (n_int : PySem.W.nsIn K mainGlobals "int" = some none)
    (n_bool : PySem.W.nsIn K mainGlobals "bool" = some none)
    {t_LETTERS : Tok}
    (g_LETTERS : PySem.W.nsIn K mainGlobals "LETTERS" = some (some (.str "abcdefghijklmnopqrstuvwxyz" t_LETTERS)))
    : ∃ fd : FuncData, (∀ (s : Shared) (u : Value), BindsTo s fd ⟨[u], []⟩ [("_law_script", u)]) ∧ ∀ base : Heap, K.In base → base.Ns mainGlobals mg → FnOk P w K mg base CX0 7 fa fd ["_law_script"] (toSp ⟨K, w⟩ (pSp lawSp)) := by
  have e := hfa.symm.trans (PySem.W.mg_of X G a_law)
  cases e
  have S_Draft : Cls K A_Draft := ⟨pg_Draft, hd_Draft, po_Draft, sa_Draft⟩
  have T : Txt ⟨K, w⟩ mg := ⟨PySem.W.mg_none_of X G n_str, PySem.W.mg_none_of X G n_isinstance, PySem.W.mg_none_of X G n_len, PySem.W.mg_none_of X G n_all, PySem.W.mg_none_of X G n_list, PySem.W.mg_none_of X G n_enumerate, PySem.W.mg_none_of X G n_sorted, PySem.W.mg_none_of X G n_zip, PySem.W.mg_none_of X G n_range, PySem.W.mg_none_of X G n_tuple, PySem.W.mg_none_of X G n_sum, PySem.W.mg_none_of X G n_int, PySem.W.mg_none_of X G n_bool, ⟨.str "abcdefghijklmnopqrstuvwxyz", _, PySem.W.mg_of X G g_LETTERS, ⟨_, rfl⟩, fun _ => .str _ ⟨by decide +kernel, by decide +kernel⟩⟩, (flds_cons ⟨_, x_Draft, S_Draft, na_Draft_names⟩ flds_nil), (flds_cons ⟨_, x_Draft, S_Draft, na_Draft_cells⟩ flds_nil)⟩
  refine ⟨PySem.W.fnOf "law" "law" (defArgs s_law) (defBody s_law) (defScope s_law) .none kV_law dc_law pm_law an_law cd_law ct_law, fun s v => .of_eq rfl, fun base _ _ => ?_⟩
  have D_is_name := d_is_name (P := P) (K := ⟨K, w⟩) (base := base) (fun_mk (st := s_is_name) l_is_name c_is_name k_is_name) (PySem.W.mg_of X G a_is_name) T
  have D_is_field := d_is_field (P := P) (K := ⟨K, w⟩) (base := base) (fun_mk (st := s_is_field) l_is_field c_is_field k_is_field) (PySem.W.mg_of X G a_is_field) T D_is_name
  have D_class_of := d_class_of (P := P) (K := ⟨K, w⟩) (base := base) (fun_mk (st := s_class_of) l_class_of c_class_of k_class_of) (PySem.W.mg_of X G a_class_of) T D_is_field
  have D_shape := d_shape (P := P) (K := ⟨K, w⟩) (base := base) (fun_mk (st := s_shape) l_shape c_shape k_shape) (PySem.W.mg_of X G a_shape) T
  have D_numbers_of := d_numbers_of (P := P) (K := ⟨K, w⟩) (base := base) (fun_mk (st := s_numbers_of) l_numbers_of c_numbers_of k_numbers_of) (PySem.W.mg_of X G a_numbers_of) T
  have D_Draft_init := d_Draft_init (P := P) (K := ⟨K, w⟩) (base := base) (fun_mk (st := s_Draft_init) l_Draft_init c_Draft_init k_Draft_init) (mg := mg) T
  have D_Draft_of_name := d_Draft_of_name (P := P) (K := ⟨K, w⟩) (base := base) (fun_mk (st := s_Draft_of_name) l_Draft_of_name c_Draft_of_name k_Draft_of_name) (mg := mg) T
  have T_of_name : MTabOk P w ⟨K, w⟩ mg base "of_name" 1 tab_of_name := (mtab_cons ⟨_, _, x_Draft, S_Draft, ⟨me_Draft_of_name, i_Draft_of_name, k_Draft_of_name⟩, D_Draft_of_name⟩ (by decide) mtab_nil)
  have D_Draft_of_cells := d_Draft_of_cells (P := P) (K := ⟨K, w⟩) (base := base) (fun_mk (st := s_Draft_of_cells) l_Draft_of_cells c_Draft_of_cells k_Draft_of_cells) (mg := mg) T D_numbers_of T_of_name
  have T_of_cells : MTabOk P w ⟨K, w⟩ mg base "of_cells" 2 tab_of_cells := (mtab_cons ⟨_, _, x_Draft, S_Draft, ⟨me_Draft_of_cells, i_Draft_of_cells, k_Draft_of_cells⟩, D_Draft_of_cells⟩ (by decide) mtab_nil)
  have D_Draft_had_by := d_Draft_had_by (P := P) (K := ⟨K, w⟩) (base := base) (fun_mk (st := s_Draft_had_by) l_Draft_had_by c_Draft_had_by k_Draft_had_by) (mg := mg) T T_of_name T_of_cells
  have D_Draft_grown := d_Draft_grown (P := P) (K := ⟨K, w⟩) (base := base) (fun_mk (st := s_Draft_grown) l_Draft_grown c_Draft_grown k_Draft_grown) (mg := mg) T D_numbers_of T_of_name
  have D_Draft_told := d_Draft_told (P := P) (K := ⟨K, w⟩) (base := base) (fun_mk (st := s_Draft_told) l_Draft_told c_Draft_told k_Draft_told) (mg := mg) T
  have D_call_flows := d_call_flows (P := P) (K := ⟨K, w⟩) (base := base) (fun_mk (st := s_call_flows) l_call_flows c_call_flows k_call_flows) (PySem.W.mg_of X G a_call_flows) T D_is_name
  have D_row_flows := d_row_flows (P := P) (K := ⟨K, w⟩) (base := base) (fun_mk (st := s_row_flows) l_row_flows c_row_flows k_row_flows) (PySem.W.mg_of X G a_row_flows) T D_is_name D_class_of D_call_flows
  have D_all_flows := d_all_flows (P := P) (K := ⟨K, w⟩) (base := base) (fun_mk (st := s_all_flows) l_all_flows c_all_flows k_all_flows) (PySem.W.mg_of X G a_all_flows) T D_shape D_row_flows
  have T_grown : MTabOk P w ⟨K, w⟩ mg base "grown" 2 tab_grown := (mtab_cons ⟨_, _, x_Draft, S_Draft, ⟨me_Draft_grown, i_Draft_grown, k_Draft_grown⟩, D_Draft_grown⟩ (by decide) mtab_nil)
  have T_had_by : MTabOk P w ⟨K, w⟩ mg base "had_by" 3 tab_had_by := (mtab_cons ⟨_, _, x_Draft, S_Draft, ⟨me_Draft_had_by, i_Draft_had_by, k_Draft_had_by⟩, D_Draft_had_by⟩ (by decide) mtab_nil)
  have T_told : MTabOk P w ⟨K, w⟩ mg base "told" 1 tab_told := (mtab_cons ⟨_, _, x_Draft, S_Draft, ⟨me_Draft_told, i_Draft_told, k_Draft_told⟩, D_Draft_told⟩ (by decide) mtab_nil)
  have C_Draft : CDef P w ⟨K, w⟩ mg base "Draft" 1 sp_Draft_init := ⟨_, _, x_Draft, PySem.W.mg_of X G x_Draft, ⟨mk_Draft, in_Draft, i_Draft_init, kc_Draft⟩, D_Draft_init⟩
  have D_makers := d_makers (P := P) (K := ⟨K, w⟩) (base := base) (fun_mk (st := s_makers) l_makers c_makers k_makers) (PySem.W.mg_of X G a_makers) T D_all_flows T_grown T_had_by T_told C_Draft
  have D_closed := d_closed (P := P) (K := ⟨K, w⟩) (base := base) (fun_mk (st := s_closed) l_closed c_closed k_closed) (PySem.W.mg_of X G a_closed) T D_all_flows T_grown T_had_by C_Draft
  have D__law_cell_at := d__law_cell_at (P := P) (K := ⟨K, w⟩) (base := base) (fun_mk (st := s__law_cell_at) l__law_cell_at c__law_cell_at k__law_cell_at) (PySem.W.mg_of X G a__law_cell_at) T
  have D__law_words := d__law_words (P := P) (K := ⟨K, w⟩) (base := base) (fun_mk (st := s__law_words) l__law_words c__law_words k__law_words) (PySem.W.mg_of X G a__law_words) T
  have D__law_operand := d__law_operand (P := P) (K := ⟨K, w⟩) (base := base) (fun_mk (st := s__law_operand) l__law_operand c__law_operand k__law_operand) (PySem.W.mg_of X G a__law_operand) T
  have D__law_key := d__law_key (P := P) (K := ⟨K, w⟩) (base := base) (fun_mk (st := s__law_key) l__law_key c__law_key k__law_key) (PySem.W.mg_of X G a__law_key) T D__law_operand
  have D__law_call := d__law_call (P := P) (K := ⟨K, w⟩) (base := base) (fun_mk (st := s__law_call) l__law_call c__law_call k__law_call) (PySem.W.mg_of X G a__law_call) T D__law_operand
  have D__law_simple := d__law_simple (P := P) (K := ⟨K, w⟩) (base := base) (fun_mk (st := s__law_simple) l__law_simple c__law_simple k__law_simple) (PySem.W.mg_of X G a__law_simple) T D__law_operand D__law_key D__law_call
  have D__law_lay := d__law_lay (P := P) (K := ⟨K, w⟩) (base := base) (fun_mk (st := s__law_lay) l__law_lay c__law_lay k__law_lay) (PySem.W.mg_of X G a__law_lay) T D__law_operand D__law_simple
  have D__law_plan := d__law_plan (P := P) (K := ⟨K, w⟩) (base := base) (fun_mk (st := s__law_plan) l__law_plan c__law_plan k__law_plan) (PySem.W.mg_of X G a__law_plan) T
  have D__law_program := d__law_program (P := P) (K := ⟨K, w⟩) (base := base) (fun_mk (st := s__law_program) l__law_program c__law_program k__law_program) (PySem.W.mg_of X G a__law_program) T D__law_lay D__law_operand
  have D__law_homes := d__law_homes (P := P) (K := ⟨K, w⟩) (base := base) (fun_mk (st := s__law_homes) l__law_homes c__law_homes k__law_homes) (PySem.W.mg_of X G a__law_homes) T
  have D__law_class := d__law_class (P := P) (K := ⟨K, w⟩) (base := base) (fun_mk (st := s__law_class) l__law_class c__law_class k__law_class) (PySem.W.mg_of X G a__law_class) T
  have D__law_call_moves := d__law_call_moves (P := P) (K := ⟨K, w⟩) (base := base) (fun_mk (st := s__law_call_moves) l__law_call_moves c__law_call_moves k__law_call_moves) (PySem.W.mg_of X G a__law_call_moves) T
  have D__law_moves := d__law_moves (P := P) (K := ⟨K, w⟩) (base := base) (fun_mk (st := s__law_moves) l__law_moves c__law_moves k__law_moves) (PySem.W.mg_of X G a__law_moves) T D__law_homes D__law_class D__law_call_moves
  have D__law_had := d__law_had (P := P) (K := ⟨K, w⟩) (base := base) (fun_mk (st := s__law_had) l__law_had c__law_had k__law_had) (PySem.W.mg_of X G a__law_had) T
  have D__law_goals := d__law_goals (P := P) (K := ⟨K, w⟩) (base := base) (fun_mk (st := s__law_goals) l__law_goals c__law_goals k__law_goals) (PySem.W.mg_of X G a__law_goals) T
  have D__law_lacks := d__law_lacks (P := P) (K := ⟨K, w⟩) (base := base) (fun_mk (st := s__law_lacks) l__law_lacks c__law_lacks k__law_lacks) (PySem.W.mg_of X G a__law_lacks) T D__law_had D__law_goals
  have D__law_news := d__law_news (P := P) (K := ⟨K, w⟩) (base := base) (fun_mk (st := s__law_news) l__law_news c__law_news k__law_news) (PySem.W.mg_of X G a__law_news) T
  have D__law_spoiled := d__law_spoiled (P := P) (K := ⟨K, w⟩) (base := base) (fun_mk (st := s__law_spoiled) l__law_spoiled c__law_spoiled k__law_spoiled) (PySem.W.mg_of X G a__law_spoiled) T
  have D__law_names_in := d__law_names_in (P := P) (K := ⟨K, w⟩) (base := base) (fun_mk (st := s__law_names_in) l__law_names_in c__law_names_in k__law_names_in) (PySem.W.mg_of X G a__law_names_in) T
  have D__law_pairs := d__law_pairs (P := P) (K := ⟨K, w⟩) (base := base) (fun_mk (st := s__law_pairs) l__law_pairs c__law_pairs k__law_pairs) (PySem.W.mg_of X G a__law_pairs) T D__law_homes D__law_names_in
  have D__law_more := d__law_more (P := P) (K := ⟨K, w⟩) (base := base) (fun_mk (st := s__law_more) l__law_more c__law_more k__law_more) (PySem.W.mg_of X G a__law_more) T D__law_pairs
  have D__law_told := d__law_told (P := P) (K := ⟨K, w⟩) (base := base) (fun_mk (st := s__law_told) l__law_told c__law_told k__law_told) (PySem.W.mg_of X G a__law_told) T
  exact d_law_ok (K := ⟨K, w⟩) (fun_mk (st := s_law) l_law c_law k_law) T D__law_words D__law_cell_at D__law_program D__law_plan D__law_news D_makers D__law_spoiled D__law_more D__law_told D__law_moves D__law_lacks D_closed
end VLD

open PySem PySem.W PyProof.Rows in
set_option maxRecDepth 100000 in
set_option maxHeartbeats 0 in
theorem PySem.Challenge.cw_slicewise_k24_closed_tables_holds : PySem.Challenge.rw_slicewise_k24_closed_tables.Holds := by
  w_on; o_law; k_head; (case hw => w_witness2)
  k_fill
  refine VL.law_walk (l := PySem.Challenge.rw_slicewise_k24_closed_tables) (k := 7) (x := "_law_script") rfl rfl ⟨rfl, by decide, by decide⟩ (fun w h Y => PySem.W.kIn_of Y) ?F
  case F =>
    intro w mg fa h KX G hmg
    refine' VLD.all_mk KX G hmg ?x_Draft ?pg_Draft ?hd_Draft ?po_Draft ?sa_Draft ?mk_Draft ?kc_Draft ?in_Draft ?na_Draft_names ?na_Draft_cells ?me_Draft_of_name ?me_Draft_of_cells ?me_Draft_had_by ?me_Draft_grown ?me_Draft_told ?a_is_name ?l_is_name ?c_is_name ?k_is_name ?a_is_field ?l_is_field ?c_is_field ?k_is_field ?a_class_of ?l_class_of ?c_class_of ?k_class_of ?a_shape ?l_shape ?c_shape ?k_shape ?a_numbers_of ?l_numbers_of ?c_numbers_of ?k_numbers_of ?i_Draft_init ?l_Draft_init ?c_Draft_init ?k_Draft_init ?i_Draft_of_name ?l_Draft_of_name ?c_Draft_of_name ?k_Draft_of_name ?i_Draft_of_cells ?l_Draft_of_cells ?c_Draft_of_cells ?k_Draft_of_cells ?i_Draft_had_by ?l_Draft_had_by ?c_Draft_had_by ?k_Draft_had_by ?i_Draft_grown ?l_Draft_grown ?c_Draft_grown ?k_Draft_grown ?i_Draft_told ?l_Draft_told ?c_Draft_told ?k_Draft_told ?a_call_flows ?l_call_flows ?c_call_flows ?k_call_flows ?a_row_flows ?l_row_flows ?c_row_flows ?k_row_flows ?a_all_flows ?l_all_flows ?c_all_flows ?k_all_flows ?a_makers ?l_makers ?c_makers ?k_makers ?a_closed ?l_closed ?c_closed ?k_closed ?a__law_cell_at ?l__law_cell_at ?c__law_cell_at ?k__law_cell_at ?a__law_words ?l__law_words ?c__law_words ?k__law_words ?a__law_operand ?l__law_operand ?c__law_operand ?k__law_operand ?a__law_key ?l__law_key ?c__law_key ?k__law_key ?a__law_call ?l__law_call ?c__law_call ?k__law_call ?a__law_simple ?l__law_simple ?c__law_simple ?k__law_simple ?a__law_lay ?l__law_lay ?c__law_lay ?k__law_lay ?a__law_plan ?l__law_plan ?c__law_plan ?k__law_plan ?a__law_program ?l__law_program ?c__law_program ?k__law_program ?a__law_homes ?l__law_homes ?c__law_homes ?k__law_homes ?a__law_class ?l__law_class ?c__law_class ?k__law_class ?a__law_call_moves ?l__law_call_moves ?c__law_call_moves ?k__law_call_moves ?a__law_moves ?l__law_moves ?c__law_moves ?k__law_moves ?a__law_had ?l__law_had ?c__law_had ?k__law_had ?a__law_goals ?l__law_goals ?c__law_goals ?k__law_goals ?a__law_lacks ?l__law_lacks ?c__law_lacks ?k__law_lacks ?a__law_news ?l__law_news ?c__law_news ?k__law_news ?a__law_spoiled ?l__law_spoiled ?c__law_spoiled ?k__law_spoiled ?a__law_names_in ?l__law_names_in ?c__law_names_in ?k__law_names_in ?a__law_pairs ?l__law_pairs ?c__law_pairs ?k__law_pairs ?a__law_more ?l__law_more ?c__law_more ?k__law_more ?a__law_told ?l__law_told ?c__law_told ?k__law_told ?a_law ?l_law ?c_law ?k_law ?n_str ?n_isinstance ?n_len ?n_all ?n_list ?n_enumerate ?n_sorted ?n_zip ?n_range ?n_tuple ?n_sum ?n_int ?n_bool ?g_LETTERS
    (case x_Draft => k_is)
    (case pg_Draft => k_is)
    (case hd_Draft => k_is)
    (case po_Draft => k_is)
    (case sa_Draft => k_is)
    (case mk_Draft => k_is)
    (case kc_Draft => k_is)
    (case in_Draft => k_is)
    (case na_Draft_names => k_is)
    (case na_Draft_cells => k_is)
    (case me_Draft_of_name => k_is)
    (case me_Draft_of_cells => k_is)
    (case me_Draft_had_by => k_is)
    (case me_Draft_grown => k_is)
    (case me_Draft_told => k_is)
    (case a_is_name => k_is)
    (case l_is_name => k_is)
    (case c_is_name => k_is)
    (case k_is_name => k_is)
    (case a_is_field => k_is)
    (case l_is_field => k_is)
    (case c_is_field => k_is)
    (case k_is_field => k_is)
    (case a_class_of => k_is)
    (case l_class_of => k_is)
    (case c_class_of => k_is)
    (case k_class_of => k_is)
    (case a_shape => k_is)
    (case l_shape => k_is)
    (case c_shape => k_is)
    (case k_shape => k_is)
    (case a_numbers_of => k_is)
    (case l_numbers_of => k_is)
    (case c_numbers_of => k_is)
    (case k_numbers_of => k_is)
    (case i_Draft_init => k_is)
    (case l_Draft_init => k_is)
    (case c_Draft_init => k_is)
    (case k_Draft_init => k_is)
    (case i_Draft_of_name => k_is)
    (case l_Draft_of_name => k_is)
    (case c_Draft_of_name => k_is)
    (case k_Draft_of_name => k_is)
    (case i_Draft_of_cells => k_is)
    (case l_Draft_of_cells => k_is)
    (case c_Draft_of_cells => k_is)
    (case k_Draft_of_cells => k_is)
    (case i_Draft_had_by => k_is)
    (case l_Draft_had_by => k_is)
    (case c_Draft_had_by => k_is)
    (case k_Draft_had_by => k_is)
    (case i_Draft_grown => k_is)
    (case l_Draft_grown => k_is)
    (case c_Draft_grown => k_is)
    (case k_Draft_grown => k_is)
    (case i_Draft_told => k_is)
    (case l_Draft_told => k_is)
    (case c_Draft_told => k_is)
    (case k_Draft_told => k_is)
    (case a_call_flows => k_is)
    (case l_call_flows => k_is)
    (case c_call_flows => k_is)
    (case k_call_flows => k_is)
    (case a_row_flows => k_is)
    (case l_row_flows => k_is)
    (case c_row_flows => k_is)
    (case k_row_flows => k_is)
    (case a_all_flows => k_is)
    (case l_all_flows => k_is)
    (case c_all_flows => k_is)
    (case k_all_flows => k_is)
    (case a_makers => k_is)
    (case l_makers => k_is)
    (case c_makers => k_is)
    (case k_makers => k_is)
    (case a_closed => k_is)
    (case l_closed => k_is)
    (case c_closed => k_is)
    (case k_closed => k_is)
    (case a__law_cell_at => k_is)
    (case l__law_cell_at => k_is)
    (case c__law_cell_at => k_is)
    (case k__law_cell_at => k_is)
    (case a__law_words => k_is)
    (case l__law_words => k_is)
    (case c__law_words => k_is)
    (case k__law_words => k_is)
    (case a__law_operand => k_is)
    (case l__law_operand => k_is)
    (case c__law_operand => k_is)
    (case k__law_operand => k_is)
    (case a__law_key => k_is)
    (case l__law_key => k_is)
    (case c__law_key => k_is)
    (case k__law_key => k_is)
    (case a__law_call => k_is)
    (case l__law_call => k_is)
    (case c__law_call => k_is)
    (case k__law_call => k_is)
    (case a__law_simple => k_is)
    (case l__law_simple => k_is)
    (case c__law_simple => k_is)
    (case k__law_simple => k_is)
    (case a__law_lay => k_is)
    (case l__law_lay => k_is)
    (case c__law_lay => k_is)
    (case k__law_lay => k_is)
    (case a__law_plan => k_is)
    (case l__law_plan => k_is)
    (case c__law_plan => k_is)
    (case k__law_plan => k_is)
    (case a__law_program => k_is)
    (case l__law_program => k_is)
    (case c__law_program => k_is)
    (case k__law_program => k_is)
    (case a__law_homes => k_is)
    (case l__law_homes => k_is)
    (case c__law_homes => k_is)
    (case k__law_homes => k_is)
    (case a__law_class => k_is)
    (case l__law_class => k_is)
    (case c__law_class => k_is)
    (case k__law_class => k_is)
    (case a__law_call_moves => k_is)
    (case l__law_call_moves => k_is)
    (case c__law_call_moves => k_is)
    (case k__law_call_moves => k_is)
    (case a__law_moves => k_is)
    (case l__law_moves => k_is)
    (case c__law_moves => k_is)
    (case k__law_moves => k_is)
    (case a__law_had => k_is)
    (case l__law_had => k_is)
    (case c__law_had => k_is)
    (case k__law_had => k_is)
    (case a__law_goals => k_is)
    (case l__law_goals => k_is)
    (case c__law_goals => k_is)
    (case k__law_goals => k_is)
    (case a__law_lacks => k_is)
    (case l__law_lacks => k_is)
    (case c__law_lacks => k_is)
    (case k__law_lacks => k_is)
    (case a__law_news => k_is)
    (case l__law_news => k_is)
    (case c__law_news => k_is)
    (case k__law_news => k_is)
    (case a__law_spoiled => k_is)
    (case l__law_spoiled => k_is)
    (case c__law_spoiled => k_is)
    (case k__law_spoiled => k_is)
    (case a__law_names_in => k_is)
    (case l__law_names_in => k_is)
    (case c__law_names_in => k_is)
    (case k__law_names_in => k_is)
    (case a__law_pairs => k_is)
    (case l__law_pairs => k_is)
    (case c__law_pairs => k_is)
    (case k__law_pairs => k_is)
    (case a__law_more => k_is)
    (case l__law_more => k_is)
    (case c__law_more => k_is)
    (case k__law_more => k_is)
    (case a__law_told => k_is)
    (case l__law_told => k_is)
    (case c__law_told => k_is)
    (case k__law_told => k_is)
    (case a_law => k_is)
    (case l_law => k_is)
    (case c_law => k_is)
    (case k_law => k_is)
    (case n_str => k_is)
    (case n_isinstance => k_is)
    (case n_len => k_is)
    (case n_all => k_is)
    (case n_list => k_is)
    (case n_enumerate => k_is)
    (case n_sorted => k_is)
    (case n_zip => k_is)
    (case n_range => k_is)
    (case n_tuple => k_is)
    (case n_sum => k_is)
    (case n_int => k_is)
    (case n_bool => k_is)
    (case g_LETTERS => k_is)
