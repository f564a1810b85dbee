import PyProof.Rows.All
import Wide.All
import OpenK.AllK
import Wide.FinOn
import HandS.ForMost
import HandS.Wide
import HandS.Flow
import HandS.AnyAll
import HandS.IsInst
import HandS.Conv
import KE.KDictKeyed
import KE.KDictWalk
import HandS.Deep
import HandS.WideBits
import HandS.Zip
import PyProof.StrLawsIn
import HandS.SetFor
import HandS.Strs
import HandS.SetKeys
import HandS.Rev
import HandS.RevTup
import HandS.SortRule
import HandS.Iter
import HandS.More
import HandS.Defaults
import HandS.TupLe
import KE.KDictSum
import HandS.Style
import KE.GoesEnum
import HandS.TupAny
import PyProof.NeKinds
import HandS.SortInts
import PyProof.DictTruth
import HandS.RaiseMore
import HandS.Text
import KE.OsArith
import PySem.Challenge.RW_slicewise_k70_changed_rows
set_option Elab.async false
set_option linter.all false
set_option maxHeartbeats 4000000
set_option maxRecDepth 100000
def PySem.W.Fast.tw11848917311575750527 : Unit := ()
def PySem.W.Fast.tw13201982911855760550 : Unit := ()
def PySem.W.Fast.tw14170612045327209771 : Unit := ()
def PySem.W.Fast.tw16116609614102268636 : Unit := ()
def PySem.W.Fast.tw1639272881718691281 : Unit := ()
def PySem.W.Fast.tw2209021575736448050 : Unit := ()
def PySem.W.Fast.tw3299253958170238488 : Unit := ()
def PySem.W.Fast.tw3478610071629220276 : Unit := ()
def PySem.W.Fast.tw7116256881893566652 : Unit := ()
def PySem.W.Fast.tw974123338279388302 : Unit := ()
namespace VLH
open PySem PySem.W PyProof.Rows in
set_option maxRecDepth 100000 in
set_option maxHeartbeats 0 in
open_top top for PySem.Challenge.rw_slicewise_k70_changed_rows
end VLH
namespace VL
open PySem PySem.Spec PyProof.Rows L2

/-- what stands of the module, and the world -/
structure KW where
  k : PySem.W.Frag
  w : World
instance : CoeOut KW PySem.W.Frag := ⟨KW.k⟩

/-! ### data -/
inductive D where
  | non | bl (b : Bool) | int (i : Int) | str (x : Str)
  | tup (xs : List D) | lst (xs : List D) | scr (ns : List Int)
inductive W where
  | d (x : D) | loc (k : Nat) | tup (ws : List W) | ty (n : String) | raw (a : Addr)
inductive C where
  | lst (xs : List D) | lstW (ws : List W) | ins (n : Str) (fs : List (Str × W)) | dk (kvs : List (Key × D)) | dl (ob : Obj) (gs : List (Key × V)) (kvs : List (Key × D)) | dn (lk : Option (Obj × List (NestedKey × Addr × V))) (kvs : List (D × W))
abbrev Sto := List C
abbrev Ev := List (Option W)

/-! ### pairs of lists -/
section
variable {A1 B1 : Type} {R S : A1 → B1 → Prop}
theorem pGetL : ∀ {xs : List A1} {ys : List B1}, Paired R xs ys → ∀ {i : Nat} {x : A1}, xs[i]? = some x → ∃ y, ys[i]? = some y ∧ R x y
  | _, _, .nil, i, x, e => by simp at e
  | _, _, .cons r t, 0, x, e => by simp at e; subst e; exact ⟨_, rfl, r⟩
  | _, _, .cons r t, i + 1, x, e => by
    obtain ⟨y, h1, h2⟩ := pGetL t (i := i) (x := x) (by simpa using e)
    exact ⟨y, by simpa using h1, h2⟩
theorem pApp : ∀ {xs xs' : List A1} {ys ys' : List B1}, Paired R xs ys → Paired R xs' ys' → Paired R (xs ++ xs') (ys ++ ys')
  | _, _, _, _, .nil, h => h
  | _, _, _, _, .cons r t, h => .cons r (pApp t h)
theorem pOne {x : A1} {y : B1} (h : R x y) : Paired R [x] [y] := .cons h .nil
theorem pSet {x : A1} {y : B1} (h : R x y) : ∀ {xs : List A1} {ys : List B1} (i : Nat), Paired R xs ys → Paired R (xs.set i x) (ys.set i y)
  | _, _, _, .nil => .nil
  | _, _, 0, .cons _ t => .cons h t
  | _, _, i + 1, .cons q t => .cons q (pSet h i t)
theorem pTake : ∀ {xs : List A1} {ys : List B1} (n : Nat), Paired R xs ys → Paired R (xs.take n) (ys.take n)
  | _, _, 0, _ => by simp; exact .nil
  | _, _, _ + 1, .nil => .nil
  | _, _, n + 1, .cons r t => .cons r (pTake n t)
theorem pDrop : ∀ {xs : List A1} {ys : List B1} (n : Nat), Paired R xs ys → Paired R (xs.drop n) (ys.drop n)
  | _, _, 0, r => r
  | _, _, _ + 1, .nil => .nil
  | _, _, n + 1, .cons _ t => pDrop n t
theorem pDropLast {xs : List A1} {ys : List B1} (h : Paired R xs ys) : Paired R xs.dropLast ys.dropLast := by
  rw [List.dropLast_eq_take, List.dropLast_eq_take, ← Paired.length h]
  exact pTake _ h
theorem pRep {xs : List A1} {ys : List B1} (h : Paired R xs ys) : ∀ k : Nat, Paired R (List.replicate k xs).flatten (List.replicate k ys).flatten
  | 0 => .nil
  | k + 1 => by
    rw [List.replicate_succ, List.replicate_succ, List.flatten_cons, List.flatten_cons]
    exact pApp h (pRep h k)
theorem pCut {xs : List A1} {ys : List B1} (h : Paired R xs ys) (i j : Nat) : Paired R ((xs.drop i).take j) ((ys.drop i).take j) := pTake j (pDrop i h)
end

/-! ### how data lie in the heap -/
def StrOk (x : Str) : Prop := PyData.strOk x = true ∧ x.length ≤ sizeLine
mutual
inductive RepD (K : KW) (F : Hp) : D → V → Prop
  | non : RepD K F .non .non
  | bl (b : Bool) : RepD K F (.bl b) (.bl b)
  | int (i : Int) : RepD K F (.int i) (.int i)
  | str (x : Str) : StrOk x → RepD K F (.str x) (.str x)
  | tup {xs : List D} {vs : List V} {a : Addr} : SqT K F a vs → vs.length ≤ sizeLine → RepDs K F xs vs → RepD K F (.tup xs) (.ref a)
  | lst {xs : List D} {vs : List V} {a : Addr} : Rd F a (.lst vs) → vs.length ≤ sizeLine → RepDs K F xs vs → RepD K F (.lst xs) (.ref a)
  | scr {ns : List Int} {a : Addr} : SqL K F a (ns.map V.int) → ns.length ≤ sizeLine → RepD K F (.scr ns) (.ref a)
inductive RepDs (K : KW) (F : Hp) : List D → List V → Prop
  | nil : RepDs K F [] []
  | cons {x : D} {v : V} {xs : List D} {vs : List V} : RepD K F x v → RepDs K F xs vs → RepDs K F (x :: xs) (v :: vs)
end
mutual
inductive RepW (K : KW) (F : Hp) (al : List Addr) : W → V → Prop
  | d {x : D} {v : V} : RepD K F x v → RepW K F al (.d x) v
  | loc {k : Nat} {a : Addr} : al[k]? = some a → RepW K F al (.loc k) (.ref a)
  | ty (n : String) : RepW K F al (.ty n) (.ty n)
  | raw (a : Addr) : RepW K F al (.raw a) (.ref a)
  | tup {ws : List W} {vs : List V} {a : Addr} : SqT K F a vs → vs.length ≤ sizeLine → RepWs K F al ws vs → RepW K F al (.tup ws) (.ref a)
inductive RepWs (K : KW) (F : Hp) (al : List Addr) : List W → List V → Prop
  | nil : RepWs K F al [] []
  | cons {x : W} {v : V} {xs : List W} {vs : List V} : RepW K F al x v → RepWs K F al xs vs → RepWs K F al (x :: xs) (v :: vs)
end
section
variable {K : KW} {F F' H H' G B : Hp} {al al' : List Addr} {mu mu' : Sto}
theorem RepDs.p : ∀ {xs : List D} {vs : List V}, RepDs K F xs vs → Paired (RepD K F) xs vs
  | [], _, .nil => .nil
  | _ :: _, _, .cons r t => .cons r (RepDs.p t)
theorem RepDs.of : ∀ {xs : List D} {vs : List V}, Paired (RepD K F) xs vs → RepDs K F xs vs
  | [], _, .nil => .nil
  | _ :: _, _, .cons r t => .cons r (RepDs.of t)
theorem RepWs.p : ∀ {xs : List W} {vs : List V}, RepWs K F al xs vs → Paired (RepW K F al) xs vs
  | [], _, .nil => .nil
  | _ :: _, _, .cons r t => .cons r (RepWs.p t)
theorem RepWs.of : ∀ {xs : List W} {vs : List V}, Paired (RepW K F al) xs vs → RepWs K F al xs vs
  | [], _, .nil => .nil
  | _ :: _, _, .cons r t => .cons r (RepWs.of t)
theorem rdMono {o : HO} {a : Addr} (h : Same F F') (r : Rd F a o) : Rd F' a o := by
  rcases r with r | ⟨u, r⟩
  · exact .inl (h _ _ r)
  · exact .inr ⟨u, h _ _ r⟩
theorem sqtMono {a : Addr} {vs : List V} (h : Same F F') (r : SqT K F a vs) : SqT K F' a vs := by
  rcases r with r | r
  · exact .inl (rdMono h r)
  · exact .inr r
theorem sqlMono {a : Addr} {vs : List V} (h : Same F F') (r : SqL K F a vs) : SqL K F' a vs := by
  rcases r with r | r
  · exact .inl (rdMono h r)
  · exact .inr r
mutual
theorem RepD.mono (h : Same F F') : ∀ {d : D} {v : V}, RepD K F d v → RepD K F' d v
  | _, _, .non => .non
  | _, _, .bl b => .bl b
  | _, _, .int i => .int i
  | _, _, .str x q => .str x q
  | _, _, .tup s z r => .tup (sqtMono h s) z (RepDs.mono h r)
  | _, _, .lst s z r => .lst (rdMono h s) z (RepDs.mono h r)
  | _, _, .scr s z => .scr (sqlMono h s) z
theorem RepDs.mono (h : Same F F') : ∀ {d : List D} {v : List V}, RepDs K F d v → RepDs K F' d v
  | _, _, .nil => .nil
  | _, _, .cons r t => .cons (RepD.mono h r) (RepDs.mono h t)
end
/-- the frozen part grows, new locations come behind -/
def Ext (F : Hp) (al : List Addr) (F' : Hp) (al' : List Addr) : Prop := Same F F' ∧ ∃ be, al' = al ++ be
theorem Ext.refl (F : Hp) (al : List Addr) : Ext F al F al := ⟨Same.refl F, [], by simp⟩
theorem Ext.trans {F1 F2 F3 : Hp} {a1 a2 a3 : List Addr} (h : Ext F1 a1 F2 a2) (g : Ext F2 a2 F3 a3) : Ext F1 a1 F3 a3 := by
  obtain ⟨s, b, rfl⟩ := h
  obtain ⟨s', b', rfl⟩ := g
  exact ⟨s.trans s', b ++ b', by simp⟩
theorem Ext.at {k : Nat} {a : Addr} (h : Ext F al F' al') (e : al[k]? = some a) : al'[k]? = some a := by
  obtain ⟨_, b, rfl⟩ := h
  rw [List.getElem?_append_left (by
    have := (List.getElem?_eq_some_iff.mp e).1
    exact this)]
  exact e
mutual
theorem RepW.mono (h : Ext F al F' al') : ∀ {d : W} {v : V}, RepW K F al d v → RepW K F' al' d v
  | _, _, .d r => .d (r.mono h.1)
  | _, _, .loc e => .loc (h.at e)
  | _, _, .ty n => .ty n
  | _, _, .raw a => .raw a
  | _, _, .tup s z r => .tup (sqtMono h.1 s) z (RepWs.mono h r)
theorem RepWs.mono (h : Ext F al F' al') : ∀ {d : List W} {v : List V}, RepWs K F al d v → RepWs K F' al' d v
  | _, _, .nil => .nil
  | _, _, .cons r t => .cons (RepW.mono h r) (RepWs.mono h t)
end

def tupO : HO → Bool
  | .tup _ => true
  | .frz _ (.tup _) => true
  | _ => false
/-- the class of this name stands at c -/
def clsAt (K : KW) (n : Str) (c : Addr) : Prop := PySem.W.nsIn K mainGlobals n = some (some (.ref c))
/-! ### dicts with tuples as keys -/
mutual
@[simp] def nkey : D → Option NestedKey
  | .int i => some (.num i)
  | .str x => some (.text x)
  | .tup xs => (nkeys xs).map .tup
  | .non | .bl _ | .lst _ | .scr _ => none
@[simp] def nkeys : List D → Option (List NestedKey)
  | [] => some []
  | x :: xs => match nkey x, nkeys xs with
    | some k, some ks => some (k :: ks)
    | _, _ => none
end
abbrev NL := List (NestedKey × Addr × V)
def entN (w : World) (x : NestedKey × Addr × Value) : DictEntry := ⟨x.1.hash w, .ref x.2.1, x.2.2⟩
abbrev NRel (p : NestedKey × Addr × V) (q : NestedKey × Addr × Value) : Prop := p.1 = q.1 ∧ p.2.1 = q.2.1 ∧ RelV p.2.2 q.2.2
/-- a dict with tuples as keys: the keys, where they stand, the values -/
def NdO (w : World) (d : Addr) (L : NL) : HO := .ext fun h => ((d == sysModules) = false ∧ L.length ≤ sizeLine ∧ (L.map (·.1)).Nodup) ∧ ∃ xs : List (NestedKey × Addr × Value), Paired NRel L xs ∧
  ∃ o es ep, h.get? d = some o ∧ o.ExactDict ∧ o.data = .dict es ep ∧ es.toList = xs.map (entN w)
/-- the lock's object, and its entries -/
abbrev Lk := Option (Obj × NL)
def lockO (w : World) (a : Addr) (lk : Lk) (L : NL) : HO := match lk with
  | some (ob, L') => .frz ob (NdO w a L')
  | none => NdO w a L
def lockL (lk : Lk) (L : NL) : NL := match lk with
  | some (_, L') => L'
  | none => L
/-- what a container is, at its address -/
inductive CRep (K : KW) (F : Hp) (al : List Addr) (a : Addr) : C → HO → Prop
  | lst {xs : List D} {vs : List V} : vs.length ≤ sizeLine → Paired (RepD K F) xs vs → CRep K F al a (.lst xs) (.lst vs)
  | lstW {ws : List W} {vs : List V} : vs.length ≤ sizeLine → Paired (RepW K F al) ws vs → CRep K F al a (.lstW ws) (.lst vs)
  | ins {n : Str} {c dx : Addr} {fs : List (Str × W)} {gs : List (Str × V)} : clsAt K n c → Paired (fun p q => p.1 = q.1 ∧ RepW K F al p.2 q.2) fs gs → CRep K F al a (.ins n fs) (.ins c dx gs)
  | dk {kvs : List (Key × D)} {gs : List (Key × V)} : Paired (fun p q => p.1 = q.1 ∧ RepD K F p.2 q.2) kvs gs → (∀ k ∈ kvs, ∀ x, k.1 = .inr x → StrOk x) → CRep K F al a (.dk kvs) (.dK gs)
  | dl {ob : Obj} {kvs : List (Key × D)} {gs : List (Key × V)} : Paired (fun p q => p.1 = q.1 ∧ RepD K F p.2 q.2) kvs gs → (∀ k ∈ kvs, ∀ x, k.1 = .inr x → StrOk x) → CRep K F al a (.dl ob gs kvs) (.frz ob (.dK gs))
  | dn {lk : Lk} {kvs : List (D × W)} {L : NL} : Paired (fun (p : D × W) (q : NestedKey × Addr × V) => (nkey p.1 = some q.1 ∧ q.1.depth ≤ 8) ∧ RepD K F p.1 (.ref q.2.1) ∧ RepW K F al p.2 q.2.2) kvs (lockL lk L) → CRep K F al a (.dn lk kvs) (lockO K.w a lk L)
theorem CRep.mono {a : Addr} (h : Ext F al F' al') {c : C} {o : HO} (r : CRep K F al a c o) : CRep K F' al' a c o := by
  cases r with
  | lst z r => exact .lst z (Paired.mapP r fun _ _ q => q.mono h.1)
  | lstW z r => exact .lstW z (Paired.mapP r fun _ _ q => q.mono h)
  | ins z r => exact .ins z (Paired.mapP r fun _ _ q => ⟨q.1, q.2.mono h⟩)
  | dk r q => exact .dk (Paired.mapP r fun _ _ q => ⟨q.1, q.2.mono h.1⟩) q
  | dl r q => exact .dl (Paired.mapP r fun _ _ q => ⟨q.1, q.2.mono h.1⟩) q
  | dn r => exact .dn (Paired.mapP r fun _ _ q => ⟨q.1, q.2.1.mono h.1, q.2.2.mono h⟩)
/-- a container's object may be written -/
theorem CRep.notTup {a : Addr} {c : C} {o : HO} (r : CRep K F al a c o) : tupO o = false := by
  cases r with
  | dn r => rename_i lk _ _; cases lk <;> rfl
  | _ => rfl

/-- the state: G what was frozen at the start, B what must stay, F what is frozen, H the heap, al the addresses of the containers mu -/
structure SRS (K : KW) (G B F H : Hp) (al : List Addr) (mu : Sto) : Prop where
  fz : Same F H
  bs : Same B H
  gf : Same G F
  fr : ∀ a o, F a = some o → G a = some o ∨ B a = none ∨ tupO o = true
  nd : al.Nodup
  len : al.length = mu.length
  st : ∀ (k : Nat) (c : C), mu[k]? = some c → ∃ a o, al[k]? = some a ∧ F a = none ∧ B a = none ∧ H a = some o ∧ CRep K F al a c o
theorem SRS.at {k : Nat} {c : C} {a : Addr} (s : SRS K G B F H al mu) (e : mu[k]? = some c) (ea : al[k]? = some a) : ∃ o, F a = none ∧ B a = none ∧ H a = some o ∧ CRep K F al a c o := by
  obtain ⟨a', o, e1, e2, e3, e4, e5⟩ := s.st k c e
  rw [ea] at e1; cases e1
  exact ⟨o, e2, e3, e4, e5⟩
theorem SRS.has {k : Nat} {a : Addr} (s : SRS K G B F H al mu) (ea : al[k]? = some a) : ∃ c, mu[k]? = some c := by
  have h1 := (List.getElem?_eq_some_iff.mp ea).1
  rw [s.len] at h1
  exact ⟨mu[k], by simp [h1]⟩
theorem sameN {H : Hp} {p : Addr} {o : HO} (h : H p = none) : Same H (upd H p o) := fun b u e => by
  rw [upd_ne (ne_of_none e h)]; exact e
theorem sameU {p : Addr} {o : HO} (h : Same F H) : Same (upd F p o) (upd H p o) := fun b u e => by
  by_cases q : b = p
  · subst q; rw [upd_same] at e ⊢; exact e
  · rw [upd_ne q] at e ⊢; exact h _ _ e
theorem sameNone {a : Addr} (h : Same F H) (e : H a = none) : F a = none := by
  cases q : F a with
  | none => rfl
  | some o => rw [h _ _ q] at e; cases e
/-- a new frozen object -/
theorem SRS.froz {p : Addr} {o : HO} (s : SRS K G B F H al mu) (hp : H p = none) : SRS K G B (upd F p o) (upd H p o) al mu where
  fz := sameU s.fz
  bs := s.bs.trans (sameN hp)
  gf := s.gf.trans (sameN (sameNone s.fz hp))
  fr := fun a u e => by
    by_cases q : a = p
    · subst q; exact .inr (.inl (sameNone s.bs hp))
    · rw [upd_ne q] at e; exact s.fr a u e
  nd := s.nd
  len := s.len
  st := fun k c e => by
    obtain ⟨a, u, e1, e2, e3, e4, e5⟩ := s.st k c e
    have ne : a ≠ p := ne_of_none e4 hp
    exact ⟨a, u, e1, by rw [upd_ne ne]; exact e2, e3, by rw [upd_ne ne]; exact e4, e5.mono ⟨sameN (sameNone s.fz hp), [], by simp⟩⟩
theorem SRS.frozX {p : Addr} {o : HO} (s : SRS K G B F H al mu) (hp : H p = none) : Ext F al (upd F p o) al := ⟨sameN (sameNone s.fz hp), [], by simp⟩
/-- a new container -/
theorem SRS.own {p : Addr} {o : HO} {c : C} (s : SRS K G B F H al mu) (hp : H p = none) (r : CRep K F al p c o) : SRS K G B F (upd H p o) (al ++ [p]) (mu ++ [c]) where
  fz := s.fz.trans (sameN hp)
  bs := s.bs.trans (sameN hp)
  gf := s.gf
  fr := s.fr
  nd := by
    refine List.nodup_append.mpr ⟨s.nd, by simp, fun a ha b hb e => ?_⟩
    subst e
    have e : a = p := by simpa using hb
    subst e
    obtain ⟨k, hk⟩ := List.mem_iff_getElem?.mp ha
    obtain ⟨c, hc⟩ := s.has hk
    obtain ⟨u, _, _, q, _⟩ := s.at hc hk
    rw [hp] at q; cases q
  len := by simp [s.len]
  st := fun k c' e => by
    by_cases hk : k < mu.length
    · rw [List.getElem?_append_left hk] at e
      obtain ⟨a, u, e1, e2, e3, e4, e5⟩ := s.st k c' e
      exact ⟨a, u, by rw [List.getElem?_append_left (by rw [s.len]; exact hk)]; exact e1, e2, e3, by rw [upd_ne (ne_of_none e4 hp)]; exact e4, e5.mono ⟨Same.refl F, [p], rfl⟩⟩
    · rw [List.getElem?_append_right (by omega)] at e
      have hz : k - mu.length = 0 := by
        have := (List.getElem?_eq_some_iff.mp e).1
        simp at this; omega
      rw [hz] at e
      have e' : c = c' := by simpa using e
      subst e'
      exact ⟨p, o, by rw [List.getElem?_append_right (by rw [s.len]; omega), s.len, hz]; rfl, sameNone s.fz hp, sameNone s.bs hp, upd_same, r.mono ⟨Same.refl F, [p], rfl⟩⟩
theorem SRS.ownX {p : Addr} : Ext F al F (al ++ [p]) := ⟨Same.refl F, [p], rfl⟩
theorem SRS.atNew {p : Addr} (s : SRS K G B F H al mu) : (al ++ [p])[mu.length]? = some p := by
  rw [List.getElem?_append_right (by rw [s.len]; omega), s.len]; simp
theorem nodup_ixs {l : List Addr} (h : l.Nodup) {i j : Nat} {a : Addr} (e1 : l[i]? = some a) (e2 : l[j]? = some a) : i = j := by
  obtain ⟨h1, q1⟩ := List.getElem?_eq_some_iff.mp e1
  obtain ⟨h2, q2⟩ := List.getElem?_eq_some_iff.mp e2
  rcases Nat.lt_trichotomy i j with q | q | q
  · exact absurd (q1.trans q2.symm) ((List.pairwise_iff_getElem.mp h) i j h1 h2 q)
  · exact q
  · exact absurd (q2.trans q1.symm) ((List.pairwise_iff_getElem.mp h) j i h2 h1 q)
/-- a container written -/
theorem SRS.put {k : Nat} {a : Addr} {o : HO} {c : C} (s : SRS K G B F H al mu) (ea : al[k]? = some a) (r : CRep K F al a c o) : SRS K G B F (upd H a o) al (mu.set k c) where
  fz := fun b u e => by
    obtain ⟨c0, hc⟩ := s.has ea
    obtain ⟨_, q, _, _, _⟩ := s.at hc ea
    rw [upd_ne (ne_of_none e q)]; exact s.fz _ _ e
  bs := fun b u e => by
    obtain ⟨c0, hc⟩ := s.has ea
    obtain ⟨_, _, q, _, _⟩ := s.at hc ea
    rw [upd_ne (ne_of_none e q)]; exact s.bs _ _ e
  gf := s.gf
  fr := s.fr
  nd := s.nd
  len := by simp [s.len]
  st := fun j c' e => by
    by_cases hj : j = k
    · subst hj
      obtain ⟨c0, hc⟩ := s.has ea
      have hl := (List.getElem?_eq_some_iff.mp hc).1
      rw [List.getElem?_set_self hl] at e
      cases e
      obtain ⟨_, q1, q2, _, _⟩ := s.at hc ea
      exact ⟨a, o, ea, q1, q2, upd_same, r⟩
    · rw [List.getElem?_set_ne (Ne.symm hj)] at e
      obtain ⟨b, u, e1, e2, e3, e4, e5⟩ := s.st j c' e
      have ne : b ≠ a := fun q => hj (nodup_ixs s.nd e1 (q ▸ ea))
      exact ⟨b, u, e1, e2, e3, by rw [upd_ne ne]; exact e4, e5⟩

/-- with the names -/
structure SR (K : KW) (G B F H : Hp) (al : List Addr) (rh : Ev) (si : L2.St) (mu : Sto) : Prop where
  s : SRS K G B F H al mu
  ln : rh.length = si.length
  env : ∀ (i : Nat) (w : W), rh[i]? = some (some w) → ∃ v, si[i]? = some (some v) ∧ RepW K F al w v
theorem SR.step {rh : Ev} {si : L2.St} (r : SR K G B F H al rh si mu) (x : Ext F al F' al') (s : SRS K G B F' H' al' mu') : SR K G B F' H' al' rh si mu' :=
  ⟨s, r.ln, fun i w e => by
    obtain ⟨v, e1, e2⟩ := r.env i w e
    exact ⟨v, e1, e2.mono x⟩⟩
theorem SR.set {rh : Ev} {si : L2.St} {i : Nat} {w : W} {v : V} (r : SR K G B F H al rh si mu) (h : RepW K F al w v) : SR K G B F H al (rh.set i (some w)) (si.set i (some v)) mu :=
  ⟨r.s, by simp [r.ln], fun j u e => by
    by_cases hj : j = i
    · subst hj
      by_cases hl : j < rh.length
      · rw [List.getElem?_set_self hl] at e
        cases e
        exact ⟨v, by rw [List.getElem?_set_self (by rw [← r.ln]; exact hl)], h⟩
      · rw [List.getElem?_eq_none (by simpa using hl)] at e; cases e
    · rw [List.getElem?_set_ne (Ne.symm hj)] at e ⊢
      exact r.env j u e⟩
@[simp] def wipeE (rh : Ev) : List Nat → Ev
  | [] => rh
  | v :: vs => (wipeE rh vs).set v none
theorem SR.wipe {rh : Ev} {si : L2.St} (r : SR K G B F H al rh si mu) : ∀ vs : List Nat, SR K G B F H al (wipeE rh vs) (wipe si vs) mu
  | [] => r
  | x :: vs => by
    have q := SR.wipe r vs
    refine ⟨q.s, by unfold wipeE L2.wipe; simp [q.ln], fun j u e => ?_⟩
    unfold wipeE at e
    unfold L2.wipe
    by_cases hj : j = x
    · subst hj
      by_cases hl : j < (wipeE rh vs).length
      · rw [List.getElem?_set_self hl] at e; cases e
      · rw [List.getElem?_eq_none (by simpa using hl)] at e; cases e
    · rw [List.getElem?_set_ne (Ne.symm hj)] at e ⊢
      exact q.env j u e
end

/-! ### the judgements -/
abbrev WE := Ev → Sto → (W → Sto → Prop) → Prop
abbrev WT := Ev → Sto → (Bool → Sto → Prop) → Prop
abbrev WA := Ev → Sto → (List W → Sto → Prop) → Prop
structure EV where
  nx : Ev → Sto → Prop
  rt : W → Sto → Prop
  bk : Ev → Sto → Prop := fun _ _ => False
  ct : Ev → Sto → Prop := fun _ _ => False
abbrev WS := EV → Ev → Sto → Prop
def Den (K : KW) (t : TE) (f : WE) : Prop := ∀ (G B F H : Hp) (al : List Addr) (rh : Ev) (si : L2.St) (mu : Sto) (Qd : W → Sto → Prop) (Q : VK), SR K G B F H al rh si mu → f rh mu Qd →
  (∀ F' H' al' mu' w v, Ext F al F' al' → SR K G B F' H' al' rh si mu' → RepW K F' al' w v → Qd w mu' → Q v H') → t si H Q
def DenT (K : KW) (t : TT) (f : WT) : Prop := ∀ (G B F H : Hp) (al : List Addr) (rh : Ev) (si : L2.St) (mu : Sto) (Qd : Bool → Sto → Prop) (Q : Bool → Hp → Prop), SR K G B F H al rh si mu → f rh mu Qd →
  (∀ F' H' al' mu' b, Ext F al F' al' → SR K G B F' H' al' rh si mu' → Qd b mu' → Q b H') → t si H Q
def DenA (K : KW) (t : TA) (f : WA) : Prop := ∀ (G B F H : Hp) (al : List Addr) (rh : Ev) (si : L2.St) (mu : Sto) (Qd : List W → Sto → Prop) (Q : List V → Hp → Prop), SR K G B F H al rh si mu → f rh mu Qd →
  (∀ F' H' al' mu' ws vs, Ext F al F' al' → SR K G B F' H' al' rh si mu' → Paired (RepW K F' al') ws vs → Qd ws mu' → Q vs H') → t si H Q
/-- what stands behind a statement -/
structure Beh (K : KW) (G B F : Hp) (al : List Addr) (V1 : EV) (D1 : Ends) : Prop where
  nx : ∀ F' H' al' rh si mu, Ext F al F' al' → SR K G B F' H' al' rh si mu → V1.nx rh mu → D1.nx si H'
  rt : ∀ F' H' al' mu w v, Ext F al F' al' → SRS K G B F' H' al' mu → RepW K F' al' w v → V1.rt w mu → D1.rt v H'
  bk : ∀ F' H' al' rh si mu, Ext F al F' al' → SR K G B F' H' al' rh si mu → V1.bk rh mu → D1.bk si H'
  ct : ∀ F' H' al' rh si mu, Ext F al F' al' → SR K G B F' H' al' rh si mu → V1.ct rh mu → D1.ct si H'
theorem Beh.mono {K : KW} {G B F F' : Hp} {al al' : List Addr} {V1 : EV} {D1 : Ends} (b : Beh K G B F al V1 D1) (x : Ext F al F' al') : Beh K G B F' al' V1 D1 :=
  ⟨fun _ _ _ _ _ _ y => b.nx _ _ _ _ _ _ (x.trans y), fun _ _ _ _ _ _ y => b.rt _ _ _ _ _ _ (x.trans y), fun _ _ _ _ _ _ y => b.bk _ _ _ _ _ _ (x.trans y), fun _ _ _ _ _ _ y => b.ct _ _ _ _ _ _ (x.trans y)⟩
def DenS (K : KW) (t : TS) (f : WS) : Prop := ∀ (G B F H : Hp) (al : List Addr) (rh : Ev) (si : L2.St) (mu : Sto) (V1 : EV) (D1 : Ends), SR K G B F H al rh si mu → f V1 rh mu → Beh K G B F al V1 D1 → t D1 si H
end VL
namespace VL
open PySem PySem.Spec PyProof.Rows L2

/-! ### a family of contexts -/
structure YOk {io : Type} (Y : io → Cx) (P : Program) (w : World) (K : KW) (mg : Str → Option Value) (base : Heap) (N : List Str) (k : Nat) : Prop where
  hP : ∀ i, (Y i).prog = P
  hw : ∀ i, (Y i).w = w
  hK : ∀ i, (Y i).K = K
  hmg : ∀ i, (Y i).mg = mg
  hbase : ∀ i, (Y i).base = base
  hN : ∀ i, (Y i).N = N
  nd : N.Nodup
  calm : ∀ i, (Y i).calm = true
  room : ∀ i, Room k (Y i).A
def VE {io : Type} (Y : io → Cx) (K : KW) (e : Expr) (f : WE) : Prop := ∃ t, (∀ i, PE (Y i) e t) ∧ Den K t f
def VT {io : Type} (Y : io → Cx) (K : KW) (e : Expr) (f : WT) : Prop := ∃ t, (∀ i, PT (Y i) e t) ∧ DenT K t f
def VW {io : Type} (Y : io → Cx) (K : KW) (e : Expr) (f : WT) : Prop := ∃ t, (∀ i, PW (Y i) e t) ∧ DenT K t f
def VA {io : Type} (Y : io → Cx) (K : KW) (es : List Expr) (f : WA) : Prop := ∃ t, (∀ i, PA (Y i) es t) ∧ DenA K t f

/-! ### plain data from a value, snapshots -/
mutual
@[simp] def asD : W → Option D
  | .d x => some x
  | .tup ws => (asDs ws).map .tup
  | _ => none
@[simp] def asDs : List W → Option (List D)
  | [] => some []
  | w :: ws => match asD w, asDs ws with
    | some x, some xs => some (x :: xs)
    | _, _ => none
end
mutual
@[simp] def snap (mu : Sto) : W → Option D
  | .d x => some x
  | .tup ws => (snaps mu ws).map .tup
  | .loc k => match mu[k]? with
    | some (.lst xs) => some (.lst xs)
    | some (.lstW ws) => (asDs ws).map .lst
    | _ => none
  | _ => none
@[simp] def snaps (mu : Sto) : List W → Option (List D)
  | [] => some []
  | w :: ws => match snap mu w, snaps mu ws with
    | some x, some xs => some (x :: xs)
    | _, _ => none
end
@[simp] def mkTup (ws : List W) : W := match asDs ws with
  | some xs => .d (.tup xs)
  | none => .tup ws
section
variable {K : KW} {G B F F' H H' : Hp} {al al' : List Addr} {mu mu' : Sto}
theorem RepDs.len {xs : List D} {vs : List V} (h : RepDs K F xs vs) : xs.length = vs.length := Paired.length h.p
mutual
theorem asD_rep : ∀ {w : W} {v : V} {x : D}, RepW K F al w v → asD w = some x → RepD K F x v
  | .d x, _, _, .d r, e => by cases e; exact r
  | .tup ws, _, _, .tup s z r, e => by
    unfold asD at e
    cases q : asDs ws with
    | none => rw [q] at e; cases e
    | some xs => rw [q] at e; cases e; exact .tup s z (asDs_rep r q)
  | .loc _, _, _, _, e => by cases e
  | .ty _, _, _, _, e => by cases e
  | .raw _, _, _, _, e => by cases e
theorem asDs_rep : ∀ {ws : List W} {vs : List V} {xs : List D}, RepWs K F al ws vs → asDs ws = some xs → RepDs K F xs vs
  | [], _, _, .nil, e => by cases e; exact .nil
  | w :: ws, _, _, .cons r t, e => by
    unfold asDs at e
    cases q : asD w with
    | none => rw [q] at e; cases e
    | some x =>
      cases q2 : asDs ws with
      | none => rw [q, q2] at e; cases e
      | some xs => rw [q, q2] at e; cases e; exact .cons (asD_rep r q) (asDs_rep t q2)
end
theorem SRS.lstAt {k : Nat} {a : Addr} {xs : List D} (s : SRS K G B F H al mu) (e : mu[k]? = some (.lst xs)) (ea : al[k]? = some a) : ∃ vs, H a = some (.lst vs) ∧ vs.length ≤ sizeLine ∧ Paired (RepD K F) xs vs := by
  obtain ⟨o, _, _, h, r⟩ := s.at e ea
  cases r with
  | lst z p => exact ⟨_, h, z, p⟩
theorem SRS.lstWAt {k : Nat} {a : Addr} {xs : List W} (s : SRS K G B F H al mu) (e : mu[k]? = some (.lstW xs)) (ea : al[k]? = some a) : ∃ vs, H a = some (.lst vs) ∧ vs.length ≤ sizeLine ∧ Paired (RepW K F al) xs vs := by
  obtain ⟨o, _, _, h, r⟩ := s.at e ea
  cases r with
  | lstW z p => exact ⟨_, h, z, p⟩
mutual
/-- a snapshot is read in the whole heap -/
theorem snap_rep (s : SRS K G B F H al mu) : ∀ {w : W} {v : V} {x : D}, RepW K F al w v → snap mu w = some x → RepD K H x v
  | .d x, _, _, .d r, e => by cases e; exact r.mono s.fz
  | .tup ws, _, _, .tup q z r, e => by
    unfold snap at e
    cases q1 : snaps mu ws with
    | none => rw [q1] at e; cases e
    | some xs => rw [q1] at e; cases e; exact .tup (sqtMono s.fz q) z (snaps_rep s r q1)
  | .loc k, _, _, .loc ea, e => by
    unfold snap at e
    cases q : mu[k]? with
    | none => rw [q] at e; cases e
    | some c =>
      cases c with
      | lst xs =>
        rw [q] at e; cases e
        obtain ⟨vs, h, z, p⟩ := s.lstAt q ea
        exact .lst (Rd.of h) z (.of (Paired.mapP p fun _ _ r => r.mono s.fz))
      | lstW ws =>
        rw [q] at e
        cases q2 : asDs ws with
        | none => simp only [q2] at e; cases e
        | some xs =>
          simp only [q2] at e; cases e
          obtain ⟨vs, h, z, p⟩ := s.lstWAt q ea
          exact .lst (Rd.of h) z ((asDs_rep (.of p) q2).mono s.fz)
      | _ => rw [q] at e; cases e
  | .ty _, _, _, _, e => by cases e
  | .raw _, _, _, _, e => by cases e
theorem snaps_rep (s : SRS K G B F H al mu) : ∀ {ws : List W} {vs : List V} {xs : List D}, RepWs K F al ws vs → snaps mu ws = some xs → RepDs K H xs vs
  | [], _, _, .nil, e => by cases e; exact .nil
  | w :: ws, _, _, .cons r t, e => by
    unfold snaps at e
    cases q : snap mu w with
    | none => rw [q] at e; cases e
    | some x =>
      cases q2 : snaps mu ws with
      | none => rw [q, q2] at e; cases e
      | some xs => rw [q, q2] at e; cases e; exact .cons (snap_rep s r q) (snaps_rep s t q2)
end

/-! ### new objects -/
/-- a new list: a container of its own, or frozen -/
@[simp] def newL (o : Bool) (xs : List D) (mu : Sto) (Q : W → Sto → Prop) : Prop := if o then Q (.loc mu.length) (mu ++ [.lst xs]) else Q (.d (.lst xs)) mu
theorem newL_ok {o : Bool} {xs : List D} {vs : List V} {Qd : W → Sto → Prop} {Q : VK} {rh : Ev} {si : L2.St} (s : SR K G B F H al rh si mu) (p : Paired (RepD K F) xs vs) (z : vs.length ≤ sizeLine) (h : newL o xs mu Qd)
    (k : ∀ F' H' al' mu' w v, Ext F al F' al' → SR K G B F' H' al' rh si mu' → RepW K F' al' w v → Qd w mu' → Q v H') : ∀ p, H p = none → Q (.ref p) (upd H p (.lst vs)) := fun b hb => by
  cases o with
  | true =>
    have x := SRS.ownX (F := F) (al := al) (p := b)
    exact k _ _ _ _ _ _ x (s.step x (s.s.own hb (.lst z p))) (.loc s.s.atNew) h
  | false =>
    have x := s.s.frozX (o := .lst vs) hb
    exact k _ _ _ _ _ _ x (s.step x (s.s.froz hb)) (.d (.lst (Rd.of upd_same) z ((RepDs.of p).mono x.1))) h
theorem newT_ok {ws : List W} {vs : List V} {Qd : W → Sto → Prop} {Q : VK} {rh : Ev} {si : L2.St} (s : SR K G B F H al rh si mu) (p : Paired (RepW K F al) ws vs) (z : vs.length ≤ sizeLine) (h : Qd (mkTup ws) mu)
    (k : ∀ F' H' al' mu' w v, Ext F al F' al' → SR K G B F' H' al' rh si mu' → RepW K F' al' w v → Qd w mu' → Q v H') : ∀ p, H p = none → Q (.ref p) (upd H p (.tup vs)) := fun b hb => by
  have x := s.s.frozX (o := .tup vs) hb
  refine k _ _ _ _ _ _ x (s.step x (s.s.froz hb)) ?_ h
  unfold mkTup
  cases q : asDs ws with
  | none => exact .tup (SqT.of upd_same) z ((RepWs.of p).mono x)
  | some xs => exact .d (.tup (SqT.of upd_same) z ((asDs_rep (.of p) q).mono x.1))
/-- a new list of values, some of them containers -/
@[simp] def newLW (o : Bool) (ws : List W) (mu : Sto) (Q : W → Sto → Prop) : Prop := match asDs ws with
  | some xs => newL o xs mu Q
  | none => Q (.loc mu.length) (mu ++ [.lstW ws])
theorem newLW_ok {o : Bool} {ws : List W} {vs : List V} {Qd : W → Sto → Prop} {Q : VK} {rh : Ev} {si : L2.St} (s : SR K G B F H al rh si mu) (p : Paired (RepW K F al) ws vs) (z : vs.length ≤ sizeLine) (h : newLW o ws mu Qd)
    (k : ∀ F' H' al' mu' w v, Ext F al F' al' → SR K G B F' H' al' rh si mu' → RepW K F' al' w v → Qd w mu' → Q v H') : ∀ p, H p = none → Q (.ref p) (upd H p (.lst vs)) := by
  unfold newLW at h
  cases q : asDs ws with
  | some xs => rw [q] at h; exact newL_ok s (asDs_rep (.of p) q).p z h k
  | none =>
    rw [q] at h
    intro b hb
    have x := SRS.ownX (F := F) (al := al) (p := b)
    exact k _ _ _ _ _ _ x (s.step x (s.s.own hb (.lstW z p))) (.loc s.s.atNew) h
end

/-! ### names and constants -/
@[simp] def wVar (i : Nat) : WE := fun rh mu Q => match rh[i]? with
  | some (some w) => Q w mu
  | _ => False
@[simp] def wC (x : D) : WE := fun _ mu Q => Q (.d x) mu
section
variable {io : Type} {Y : io → Cx} {P : Program} {w : World} {K : KW} {mg : Str → Option Value} {base : Heap} {N : List Str} {k : Nat} {pos : Pos}
theorem den_var {K : KW} (i : Nat) : Den K (tVar i) (wVar i) := fun G B F H al rh si mu Qd Q s h q => by
  unfold wVar at h
  split at h
  · rename_i w e
    obtain ⟨v, e1, r⟩ := s.env i w e
    exact ⟨v, e1, q F H al mu w v (Ext.refl _ _) s r h⟩
  · exact h.elim
theorem ve_v (y : YOk Y P w K mg base N k) (i : Nat) {x : Str} (hN : N[i]? = some x := by rfl) (hv : ∀ j, Vis (Y j).env.scope x := by first | exact fun _ => Or.inl rfl | exact fun _ => Or.inr (Or.inl rfl) | exact fun _ => Or.inr (Or.inr rfl))
    (hd : (x == ("__debug__" : Str)) = false := by decide) (hcd : (x == ("__classdict__" : Str)) = false := by decide) : VE Y K (.Name x pos) (wVar i) :=
  ⟨tVar i, fun j => pe_var (by rw [y.hN j]; exact hN) (hv j) hd hcd, den_var i⟩
theorem den_c {K : KW} {x : D} {v : V} (h : ∀ F, RepD K F x v) : Den K (tC v) (wC x) := fun G B F H al rh si mu Qd Q s hq q => q F H al mu _ v (Ext.refl _ _) s (.d (h F)) hq
theorem ve_int {i : Int} {j} : VE Y K (.Constant (.int i) j pos) (wC (.int i)) := ⟨_, fun _ => pe_int, den_c fun _ => .int i⟩
theorem ve_bl {b : Bool} {j} : VE Y K (.Constant (.bool b) j pos) (wC (.bl b)) := ⟨_, fun _ => pe_bl, den_c fun _ => .bl b⟩
theorem ve_non {j} : VE Y K (.Constant .none j pos) (wC .non) := ⟨_, fun _ => pe_non, den_c fun _ => .non⟩
theorem ve_str {x : Str} {j} (h : StrOk x := by exact ⟨by decide +kernel, by decide +kernel⟩) : VE Y K (.Constant (.str x) j pos) (wC (.str x)) := ⟨_, fun _ => pe_str, den_c fun _ => .str x h⟩
/-- a module's constant -/
theorem ve_globC (y : YOk Y P w K mg base N k) {x : Str} {d : D} {v : V} {u : Value} (hm : mg x = some u) (r : RelV v u) (h : ∀ F, RepD K F d v) (hg : ∀ j, Gl (Y j) x := by exact fun _ => rfl) (hd : (x == ("__debug__" : Str)) = false := by decide) : VE Y K (.Name x pos) (wC d) :=
  ⟨tC v, fun j => pe_glob (hg j) (by rw [y.hmg j]; exact hm) r hd, den_c h⟩
theorem ve_glob (y : YOk Y P w K mg base N k) {x : Str} {d : D} (h : ∃ v u, mg x = some u ∧ L2.RelV v u ∧ ∀ F, RepD K F d v) (hg : ∀ j, Gl (Y j) x := by exact fun _ => rfl) (hd : (x == ("__debug__" : Str)) = false := by decide) : VE Y K (.Name x pos) (wC d) := by
  obtain ⟨v, u, h1, h2, h3⟩ := h
  exact ve_globC y h1 h2 h3 hg hd
/-- a built-in type as a value -/
@[simp] def wTy (n : String) : WE := fun _ mu Q => Q (.ty n) mu
theorem ve_ty (y : YOk Y P w K mg base N k) {x : Str} {n : String} (hm : mg x = none) (hv : bootBuiltins x = some (.type n) := by decide +kernel) (hg : ∀ j, Gl (Y j) x := by exact fun _ => rfl) (hn : x ≠ "__name__" := by decide) (hd : (x == ("__debug__" : Str)) = false := by decide) : VE Y K (.Name x pos) (wTy n) :=
  ⟨tC (.ty n), fun j => pe_bltn (hg j) (by rw [y.hmg j]; exact hm) hv rfl hn hd, fun G B F H al rh si mu Qd Q s hq q => q F H al mu _ _ (Ext.refl _ _) s (.ty n) hq⟩
end

/-! ### operators -/
abbrev F2 := Sto → W → W → (W → Sto → Prop) → Prop
@[simp] def wOp (f : F2) (a b : WE) : WE := fun rh mu Q => a rh mu fun x mu1 => b rh mu1 fun y mu2 => f mu2 x y Q
def OpD (K : KW) (r : R2) (f : F2) : Prop := ∀ (G B F H : Hp) (al : List Addr) (rh : Ev) (si : L2.St) (mu : Sto) (x y : W) (vx vy : V) (Qd : W → Sto → Prop) (Q : VK), SR K G B F H al rh si mu → RepW K F al x vx → RepW K F al y vy → f mu x y Qd →
  (∀ F' H' al' mu' w v, Ext F al F' al' → SR K G B F' H' al' rh si mu' → RepW K F' al' w v → Qd w mu' → Q v H') → r vx vy H Q
section
variable {io : Type} {Y : io → Cx} {P : Program} {w : World} {K : KW} {mg : Str → Option Value} {base : Heap} {N : List Str} {k : Nat} {pos : Pos} {a b : Expr} {wa wb : WE}
theorem den_op {ta tb : TE} {r : R2} {f : F2} (hd : OpD K r f) (ha : Den K ta wa) (hb : Den K tb wb) : Den K (tOp r ta tb) (wOp f wa wb) := fun G B F H al rh si mu Qd Q s h q => by
  refine ha G B F H al rh si mu _ _ s h fun F1 H1 al1 mu1 x vx e1 s1 r1 h1 => ?_
  refine hb G B F1 H1 al1 rh si mu1 _ _ s1 h1 fun F2 H2 al2 mu2 y vy e2 s2 r2 h2 => ?_
  exact hd G B F2 H2 al2 rh si mu2 x y vx vy Qd Q s2 (r1.mono e2) r2 h2 fun F3 H3 al3 mu3 z vz e3 s3 r3 h3 => q F3 H3 al3 mu3 z vz ((e1.trans e2).trans e3) s3 r3 h3
theorem ve_op {op : Operator} {r : R2} {f : F2} (ho : ∀ i, OpR (Y i) (binaryOp op) r) (hd : OpD K r f) (ha : VE Y K a wa) (hb : VE Y K b wb) : VE Y K (.BinOp a op b pos) (wOp f wa wb) := by
  obtain ⟨ta, p1, d1⟩ := ha
  obtain ⟨tb, p2, d2⟩ := hb
  exact ⟨_, fun i => pe_op (ho i) (p1 i) (p2 i), den_op hd d1 d2⟩

/-- two ints -/
@[simp] def fI (C : Int → Int → Prop) (g : Int → Int → Int) : F2 := fun mu x y Q => match x, y with
  | .d (.int i), .d (.int j) => C i j ∧ Q (.d (.int (g i j))) mu
  | _, _ => False
@[simp] def fI0 (g : Int → Int → Int) : F2 := fun mu x y Q => match x, y with
  | .d (.int i), .d (.int j) => Q (.d (.int (g i j))) mu
  | _, _ => False
@[simp] def fB0 (g : Int → Int → Bool) : F2 := fun mu x y Q => match x, y with
  | .d (.int i), .d (.int j) => Q (.d (.bl (g i j))) mu
  | _, _ => False
theorem repInt {F : Hp} {al : List Addr} {i : Int} {v : V} (r : RepW K F al (.d (.int i)) v) : v = .int i := by
  cases r with
  | d r => cases r; rfl
theorem repStr {F : Hp} {al : List Addr} {x : Str} {v : V} (r : RepW K F al (.d (.str x)) v) : v = .str x ∧ StrOk x := by
  cases r with
  | d r => cases r with
    | str _ h => exact ⟨rfl, h⟩
theorem repBl {F : Hp} {al : List Addr} {x : Bool} {v : V} (r : RepW K F al (.d (.bl x)) v) : v = .bl x := by
  cases r with
  | d r => cases r; rfl
theorem repNon {F : Hp} {al : List Addr} {v : V} (r : RepW K F al (.d .non) v) : v = .non := by
  cases r with
  | d r => cases r; rfl
theorem opd_I {C : Int → Int → Prop} {g : Int → Int → Int} : OpD K (rI C fun i j => .int (g i j)) (fI C g) := fun G B F H al rh si mu x y vx vy Qd Q s r1 r2 h q => by
  unfold fI at h
  split at h
  · rename_i i j
    cases repInt r1
    cases repInt r2
    exact ⟨i, j, rfl, rfl, h.1, q F H al mu _ _ (Ext.refl _ _) s (.d (.int _)) h.2⟩
  · exact h.elim
theorem opd_I0 {g : Int → Int → Int} : OpD K (rI0 fun i j => .int (g i j)) (fI0 g) := fun G B F H al rh si mu x y vx vy Qd Q s r1 r2 h q => by
  unfold fI0 at h
  split at h
  · rename_i i j
    cases repInt r1
    cases repInt r2
    exact ⟨i, j, rfl, rfl, q F H al mu _ _ (Ext.refl _ _) s (.d (.int _)) h⟩
  · exact h.elim
theorem opd_B0 {g : Int → Int → Bool} : OpD K (rI0 fun i j => .bl (g i j)) (fB0 g) := fun G B F H al rh si mu x y vx vy Qd Q s r1 r2 h q => by
  unfold fB0 at h
  split at h
  · rename_i i j
    cases repInt r1
    cases repInt r2
    exact ⟨i, j, rfl, rfl, q F H al mu _ _ (Ext.refl _ _) s (.d (.bl _)) h⟩
  · exact h.elim
end
/-! ints of any size -/
def CM (i j : Int) : Prop := CMul i j ∨ CMulW i j
theorem CM.ok {i j : Int} (h : CM i j) : IntMulOk i j := h.elim CMul.ok CMulW.ok
def CD (_ j : Int) : Prop := j ≠ 0 ∧ j.natAbs.log2 < 9000
@[simp] def CR0 (_ j : Int) : Prop := j ≠ 0
def gDiv (i j : Int) : Int := if 0 < j then i / j else i.fdiv j
def gMod (i j : Int) : Int := if 0 < j then i % j else i.fmod j
theorem gDiv_eq (i j : Int) : gDiv i j = i.fdiv j := by
  unfold gDiv
  split
  · rw [Int.fdiv_eq_ediv_of_nonneg i (by omega)]
  · rfl
theorem gMod_eq (i j : Int) : gMod i j = i.fmod j := by
  unfold gMod
  split
  · rw [Int.fmod_eq_emod_of_nonneg i (by omega)]
  · rfl
section
variable {X : Cx}
theorem opr_mul : OpR X (binaryOp .Mult) (rI CM fun i j => .int (i * j)) := opI fun _ _ _ _ _ _ _ hc q => mul_int q hc.ok
theorem opr_div : OpR X (binaryOp .FloorDiv) (rI CD fun i j => .int (gDiv i j)) := opI fun i j _ _ _ _ _ hc q => by
  exact floordiv_int hc.1 (by rw [← gDiv_eq]; exact q) (.inl (PyProof.noPylong_of_log2 hc.2))
theorem opr_mod : OpR X (binaryOp .Mod) (rI CR0 fun i j => .int (gMod i j)) := opI fun i j _ _ _ _ _ hc q => by
  exact mod_int' hc (by rw [← gMod_eq]; exact q)
end
end VL
namespace VL
open PySem PySem.Spec PyProof.Rows L2

/-! ### lists that are read, by their ways -/
section
variable {X : Cx} {pins : List (Addr × Obj)} {si : L2.St} {H : Hp} {s : Shared} {l : Addr} {xs : List V}
theorem Inv_lstR (I : Inv X pins si H s) (h : Rd H l (.lst xs)) : xs.length ≤ sizeLine ∧ ∃ (its : List Value) (n : Nat), Vals xs its ∧ xs.length = its.length ∧ s.heap.get? l = some { cls := .type "list", data := .seq its.toArray n } := by
  obtain ⟨z, its, n, r, e⟩ := h.ok I.hok
  exact ⟨z, its, n, r, r.length, e⟩
end
section
variable {X : Cx}
def rCat2 : R2 := fun x y H Q => ∃ l b xs zs, x = .ref l ∧ y = .ref b ∧ Rd H l (.lst xs) ∧ Rd H b (.lst zs) ∧ xs.length + zs.length ≤ sizeLine ∧ ∀ p, H p = none → Q (.ref p) (upd H p (.lst (xs ++ zs)))
theorem opr_cat : OpR X (binaryOp .Add) rCat2 := by
  intro pins s σ H x y v u Q I rx ry h
  obtain ⟨l, b, xs, zs, rfl, rfl, hH, hB, hz, q⟩ := h
  cases rx
  cases ry
  obtain ⟨z, its, n, r, hl, e⟩ := Inv_lstR I hH
  obtain ⟨z2, its2, n2, r2, hl2, e2⟩ := Inv_lstR I hB
  refine PySem.P.add_list e e2 ?_ (by rw [List.size_toArray, List.size_toArray]; omega)
  have ea : its.toArray ++ its2.toArray = (its ++ its2).toArray := by simp
  rw [ea]
  exact ⟨.ref _, _, I.lnew (t' := s.toks) (r.append r2) (by rw [List.length_append]; omega), rfl, q _ I.fresh⟩
def rRep2 : R2 := fun x y H Q => ∃ l k xs, x = .ref l ∧ y = .int k ∧ Rd H l (.lst xs) ∧ -(2 ^ 63) ≤ k ∧ k < 2 ^ 63 ∧ xs.length * k.toNat ≤ sizeLine ∧
  ∀ p, H p = none → Q (.ref p) (upd H p (.lst (List.replicate k.toNat xs).flatten))
theorem opr_rep : OpR X (binaryOp .Mult) rRep2 := by
  intro pins s σ H x y v u Q I rx ry h
  obtain ⟨l, k, xs, rfl, rfl, hH, h1, h2, hz, q⟩ := h
  cases rx
  obtain ⟨t, rfl⟩ := ry
  obtain ⟨z, its, n, r, hl, e⟩ := Inv_lstR I hH
  have hlen : its.toArray.size * k.toNat ≤ sizeLine := by rw [List.size_toArray, ← hl]; exact hz
  have hcap : ¬ its.toArray.size * k.toNat > (2 ^ 63 - 1) / 8 := by
    have : (sizeLine : Nat) ≤ (2 ^ 63 - 1) / 8 := by decide
    omega
  have hfit : ¬ (!Builtin.List.listFitsIndex k) = true := by
    rw [fitsIndex_both h1 h2]
    exact Bool.false_ne_true
  have hlong : ¬ Builtin.List.listTooLong (its.toArray.size * k.toNat) = true := by
    rw [notLongL hlen]
    exact Bool.false_ne_true
  have hnew : List.foldl (fun x1 x2 => x1 ++ x2) #[] (List.replicate (if its.toArray.isEmpty = true then 0 else k.toNat) its.toArray) = (List.replicate k.toNat its).flatten.toArray := by
    have f0 : ∀ m : Nat, List.foldl (fun x1 x2 => x1 ++ x2) #[] (List.replicate m its.toArray) = (List.replicate m its).flatten.toArray := fun m => by
      have := foldl_rep its m []
      rw [List.nil_append] at this
      exact this
    rw [f0]
    cases its with
    | nil => simp
    | cons a r' => rw [if_neg (by simp)]
  refine wpAny_binaryOp_repeat_ref (T := "list") (U := "int") (by decide) ⟨_, e, rfl⟩ (fun s' => typeIs_int s' k t) noFill_list_mul F.fills_int_mul F.slot_int_rmul repeat_list F.slot_int_index.lookup
    (call_meets F.slot_int_rmul (typeIs_int s k t) F.entry_int_rmul (F.args_int_rmul_2 _ _) (int___rmul___int_list k t l its.toArray n)
      ⟨e, rfl, ⟨_, e, rfl⟩, call_meets F.slot_list_mul ⟨_, e, rfl⟩ F.entry_list_mul (F.args_list_mul_2 _ _) (AutoListH.list___mul___list_int_3 l its.toArray n k t hfit hcap hlong) ⟨e, ?_⟩⟩)
  rw [hnew]
  exact ⟨.ref _, _, I.lnew (t' := s.toks) (r.rep k.toNat) (by rw [PyProof.Rows.lm_len_rep_flat, Nat.mul_comm]; exact hz), rfl, q _ I.fresh⟩
theorem opr_add : OpR X (binaryOp .Add) (fun x y H Q => (∃ i j, x = .int i ∧ y = .int j ∧ Q (.int (i + j)) H) ∨ (∃ i j, x = .str i ∧ y = .str j ∧ i.length + j.length ≤ sizeLine ∧ Q (.str (i ++ j)) H) ∨ rCat2 x y H Q ∨ rCatT X.K x y H Q) :=
  op_add.or (op_add_str.or (opr_cat.or op_catT))
theorem opr_mulA : OpR X (binaryOp .Mult) (fun x y H Q => rI CM (fun i j => .int (i * j)) x y H Q ∨ rRep2 x y H Q) := opr_mul.or opr_rep
end

/-- the items of a list -/
@[simp] def lsD (mu : Sto) : W → Option (List D)
  | .d (.lst xs) => some xs
  | .loc k => match mu[k]? with
    | some (.lst xs) => some xs
    | _ => none
  | _ => none
section
variable {K : KW} {G B F F' H H' : Hp} {al al' : List Addr} {mu mu' : Sto} {rh : Ev} {si : L2.St}
theorem lsD_rep {w : W} {v : V} {xs : List D} (s : SRS K G B F H al mu) (r : RepW K F al w v) (e : lsD mu w = some xs) : ∃ a vs, v = .ref a ∧ Rd H a (.lst vs) ∧ vs.length ≤ sizeLine ∧ Paired (RepD K F) xs vs := by
  unfold lsD at e
  split at e
  · cases e
    cases r with
    | d r => cases r with
      | lst q z p => exact ⟨_, _, rfl, rdMono s.fz q, z, p.p⟩
  · rename_i k
    split at e
    · rename_i q
      cases e
      cases r with
      | loc ea =>
        obtain ⟨vs, h, z, p⟩ := s.lstAt q ea
        exact ⟨_, vs, rfl, Rd.of h, z, p⟩
    · cases e
  · cases e
theorem repTup {xs : List D} {v : V} (r : RepW K F al (.d (.tup xs)) v) : ∃ a vs, v = .ref a ∧ SqT K F a vs ∧ vs.length ≤ sizeLine ∧ Paired (RepD K F) xs vs := by
  cases r with
  | d r => cases r with
    | tup q z p => exact ⟨_, _, rfl, q, z, p.p⟩
theorem strOk_app {x y : Str} (hx : StrOk x) (hy : StrOk y) (h : x.length + y.length ≤ sizeLine) : StrOk (x ++ y) := by
  have e : (x ++ y).cps = x.cps ++ y.cps := rfl
  refine ⟨?_, ?_⟩
  · have h1 := hx.1
    have h2 := hy.1
    unfold PyData.strOk at h1 h2 ⊢
    rw [e, Array.all_append, h1, h2]; rfl
  · show (x ++ y).cps.size ≤ _
    rw [e, Array.size_append]; exact h
@[simp] def fAdd (o : Bool) : F2 := fun mu x y Q => match x, y with
  | .d (.int i), .d (.int j) => Q (.d (.int (i + j))) mu
  | .d (.str a), .d (.str b) => a.length + b.length ≤ sizeLine ∧ Q (.d (.str (a ++ b))) mu
  | .d (.tup xs), .d (.tup ys) => xs ≠ [] ∧ xs.length + ys.length ≤ sizeLine ∧ Q (.d (.tup (xs ++ ys))) mu
  | x, y => match lsD mu x, lsD mu y with
    | some xs, some ys => xs.length + ys.length ≤ sizeLine ∧ newL o (xs ++ ys) mu Q
    | _, _ => False
theorem opd_add (o : Bool) : OpD K (fun x y H Q => (∃ i j, x = .int i ∧ y = .int j ∧ Q (.int (i + j)) H) ∨ (∃ i j, x = .str i ∧ y = .str j ∧ i.length + j.length ≤ sizeLine ∧ Q (.str (i ++ j)) H) ∨ rCat2 x y H Q ∨ rCatT K x y H Q) (fAdd o) :=
  fun G B F H al rh si mu x y vx vy Qd Q s r1 r2 h q => by
  unfold fAdd at h
  split at h
  · cases repInt r1
    cases repInt r2
    exact .inl ⟨_, _, rfl, rfl, q F H al mu _ _ (Ext.refl _ _) s (.d (.int _)) h⟩
  · obtain ⟨rfl, h1⟩ := repStr r1
    obtain ⟨rfl, h2⟩ := repStr r2
    exact .inr (.inl ⟨_, _, rfl, rfl, h.1, q F H al mu _ _ (Ext.refl _ _) s (.d (.str _ (strOk_app h1 h2 h.1))) h.2⟩)
  · rename_i xs ys
    obtain ⟨a, vs, rfl, q1, z1, p1⟩ := repTup r1
    obtain ⟨b, us, rfl, q2, z2, p2⟩ := repTup r2
    obtain ⟨hn, hl, hq⟩ := h
    have e1 := Paired.length p1
    have e2 := Paired.length p2
    refine .inr (.inr (.inr ⟨a, b, vs, us, rfl, rfl, sqtMono s.s.fz q1, sqtMono s.s.fz q2, fun e => hn ?_, by omega, fun e => ?_, fun _ => ?_⟩))
    · subst e; cases p1; rfl
    · subst e
      cases p2
      rw [List.append_nil] at hq
      exact q F H al mu _ _ (Ext.refl _ _) s r1 hq
    · have hx := newT_ok (ws := (xs ++ ys).map W.d) (vs := vs ++ us) (Qd := fun _ mu => Qd (.d (.tup (xs ++ ys))) mu) (Q := Q) s
      intro p hp
      have x := s.s.frozX (o := .tup (vs ++ us)) hp
      exact q _ _ _ _ _ _ x (s.step x (s.s.froz hp)) (.d (.tup (SqT.of upd_same) (by rw [List.length_append]; omega) ((RepDs.of (pApp p1 p2)).mono x.1))) hq
  · split at h
    · rename_i e1 e2
      obtain ⟨a, vs, rfl, q1, z1, p1⟩ := lsD_rep s.s r1 e1
      obtain ⟨b, us, rfl, q2, z2, p2⟩ := lsD_rep s.s r2 e2
      have l1 := Paired.length p1
      have l2 := Paired.length p2
      exact .inr (.inr (.inl ⟨a, b, vs, us, rfl, rfl, q1, q2, by have := h.1; omega, newL_ok s (pApp p1 p2) (by rw [List.length_append]; have := h.1; omega) h.2 q⟩))
    · exact h.elim
@[simp] def fMul (o : Bool) : F2 := fun mu x y Q => match x, y with
  | .d (.int i), .d (.int j) => CM i j ∧ Q (.d (.int (i * j))) mu
  | x, .d (.int k) => match lsD mu x with
    | some xs => -(2 ^ 63) ≤ k ∧ k < 2 ^ 63 ∧ xs.length * k.toNat ≤ sizeLine ∧ newL o (List.replicate k.toNat xs).flatten mu Q
    | _ => False
  | _, _ => False
theorem opd_mul (o : Bool) : OpD K (fun x y H Q => rI CM (fun i j => .int (i * j)) x y H Q ∨ rRep2 x y H Q) (fMul o) := fun G B F H al rh si mu x y vx vy Qd Q s r1 r2 h q => by
  unfold fMul at h
  split at h
  · cases repInt r1
    cases repInt r2
    exact .inl ⟨_, _, rfl, rfl, h.1, q F H al mu _ _ (Ext.refl _ _) s (.d (.int _)) h.2⟩
  · cases repInt r2
    split at h
    · rename_i e1
      obtain ⟨a, vs, rfl, q1, z1, p1⟩ := lsD_rep s.s r1 e1
      have l1 := Paired.length p1
      obtain ⟨h1, h2, h3, h4⟩ := h
      exact .inr ⟨a, _, vs, rfl, rfl, q1, h1, h2, by rw [← l1]; exact h3, newL_ok s (pRep p1 _) (by rw [PyProof.Rows.lm_len_rep_flat, Nat.mul_comm, ← l1]; exact h3) h4 q⟩
    · exact h.elim
  · exact h.elim
end

/-! ### the operators, ready -/
section
variable {io : Type} {Y : io → Cx} {P : Program} {w : World} {K : KW} {mg : Str → Option Value} {base : Heap} {N : List Str} {k : Nat} {pos : Pos} {a b : Expr} {wa wb : WE}
theorem ve_add (y : YOk Y P w K mg base N k) (o : Bool) (ha : VE Y K a wa) (hb : VE Y K b wb) : VE Y K (.BinOp a .Add b pos) (wOp (fAdd o) wa wb) := ve_op (fun i => by rw [← y.hK i]; exact opr_add) (opd_add o) ha hb
theorem ve_sub (ha : VE Y K a wa) (hb : VE Y K b wb) : VE Y K (.BinOp a .Sub b pos) (wOp (fI0 fun i j => i - j) wa wb) := ve_op (fun i => op_sub) opd_I0 ha hb
theorem ve_mul (o : Bool) (ha : VE Y K a wa) (hb : VE Y K b wb) : VE Y K (.BinOp a .Mult b pos) (wOp (fMul o) wa wb) := ve_op (fun i => opr_mulA) (opd_mul o) ha hb
theorem ve_fdiv (ha : VE Y K a wa) (hb : VE Y K b wb) : VE Y K (.BinOp a .FloorDiv b pos) (wOp (fI CD gDiv) wa wb) := ve_op (fun i => opr_div) opd_I ha hb
theorem ve_mod (ha : VE Y K a wa) (hb : VE Y K b wb) : VE Y K (.BinOp a .Mod b pos) (wOp (fI CR0 gMod) wa wb) := ve_op (fun i => opr_mod) opd_I ha hb
theorem ve_pow (ha : VE Y K a wa) (hb : VE Y K b wb) : VE Y K (.BinOp a .Pow b pos) (wOp (fI CPow fun i j => i ^ j.toNat) wa wb) := ve_op (fun i => op_pow) opd_I ha hb
theorem ve_shl (ha : VE Y K a wa) (hb : VE Y K b wb) : VE Y K (.BinOp a .LShift b pos) (wOp (fI CShl fun i j => i * 2 ^ j.toNat) wa wb) := ve_op (fun i => op_shlW) opd_I ha hb
theorem ve_or (ha : VE Y K a wa) (hb : VE Y K b wb) : VE Y K (.BinOp a .BitOr b pos) (wOp (fI0 Builtin.bitOr) wa wb) := ve_op (fun i => op_or) opd_I0 ha hb
@[simp] def wUn (g : Int → Int) (a : WE) : WE := fun rh mu Q => a rh mu fun x mu1 => match x with
  | .d (.int i) => Q (.d (.int (g i))) mu1
  | _ => False
theorem ve_un {op : UnaryOp} {g : Int → Int} (ho : ∀ i, UnR (Y i) (unaryOp op) (rU fun i => .int (g i))) (ha : VE Y K a wa) : VE Y K (.UnaryOp op a pos) (wUn g wa) := by
  obtain ⟨ta, p1, d1⟩ := ha
  refine ⟨_, fun i => pe_un (ho i) (p1 i), fun G B F H al rh si mu Qd Q s h q => ?_⟩
  refine d1 G B F H al rh si mu _ _ s h fun F1 H1 al1 mu1 x vx e1 s1 r1 h1 => ?_
  split at h1
  · cases repInt r1
    exact ⟨_, rfl, q F1 H1 al1 mu1 _ _ e1 s1 (.d (.int _)) h1⟩
  · exact h1.elim
theorem ve_neg (ha : VE Y K a wa) : VE Y K (.UnaryOp .USub a pos) (wUn (fun i => -i) wa) := ve_un (fun _ => un_neg) ha
end

/-! ### equality of data -/
mutual
def deqv : D → D → Bool
  | .non, .non => true
  | .bl a, .bl b => a == b
  | .bl a, .int j => (if a then 1 else 0) == j
  | .int i, .bl b => i == (if b then 1 else 0)
  | .int i, .int j => i == j
  | .str x, .str y => x == y
  | .lst xs, .lst ys => deqvs xs ys
  | .tup xs, .tup ys => deqvs xs ys
  | .non, .bl _ | .non, .int _ | .non, .str _ | .non, .lst _ | .non, .tup _ => false
  | .bl _, .non | .bl _, .str _ | .bl _, .lst _ | .bl _, .tup _ => false
  | .int _, .non | .int _, .str _ | .int _, .lst _ | .int _, .tup _ => false
  | .str _, .non | .str _, .bl _ | .str _, .int _ | .str _, .lst _ | .str _, .tup _ => false
  | .lst _, .non | .lst _, .bl _ | .lst _, .int _ | .lst _, .str _ | .lst _, .tup _ => false
  | .tup _, .non | .tup _, .bl _ | .tup _, .int _ | .tup _, .str _ | .tup _, .lst _ => false
  | .scr _, _ => false
  | .non, .scr _ | .bl _, .scr _ | .int _, .scr _ | .str _, .scr _ | .lst _, .scr _ | .tup _, .scr _ => false
def deqvs : List D → List D → Bool
  | [], [] => true
  | x :: xs, y :: ys => deqv x y && deqvs xs ys
  | [], _ :: _ => false
  | _ :: _, [] => false
end
mutual
def toP : D → PyData
  | .non => .none
  | .bl b => .bool b
  | .int i => .int i
  | .str x => .str x
  | .lst xs => .list (toPs xs)
  | .tup xs => .tuple (toPs xs)
  | .scr _ => .dict []
def toPs : List D → List PyData
  | [] => []
  | x :: xs => toP x :: toPs xs
end
mutual
@[simp] def ddep : D → Nat
  | .lst xs | .tup xs => ddeps xs + 1
  | .non | .bl _ | .int _ | .str _ => 0
  | .scr _ => 1000
@[simp] def ddeps : List D → Nat
  | [] => 0
  | x :: xs => max (ddep x) (ddeps xs)
end
@[simp] theorem deqv_non_non : deqv .non .non = true := by simp only [deqv]
@[simp] theorem deqv_non_bl {b2 : Bool} : deqv .non (.bl b2) = false := by simp only [deqv]
@[simp] theorem deqv_non_int {i2 : Int} : deqv .non (.int i2) = false := by simp only [deqv]
@[simp] theorem deqv_non_str {x2 : Str} : deqv .non (.str x2) = false := by simp only [deqv]
@[simp] theorem deqv_non_lst {xs2 : List D} : deqv .non (.lst xs2) = false := by simp only [deqv]
@[simp] theorem deqv_non_tup {xs2 : List D} : deqv .non (.tup xs2) = false := by simp only [deqv]
@[simp] theorem deqv_bl_non {b1 : Bool} : deqv (.bl b1) .non = false := by simp only [deqv]
@[simp] theorem deqv_bl_bl {b1 : Bool} {b2 : Bool} : deqv (.bl b1) (.bl b2) = (b1 == b2) := by simp only [deqv]
@[simp] theorem deqv_bl_int {b1 : Bool} {i2 : Int} : deqv (.bl b1) (.int i2) = ((if b1 then 1 else 0) == i2) := by simp only [deqv]
@[simp] theorem deqv_bl_str {b1 : Bool} {x2 : Str} : deqv (.bl b1) (.str x2) = false := by simp only [deqv]
@[simp] theorem deqv_bl_lst {b1 : Bool} {xs2 : List D} : deqv (.bl b1) (.lst xs2) = false := by simp only [deqv]
@[simp] theorem deqv_bl_tup {b1 : Bool} {xs2 : List D} : deqv (.bl b1) (.tup xs2) = false := by simp only [deqv]
@[simp] theorem deqv_int_non {i1 : Int} : deqv (.int i1) .non = false := by simp only [deqv]
@[simp] theorem deqv_int_bl {i1 : Int} {b2 : Bool} : deqv (.int i1) (.bl b2) = (i1 == (if b2 then 1 else 0)) := by simp only [deqv]
@[simp] theorem deqv_int_int {i1 : Int} {i2 : Int} : deqv (.int i1) (.int i2) = (i1 == i2) := by simp only [deqv]
@[simp] theorem deqv_int_str {i1 : Int} {x2 : Str} : deqv (.int i1) (.str x2) = false := by simp only [deqv]
@[simp] theorem deqv_int_lst {i1 : Int} {xs2 : List D} : deqv (.int i1) (.lst xs2) = false := by simp only [deqv]
@[simp] theorem deqv_int_tup {i1 : Int} {xs2 : List D} : deqv (.int i1) (.tup xs2) = false := by simp only [deqv]
@[simp] theorem deqv_str_non {x1 : Str} : deqv (.str x1) .non = false := by simp only [deqv]
@[simp] theorem deqv_str_bl {x1 : Str} {b2 : Bool} : deqv (.str x1) (.bl b2) = false := by simp only [deqv]
@[simp] theorem deqv_str_int {x1 : Str} {i2 : Int} : deqv (.str x1) (.int i2) = false := by simp only [deqv]
@[simp] theorem deqv_str_str {x1 : Str} {x2 : Str} : deqv (.str x1) (.str x2) = (x1 == x2) := by simp only [deqv]
@[simp] theorem deqv_str_lst {x1 : Str} {xs2 : List D} : deqv (.str x1) (.lst xs2) = false := by simp only [deqv]
@[simp] theorem deqv_str_tup {x1 : Str} {xs2 : List D} : deqv (.str x1) (.tup xs2) = false := by simp only [deqv]
@[simp] theorem deqv_lst_non {xs1 : List D} : deqv (.lst xs1) .non = false := by simp only [deqv]
@[simp] theorem deqv_lst_bl {xs1 : List D} {b2 : Bool} : deqv (.lst xs1) (.bl b2) = false := by simp only [deqv]
@[simp] theorem deqv_lst_int {xs1 : List D} {i2 : Int} : deqv (.lst xs1) (.int i2) = false := by simp only [deqv]
@[simp] theorem deqv_lst_str {xs1 : List D} {x2 : Str} : deqv (.lst xs1) (.str x2) = false := by simp only [deqv]
@[simp] theorem deqv_lst_lst {xs1 : List D} {xs2 : List D} : deqv (.lst xs1) (.lst xs2) = deqvs xs1 xs2 := by simp only [deqv]
@[simp] theorem deqv_lst_tup {xs1 : List D} {xs2 : List D} : deqv (.lst xs1) (.tup xs2) = false := by simp only [deqv]
@[simp] theorem deqv_tup_non {xs1 : List D} : deqv (.tup xs1) .non = false := by simp only [deqv]
@[simp] theorem deqv_tup_bl {xs1 : List D} {b2 : Bool} : deqv (.tup xs1) (.bl b2) = false := by simp only [deqv]
@[simp] theorem deqv_tup_int {xs1 : List D} {i2 : Int} : deqv (.tup xs1) (.int i2) = false := by simp only [deqv]
@[simp] theorem deqv_tup_str {xs1 : List D} {x2 : Str} : deqv (.tup xs1) (.str x2) = false := by simp only [deqv]
@[simp] theorem deqv_tup_lst {xs1 : List D} {xs2 : List D} : deqv (.tup xs1) (.lst xs2) = false := by simp only [deqv]
@[simp] theorem deqv_tup_tup {xs1 : List D} {xs2 : List D} : deqv (.tup xs1) (.tup xs2) = deqvs xs1 xs2 := by simp only [deqv]
@[simp] theorem deqvs_nil : deqvs [] [] = true := by simp only [deqvs]
@[simp] theorem deqvs_cons {x y : D} {xs ys : List D} : deqvs (x :: xs) (y :: ys) = (deqv x y && deqvs xs ys) := by simp only [deqvs]
@[simp] theorem deqvs_nc {y : D} {ys : List D} : deqvs [] (y :: ys) = false := by simp only [deqvs]
@[simp] theorem deqvs_cn {y : D} {ys : List D} : deqvs (y :: ys) [] = false := by simp only [deqvs]
mutual
theorem deqv_refl : ∀ (d : D), ddep d < 1000 → deqv d d = true
  | .non, _ => by simp
  | .bl _, _ => by simp
  | .int _, _ => by simp
  | .str _, _ => by simp
  | .lst xs, h => by rw [deqv_lst_lst]; exact deqvs_refl xs (by simp only [ddep] at h; omega)
  | .tup xs, h => by rw [deqv_tup_tup]; exact deqvs_refl xs (by simp only [ddep] at h; omega)
  | .scr _, h => by simp at h
theorem deqvs_refl : ∀ (xs : List D), ddeps xs < 1000 → deqvs xs xs = true
  | [], _ => by simp
  | x :: xs, h => by
    simp only [ddeps] at h
    rw [deqvs_cons, deqv_refl x (by omega), deqvs_refl xs (by omega)]; rfl
end
mutual
theorem toP_eqv : ∀ x y : D, PyData.eqv (toP x) (toP y) = deqv x y
  | .non, y => by cases y <;> simp only [toP, PyData.eqv, deqv]
  | .bl _, y => by cases y <;> simp only [toP, PyData.eqv, deqv]
  | .int _, y => by cases y <;> simp only [toP, PyData.eqv, deqv]
  | .str _, y => by cases y <;> simp only [toP, PyData.eqv, deqv]
  | .lst xs, y => by cases y with
    | lst ys => simp only [toP, PyData.eqv, deqv]; exact toPs_eqv xs ys
    | _ => simp only [toP, PyData.eqv, deqv]
  | .tup xs, y => by cases y with
    | tup ys => simp only [toP, PyData.eqv, deqv]; exact toPs_eqv xs ys
    | _ => simp only [toP, PyData.eqv, deqv]
  | .scr _, y => by cases y <;> simp only [toP, PyData.eqv, deqv]
theorem toPs_eqv : ∀ xs ys : List D, PyData.eqvAll (toPs xs) (toPs ys) = deqvs xs ys
  | [], [] => by simp only [toPs, PyData.eqvAll, deqvs]
  | [], _ :: _ => by simp only [toPs, PyData.eqvAll, deqvs]
  | _ :: _, [] => by simp only [toPs, PyData.eqvAll, deqvs]
  | x :: xs, y :: ys => by simp only [toPs, PyData.eqvAll, deqvs, toP_eqv x y, toPs_eqv xs ys]
end
mutual
theorem toP_dep : ∀ x : D, (toP x).depth ≤ ddep x
  | .non => by simp only [toP, PyData.depth, ddep, Nat.le_refl]
  | .bl _ => by simp only [toP, PyData.depth, ddep, Nat.le_refl]
  | .int _ => by simp only [toP, PyData.depth, ddep, Nat.le_refl]
  | .str _ => by simp only [toP, PyData.depth, ddep, Nat.le_refl]
  | .lst xs => by simp only [toP, PyData.depth, ddep]; exact Nat.succ_le_succ (toPs_dep xs)
  | .tup xs => by simp only [toP, PyData.depth, ddep]; exact Nat.succ_le_succ (toPs_dep xs)
  | .scr _ => by simp only [toP, PyData.depth, PyData.depthKv, ddep]; omega
theorem toPs_dep : ∀ xs : List D, PyData.depthAll (toPs xs) ≤ ddeps xs
  | [] => by simp only [toPs, PyData.depthAll, ddeps, Nat.le_refl]
  | x :: xs => by
    simp only [toPs, PyData.depthAll, ddeps]
    have h1 := toP_dep x
    have h2 := toPs_dep xs
    omega
end
section
variable {K : KW} {G B F F' H H' : Hp} {al al' : List Addr} {mu mu' : Sto} {rh : Ev} {si : L2.St}
mutual
theorem rep_dp : ∀ {x : D} {v : V}, RepD K H x v → ddep x < 1000 → Dp K H v (toP x)
  | _, _, .non, _ => by unfold toP; exact .non
  | _, _, .bl b, _ => by unfold toP; exact .bl b
  | _, _, .int i, _ => by unfold toP; exact .int i
  | _, _, .str x _, _ => by unfold toP; exact .str x
  | _, _, .tup q _ r, h => by unfold toP; exact .tup q (reps_dp r (by unfold ddep at h; omega))
  | _, _, .lst q _ r, h => by unfold toP; exact .lst (.inl q) (reps_dp r (by unfold ddep at h; omega))
  | _, _, .scr _ _, h => by unfold ddep at h; omega
theorem reps_dp : ∀ {xs : List D} {vs : List V}, RepDs K H xs vs → ddeps xs < 1000 → DpAll K H vs (toPs xs)
  | _, _, .nil, _ => by unfold toPs; exact .nil
  | _, _, .cons r t, h => by unfold toPs; exact .cons (rep_dp r (by unfold ddeps at h; omega)) (reps_dp t (by unfold ddeps at h; omega))
end
mutual
theorem rep_lay : ∀ {x : D} {v : V}, RepD K H x v → ddep x < 1000 → (toP x).canLay0 = true
  | _, _, .non, _ => by simp only [toP, PyData.canLay0]
  | _, _, .bl b, _ => by simp only [toP, PyData.canLay0]
  | _, _, .int i, _ => by simp only [toP, PyData.canLay0]
  | _, _, .str x h, _ => by simp only [toP, PyData.canLay0]; exact h.1
  | _, _, .tup q _ r, h => by simp only [toP, PyData.canLay0]; exact reps_lay r (by unfold ddep at h; omega)
  | _, _, .lst q _ r, h => by simp only [toP, PyData.canLay0]; exact reps_lay r (by unfold ddep at h; omega)
  | _, _, .scr _ _, h => by unfold ddep at h; omega
theorem reps_lay : ∀ {xs : List D} {vs : List V}, RepDs K H xs vs → ddeps xs < 1000 → PyData.canLayAll0 (toPs xs) = true
  | _, _, .nil, _ => by simp only [toPs, PyData.canLayAll0]
  | _, _, .cons r t, h => by
    simp only [toPs, PyData.canLayAll0]
    rw [rep_lay r (by unfold ddeps at h; omega), reps_lay t (by unfold ddeps at h; omega)]; rfl
end
theorem rep_shaped {x : D} {v : V} (r : RepD K H x v) (h : ddep x ≤ 64) : SeqAt.shaped (toP x) = true := by
  unfold SeqAt.shaped
  rw [rep_lay r (by omega)]
  have := toP_dep x
  simp only [Bool.true_and, decide_eq_true_eq]
  omega
@[simp] def fEq (neg : Bool) : F2 := fun mu x y Q => match snap mu x, snap mu y with
  | some a, some b => ddep a ≤ 64 ∧ ddep b ≤ 64 ∧ Q (.d (.bl (if neg then !deqv a b else deqv a b))) mu
  | _, _ => False
theorem opd_eq : OpD K (rEqD K) (fEq false) := fun G B F H al rh si mu x y vx vy Qd Q s r1 r2 h q => by
  unfold fEq at h
  split at h
  · rename_i a b e1 e2
    have p1 := snap_rep s.s r1 e1
    have p2 := snap_rep s.s r2 e2
    exact ⟨_, _, rep_dp p1 (by have := h.1; omega), rep_dp p2 (by have := h.2.1; omega), rep_shaped p1 h.1, rep_shaped p2 h.2.1, by rw [toP_eqv]; exact q F H al mu _ _ (Ext.refl _ _) s (.d (.bl _)) h.2.2⟩
  · exact h.elim
theorem opd_ne : OpD K (rNeD K) (fEq true) := fun G B F H al rh si mu x y vx vy Qd Q s r1 r2 h q => by
  unfold fEq at h
  split at h
  · rename_i a b e1 e2
    have p1 := snap_rep s.s r1 e1
    have p2 := snap_rep s.s r2 e2
    exact ⟨_, _, rep_dp p1 (by have := h.1; omega), rep_dp p2 (by have := h.2.1; omega), rep_shaped p1 h.1, rep_shaped p2 h.2.1, by rw [toP_eqv]; exact q F H al mu _ _ (Ext.refl _ _) s (.d (.bl _)) h.2.2⟩
  · exact h.elim
/-- is None -/
@[simp] def fIs (neg : Bool) : F2 := fun mu x y Q => match y with
  | .d .non => Q (.d (.bl (match x with | .d .non => !neg | _ => neg))) mu
  | _ => False
theorem opd_is : OpD K (fun x y H Q => y = .non ∧ Q (.bl (decide (x = .non))) H) (fIs false) := fun G B F H al rh si mu x y vx vy Qd Q s r1 r2 h q => by
  unfold fIs at h
  split at h
  · cases repNon r2
    refine ⟨rfl, q F H al mu _ _ (Ext.refl _ _) s (.d ?_) h⟩
    cases r1 with
    | d r1 => cases r1 <;> exact .bl _
    | _ => exact .bl _
  · exact h.elim
theorem opd_isn : OpD K (fun x y H Q => y = .non ∧ Q (.bl (!decide (x = .non))) H) (fIs true) := fun G B F H al rh si mu x y vx vy Qd Q s r1 r2 h q => by
  unfold fIs at h
  split at h
  · cases repNon r2
    refine ⟨rfl, q F H al mu _ _ (Ext.refl _ _) s (.d ?_) h⟩
    cases r1 with
    | d r1 => cases r1 <;> exact .bl _
    | _ => exact .bl _
  · exact h.elim
end
end VL
namespace VL
open PySem PySem.Spec PyProof.Rows L2

section
variable {io : Type} {Y : io → Cx} {P : Program} {w : World} {K : KW} {mg : Str → Option Value} {base : Heap} {N : List Str} {k : Nat} {pos : Pos} {a b c : Expr} {wa wb wc : WE} {rest : List Expr}

/-! ### comparisons as values, as tests -/
@[simp] def wTest (f : WE) : WT := fun rh mu Q => f rh mu fun x mu1 => match x with
  | .d (.bl b) => Q b mu1
  | _ => False
theorem ve_cmpR {op : CmpOp} {r : R2} {f : F2} (ho : ∀ i, OpR (Y i) (compareOp op) r) (hd : OpD K r f) (ha : VE Y K a wa) (hb : VE Y K b wb) (hm : behindInMarks op b = false) : VE Y K (.Compare a [op] [b] pos) (wOp f wa wb) := by
  obtain ⟨ta, p1, d1⟩ := ha
  obtain ⟨tb, p2, d2⟩ := hb
  exact ⟨_, fun i => pe_cmpR (ho i) (p1 i) (p2 i) hm, den_op hd d1 d2⟩
theorem den_test {t : TE} {f : WE} (d : Den K t f) : DenT K (tTest t) (wTest f) := fun G B F H al rh si mu Qd Q s h q => by
  refine d G B F H al rh si mu _ _ s h fun F1 H1 al1 mu1 x vx e1 s1 r1 h1 => ?_
  split at h1
  · cases repBl r1
    exact ⟨_, rfl, q F1 H1 al1 mu1 _ e1 s1 h1⟩
  · exact h1.elim
theorem vt_cmpR {op : CmpOp} {r : R2} {f : F2} (ho : ∀ i, OpR (Y i) (compareOp op) r) (hd : OpD K r f) (ha : VE Y K a wa) (hb : VE Y K b wb) (hm : behindInMarks op b = false) : VT Y K (.Compare a [op] [b] pos) (wTest (wOp f wa wb)) := by
  obtain ⟨ta, p1, d1⟩ := ha
  obtain ⟨tb, p2, d2⟩ := hb
  exact ⟨_, fun i => pt_cmpR (ho i) (p1 i) (p2 i) hm, den_test (den_op hd d1 d2)⟩
/-- which comparison it is -/
inductive CmpK (Y : io → Cx) (K : KW) : CmpOp → F2 → Prop
  | mk {op : CmpOp} {r : R2} {f : F2} : (∀ i, OpR (Y i) (compareOp op) r) → OpD K r f → CmpK Y K op f
theorem c_eq (y : YOk Y P w K mg base N k) : CmpK Y K .Eq (fEq false) := .mk (fun i => by rw [← y.hK i]; exact op_eqD (y.room i).units) opd_eq
theorem c_ne (y : YOk Y P w K mg base N k) : CmpK Y K .NotEq (fEq true) := .mk (fun i => by rw [← y.hK i]; exact op_neD (y.room i).units) opd_ne
theorem c_lt (y : YOk Y P w K mg base N k) : CmpK Y K .Lt (fB0 fun i j => decide (i < j)) := .mk (fun i => op_lt) opd_B0
theorem c_gt (y : YOk Y P w K mg base N k) : CmpK Y K .Gt (fB0 fun i j => decide (j < i)) := .mk (fun i => op_gt) opd_B0
theorem c_is (y : YOk Y P w K mg base N k) : CmpK Y K .Is (fIs false) := .mk (fun i => op_isN) opd_is
theorem c_isn (y : YOk Y P w K mg base N k) : CmpK Y K .IsNot (fIs true) := .mk (fun i => op_notN) opd_isn
theorem ve_cmp {op : CmpOp} {f : F2} (c : CmpK Y K op f) (ha : VE Y K a wa) (hb : VE Y K b wb) (hm : behindInMarks op b = false := by first | exact nomark _ | with_unfolding_all rfl) : VE Y K (.Compare a [op] [b] pos) (wOp f wa wb) := by
  obtain ⟨o, d⟩ := c
  exact ve_cmpR o d ha hb hm
theorem vt_cmp {op : CmpOp} {f : F2} (c : CmpK Y K op f) (ha : VE Y K a wa) (hb : VE Y K b wb) (hm : behindInMarks op b = false := by first | exact nomark _ | with_unfolding_all rfl) : VT Y K (.Compare a [op] [b] pos) (wTest (wOp f wa wb)) := by
  obtain ⟨o, d⟩ := c
  exact vt_cmpR o d ha hb hm
/-- by a truth value -/
def onBl (z : W) (A B : Prop) : Prop := match z with
  | .d (.bl true) => A
  | .d (.bl false) => B
  | _ => False
@[simp] theorem onBl_bl (c : Bool) (A B : Prop) : onBl (.d (.bl c)) A B = if c = true then A else B := by cases c <;> rfl
/-! ### truth -/
@[simp] def truW (mu : Sto) : W → Option Bool
  | .d .non => some false
  | .d (.bl b) => some b
  | .d (.int i) => some (i != 0)
  | .d (.str x) => some ((x.length : Int) != 0)
  | .d (.lst xs) => some (!xs.isEmpty)
  | .d (.tup xs) => some (!xs.isEmpty)
  | .d (.scr ns) => some (!ns.isEmpty)
  | .tup ws => some (!ws.isEmpty)
  | .loc k => match mu[k]? with
    | some (.lst xs) => some (!xs.isEmpty)
    | some (.lstW xs) => some (!xs.isEmpty)
    | _ => none
  | _ => none
theorem isEmpty_len {A1 B1 : Type} {xs : List A1} {ys : List B1} (h : xs.length = ys.length) : xs.isEmpty = ys.isEmpty := by
  cases xs <;> cases ys <;> simp at h ⊢
theorem truW_ok {G B F H : Hp} {al : List Addr} {mu : Sto} {x : W} {v : V} {q : Bool} (s : SRS K G B F H al mu) (r : RepW K F al x v) (e : truW mu x = some q) : TruV K v H q := by
  unfold truW at e
  split at e
  · cases e; cases repNon r; rfl
  · cases e; cases repBl r; rfl
  · cases e; cases repInt r; rfl
  · cases e; obtain ⟨rfl, h⟩ := repStr r; exact ⟨h.2, rfl⟩
  · cases e
    cases r with
    | d r => cases r with
      | lst q z p => exact .inl ⟨_, .inl (rdMono s.fz q), by rw [isEmpty_len p.len]⟩
  · cases e
    obtain ⟨a, vs, rfl, q, z, p⟩ := repTup r
    exact .inr (.inl ⟨_, sqtMono s.fz q, by rw [isEmpty_len (Paired.length p)]⟩)
  · cases e
    cases r with
    | d r => cases r with
      | scr q z => exact .inl ⟨_, sqlMono s.fz q, by rw [isEmpty_len (List.length_map (as := _) V.int)]⟩
  · cases e
    cases r with
    | tup q z p => exact .inr (.inl ⟨_, sqtMono s.fz q, by rw [isEmpty_len (Paired.length p.p)]⟩)
  · split at e
    · rename_i q
      cases e
      cases r with
      | loc ea =>
        obtain ⟨vs, h, z, p⟩ := s.lstAt q ea
        exact .inl ⟨vs, SqL.of h, by rw [isEmpty_len (Paired.length p)]⟩
    · rename_i q
      cases e
      cases r with
      | loc ea =>
        obtain ⟨vs, h, z, p⟩ := s.lstWAt q ea
        exact .inl ⟨vs, SqL.of h, by rw [isEmpty_len (Paired.length p)]⟩
    · cases e
  · cases e
@[simp] def wTru (f : WE) : WT := fun rh mu Q => f rh mu fun x mu1 => match truW mu1 x with
  | some b => Q b mu1
  | none => False
theorem vt_truth (y : YOk Y P w K mg base N k) (ha : VE Y K a wa) (he : ∀ i whole, isTrue a (Y i).env whole = (do let v ← whole; standAt a.pos; holding [v] (truthy v)) := by exact fun _ _ => rfl) : VT Y K a (wTru wa) := by
  obtain ⟨ta, p1, d1⟩ := ha
  refine ⟨fun σ H Q => ta σ H fun x H' => ∃ k, TruV K x H' k ∧ Q k H', fun i => by rw [← y.hK i]; exact pt_truth (p1 i) (he i), fun G B F H al rh si mu Qd Q s h q => ?_⟩
  refine d1 G B F H al rh si mu _ _ s h fun F1 H1 al1 mu1 x vx e1 s1 r1 h1 => ?_
  split at h1
  · rename_i b e
    exact ⟨b, truW_ok s1.s r1 e, q F1 H1 al1 mu1 b e1 s1 h1⟩
  · exact h1.elim

/-! ### and, or, not -/
@[simp] def wAnd (f g : WT) : WT := fun rh mu Q => f rh mu fun c mu1 => if c = true then g rh mu1 Q else Q false mu1
@[simp] def wOr (f g : WT) : WT := fun rh mu Q => f rh mu fun c mu1 => if c = true then Q true mu1 else g rh mu1 Q
@[simp] def wNot (f : WT) : WT := fun rh mu Q => f rh mu fun c mu1 => Q (!c) mu1
variable {fa fb : WT}
theorem VW.vt (h : VW Y K a fa) : VT Y K a fa := by
  obtain ⟨t, p, d⟩ := h
  exact ⟨t, fun i => (p i).pt, d⟩
theorem vw_and1 (ha : VT Y K a fa) : VW Y K (.BoolOp .And [a] pos) fa := by
  obtain ⟨t, p, d⟩ := ha
  exact ⟨t, fun i => pw_and1 (p i), d⟩
theorem vw_or1 (ha : VT Y K a fa) : VW Y K (.BoolOp .Or [a] pos) fa := by
  obtain ⟨t, p, d⟩ := ha
  exact ⟨t, fun i => pw_or1 (p i), d⟩
theorem vw_and (ha : VT Y K a fa) (hb : VW Y K (.BoolOp .And (b :: rest) pos) fb) : VW Y K (.BoolOp .And (a :: b :: rest) pos) (wAnd fa fb) := by
  obtain ⟨t, p, d⟩ := ha
  obtain ⟨u, p', d'⟩ := hb
  refine ⟨_, fun i => pw_and (p i) (p' i), fun G B F H al rh si mu Qd Q s h q => ?_⟩
  refine d G B F H al rh si mu _ _ s h fun F1 H1 al1 mu1 x e1 s1 h1 => ?_
  cases x with
  | true => exact iteT (d' G B F1 H1 al1 rh si mu1 Qd Q s1 (by simpa using h1) fun F2 H2 al2 mu2 z e2 => q F2 H2 al2 mu2 z (e1.trans e2))
  | false => exact iteF (q F1 H1 al1 mu1 false e1 s1 (by simpa using h1))
theorem vw_or (ha : VT Y K a fa) (hb : VW Y K (.BoolOp .Or (b :: rest) pos) fb) : VW Y K (.BoolOp .Or (a :: b :: rest) pos) (wOr fa fb) := by
  obtain ⟨t, p, d⟩ := ha
  obtain ⟨u, p', d'⟩ := hb
  refine ⟨_, fun i => pw_or (p i) (p' i), fun G B F H al rh si mu Qd Q s h q => ?_⟩
  refine d G B F H al rh si mu _ _ s h fun F1 H1 al1 mu1 x e1 s1 h1 => ?_
  cases x with
  | true => exact iteT (q F1 H1 al1 mu1 true e1 s1 (by simpa using h1))
  | false => exact iteF (d' G B F1 H1 al1 rh si mu1 Qd Q s1 (by simpa using h1) fun F2 H2 al2 mu2 z e2 => q F2 H2 al2 mu2 z (e1.trans e2))
theorem vt_not (ha : VT Y K a fa) : VT Y K (.UnaryOp .Not a pos) (wNot fa) := by
  obtain ⟨t, p, d⟩ := ha
  refine ⟨_, fun i => pt_not (p i), fun G B F H al rh si mu Qd Q s h q => ?_⟩
  exact d G B F H al rh si mu _ _ s h fun F1 H1 al1 mu1 x e1 s1 h1 => q F1 H1 al1 mu1 _ e1 s1 h1
/-- as values -/
@[simp] def wAndV (f g : WE) : WE := fun rh mu Q => f rh mu fun x mu1 => onBl x (g rh mu1 Q) (Q (.d (.bl false)) mu1)
theorem ve_one {op} (h : VE Y K a wa) : VE Y K (.BoolOp op [a] pos) wa := by
  obtain ⟨t, p, d⟩ := h
  exact ⟨t, fun i => pe_one (p i), d⟩
theorem ve_andV (ha : VE Y K a wa) (hb : VE Y K (.BoolOp .And (b :: rest) pos) wb) : VE Y K (.BoolOp .And (a :: b :: rest) pos) (wAndV wa wb) := by
  obtain ⟨t, p, d⟩ := ha
  obtain ⟨u, p', d'⟩ := hb
  refine ⟨_, fun i => pe_and (p i) (p' i), fun G B F H al rh si mu Qd Q s h q => ?_⟩
  refine d G B F H al rh si mu _ _ s h fun F1 H1 al1 mu1 x vx e1 s1 r1 h1 => ?_
  unfold onBl at h1
  split at h1
  · cases repBl r1
    exact ⟨true, rfl, iteT (d' G B F1 H1 al1 rh si mu1 Qd Q s1 h1 fun F2 H2 al2 mu2 z vz e2 => q F2 H2 al2 mu2 z vz (e1.trans e2))⟩
  · cases repBl r1
    exact ⟨false, rfl, iteF (q F1 H1 al1 mu1 _ _ e1 s1 r1 h1)⟩
  · exact h1.elim
@[simp] def wNotV (f : WE) : WE := fun rh mu Q => f rh mu fun x mu1 => match truW mu1 x with
  | some b => Q (.d (.bl (!b))) mu1
  | none => False
theorem ve_not (y : YOk Y P w K mg base N k) (ha : VE Y K a wa) : VE Y K (.UnaryOp .Not a pos) (wNotV wa) := by
  obtain ⟨t, p, d⟩ := ha
  refine ⟨tNotT K t, fun i => by rw [← y.hK i]; exact pe_notT (p i), fun G B F H al rh si mu Qd Q s h q => ?_⟩
  refine d G B F H al rh si mu _ _ s h fun F1 H1 al1 mu1 x vx e1 s1 r1 h1 => ?_
  split at h1
  · rename_i b e
    exact ⟨b, truW_ok s1.s r1 e, q F1 H1 al1 mu1 _ _ e1 s1 (.d (.bl _)) h1⟩
  · exact h1.elim
/-! ### argument lists, displays -/
@[simp] def wNil : WA := fun _ mu Q => Q [] mu
@[simp] def wCons (f : WE) (g : WA) : WA := fun rh mu Q => f rh mu fun x mu1 => g rh mu1 fun xs mu2 => Q (x :: xs) mu2
variable {es : List Expr} {ga : WA}
theorem va_nil : VA Y K [] wNil := ⟨_, fun _ => pa_nil, fun G B F H al rh si mu Qd Q s h q => q F H al mu [] [] (Ext.refl _ _) s .nil h⟩
theorem va_cons (ha : VE Y K a wa) (hr : VA Y K es ga) (hs : ∀ i, starEach (a :: es) (Y i).env = (false, eval a (Y i).env) :: starEach es (Y i).env := by exact fun _ => rfl) : VA Y K (a :: es) (wCons wa ga) := by
  obtain ⟨t, p, d⟩ := ha
  obtain ⟨u, p', d'⟩ := hr
  refine ⟨_, fun i => pa_cons (p i) (p' i) (hs i), fun G B F H al rh si mu Qd Q s h q => ?_⟩
  refine d G B F H al rh si mu _ _ s h fun F1 H1 al1 mu1 x vx e1 s1 r1 h1 => ?_
  exact d' G B F1 H1 al1 rh si mu1 _ _ s1 h1 fun F2 H2 al2 mu2 ws vs e2 s2 r2 h2 => q F2 H2 al2 mu2 _ _ (e1.trans e2) s2 (.cons (r1.mono e2) r2) h2
@[simp] def wTup (g : WA) : WE := fun rh mu Q => g rh mu fun ws mu1 => ws.length ≤ sizeLine ∧ Q (mkTup ws) mu1
@[simp] def wLst (o : Bool) (g : WA) : WE := fun rh mu Q => g rh mu fun ws mu1 => ws.length ≤ sizeLine ∧ newLW o ws mu1 Q
theorem ve_tup {x1} (h : VA Y K es ga) : VE Y K (.Tuple es x1 pos) (wTup ga) := by
  obtain ⟨t, p, d⟩ := h
  refine ⟨_, fun i => pe_tup (p i), fun G B F H al rh si mu Qd Q s h q => ?_⟩
  refine d G B F H al rh si mu _ _ s h fun F1 H1 al1 mu1 ws vs e1 s1 r1 h1 => ?_
  have l := Paired.length r1
  exact ⟨by have := h1.1; omega, newT_ok s1 r1 (by have := h1.1; omega) h1.2 fun F2 H2 al2 mu2 z vz e2 => q F2 H2 al2 mu2 z vz (e1.trans e2)⟩
theorem ve_lst (o : Bool) (h : VA Y K es ga) : VE Y K (.List es pos) (wLst o ga) := by
  obtain ⟨t, p, d⟩ := h
  refine ⟨_, fun i => pe_lst (p i), fun G B F H al rh si mu Qd Q s h q => ?_⟩
  refine d G B F H al rh si mu _ _ s h fun F1 H1 al1 mu1 ws vs e1 s1 r1 h1 => ?_
  have l := Paired.length r1
  exact ⟨by have := h1.1; omega, newLW_ok s1 r1 (by have := h1.1; omega) h1.2 fun F2 H2 al2 mu2 z vz e2 => q F2 H2 al2 mu2 z vz (e1.trans e2)⟩
end

/-! ### subscripts -/
/-- the items of a list, a tuple -/
@[simp] def seqW (mu : Sto) : W → Option (List W)
  | .d (.lst xs) => some (xs.map .d)
  | .d (.tup xs) => some (xs.map .d)
  | .d (.scr ns) => some (ns.map fun n => .d (.int n))
  | .tup ws => some ws
  | .loc k => match mu[k]? with
    | some (.lst xs) => some (xs.map .d)
    | some (.lstW ws) => some ws
    | _ => none
  | _ => none
section
variable {K : KW} {G B F F' H H' : Hp} {al al' : List Addr} {mu mu' : Sto} {rh : Ev} {si : L2.St}
theorem pMapD {xs : List D} {vs : List V} (p : Paired (RepD K F) xs vs) : Paired (RepW K F al) (xs.map .d) vs := by
  induction p with
  | nil => exact .nil
  | cons r t ih => exact .cons (.d r) ih
theorem pScr : ∀ ns : List Int, Paired (RepW K F al) (ns.map fun n => .d (.int n)) (ns.map V.int)
  | [] => .nil
  | n :: ns => .cons (.d (.int n)) (pScr ns)
theorem pScrD : ∀ ns : List Int, Paired (RepD K F) (ns.map D.int) (ns.map V.int)
  | [] => .nil
  | n :: ns => .cons (.int n) (pScrD ns)
/-- what is read of a sequence -/
theorem seqW_rep {x : W} {v : V} {ws : List W} (s : SRS K G B F H al mu) (r : RepW K F al x v) (e : seqW mu x = some ws) : ∃ a vs, v = .ref a ∧ (SqL K H a vs ∨ SqT K H a vs) ∧ vs.length ≤ sizeLine ∧ Paired (RepW K F al) ws vs := by
  unfold seqW at e
  split at e
  · cases e
    cases r with
    | d r => cases r with
      | lst q z p => exact ⟨_, _, rfl, .inl (.inl (rdMono s.fz q)), z, pMapD p.p⟩
  · cases e
    obtain ⟨a, vs, rfl, q, z, p⟩ := repTup r
    exact ⟨_, _, rfl, .inr (sqtMono s.fz q), z, pMapD p⟩
  · cases e
    cases r with
    | d r => cases r with
      | scr q z => exact ⟨_, _, rfl, .inl (sqlMono s.fz q), by rw [List.length_map]; exact z, pScr _⟩
  · cases e
    cases r with
    | tup q z p => exact ⟨_, _, rfl, .inr (sqtMono s.fz q), z, p.p⟩
  · split at e
    · rename_i q
      cases e
      cases r with
      | loc ea =>
        obtain ⟨vs, h, z, p⟩ := s.lstAt q ea
        exact ⟨_, vs, rfl, .inl (SqL.of h), z, pMapD p⟩
    · rename_i q
      cases e
      cases r with
      | loc ea =>
        obtain ⟨vs, h, z, p⟩ := s.lstWAt q ea
        exact ⟨_, vs, rfl, .inl (SqL.of h), z, p⟩
    · cases e
  · cases e
theorem ixN_len {A1 B1 : Type} {R : A1 → B1 → Prop} {xs : List A1} {ys : List B1} (p : Paired R xs ys) {i : Int} {x : A1} (h : atI xs i = some x) : ∃ y, atI ys i = some y ∧ R x y := by
  unfold atI at h ⊢
  rw [← Paired.length p]
  cases q : ixN xs.length i with
  | none => rw [q] at h; cases h
  | some j =>
    rw [q] at h
    exact pGetL p h
@[simp] def fIx : F2 := fun mu x y Q => match x, y with
  | .d (.str z), .d (.int i) => ∃ c, atI z.cps.toList i = some c ∧ Q (.d (.str ⟨#[c]⟩)) mu
  | .d (.lst xs), .d (.int i) => ∃ d, atI xs i = some d ∧ Q (.d d) mu
  | .d (.tup xs), .d (.int i) => ∃ d, atI xs i = some d ∧ Q (.d d) mu
  | x, .d (.int i) => match seqW mu x with
    | some ws => ∃ u, atI ws i = some u ∧ Q u mu
    | none => False
  | _, _ => False
theorem strOk_at {z : Str} {i : Int} {c : Nat} (h : StrOk z) (e : atI z.cps.toList i = some c) : StrOk ⟨#[c]⟩ := by
  unfold atI at e
  cases q : ixN z.cps.toList.length i with
  | none => rw [q] at e; cases e
  | some j =>
    rw [q] at e
    have e' : z.cps.toList[j]? = some c := e
    have hm := List.mem_of_getElem? e'
    have h1 := h.1
    unfold PyData.strOk at h1
    rw [Array.all_eq_true'] at h1
    have h2 := h1 c (by simpa using hm)
    exact ⟨by unfold PyData.strOk; simpa using h2, by show 1 ≤ sizeLine; decide⟩
theorem fIx_seq {x : W} {vx : V} {i : Int} {ws : List W} {u : W} {Q : VK} {Qd : W → Sto → Prop} (s : SR K G B F H al rh si mu) (r : RepW K F al x vx) (e : seqW mu x = some ws) (a : atI ws i = some u) (h : Qd u mu)
    (q : ∀ F' H' al' mu' w v, Ext F al F' al' → SR K G B F' H' al' rh si mu' → RepW K F' al' w v → Qd w mu' → Q v H') : rIx K vx (.int i) H Q := by
  obtain ⟨p, vs, rfl, hs, z, pr⟩ := seqW_rep s.s r e
  obtain ⟨v, e2, rv⟩ := ixN_len pr a
  have fin := q F H al mu u v (Ext.refl _ _) s rv h
  rcases hs with hs | hs
  · exact .inl ⟨p, vs, i, v, rfl, rfl, hs, e2, fin⟩
  · exact .inr (.inl ⟨p, vs, i, v, rfl, rfl, hs, e2, fin⟩)
theorem atI_map {A1 B1 : Type} {xs : List A1} {f : A1 → B1} {i : Int} {x : A1} (h : atI xs i = some x) : atI (xs.map f) i = some (f x) := by
  unfold atI at h ⊢
  rw [List.length_map]
  cases q : ixN xs.length i with
  | none => rw [q] at h; cases h
  | some j =>
    rw [q] at h
    have h' : xs[j]? = some x := h
    show (xs.map f)[j]? = some (f x)
    rw [List.getElem?_map, h']; rfl
theorem opd_ix : OpD K (rIx K) fIx := fun G B F H al rh si mu x y vx vy Qd Q s r1 r2 h q => by
  unfold fIx at h
  split at h
  · obtain ⟨rfl, hz⟩ := repStr r1
    cases repInt r2
    obtain ⟨c, e, h⟩ := h
    exact .inr (.inr ⟨_, _, c, rfl, rfl, hz.2, e, q F H al mu _ _ (Ext.refl _ _) s (.d (.str _ (strOk_at hz e))) h⟩)
  · cases repInt r2
    obtain ⟨d, e, h⟩ := h
    exact fIx_seq s r1 rfl (atI_map (f := W.d) e) h q
  · cases repInt r2
    obtain ⟨d, e, h⟩ := h
    exact fIx_seq s r1 rfl (atI_map (f := W.d) e) h q
  · cases repInt r2
    split at h
    · rename_i e
      obtain ⟨u, a, h⟩ := h
      exact fIx_seq s r1 e a h q
    · exact h.elim
  · exact h.elim
end
section
variable {io : Type} {Y : io → Cx} {P : Program} {w : World} {K : KW} {mg : Str → Option Value} {base : Heap} {N : List Str} {k : Nat} {pos : Pos} {a b c : Expr} {wa wb wc : WE}
theorem ve_ix (y : YOk Y P w K mg base N k) (ha : VE Y K a wa) (hb : VE Y K b wb) (hs : PlainIx b := by exact fun _ _ => rfl) : VE Y K (.Subscript a b pos) (wOp fIx wa wb) := by
  obtain ⟨ta, p1, d1⟩ := ha
  obtain ⟨tb, p2, d2⟩ := hb
  exact ⟨tOp (rIx K) ta tb, fun i => by rw [← y.hK i]; exact pe_ix ix_seq (p1 i) (p2 i) hs, den_op opd_ix d1 d2⟩

/-! ### slices -/
abbrev WO := Ev → Sto → (Option Int → Sto → Prop) → Prop
def DenO (K : KW) (t : TO) (f : WO) : Prop := ∀ (G B F H : Hp) (al : List Addr) (rh : Ev) (si : L2.St) (mu : Sto) (Qd : Option Int → Sto → Prop) (Q : Option Int → Hp → Prop), SR K G B F H al rh si mu → f rh mu Qd →
  (∀ F' H' al' mu' o, Ext F al F' al' → SR K G B F' H' al' rh si mu' → Qd o mu' → Q o H') → t si H Q
def VO (Y : io → Cx) (K : KW) (e : Option Expr) (f : WO) : Prop := ∃ t, (∀ i, PO (Y i) e t) ∧ DenO K t f
@[simp] def wNoPart : WO := fun _ mu Q => Q none mu
@[simp] def wPart (f : WE) : WO := fun rh mu Q => f rh mu fun x mu1 => match x with
  | .d (.int i) => Q (some i) mu1
  | _ => False
theorem vo_none : VO Y K none wNoPart := ⟨_, fun _ => po_none, fun G B F H al rh si mu Qd Q s h q => q F H al mu none (Ext.refl _ _) s h⟩
theorem vo_some (h : VE Y K a wa) : VO Y K (some a) (wPart wa) := by
  obtain ⟨t, p, d⟩ := h
  refine ⟨_, fun i => po_some (p i), fun G B F H al rh si mu Qd Q s h q => ?_⟩
  refine d G B F H al rh si mu _ _ s h fun F1 H1 al1 mu1 x vx e1 s1 r1 h1 => ?_
  split at h1
  · cases repInt r1
    exact ⟨_, rfl, q F1 H1 al1 mu1 _ e1 s1 h1⟩
  · exact h1.elim
/-- the items of xs[lo:hi] -/
def cutL {A1 : Type} (xs : List A1) (lo hi : Option Int) : List A1 := (xs.drop (HT.sIx xs.length 0 lo)).take (HT.sIx xs.length xs.length hi - HT.sIx xs.length 0 lo)
@[simp] def wSl (o : Bool) (f : WE) (l h : WO) : WE := fun rh mu Q => f rh mu fun x mu1 => l rh mu1 fun lo mu2 => h rh mu2 fun hi mu3 => match x with
  | .d (.str z) => Q (.d (.str (cutS z lo hi))) mu3
  | .d (.tup xs) => ¬ (HT.sIx xs.length 0 lo = 0 ∧ HT.sIx xs.length xs.length hi = xs.length) ∧ Q (.d (.tup (cutL xs lo hi))) mu3
  | .d (.scr ns) => newL o (cutL (ns.map D.int) lo hi) mu3 Q
  | x => match lsD mu3 x with
    | some xs => newL o (cutL xs lo hi) mu3 Q
    | none => False
theorem strOk_cut {z : Str} {lo hi : Option Int} (h : StrOk z) : StrOk (cutS z lo hi) := by
  refine ⟨?_, Nat.le_trans (cutS_length z lo hi) h.2⟩
  have h1 := h.1
  unfold PyData.strOk at h1 ⊢
  rw [Array.all_eq_true'] at h1 ⊢
  intro x hx
  refine h1 x ?_
  unfold cutS at hx
  have := List.mem_of_mem_drop (List.mem_of_mem_take (by simpa using hx))
  simpa using this
theorem cutP {A1 B1 : Type} {R : A1 → B1 → Prop} {xs : List A1} {ys : List B1} (p : Paired R xs ys) (lo hi : Option Int) : Paired R (cutL xs lo hi) (cutL ys lo hi) := by
  unfold cutL
  rw [← Paired.length p]
  exact pCut p _ _
theorem ve_slice (y : YOk Y P w K mg base N k) (o : Bool) {lo hi : Option Expr} {p2 : Pos} {fl fh : WO} (ha : VE Y K a wa) (hl : VO Y K lo fl) (hh : VO Y K hi fh) : VE Y K (.Subscript a (.Slice lo hi none p2) pos) (wSl o wa fl fh) := by
  obtain ⟨ta, p1, d1⟩ := ha
  obtain ⟨tl, p2, d2⟩ := hl
  obtain ⟨th, p3, d3⟩ := hh
  refine ⟨tSl (fun x lo hi H Q => rSlS x lo hi H Q ∨ rSlT K x lo hi H Q ∨ rSlL K x lo hi H Q) ta tl th, fun i => by rw [← y.hK i]; exact pe_slice (sl_str.or (sl_tup.or sl_list)) (p1 i) (p2 i) (p3 i), fun G B F H al rh si mu Qd Q s h q => ?_⟩
  refine d1 G B F H al rh si mu _ _ s h fun F1 H1 al1 mu1 x vx e1 s1 r1 h1 => ?_
  refine d2 G B F1 H1 al1 rh si mu1 _ _ s1 h1 fun F2 H2 al2 mu2 l e2 s2 h2 => ?_
  refine d3 G B F2 H2 al2 rh si mu2 _ _ s2 h2 fun F3 H3 al3 mu3 u e3 s3 h3 => ?_
  have r3 := r1.mono (e2.trans e3)
  have q3 := fun F' H' al' mu' w v (x : Ext F3 al3 F' al') => q F' H' al' mu' w v (((e1.trans e2).trans e3).trans x)
  split at h3
  · obtain ⟨rfl, hz⟩ := repStr r3
    exact .inl ⟨_, rfl, hz.2, q3 F3 H3 al3 mu3 _ _ (Ext.refl _ _) s3 (.d (.str _ (strOk_cut hz))) h3⟩
  · obtain ⟨b, vs, rfl, qt, z, pr⟩ := repTup r3
    have le := Paired.length pr
    refine .inr (.inl ⟨b, vs, rfl, sqtMono s3.s.fz qt, by rw [← le]; exact h3.1, fun p hp => ?_⟩)
    have x := s3.s.frozX (o := .tup (cutV vs l u)) hp
    refine q3 _ _ _ _ _ _ x (s3.step x (s3.s.froz hp)) (.d (.tup (SqT.of upd_same) ?_ ((RepDs.of (cutP pr l u)).mono x.1))) h3.2
    exact Nat.le_trans (cutV_length vs l u) z
  · cases r3 with
    | d r3 => cases r3 with
      | scr qt z => exact .inr (.inr ⟨_, _, rfl, sqlMono s3.s.fz qt, newL_ok s3 (cutP (pScrD _) l u) (Nat.le_trans (cutV_length _ l u) (by rw [List.length_map]; exact z)) h3 q3⟩)
  · split at h3
    · rename_i e4
      obtain ⟨b, vs, rfl, qt, z, pr⟩ := lsD_rep s3.s r3 e4
      exact .inr (.inr ⟨b, vs, rfl, .inl qt, newL_ok s3 (cutP pr l u) (Nat.le_trans (cutV_length vs l u) z) h3 q3⟩)
    · exact h3.elim
end
end VL
namespace VL
open PySem PySem.Spec PyProof.Rows L2

/-! ### built-in functions -/
abbrev FC := Sto → List W → (W → Sto → Prop) → Prop
@[simp] def wCall (f : FC) (g : WA) : WE := fun rh mu Q => g rh mu fun ws mu1 => f mu1 ws Q
def CallD (K : KW) (r : List V → Hp → VK → Prop) (f : FC) : Prop := ∀ (G B F H : Hp) (al : List Addr) (rh : Ev) (si : L2.St) (mu : Sto) (ws : List W) (vs : List V) (Qd : W → Sto → Prop) (Q : VK), SR K G B F H al rh si mu → Paired (RepW K F al) ws vs → f mu ws Qd →
  (∀ F' H' al' mu' w v, Ext F al F' al' → SR K G B F' H' al' rh si mu' → RepW K F' al' w v → Qd w mu' → Q v H') → r vs H Q
section
variable {io : Type} {Y : io → Cx} {P : Program} {w : World} {K : KW} {mg : Str → Option Value} {base : Heap} {N : List Str} {k : Nat} {pos p : Pos} {a b c e : Expr} {es : List Expr} {wa wb wc : WE} {ga : WA} {x : Str} {id T : String} {r : List V → Hp → VK → Prop} {f : FC}
theorem den_call {t : TA} (hd : CallD K r f) (ha : DenA K t ga) : Den K (tCB r t) (wCall f ga) := fun G B F H al rh si mu Qd Q s h q => by
  refine ha G B F H al rh si mu _ _ s h fun F1 H1 al1 mu1 ws vs e1 s1 r1 h1 => ?_
  exact hd G B F1 H1 al1 rh si mu1 ws vs Qd Q s1 r1 h1 fun F2 H2 al2 mu2 z vz e2 => q F2 H2 al2 mu2 z vz (e1.trans e2)
theorem ve_callB (y : YOk Y P w K mg base N k) (hc : ∀ i, CallR (Y i) (.builtin id) r) (hd : CallD K r f) (hm : mg x = none) (hv : bootBuiltins x = some (.builtin id)) (ha : VA Y K (e :: es) ga) (hg : ∀ j, Gl (Y j) x := by exact fun _ => rfl) (hn : x ≠ "__name__" := by decide) (hdb : (x == ("__debug__" : Str)) = false := by decide)
    (he : ∀ i, starEach (e :: es) (Y i).env = (false, eval e (Y i).env) :: starEach es (Y i).env := by exact fun _ => rfl) (hpl : ∀ i, (backTo pos (starEach es (Y i).env)).any (·.1) = false := by exact fun _ => rfl) : VE Y K (.Call (.Name x p) (e :: es) [] pos) (wCall f ga) := by
  obtain ⟨t, p1, d1⟩ := ha
  exact ⟨_, fun i => pe_callB (hc i) (hg i) (by rw [y.hmg i]; exact hm) hv (p1 i) hn hdb (he i) (hpl i), den_call hd d1⟩
theorem ve_callTy (y : YOk Y P w K mg base N k) (hc : ∀ i, CallR (Y i) (.type T) r) (hd : CallD K r f) (hm : mg x = none) (hv : bootBuiltins x = some (.type T)) (ha : VA Y K (e :: es) ga) (hg : ∀ j, Gl (Y j) x := by exact fun _ => rfl) (hn : x ≠ "__name__" := by decide) (hdb : (x == ("__debug__" : Str)) = false := by decide)
    (he : ∀ i, starEach (e :: es) (Y i).env = (false, eval e (Y i).env) :: starEach es (Y i).env := by exact fun _ => rfl) (hpl : ∀ i, (backTo pos (starEach es (Y i).env)).any (·.1) = false := by exact fun _ => rfl) : VE Y K (.Call (.Name x p) (e :: es) [] pos) (wCall f ga) := by
  obtain ⟨t, p1, d1⟩ := ha
  exact ⟨_, fun i => pe_callTy (hc i) (hg i) (by rw [y.hmg i]; exact hm) hv (p1 i) hn hdb (he i) (hpl i), den_call hd d1⟩
end

section
variable {K : KW} {G B F F' H H' : Hp} {al al' : List Addr} {mu mu' : Sto} {rh : Ev} {si : L2.St}
theorem pair1 {A1 B1 : Type} {R : A1 → B1 → Prop} {x : A1} {ys : List B1} (p : Paired R [x] ys) : ∃ y, ys = [y] ∧ R x y := by
  cases p with
  | cons r t => cases t; exact ⟨_, rfl, r⟩
theorem pair2 {A1 B1 : Type} {R : A1 → B1 → Prop} {x x' : A1} {ys : List B1} (p : Paired R [x, x'] ys) : ∃ y y', ys = [y, y'] ∧ R x y ∧ R x' y' := by
  cases p with
  | cons r t => obtain ⟨y', rfl, r'⟩ := pair1 t; exact ⟨_, _, rfl, r, r'⟩
/-- len -/
@[simp] def fLen : FC := fun mu ws Q => match ws with
  | [.d (.str z)] => Q (.d (.int z.length)) mu
  | [x] => match seqW mu x with
    | some us => Q (.d (.int us.length)) mu
    | none => False
  | _ => False
theorem cd_len : CallD K (fun xs H Q => ∃ x n, xs = [x] ∧ LenV K x H n ∧ Q (.int n) H) fLen := fun G B F H al rh si mu ws vs Qd Q s r0 h q => by
  unfold fLen at h
  split at h
  · obtain ⟨v, rfl, r⟩ := pair1 r0
    obtain ⟨rfl, hz⟩ := repStr r
    exact ⟨_, _, rfl, ⟨hz.2, rfl⟩, q F H al mu _ _ (Ext.refl _ _) s (.d (.int _)) h⟩
  · obtain ⟨v, rfl, r⟩ := pair1 r0
    split at h
    · rename_i us e
      obtain ⟨b, vs, rfl, hs, z, p⟩ := seqW_rep s.s r e
      have l := Paired.length p
      refine ⟨.ref b, vs.length, rfl, ?_, q F H al mu _ _ (Ext.refl _ _) s (.d ?_) h⟩
      · rcases hs with hs | hs
        · exact .inl ⟨vs, hs, rfl⟩
        · exact .inr ⟨vs, hs, rfl⟩
      · rw [l]; exact .int _
    · exact h.elim
  · exact h.elim
/-- list(x), tuple(x) -/
@[simp] def fList (o : Bool) : FC := fun mu ws Q => match ws with
  | [x] => match seqW mu x with
    | some us => newLW o us mu Q
    | none => False
  | _ => False
theorem cd_list (o : Bool) : CallD K (fun xs H Q => ∃ p ys, xs = [.ref p] ∧ (SqL K H p ys ∨ SqT K H p ys) ∧ ∀ l, H l = none → Q (.ref l) (upd H l (.lst ys))) (fList o) := fun G B F H al rh si mu ws vs Qd Q s r0 h q => by
  unfold fList at h
  split at h
  · obtain ⟨v, rfl, r⟩ := pair1 r0
    split at h
    · rename_i us e
      obtain ⟨b, vs, rfl, hs, z, p⟩ := seqW_rep s.s r e
      exact ⟨b, vs, rfl, hs, newLW_ok s p z h q⟩
    · exact h.elim
  · exact h.elim
@[simp] def fTuple : FC := fun mu ws Q => match ws with
  | [.d (.tup xs)] => Q (.d (.tup xs)) mu
  | [.tup us] => Q (.tup us) mu
  | [x] => match seqW mu x with
    | some us => Q (mkTup us) mu
    | none => False
  | _ => False
theorem cd_tuple : CallD K (fun xs H Q => ∃ p ys, xs = [.ref p] ∧ ((SqL K H p ys ∧ ∀ l, H l = none → Q (.ref l) (upd H l (.tup ys))) ∨ (SqT K H p ys ∧ Q (.ref p) H))) fTuple := fun G B F H al rh si mu ws vs Qd Q s r0 h q => by
  unfold fTuple at h
  split at h
  · obtain ⟨v, rfl, r⟩ := pair1 r0
    obtain ⟨b, vs, rfl, hs, z, p⟩ := repTup r
    exact ⟨b, vs, rfl, .inr ⟨sqtMono s.s.fz hs, q F H al mu _ _ (Ext.refl _ _) s r h⟩⟩
  · obtain ⟨v, rfl, r⟩ := pair1 r0
    cases r with
    | tup hs z p => exact ⟨_, _, rfl, .inr ⟨sqtMono s.s.fz hs, q F H al mu _ _ (Ext.refl _ _) s (.tup hs z p) h⟩⟩
  · rename_i x n1 n2
    obtain ⟨v, rfl, r⟩ := pair1 r0
    split at h
    · rename_i us e
      have nt : ∃ a vs, v = .ref a ∧ SqL K H a vs ∧ vs.length ≤ sizeLine ∧ Paired (RepW K F al) us vs := by
        unfold seqW at e
        split at e
        · cases e
          cases r with
          | d r => cases r with
            | lst q z p => exact ⟨_, _, rfl, .inl (rdMono s.s.fz q), z, pMapD p.p⟩
        · exact (n1 _ rfl).elim
        · cases e
          cases r with
          | d r => cases r with
            | scr q z => exact ⟨_, _, rfl, sqlMono s.s.fz q, by rw [List.length_map]; exact z, pScr _⟩
        · exact (n2 _ rfl).elim
        · split at e
          · rename_i q
            cases e
            cases r with
            | loc ea =>
              obtain ⟨vs, h, z, p⟩ := s.s.lstAt q ea
              exact ⟨_, vs, rfl, SqL.of h, z, pMapD p⟩
          · rename_i q
            cases e
            cases r with
            | loc ea =>
              obtain ⟨vs, h, z, p⟩ := s.s.lstWAt q ea
              exact ⟨_, vs, rfl, SqL.of h, z, p⟩
          · cases e
        · cases e
      obtain ⟨b, vs, rfl, hs, z, p⟩ := nt
      exact ⟨b, vs, rfl, .inl ⟨hs, newT_ok s p z h q⟩⟩
    · exact h.elim
  · exact h.elim
/-- sum, any, all, min of a list -/
theorem ints_rep {ns : List Int} {vs : List V} (p : Paired (RepD K F) (ns.map D.int) vs) : vs = ns.map V.int := by
  induction ns generalizing vs with
  | nil => cases p; rfl
  | cons n ns ih => cases p with
    | cons r t => cases r; rw [ih t]; rfl
def fSum : FC := fun mu ws Q => match ws with
  | [.d (.scr ns)] => Q (.d (.int ns.sum)) mu
  | [x] => match lsD mu x with
    | some xs => ∃ ns, xs = List.map D.int ns ∧ Q (.d (.int ns.sum)) mu
    | none => False
  | _ => False
theorem cd_sum : CallD K (rSum K) fSum := fun G B F H al rh si mu ws vs Qd Q s r0 h q => by
  unfold fSum at h
  split at h
  · obtain ⟨v, rfl, r⟩ := pair1 r0
    cases r with
    | d r => cases r with
      | scr hs z => exact ⟨_, _, rfl, sqlMono s.s.fz hs, q F H al mu _ _ (Ext.refl _ _) s (.d (.int _)) h⟩
  · obtain ⟨v, rfl, r⟩ := pair1 r0
    split at h
    · rename_i xs e
      obtain ⟨ns, rfl, h⟩ := h
      obtain ⟨a, vs, rfl, hs, z, p⟩ := lsD_rep s.s r e
      cases ints_rep p
      exact ⟨a, ns, rfl, .inl hs, q F H al mu _ _ (Ext.refl _ _) s (.d (.int _)) h⟩
    · exact h.elim
  · exact h.elim
/-- isinstance -/
@[simp] def isi (t n : String) : Bool := t == n || (t == "bool" && n == "int")
theorem isi_kit : ∀ t ∈ ["NoneType", "bool", "int", "str", "list", "tuple", "dict"], ∀ n ∈ ["int", "bool", "str", "tuple", "list"], kitB t n = some (isi t n) := by decide +kernel
@[simp] def tyName (mu : Sto) : W → Option String
  | .d .non => some "NoneType"
  | .d (.bl _) => some "bool"
  | .d (.int _) => some "int"
  | .d (.str _) => some "str"
  | .d (.lst _) => some "list"
  | .d (.tup _) => some "tuple"
  | .d (.scr _) => some "list"
  | .tup _ => some "tuple"
  | .loc k => match mu[k]? with
    | some (.lst _) => some "list"
    | some (.lstW _) => some "list"
    | some (.dk _) => some "dict"
    | _ => none
  | _ => none
@[simp] def fIsi : FC := fun mu ws Q => match ws with
  | [x, .ty n] => match tyName mu x with
    | some t => n ∈ ["int", "bool", "str", "tuple", "list"] ∧ Q (.d (.bl (isi t n))) mu
    | none => False
  | _ => False
theorem tyx_list {a : Addr} {vs : List V} (h : Rd H a (.lst vs)) : TyX K H (.ref a) (.type "list") := by
  rcases h with h | ⟨o, h⟩
  · exact .base (.lst h)
  · exact .base (.frz h)
theorem tyx_sql {a : Addr} {vs : List V} (h : SqL K H a vs) : TyX K H (.ref a) (.type "list") := by
  rcases h with h | ⟨o, its, n, h, h1, _⟩
  · exact tyx_list h
  · exact .kList h h1
theorem tyx_tup {a : Addr} {vs : List V} (h : SqT K H a vs) : TyX K H (.ref a) (.type "tuple") := by
  rcases h with (h | ⟨o, h⟩) | ⟨o, its, n, h, h1, _⟩
  · exact .base (.tup h)
  · exact .fTuple h
  · exact .kTuple h h1
theorem tyName_ok {x : W} {v : V} {t : String} (s : SRS K G B F H al mu) (r : RepW K F al x v) (e : tyName mu x = some t) : TyX K H v (.type t) ∧ t ∈ ["NoneType", "bool", "int", "str", "list", "tuple", "dict"] := by
  unfold tyName at e
  split at e
  · cases e; cases repNon r; exact ⟨.base .non, by decide⟩
  · cases e; cases repBl r; exact ⟨.base (.bl _), by decide⟩
  · cases e; cases repInt r; exact ⟨.base (.int _), by decide⟩
  · cases e; obtain ⟨rfl, _⟩ := repStr r; exact ⟨.base (.str _), by decide⟩
  · cases e
    cases r with
    | d r => cases r with
      | lst q z p => exact ⟨tyx_list (rdMono s.fz q), by decide⟩
  · cases e
    obtain ⟨a, vs, rfl, q, z, p⟩ := repTup r
    exact ⟨tyx_tup (sqtMono s.fz q), by decide⟩
  · cases e
    cases r with
    | d r => cases r with
      | scr q z => exact ⟨tyx_sql (sqlMono s.fz q), by decide⟩
  · cases e
    cases r with
    | tup q z p => exact ⟨tyx_tup (sqtMono s.fz q), by decide⟩
  · split at e
    · rename_i q
      cases e
      cases r with
      | loc ea =>
        obtain ⟨vs, h, z, p⟩ := s.lstAt q ea
        exact ⟨tyx_list (Rd.of h), by decide⟩
    · rename_i q
      cases e
      cases r with
      | loc ea =>
        obtain ⟨vs, h, z, p⟩ := s.lstWAt q ea
        exact ⟨tyx_list (Rd.of h), by decide⟩
    · rename_i q
      cases e
      cases r with
      | loc ea =>
        obtain ⟨o, _, _, h, c⟩ := s.at q ea
        cases c with
        | dk _ _ => exact ⟨.base (.dK h), by decide⟩
    · cases e
  · cases e
theorem cd_isi : CallD K (rIsi K) fIsi := fun G B F H al rh si mu ws vs Qd Q s r0 h q => by
  unfold fIsi at h
  split at h
  · rename_i n
    obtain ⟨v, u, rfl, r, r'⟩ := pair2 r0
    cases r' with
    | ty =>
      split at h
      · rename_i t e
        obtain ⟨ty, hm⟩ := tyName_ok s.s r e
        exact ⟨v, .ty n, .type t, .type n, _, rfl, .ty n, ty, kit_ty (isi_kit t hm n h.1), q F H al mu _ _ (Ext.refl _ _) s (.d (.bl _)) h.2⟩
      · exact h.elim
  · exact h.elim
end
section
variable {io : Type} {Y : io → Cx} {P : Program} {w : World} {K : KW} {mg : Str → Option Value} {base : Heap} {N : List Str} {k : Nat} {pos p : Pos} {a b c e e2 : Expr} {es : List Expr} {wa wb wc : WE} {ga : WA}
theorem ve_len (y : YOk Y P w K mg base N k) (hm : mg "len" = none) (ha : VA Y K [e] ga) (hg : ∀ j, Gl (Y j) "len" := by exact fun _ => rfl) (he : ∀ i, starEach [e] (Y i).env = (false, eval e (Y i).env) :: starEach [] (Y i).env := by exact fun _ => rfl) : VE Y K (.Call (.Name "len" p) [e] [] pos) (wCall fLen ga) :=
  ve_callB y (fun i => by rw [← y.hK i]; exact call_len) cd_len hm PySem.boot_len ha hg (by decide) (by decide) he
theorem ve_list (y : YOk Y P w K mg base N k) (o : Bool) (hm : mg "list" = none) (ha : VA Y K [e] ga) (hg : ∀ j, Gl (Y j) "list" := by exact fun _ => rfl) (he : ∀ i, starEach [e] (Y i).env = (false, eval e (Y i).env) :: starEach [] (Y i).env := by exact fun _ => rfl) : VE Y K (.Call (.Name "list" p) [e] [] pos) (wCall (fList o) ga) :=
  ve_callTy y (fun i => by rw [← y.hK i]; exact call_list_of) (cd_list o) hm (by decide +kernel) ha hg (by decide) (by decide) he
theorem ve_tuple (y : YOk Y P w K mg base N k) (hm : mg "tuple" = none) (ha : VA Y K [e] ga) (hg : ∀ j, Gl (Y j) "tuple" := by exact fun _ => rfl) (he : ∀ i, starEach [e] (Y i).env = (false, eval e (Y i).env) :: starEach [] (Y i).env := by exact fun _ => rfl) : VE Y K (.Call (.Name "tuple" p) [e] [] pos) (wCall fTuple ga) :=
  ve_callTy y (fun i => by rw [← y.hK i]; exact call_tuple_of) cd_tuple hm (by decide +kernel) ha hg (by decide) (by decide) he
theorem ve_sum (y : YOk Y P w K mg base N k) (hm : mg "sum" = none) (ha : VA Y K [e] ga) (hg : ∀ j, Gl (Y j) "sum" := by exact fun _ => rfl) (he : ∀ i, starEach [e] (Y i).env = (false, eval e (Y i).env) :: starEach [] (Y i).env := by exact fun _ => rfl) : VE Y K (.Call (.Name "sum" p) [e] [] pos) (wCall fSum ga) :=
  ve_callB y (fun i => by rw [← y.hK i]; exact cr_sum (y.calm i)) cd_sum hm (by decide +kernel) ha hg (by decide) (by decide) he
theorem ve_isi (y : YOk Y P w K mg base N k) (hm : mg "isinstance" = none) (ha : VA Y K [e, e2] ga) (hg : ∀ j, Gl (Y j) "isinstance" := by exact fun _ => rfl) (he : ∀ i, starEach [e, e2] (Y i).env = (false, eval e (Y i).env) :: starEach [e2] (Y i).env := by exact fun _ => rfl) (hpl : ∀ i, (backTo pos (starEach [e2] (Y i).env)).any (·.1) = false := by exact fun _ => rfl) : VE Y K (.Call (.Name "isinstance" p) [e, e2] [] pos) (wCall fIsi ga) :=
  ve_callB y (fun i => by rw [← y.hK i]; exact call_isi) cd_isi hm (by decide +kernel) ha hg (by decide) (by decide) he hpl
end

/-! ### methods of lists -/
@[simp] def isL (mu : Sto) : W → Bool
  | .d (.lst _) => true
  | .loc k => match mu[k]? with
    | some (.lst _) => true
    | some (.lstW _) => true
    | _ => false
  | _ => false
abbrev FM := Sto → W → List W → (W → Sto → Prop) → Prop
@[simp] def wBM (f : FM) (o : WE) (g : WA) : WE := fun rh mu Q => o rh mu fun x mu1 => isL mu1 x = true ∧ g rh mu1 fun ws mu2 => f mu2 x ws Q
def MtD (K : KW) (r : V → List V → Hp → VK → Prop) (f : FM) : Prop := ∀ (G B F H : Hp) (al : List Addr) (rh : Ev) (si : L2.St) (mu : Sto) (x : W) (vx : V) (ws : List W) (vs : List V) (Qd : W → Sto → Prop) (Q : VK), SR K G B F H al rh si mu → RepW K F al x vx → Paired (RepW K F al) ws vs → f mu x ws Qd →
  (∀ F' H' al' mu' w v, Ext F al F' al' → SR K G B F' H' al' rh si mu' → RepW K F' al' w v → Qd w mu' → Q v H') → r vx vs H Q
section
variable {K : KW} {G B F F' H H' : Hp} {al al' : List Addr} {mu mu' : Sto} {rh : Ev} {si : L2.St}
theorem isL_ok {x : W} {v : V} (s : SRS K G B F H al mu) (r : RepW K F al x v) (e : isL mu x = true) : tyV K "list" v H := by
  unfold isL at e
  split at e
  · cases r with
    | d r => cases r with
      | lst q z p => exact .inl ⟨rfl, _, .inl (rdMono s.fz q)⟩
  · split at e
    · rename_i q
      cases r with
      | loc ea =>
        obtain ⟨vs, h, z, p⟩ := s.lstAt q ea
        exact .inl ⟨rfl, _, SqL.of h⟩
    · rename_i q
      cases r with
      | loc ea =>
        obtain ⟨vs, h, z, p⟩ := s.lstWAt q ea
        exact .inl ⟨rfl, _, SqL.of h⟩
    · cases e
  · cases e
/-- a container's items, whatever they are -/
@[simp] def itsC : C → Option (List W)
  | .lst xs => some (xs.map .d)
  | .lstW ws => some ws
  | _ => none
/-- a list again -/
@[simp] def mkL (ws : List W) : C := match asDs ws with
  | some xs => .lst xs
  | none => .lstW ws
theorem mkL_rep {ws : List W} {vs : List V} (z : vs.length ≤ sizeLine) (p : Paired (RepW K F al) ws vs) {a : Addr} : CRep K F al a (mkL ws) (.lst vs) := by
  unfold mkL
  cases q : asDs ws with
  | none => exact .lstW z p
  | some xs => exact .lst z (asDs_rep (.of p) q).p
/-- xs.append(y) -/
@[simp] def fApp : FM := fun mu x ws Q => match x, ws with
  | .loc k, [y] => match mu[k]? with
    | some (.lst xs) => match y with
      | .d d => xs.length < sizeLine ∧ Q (.d .non) (mu.set k (.lst (xs ++ [d])))
      | y => xs.length < sizeLine ∧ Q (.d .non) (mu.set k (mkL (xs.map .d ++ [y])))
    | some (.lstW us) => us.length < sizeLine ∧ Q (.d .non) (mu.set k (.lstW (us ++ [y])))
    | _ => False
  | _, _ => False
theorem md_app : MtD K rAppend fApp := fun G B F H al rh si mu x vx ws vs Qd Q s r rw_ h q => by
  unfold fApp at h
  split at h
  · rename_i k y
    obtain ⟨v, rfl, r'⟩ := pair1 rw_
    cases r with
    | loc ea =>
      rename_i a
      split at h
      · rename_i xs e
        obtain ⟨vs, hH, z, p⟩ := s.s.lstAt e ea
        have l := Paired.length p
        split at h
        · rename_i d
          refine ⟨a, vs, v, rfl, rfl, hH, by have := h.1; omega, q F _ al _ _ _ (Ext.refl _ _) (s.step (Ext.refl _ _) (s.s.put ea (.lst ?_ (pApp p (pOne ?_))))) (.d .non) h.2⟩
          · rw [List.length_append, List.length_singleton]; have := h.1; omega
          · cases r' with
            | d r' => exact r'
        · refine ⟨a, vs, v, rfl, rfl, hH, by have := h.1; omega, q F _ al _ _ _ (Ext.refl _ _) (s.step (Ext.refl _ _) (s.s.put ea (mkL_rep ?_ (pApp (pMapD p) (pOne r'))))) (.d .non) h.2⟩
          rw [List.length_append, List.length_singleton]; have := h.1; omega
      · rename_i us e
        obtain ⟨vs, hH, z, p⟩ := s.s.lstWAt e ea
        have l := Paired.length p
        refine ⟨a, vs, v, rfl, rfl, hH, by have := h.1; omega, q F _ al _ _ _ (Ext.refl _ _) (s.step (Ext.refl _ _) (s.s.put ea (.lstW ?_ (pApp p (pOne r'))))) (.d .non) h.2⟩
        rw [List.length_append, List.length_singleton]; have := h.1; omega
      · exact h.elim
  · exact h.elim
/-- xs.pop() -/
@[simp] def fPop : FM := fun mu x ws Q => match x, ws with
  | .loc k, [] => match mu[k]? with
    | some (.lst xs) => ∃ d, xs.getLast? = some d ∧ Q (.d d) (mu.set k (.lst xs.dropLast))
    | some (.lstW us) => ∃ u, us.getLast? = some u ∧ Q u (mu.set k (.lstW us.dropLast))
    | _ => False
  | _, _ => False
theorem md_pop : MtD K rPop fPop := fun G B F H al rh si mu x vx ws vs Qd Q s r rw_ h q => by
  unfold fPop at h
  split at h
  · rename_i k
    cases rw_
    cases r with
    | loc ea =>
      rename_i a
      split at h
      · rename_i xs e
        obtain ⟨d, e1, h⟩ := h
        obtain ⟨vs, hH, z, p⟩ := s.s.lstAt e ea
        rw [List.getLast?_eq_getElem?] at e1
        obtain ⟨v, e2, rv⟩ := pGetL p e1
        have l := Paired.length p
        refine ⟨a, vs, v, rfl, rfl, hH, by rw [← l]; exact e2, q F _ al _ _ _ (Ext.refl _ _) (s.step (Ext.refl _ _) (s.s.put ea (.lst ?_ (pDropLast p)))) (.d rv) h⟩
        rw [List.length_dropLast]; omega
      · rename_i us e
        obtain ⟨d, e1, h⟩ := h
        obtain ⟨vs, hH, z, p⟩ := s.s.lstWAt e ea
        rw [List.getLast?_eq_getElem?] at e1
        obtain ⟨v, e2, rv⟩ := pGetL p e1
        have l := Paired.length p
        refine ⟨a, vs, v, rfl, rfl, hH, by rw [← l]; exact e2, q F _ al _ _ _ (Ext.refl _ _) (s.step (Ext.refl _ _) (s.s.put ea (.lstW ?_ (pDropLast p)))) rv h⟩
        rw [List.length_dropLast]; omega
      · exact h.elim
  · exact h.elim
end
section
variable {io : Type} {Y : io → Cx} {P : Program} {w : World} {K : KW} {mg : Str → Option Value} {base : Heap} {N : List Str} {k : Nat} {cpos apos : Pos} {o e : Expr} {es : List Expr} {wo : WE} {ga : WA} {id : String} {name : Str} {r : V → List V → Hp → VK → Prop} {f : FM}
theorem ve_bm (y : YOk Y P w K mg base N k) (pa : PlainAttrs "list") (slot : Slot "list" name id) (hty : typeOf (.builtin id) = pure (.type "method_descriptor")) (hm : ∀ i, MtR (Y i) id r) (hd : MtD K r f) (ho : VE Y K o wo) (ha : VA Y K (e :: es) ga)
    (hbase : ∀ i, attributeBase o name (Y i).env (eval o (Y i).env) = eval o (Y i).env := by exact fun _ => rfl)
    (hfew : ∀ i, ((backTo cpos (starEach (e :: es) (Y i).env)).all (fun x => !x.1) && (backToKw cpos (keywordEach [] (Y i).env)).all (fun x => x.1.isSome)
      && decide ((e :: es).length + ([] : List Keyword).length + (if ([] : List Keyword).isEmpty then 0 else 1) < 30)) = true := by exact fun _ => rfl)
    (hline : (apos.endLine == cpos.line) = true := by rfl) (hs : ∀ i, starEach (e :: es) (Y i).env = (false, eval e (Y i).env) :: starEach es (Y i).env := by exact fun _ => rfl) (hplain : ∀ i, (backTo cpos (starEach es (Y i).env)).any (·.1) = false := by exact fun _ => rfl) :
    VE Y K (.Call (.Attribute o name apos) (e :: es) [] cpos) (wBM f wo ga) := by
  obtain ⟨t, p, d⟩ := ho
  obtain ⟨t2, p2, d2⟩ := ha
  refine ⟨tBM K "list" r t t2, fun i => by rw [← y.hK i]; exact pe_bm pa slot hty (hm i) (p i) (p2 i) (hbase i) (hfew i) hline (hs i) (hplain i), fun G B F H al rh si mu Qd Q s h q => ?_⟩
  refine d G B F H al rh si mu _ _ s h fun F1 H1 al1 mu1 x vx e1 s1 r1 h1 => ⟨isL_ok s1.s r1 h1.1, ?_⟩
  refine d2 G B F1 H1 al1 rh si mu1 _ _ s1 h1.2 fun F2 H2 al2 mu2 ws vs e2 s2 r2 h2 => ?_
  exact hd G B F2 H2 al2 rh si mu2 x vx ws vs Qd Q s2 (r1.mono e2) r2 h2 fun F3 H3 al3 mu3 z vz e3 => q F3 H3 al3 mu3 z vz ((e1.trans e2).trans e3)
theorem ve_bm0 (y : YOk Y P w K mg base N k) (pa : PlainAttrs "list") (slot : Slot "list" name id) (hty : typeOf (.builtin id) = pure (.type "method_descriptor")) (hm : ∀ i, MtR (Y i) id r) (hd : MtD K r f) (ho : VE Y K o wo)
    (hbase : ∀ i, attributeBase o name (Y i).env (eval o (Y i).env) = eval o (Y i).env := by exact fun _ => rfl) (hline : (apos.endLine == cpos.line) = true := by rfl) : VE Y K (.Call (.Attribute o name apos) [] [] cpos) (wBM f wo wNil) := by
  obtain ⟨t, p, d⟩ := ho
  refine ⟨tBM0 K "list" r t, fun i => by rw [← y.hK i]; exact pe_bm0 pa slot hty (hm i) (p i) (hbase i) hline, fun G B F H al rh si mu Qd Q s h q => ?_⟩
  refine d G B F H al rh si mu _ _ s h fun F1 H1 al1 mu1 x vx e1 s1 r1 h1 => ⟨isL_ok s1.s r1 h1.1, ?_⟩
  exact hd G B F1 H1 al1 rh si mu1 x vx [] [] Qd Q s1 r1 .nil h1.2 fun F3 H3 al3 mu3 z vz e3 => q F3 H3 al3 mu3 z vz (e1.trans e3)
theorem ve_append (y : YOk Y P w K mg base N k) (ho : VE Y K o wo) (ha : VA Y K [e] ga)
    (hbase : ∀ i, attributeBase o "append" (Y i).env (eval o (Y i).env) = eval o (Y i).env := by exact fun _ => rfl)
    (hfew : ∀ i, ((backTo cpos (starEach [e] (Y i).env)).all (fun x => !x.1) && (backToKw cpos (keywordEach [] (Y i).env)).all (fun x => x.1.isSome)
      && decide ([e].length + ([] : List Keyword).length + (if ([] : List Keyword).isEmpty then 0 else 1) < 30)) = true := by exact fun _ => rfl)
    (hline : (apos.endLine == cpos.line) = true := by rfl) (hs : ∀ i, starEach [e] (Y i).env = (false, eval e (Y i).env) :: starEach [] (Y i).env := by exact fun _ => rfl) :
    VE Y K (.Call (.Attribute o "append" apos) [e] [] cpos) (wBM fApp wo ga) := ve_bm y PySem.F.plainAttrs_list PySem.F.slot_list_append PySem.F.type_list_append (fun _ => mt_append) md_app ho ha hbase hfew hline hs
theorem ve_pop (y : YOk Y P w K mg base N k) (ho : VE Y K o wo) (hbase : ∀ i, attributeBase o "pop" (Y i).env (eval o (Y i).env) = eval o (Y i).env := by exact fun _ => rfl) (hline : (apos.endLine == cpos.line) = true := by rfl) :
    VE Y K (.Call (.Attribute o "pop" apos) [] [] cpos) (wBM fPop wo wNil) := ve_bm0 y PySem.F.plainAttrs_list PySem.F.slot_list_pop PySem.F.type_list_pop (fun _ => mt_pop) md_pop ho hbase hline
end
end VL
namespace VL
open PySem PySem.Spec PyProof.Rows L2

abbrev un (X : Cx) : Unit → Cx := fun _ => X
def VS (X : Cx) (K : KW) (st : Stmt) (f : WS) : Prop := ∃ t, PS X st t ∧ DenS K t f
def VSs (X : Cx) (K : KW) (sts : List Stmt) (f : WS) : Prop := ∃ t, PSs X sts t ∧ DenS K t f

section
variable {X : Cx} {P : Program} {w : World} {K : KW} {mg : Str → Option Value} {base : Heap} {N : List Str} {k : Nat} {st : Stmt} {rest : List Stmt} {f g : WS} {e : Expr} {we : WE} {pos : Pos}
/-! ### blocks -/
@[simp] def wNext : WS := fun V rh mu => V.nx rh mu
@[simp] def wSeq (f g : WS) : WS := fun V rh mu => f { V with nx := g V } rh mu
theorem dens_next : DenS K tNext wNext := fun G B F H al rh si mu V1 D1 s h b => b.nx F H al rh si mu (Ext.refl _ _) s h
theorem vss_nil : VSs X K [] wNext := ⟨_, pss_nil, dens_next⟩
theorem vss_one (h : VS X K st f) : VSs X K [st] f := by
  obtain ⟨t, p, d⟩ := h
  exact ⟨t, pss_one p, d⟩
theorem vss_cons (h : VS X K st f) (hr : VSs X K rest g) : VSs X K (st :: rest) (wSeq f g) := by
  obtain ⟨t, p, d⟩ := h
  obtain ⟨u, p', d'⟩ := hr
  refine ⟨_, pss_cons p p', fun G B F H al rh si mu V1 D1 s h b => ?_⟩
  refine d G B F H al rh si mu _ _ s h ⟨fun F' H' al' rh' si' mu' x s' h' => ?_, b.rt, b.bk, b.ct⟩
  exact d' G B F' H' al' rh' si' mu' V1 D1 s' h' (b.mono x)
@[simp] def wNever : WS := fun _ _ _ => False
theorem vs_never : VS X K st wNever := ⟨_, ps_never, fun G B F H al rh si mu V1 D1 s h b => h.elim⟩
@[simp] def wDrop (a : WE) : WS := fun V rh mu => a rh mu fun _ mu1 => V.nx rh mu1
theorem vs_expr (he : VE (un X) K e we) (hs : swapsWith e none pos.line X.env = pure false := by rfl) : VS X K (.Expr e pos) (wDrop we) := by
  obtain ⟨t, p, d⟩ := he
  refine ⟨_, ps_expr (p ()) hs, fun G B F H al rh si mu V1 D1 s h b => ?_⟩
  exact d G B F H al rh si mu _ _ s h fun F1 H1 al1 mu1 x vx e1 s1 r1 h1 => b.nx F1 H1 al1 rh si mu1 e1 s1 h1
@[simp] def wRet (a : WE) : WS := fun V rh mu => a rh mu V.rt
theorem vs_ret (he : VE (un X) K e we) : VS X K (.Return (some e) pos) (wRet we) := by
  obtain ⟨t, p, d⟩ := he
  refine ⟨_, ps_ret (p ()), fun G B F H al rh si mu V1 D1 s h b => ?_⟩
  exact d G B F H al rh si mu _ _ s h fun F1 H1 al1 mu1 x vx e1 s1 r1 h1 => b.rt F1 H1 al1 mu1 x vx e1 s1.s r1 h1
@[simp] def wIfS (c : WT) (f g : WS) : WS := fun V rh mu => c rh mu fun b mu1 => if b = true then f V rh mu1 else g V rh mu1
theorem vs_if {c : Expr} {a b : List Stmt} {fc : WT} (hc : VT (un X) K c fc) (ha : VSs X K a f) (hb : VSs X K b g) : VS X K (.If c a b pos) (wIfS fc f g) := by
  obtain ⟨t, p, d⟩ := hc
  obtain ⟨t1, p1, d1⟩ := ha
  obtain ⟨t2, p2, d2⟩ := hb
  refine ⟨_, ps_if (p ()) p1 p2, fun G B F H al rh si mu V1 D1 s h b => ?_⟩
  refine d G B F H al rh si mu _ _ s h fun F1 H1 al1 mu1 x e1 s1 h1 => ?_
  cases x with
  | true => exact iteT (d1 G B F1 H1 al1 rh si mu1 V1 D1 s1 (by simpa using h1) (b.mono e1))
  | false => exact iteF (d2 G B F1 H1 al1 rh si mu1 V1 D1 s1 (by simpa using h1) (b.mono e1))

/-! ### targets -/
abbrev WG := W → Ev → Sto → (Ev → Sto → Prop) → Prop
abbrev WGs := List W → Ev → Sto → (Ev → Sto → Prop) → Prop
def DenG (K : KW) (t : TG) (f : WG) : Prop := ∀ (G B F H : Hp) (al : List Addr) (rh : Ev) (si : L2.St) (mu : Sto) (x : W) (v : V) (Qd : Ev → Sto → Prop) (Q : L2.St → Hp → Prop), SR K G B F H al rh si mu → RepW K F al x v → f x rh mu Qd →
  (∀ F' H' al' rh' si' mu', Ext F al F' al' → SR K G B F' H' al' rh' si' mu' → Qd rh' mu' → Q si' H') → t v si H Q
def DenGs (K : KW) (t : TGs) (f : WGs) : Prop := ∀ (G B F H : Hp) (al : List Addr) (rh : Ev) (si : L2.St) (mu : Sto) (x : List W) (v : List V) (Qd : Ev → Sto → Prop) (Q : L2.St → Hp → Prop), SR K G B F H al rh si mu → Paired (RepW K F al) x v → f x rh mu Qd →
  (∀ F' H' al' rh' si' mu', Ext F al F' al' → SR K G B F' H' al' rh' si' mu' → Qd rh' mu' → Q si' H') → t v si H Q
/-- it stores to the slots vs alone -/
def GKeep (vs : List Nat) (t : TG) : Prop := ∀ v σ H Q Q', (∀ σ' H', wipe σ' vs = wipe σ vs → Q σ' H' → Q' σ' H') → t v σ H Q → t v σ H Q'
def GKeeps (vs : List Nat) (t : TGs) : Prop := ∀ v σ H Q Q', (∀ σ' H', wipe σ' vs = wipe σ vs → Q σ' H' → Q' σ' H') → t v σ H Q → t v σ H Q'
def VG {io : Type} (Y : io → Cx) (K : KW) (tg : Expr) (f : WG) : Prop := ∃ t, (∀ i, PG (Y i) tg t) ∧ DenG K t f
def VK {io : Type} (Y : io → Cx) (K : KW) (tg : Expr) (f : WG) (vs : List Nat) : Prop := ∃ t, (∀ i, PG (Y i) tg t) ∧ DenG K t f ∧ GKeep vs t
def VKs {io : Type} (Y : io → Cx) (K : KW) (tg : List Expr) (f : WGs) (vs : List Nat) : Prop := ∃ t, (∀ i, PGs (Y i) tg t) ∧ DenGs K t f ∧ GKeeps vs t
theorem VK.vg {io : Type} {Y : io → Cx} {K : KW} {tg : Expr} {f : WG} {vs : List Nat} (h : VK Y K tg f vs) : VG Y K tg f := by
  obtain ⟨t, a, b, _⟩ := h
  exact ⟨t, a, b⟩
@[simp] def wgName (i : Nat) : WG := fun x rh mu Q => Q (rh.set i (some x)) mu
theorem wipe_set (σ : L2.St) (i : Nat) (x : Option V) : ∀ vs : List Nat, i ∈ vs → wipe (σ.set i x) vs = wipe σ vs
  | [], h => by cases h
  | v :: vs, h => by
    unfold wipe
    by_cases q : i = v
    · subst q
      have : ∀ us : List Nat, (wipe (σ.set i x) us).set i none = (wipe σ us).set i none := fun us => by
        induction us with
        | nil => show (σ.set i x).set i none = σ.set i none; rw [List.set_set]
        | cons u us ih =>
          unfold wipe
          by_cases z : u = i
          · subst z; rw [List.set_set, List.set_set, ih]
          · rw [List.set_comm _ _ z, List.set_comm _ _ z, ih]
      exact this vs
    · rw [wipe_set σ i x vs (by rcases List.mem_cons.mp h with z | z; exact absurd z q; exact z)]
section
variable {io : Type} {Y : io → Cx}
theorem den_gName (i : Nat) : DenG K (gName i) (wgName i) := fun G B F H al rh si mu x v Qd Q s r h q => q F H al _ _ mu (Ext.refl _ _) (s.set r) h
theorem vk_name (y : YOk Y P w K mg base N k) (i : Nat) {x : Str} (vs : List Nat) (hi : N[i]? = some x := by rfl) (hx : ∀ j, Loc (Y j).env.scope x := by first | exact fun _ => Or.inl rfl | exact fun _ => Or.inr rfl) (hf : ∀ j, (Y j).fn x = true ∨ (Y j).env.scope.names.lookup x = some .local := by first | exact fun _ => Or.inl rfl | exact fun _ => Or.inr rfl) (hv : i ∈ vs := by decide) :
    VK Y K (.Name x pos) (wgName i) vs :=
  ⟨_, fun j => pg_name (by rw [y.hN j]; exact y.nd) (by rw [y.hN j]; exact hi) (hx j) (hf j), den_gName i, fun v σ H Q Q' k h => k _ _ (wipe_set σ i _ vs hv) h⟩
@[simp] def wgNil : WGs := fun xs rh mu Q => match xs with
  | [] => Q rh mu
  | _ :: _ => False
@[simp] def wgCons (f : WG) (g : WGs) : WGs := fun xs rh mu Q => match xs with
  | x :: r => f x rh mu fun rh' mu' => g r rh' mu' Q
  | [] => False
theorem den_gNil : DenGs K gNil wgNil := fun G B F H al rh si mu x v Qd Q s r h q => by
  cases r with
  | nil => exact ⟨rfl, q F H al rh si mu (Ext.refl _ _) s h⟩
  | cons _ _ => exact h.elim
theorem den_gCons {t : TG} {u : TGs} {f : WG} {g : WGs} (d : DenG K t f) (d2 : DenGs K u g) : DenGs K (gCons t u) (wgCons f g) := fun G B F H al rh si mu x v Qd Q s r h q => by
  unfold wgCons at h
  split at h
  · cases r with
    | cons r rr =>
      refine ⟨_, _, rfl, d G B F H al rh si mu _ _ _ _ s r h fun F1 H1 al1 rh1 si1 mu1 e1 s1 h1 => ?_⟩
      exact d2 G B F1 H1 al1 rh1 si1 mu1 _ _ _ _ s1 (Paired.mapP rr fun _ _ z => z.mono e1) h1 fun F2 H2 al2 rh2 si2 mu2 e2 => q F2 H2 al2 rh2 si2 mu2 (e1.trans e2)
  · exact h.elim
theorem vks_nil (vs : List Nat) : VKs Y K [] wgNil vs := ⟨_, fun _ => pgs_nil, den_gNil, fun v σ H Q Q' k h => ⟨h.1, k _ _ rfl h.2⟩⟩
theorem vks_cons {es : List Expr} {fg : WG} {fgs : WGs} {vs : List Nat} (h1 : VK Y K e fg vs) (h2 : VKs Y K es fgs vs) (hs : ∀ i, (assignEach (e :: es) (Y i).env).map (·.2) = assign e (Y i).env :: (assignEach es (Y i).env).map (·.2) := by exact fun _ => rfl) : VKs Y K (e :: es) (wgCons fg fgs) vs := by
  obtain ⟨t, p, d, kp⟩ := h1
  obtain ⟨t2, p2, d2, kp2⟩ := h2
  refine ⟨_, fun i => pgs_cons (p i) (p2 i) (hs i), den_gCons d d2, fun v σ H Q Q' k h => ?_⟩
  obtain ⟨x, r, rfl, h⟩ := h
  exact ⟨x, r, rfl, kp x σ H _ _ (fun σ1 H1 w1 h1 => kp2 r σ1 H1 Q Q' (fun σ' H' w2 q => k σ' H' (w2.trans w1) q) h1) h⟩
/-- (a, b, ..) = a tuple -/
@[simp] def wgTup (n : Nat) (g : WGs) : WG := fun x rh mu Q => match x with
  | .d (.tup xs) => xs.length = n ∧ g (xs.map .d) rh mu Q
  | .tup ws => ws.length = n ∧ g ws rh mu Q
  | _ => False
theorem den_gTup {t : TGs} {g : WGs} (n : Nat) (d : DenGs K t g) : DenG K (gTup K n t) (wgTup n g) := fun G B F H al rh si mu x v Qd Q s r h q => by
  unfold wgTup at h
  split at h
  · obtain ⟨a, vs, rfl, hs, z, p⟩ := repTup r
    exact ⟨a, vs, rfl, sqtMono s.s.fz hs, by rw [← Paired.length p]; exact h.1, d G B F H al rh si mu _ _ _ _ s (pMapD p) h.2 q⟩
  · cases r with
    | tup hs z p => exact ⟨_, _, rfl, sqtMono s.s.fz hs, by rw [← Paired.length p.p]; exact h.1, d G B F H al rh si mu _ _ _ _ s p.p h.2 q⟩
  · exact h.elim
theorem vk_tup (y : YOk Y P w K mg base N k) {es : List Expr} {kk : Nat} {g : WGs} (n : Nat) {vs : List Nat} (h : VKs Y K es g vs) (hn : ∀ i, (assignEach es (Y i).env).length = n := by exact fun _ => rfl) (hst : ∀ i, (assignEach es (Y i).env).findIdx? (·.1) = none := by exact fun _ => rfl) : VK Y K (.Tuple es kk pos) (wgTup n g) vs := by
  obtain ⟨t, p, d, kp⟩ := h
  refine ⟨gTup K n t, fun i => by rw [← y.hK i]; exact pg_tup (y.calm i) (p i) (hn i) (hst i), den_gTup n d, fun v σ H Q Q' k h => ?_⟩
  obtain ⟨a, xs, e, hs, l, h⟩ := h
  exact ⟨a, xs, e, hs, l, kp xs σ H Q Q' k h⟩
/-- o[i] = .. of a list -/
abbrev FSet := Sto → W → W → W → (Sto → Prop) → Prop
def SetD (K : KW) (t : TSet) (f : FSet) : Prop := ∀ (G B F H : Hp) (al : List Addr) (rh : Ev) (si : L2.St) (mu : Sto) (o i x : W) (vo vi v : V) (Qd : Sto → Prop) (Q : Hp → Prop), SR K G B F H al rh si mu → RepW K F al o vo → RepW K F al i vi → RepW K F al x v → f mu o i x Qd →
  (∀ F' H' al' mu', Ext F al F' al' → SR K G B F' H' al' rh si mu' → Qd mu' → Q H') → t vo vi v H Q
@[simp] def fSetL : FSet := fun mu o i x Q => match o, i with
  | .loc k, .d (.int n) => match mu[k]? with
    | some (.lst xs) => ∃ j, ixN xs.length n = some j ∧ match x with
      | .d d => Q (mu.set k (.lst (xs.set j d)))
      | x => Q (mu.set k (mkL ((xs.map .d).set j x)))
    | some (.lstW ws) => ∃ j, ixN ws.length n = some j ∧ Q (mu.set k (.lstW (ws.set j x)))
    | _ => False
  | _, _ => False
theorem sd_list : SetD K rSetL fSetL := fun G B F H al rh si mu o i x vo vi v Qd Q s ro ri rx h q => by
  unfold fSetL at h
  split at h
  · rename_i k n
    cases repInt ri
    cases ro with
    | loc ea =>
      rename_i a
      split at h
      · rename_i xs e
        obtain ⟨j, e1, h⟩ := h
        obtain ⟨vs, hH, z, p⟩ := s.s.lstAt e ea
        have l := Paired.length p
        split at h
        · rename_i d
          have rd : RepD K F d v := by cases rx with | d r => exact r
          exact ⟨a, vs, n, j, rfl, rfl, hH, by rw [← l]; exact e1, q F _ al _ (Ext.refl _ _) (s.step (Ext.refl _ _) (s.s.put ea (.lst (by rw [List.length_set]; exact z) (pSet rd j p)))) h⟩
        · exact ⟨a, vs, n, j, rfl, rfl, hH, by rw [← l]; exact e1, q F _ al _ (Ext.refl _ _) (s.step (Ext.refl _ _) (s.s.put ea (mkL_rep (by rw [List.length_set]; exact z) (pSet rx j (pMapD p))))) h⟩
      · rename_i ws e
        obtain ⟨j, e1, h⟩ := h
        obtain ⟨vs, hH, z, p⟩ := s.s.lstWAt e ea
        have l := Paired.length p
        exact ⟨a, vs, n, j, rfl, rfl, hH, by rw [← l]; exact e1, q F _ al _ (Ext.refl _ _) (s.step (Ext.refl _ _) (s.s.put ea (.lstW (by rw [List.length_set]; exact z) (pSet rx j p)))) h⟩
      · exact h.elim
  · exact h.elim
@[simp] def wgSub (f : FSet) (o i : WE) : WG := fun x rh mu Q => o rh mu fun ov mu1 => i rh mu1 fun iv mu2 => f mu2 ov iv x fun mu3 => Q rh mu3
theorem vg_sub {o i : Expr} {wo wi : WE} {t : TSet} {f : FSet} (ho : VE Y K o wo) (hi : VE Y K i wi) (hs : ∀ j, PSet (Y j) t) (hd : SetD K t f)
    (ha : ∀ j v, assign (.Subscript o i pos) (Y j).env v = (do
      let ov ← holding [v] (eval o (Y j).env)
      let iv ← holding [v, ov] (eval i (Y j).env)
      standAt pos
      holding [v, ov, iv] (setItem ov iv v)
      release [v, ov, iv] []) := by exact fun _ _ => rfl) : VG Y K (.Subscript o i pos) (wgSub f wo wi) := by
  obtain ⟨t1, p1, d1⟩ := ho
  obtain ⟨t2, p2, d2⟩ := hi
  refine ⟨_, fun j => pg_sub (p1 j) (p2 j) (hs j) (ha j), fun G B F H al rh si mu x v Qd Q s r h q => ?_⟩
  refine d1 G B F H al rh si mu _ _ s h fun F1 H1 al1 mu1 ov vo e1 s1 r1 h1 => ?_
  refine d2 G B F1 H1 al1 rh si mu1 _ _ s1 h1 fun F2 H2 al2 mu2 iv vi e2 s2 r2 h2 => ?_
  exact hd G B F2 H2 al2 rh si mu2 ov iv x vo vi v _ _ s2 (r1.mono e2) r2 (r.mono (e1.trans e2)) h2 fun F3 H3 al3 mu3 e3 s3 h3 => q F3 H3 al3 rh si mu3 ((e1.trans e2).trans e3) s3 h3
theorem vg_subL {o i : Expr} {wo wi : WE} (ho : VE Y K o wo) (hi : VE Y K i wi)
    (ha : ∀ j v, assign (.Subscript o i pos) (Y j).env v = (do
      let ov ← holding [v] (eval o (Y j).env)
      let iv ← holding [v, ov] (eval i (Y j).env)
      standAt pos
      holding [v, ov, iv] (setItem ov iv v)
      release [v, ov, iv] []) := by exact fun _ _ => rfl) : VG Y K (.Subscript o i pos) (wgSub fSetL wo wi) := vg_sub ho hi (fun _ => set_list) sd_list ha
end

/-! ### assignments -/
@[simp] def wAsg (a : WE) (g : WG) : WS := fun V rh mu => a rh mu fun x mu1 => g x rh mu1 V.nx
theorem den_asg {te : TE} {g : TG} {fg : WG} (d : Den K te we) (d2 : DenG K g fg) : DenS K (tAsg te g) (wAsg we fg) := fun G B F H al rh si mu V1 D1 s h b => by
  refine d G B F H al rh si mu _ _ s h fun F1 H1 al1 mu1 x vx e1 s1 r1 h1 => ?_
  exact d2 G B F1 H1 al1 rh si mu1 x vx _ _ s1 r1 h1 fun F2 H2 al2 rh2 si2 mu2 e2 s2 h2 => b.nx F2 H2 al2 rh2 si2 mu2 (e1.trans e2) s2 h2
theorem vs_set (y : YOk (un X) P w K mg base N k) (i : Nat) {x : Str} {pos' : Pos} (he : VE (un X) K e we) (hi : N[i]? = some x := by rfl) (hx : Loc X.env.scope x := by first | exact Or.inl rfl | exact Or.inr rfl) (hs : swapsWith e (some (.Name x pos')) pos.line X.env = pure false := by rfl)
    (hf : X.fn x = true ∨ X.env.scope.names.lookup x = some .local := by first | exact .inl rfl | exact .inr rfl) : VS X K (.Assign [.Name x pos'] e pos) (wAsg we (wgName i)) := by
  obtain ⟨t, p, d⟩ := he
  exact ⟨_, ps_set (by have q := y.hN (); show X.N.Nodup; rw [show X.N = N from q]; exact y.nd) (by have q := y.hN (); rw [show X.N = N from q]; exact hi) hx (p ()) hs hf, den_asg d (den_gName i)⟩
theorem vs_asg {tg : Expr} {fg : WG} (he : VE (un X) K e we) (hg : VG (un X) K tg fg) (hs : swapsWithSole [tg] e pos.line X.env = pure false := by rfl) (hw : swappedStores [tg] e X.env = pure none := by rfl)
    (h1 : (assignEach [tg] X.env).map (·.2) = [assign tg X.env] := by rfl) : VS X K (.Assign [tg] e pos) (wAsg we fg) := by
  obtain ⟨t, p, d⟩ := he
  obtain ⟨t2, p2, d2⟩ := hg
  exact ⟨_, ps_asg (p ()) (p2 ()) hs hw h1, den_asg d d2⟩
/-- x op= e -/
@[simp] def wAug (f : F2) (i : Nat) (a : WE) : WS := fun V rh mu => wVar i rh mu fun x _ => a rh mu fun y mu1 => f mu1 x y fun z mu2 => V.nx (rh.set i (some z)) mu2
theorem vs_aug (y : YOk (un X) P w K mg base N k) (i : Nat) {x : Str} {op : Operator} {ti : TIp} {f : F2} {pos' : Pos} (he : VE (un X) K e we) (ho : PIp X op ti) (hd : OpD K ti f) (hi : N[i]? = some x := by rfl) (hx : Loc X.env.scope x := by first | exact Or.inl rfl | exact Or.inr rfl)
    (hf : X.fn x = true ∨ X.env.scope.names.lookup x = some .local := by first | exact .inl rfl | exact .inr rfl) : VS X K (.AugAssign (.Name x pos') op e pos) (wAug f i we) := by
  obtain ⟨t, p, d⟩ := he
  have q := y.hN ()
  refine ⟨_, ps_aug (by rw [show X.N = N from q]; exact y.nd) (by rw [show X.N = N from q]; exact hi) hx (p ()) ho hf, fun G B F H al rh si mu V1 D1 s h b => ?_⟩
  unfold wAug wVar at h
  split at h
  · rename_i w0 e0
    obtain ⟨v, e1, r⟩ := s.env i w0 e0
    refine ⟨v, e1, d G B F H al rh si mu _ _ s h fun F1 H1 al1 mu1 z vz x1 s1 r1 h1 => ?_⟩
    exact hd G B F1 H1 al1 rh si mu1 w0 z v vz _ _ s1 (r.mono x1) r1 h1 fun F2 H2 al2 mu2 u vu x2 s2 r2 h2 => b.nx F2 H2 al2 _ _ mu2 (x1.trans x2) (s2.set r2) h2
  · exact h.elim
theorem vs_augAdd (y : YOk (un X) P w K mg base N k) (i : Nat) {x : Str} {pos' : Pos} (he : VE (un X) K e we) (hi : N[i]? = some x := by rfl) (hx : Loc X.env.scope x := by first | exact Or.inl rfl | exact Or.inr rfl)
    (hf : X.fn x = true ∨ X.env.scope.names.lookup x = some .local := by first | exact .inl rfl | exact .inr rfl) : VS X K (.AugAssign (.Name x pos') .Add e pos) (wAug (fI0 fun a b => a + b) i we) := vs_aug y i he ip_add opd_I0 hi hx hf
/-! ### while -/
/-! ### what a loop walks: its items, and what must hold at each turn -/
abbrev WI := Ev → Sto → (List W → (Sto → Prop) → Sto → Prop) → Prop
structure ItD (K : KW) (F : Hp) (al : List Addr) (J : It) (items : List W) (chk : Sto → Prop) : Prop where
  sz : items.length ≤ sizeLine
  go : ∀ (i : Nat) (x : W) G B F' H al' mu, Ext F al F' al' → SRS K G B F' H al' mu → chk mu → items[i]? = some x → J.go i H
  yld : ∀ (i : Nat) (x : W) G B F' H al' mu v H', Ext F al F' al' → SRS K G B F' H al' mu → chk mu → items[i]? = some x → J.yld i H v H' → ∃ F2, Ext F' al' F2 al' ∧ SRS K G B F2 H' al' mu ∧ RepW K F2 al' x v
  stop : ∀ G B F' H al' mu, Ext F al F' al' → SRS K G B F' H al' mu → chk mu → J.stop items.length H
def DenI (K : KW) (t : TI) (f : WI) : Prop := ∀ (G B F H : Hp) (al : List Addr) (rh : Ev) (si : L2.St) (mu : Sto) (Qd : List W → (Sto → Prop) → Sto → Prop) (R : It → Hp → Prop), SR K G B F H al rh si mu → f rh mu Qd →
  (∀ F' H' al' mu' J items chk, Ext F al F' al' → SR K G B F' H' al' rh si mu' → ItD K F' al' J items chk → Qd items chk mu' → R J H') → t si H R
def VI {io : Type} (Y : io → Cx) (K : KW) (tg e : Expr) (f : WI) : Prop := ∃ t, (∀ i, PI (Y i) tg e t) ∧ DenI K t f
/-- the turns -/
@[simp] def forL (chk : Sto → Prop) (g : WG) (b : WS) (V : EV) : List W → Ev → Sto → Prop
  | [], rh, mu => chk mu ∧ V.nx rh mu
  | x :: xs, rh, mu => chk mu ∧ g x rh mu fun rh' mu' => b { V with nx := forL chk g b V xs, ct := forL chk g b V xs, bk := V.nx } rh' mu'
@[simp] def wFor (it : WI) (g : WG) (b : WS) : WS := fun V rh mu => it rh mu fun items chk mu1 => forL chk g b V items rh mu1
theorem vs_for {tg iter : Expr} {body : List Stmt} {fi : WI} {fg : WG} {vs : List Nat} (hp : PassesOwn (model X.prog X.w) X.A X.env X.xe) (hc : X.calm = true) (hi : VI (un X) K tg iter fi) (hg : VK (un X) K tg fg vs) (hb : VSs X K body f)
    (hs : ∀ x, foldedSetIterable iter X.env x = pure x := by intro _; rfl) : VS X K (.For tg iter body [] pos) (wFor fi fg f) := by
  obtain ⟨t, p, d⟩ := hi
  obtain ⟨t2, p2, d2, _⟩ := hg
  obtain ⟨u, p', d'⟩ := hb
  refine ⟨_, ps_for hp hc (p ()) (p2 ()) p' hs, fun G B F H al rh si mu V1 D1 s h b => ?_⟩
  refine d G B F H al rh si mu _ _ s h fun F0 H0 al0 mu0 J items chk e0 s0 it h0 => ?_
  refine ⟨fun i m σ H1 => m = items.length - i ∧ i ≤ items.length ∧ ∃ F1 al1 rh1 mu1, Ext F0 al0 F1 al1 ∧ SR K G B F1 H1 al1 rh1 σ mu1 ∧ forL chk fg f V1 (items.drop i) rh1 mu1, ⟨_, rfl, Nat.zero_le _, F0, al0, rh, mu0, Ext.refl _ _, s0, h0⟩, ?_⟩
  rintro i m σ H1 ⟨rfl, hi, F1, al1, rh1, mu1, e1, s1, h1⟩
  by_cases hlt : i < items.length
  · have ed : items.drop i = items[i] :: items.drop (i + 1) := List.drop_eq_getElem_cons hlt
    rw [ed] at h1
    have ei : items[i]? = some items[i] := by simp [hlt]
    obtain ⟨hchk, h1⟩ := h1
    refine .inr ⟨it.go i _ G B F1 H1 al1 mu1 e1 s1.s hchk ei, fun σ' H' => i + 1 ≤ items.length ∧ ∃ F1 al1 rh1 mu1, Ext F0 al0 F1 al1 ∧ SR K G B F1 H' al1 rh1 σ' mu1 ∧ forL chk fg f V1 (items.drop (i + 1)) rh1 mu1, fun σ' H' z => ⟨items.length - (i + 1), by omega, rfl, z.1, z.2⟩, fun x H' y => ?_⟩
    obtain ⟨F2, e2, s2, r2⟩ := it.yld i _ G B F1 H1 al1 mu1 x H' e1 s1.s hchk ei y
    refine d2 G B F2 H' al1 rh1 σ mu1 _ _ _ _ (s1.step e2 s2) r2 h1 fun F3 H3 al3 rh3 si3 mu3 e3 s3 h3 => ?_
    have ex := (e1.trans e2).trans e3
    have again : ∀ F' H' al' rh' si' mu', Ext F3 al3 F' al' → SR K G B F' H' al' rh' si' mu' → forL chk fg f V1 (items.drop (i + 1)) rh' mu' → i + 1 ≤ items.length ∧ ∃ F1 al1 rh1 mu1, Ext F0 al0 F1 al1 ∧ SR K G B F1 H' al1 rh1 si' mu1 ∧ forL chk fg f V1 (items.drop (i + 1)) rh1 mu1 :=
      fun F' H' al' rh' si' mu' x s' h' => ⟨hlt, F', al', rh', mu', ex.trans x, s', h'⟩
    exact d' G B F3 H3 al3 rh3 si3 mu3 _ _ s3 h3 ⟨again, fun F' H' al' mu' w v x => b.rt F' H' al' mu' w v ((e0.trans ex).trans x), fun F' H' al' rh' si' mu' x => b.nx F' H' al' rh' si' mu' ((e0.trans ex).trans x), again⟩
  · have e : i = items.length := by omega
    subst e
    rw [List.drop_length] at h1
    exact .inl ⟨it.stop G B F1 H1 al1 mu1 e1 s1.s h1.1, b.nx F1 H1 al1 rh1 σ mu1 (e0.trans e1) s1 h1.2⟩
end
end VL
namespace VL
open PySem PySem.Spec PyProof.Rows L2 RZ

/-! ### what is walked -/
section
variable {X : Cx} {tg : Expr}
/-- a list, a tuple, a text -/
def iAny (K : PySem.W.Frag) (tl : TE) : TI := fun σ H R => tl σ H fun x H1 => (∃ a, x = .ref a ∧ (∃ xs, SqL K H1 a xs) ∧ R (Itl K a) H1) ∨ (∃ a, x = .ref a ∧ (∃ xs, SqT K H1 a xs) ∧ R (Itt K a) H1)
theorem pi_any {l : Expr} {tl : TE} (hl : PE X l tl) : PI X tg l (iAny X.K tl) := by
  refine ⟨fun pins s σ H R I h => ?_⟩
  refine thn (hl.run pins s σ H _ I h) fun v s1 ⟨x, H1, I1, r1, q1⟩ => ?_
  rcases q1 with q1 | q1
  · obtain ⟨a, e, ⟨xs, hq⟩, q⟩ := q1
    subst e
    cases r1
    obtain ⟨its, rv, p, hz⟩ := I1.list hq
    refine wpAny_pyIter_list p.isList ?_
    refine ⟨s1.heap.objs.size, [s1.heap.objs.size], _, _, H1, rfl, I1.kept (t' := s1.toks) fun b o e => Heap.get?_push_of_some _ e, turn_list a _, ⟨_, Heap.get?_push_size _ rfl, rfl, rfl⟩, fun b hb => ?_, q⟩
    have e : b = s1.heap.objs.size := by simpa using hb
    subst e
    exact I1.fpOk (Nat.le_refl _) (I1.hok.fresh (Nat.le_refl _))
  · obtain ⟨a, e, ⟨xs, hq⟩, q⟩ := q1
    subst e
    cases r1
    obtain ⟨its, rv, p, hz⟩ := I1.tuple hq
    refine wpAny_pyIter_tuple (show s1.heap.IsTuple a its.toArray from p) ?_
    refine ⟨s1.heap.objs.size, [s1.heap.objs.size], _, _, H1, rfl, I1.kept (t' := s1.toks) fun b o e => Heap.get?_push_of_some _ e, turn_tuple a _, ⟨_, Heap.get?_push_size _ rfl, rfl, rfl⟩, fun b hb => ?_, q⟩
    have e : b = s1.heap.objs.size := by simpa using hb
    subst e
    exact I1.fpOk (Nat.le_refl _) (I1.hok.fresh (Nat.le_refl _))
end
/-- the sequence stays while it is walked -/
@[simp] def chkW (x : W) (ws : List W) : Sto → Prop := match x with
  | .loc _ => fun mu => seqW mu x = some ws
  | _ => fun _ => True
@[simp] def wSeqI (a : WE) : WI := fun rh mu Q => a rh mu fun x mu1 => match seqW mu1 x with
  | some ws => Q ws (chkW x ws) mu1
  | none => False
section
variable {io : Type} {Y : io → Cx} {P : Program} {w : World} {K : KW} {mg : Str → Option Value} {base : Heap} {N : List Str} {k : Nat} {pos p tpos : Pos} {a b e e2 tg : Expr} {wa wb : WE} {ga : WA} {elts : List Expr} {kk : Nat}
theorem seqW_kind {x : W} {v : V} {ws : List W} {G B F H : Hp} {al : List Addr} {mu : Sto} (s : SRS K G B F H al mu) (r : RepW K F al x v) (e : seqW mu x = some ws) : ∃ (b : Addr) (vs : List V), v = .ref b ∧ vs.length = ws.length ∧ vs.length ≤ sizeLine ∧
    ((∀ G' B' F' H' al' mu', Ext F al F' al' → SRS K G' B' F' H' al' mu' → chkW x ws mu' → ∃ us, SqL K H' b us ∧ Paired (RepW K F' al') ws us) ∨ (∀ G' B' F' H' al' mu', Ext F al F' al' → SRS K G' B' F' H' al' mu' → chkW x ws mu' → ∃ us, SqT K H' b us ∧ Paired (RepW K F' al') ws us)) := by
  cases x with
  | loc k =>
    cases r with
    | loc ea =>
      rename_i a
      obtain ⟨b, vs, e1, hs, z, p⟩ := seqW_rep s (.loc ea) e
      cases e1
      refine ⟨a, vs, rfl, (Paired.length p).symm, z, .inl fun G' B' F' H' al' mu' x s' c => ?_⟩
      have c' : seqW mu' (.loc k) = some ws := c
      unfold seqW at c'
      simp only at c'
      split at c'
      · rename_i q
        cases c'
        obtain ⟨us, h, z, p⟩ := s'.lstAt q (x.at ea)
        exact ⟨us, SqL.of h, pMapD p⟩
      · rename_i q
        cases c'
        obtain ⟨us, h, z, p⟩ := s'.lstWAt q (x.at ea)
        exact ⟨us, SqL.of h, p⟩
      · cases c'
  | d x =>
    cases x with
    | lst xs =>
      cases e
      cases r with
      | d r => cases r with
        | lst q z p => exact ⟨_, _, rfl, by rw [List.length_map, p.len], z, .inl fun G' B' F' H' al' mu' x s' c => ⟨_, .inl (rdMono (x.1.trans s'.fz) q), pMapD (Paired.mapP p.p fun _ _ z => z.mono x.1)⟩⟩
    | tup xs =>
      cases e
      obtain ⟨b, vs, rfl, q, z, p⟩ := repTup r
      exact ⟨b, vs, rfl, by rw [List.length_map, Paired.length p], z, .inr fun G' B' F' H' al' mu' x s' c => ⟨_, sqtMono (x.1.trans s'.fz) q, pMapD (Paired.mapP p fun _ _ z => z.mono x.1)⟩⟩
    | scr ns =>
      cases e
      cases r with
      | d r => cases r with
        | scr q z => exact ⟨_, ns.map V.int, rfl, by simp, by simpa using z, .inl fun G' B' F' H' al' mu' x s' c => ⟨_, sqlMono (x.1.trans s'.fz) q, pScr _⟩⟩
    | _ => cases e
  | tup us =>
    cases e
    cases r with
    | tup q z p => exact ⟨_, _, rfl, (Paired.length p.p).symm, z, .inr fun G' B' F' H' al' mu' x s' c => ⟨_, sqtMono (x.1.trans s'.fz) q, Paired.mapP p.p fun _ _ z => z.mono x⟩⟩
  | ty n => cases e
  | raw a => cases e
theorem vi_seq (y : YOk Y P w K mg base N k) (ha : VE Y K a wa) : VI Y K tg a (wSeqI wa) := by
  obtain ⟨t, p1, d1⟩ := ha
  refine ⟨iAny K t, fun i => by rw [← y.hK i]; exact pi_any (p1 i), fun G B F H al rh si mu Qd R s h q => ?_⟩
  refine d1 G B F H al rh si mu _ _ s h fun F1 H1 al1 mu1 x vx e1 s1 r1 h1 => ?_
  split at h1
  · rename_i ws e
    obtain ⟨b, vs, rfl, hl, z, hk⟩ := seqW_kind s1.s r1 e
    have c0 : chkW x ws mu1 := by
      unfold chkW
      split
      · exact e
      · trivial
    rcases hk with hk | hk
    · obtain ⟨us0, hs0, p0⟩ := hk G B F1 H1 al1 mu1 (Ext.refl _ _) s1.s c0
      refine .inl ⟨b, rfl, ⟨us0, hs0⟩, q F1 H1 al1 mu1 _ ws _ e1 s1 ⟨by omega, ?_, ?_, ?_⟩ h1⟩
      · intro i x G' B' F' H' al' mu' ex s' c ei
        obtain ⟨us, hs, p⟩ := hk G' B' F' H' al' mu' ex s' c
        obtain ⟨v, ev, rv⟩ := pGetL p ei
        exact ⟨us, v, hs, ev⟩
      · intro i x G' B' F' H' al' mu' v H'' ex s' c ei yl
        obtain ⟨us, hs, p⟩ := hk G' B' F' H' al' mu' ex s' c
        obtain ⟨v', ev, rv⟩ := pGetL p ei
        obtain ⟨rfl, yl⟩ := yl
        have := yl us hs
        rw [ev] at this
        cases this
        exact ⟨F', Ext.refl _ _, s', rv⟩
      · intro G' B' F' H' al' mu' ex s' c
        obtain ⟨us, hs, p⟩ := hk G' B' F' H' al' mu' ex s' c
        exact ⟨us, hs, by rw [← Paired.length p]; exact Nat.le_refl _⟩
    · obtain ⟨us0, hs0, p0⟩ := hk G B F1 H1 al1 mu1 (Ext.refl _ _) s1.s c0
      refine .inr ⟨b, rfl, ⟨us0, hs0⟩, q F1 H1 al1 mu1 _ ws _ e1 s1 ⟨by omega, ?_, ?_, ?_⟩ h1⟩
      · intro i x G' B' F' H' al' mu' ex s' c ei
        obtain ⟨us, hs, p⟩ := hk G' B' F' H' al' mu' ex s' c
        obtain ⟨v, ev, rv⟩ := pGetL p ei
        exact ⟨us, v, hs, ev⟩
      · intro i x G' B' F' H' al' mu' v H'' ex s' c ei yl
        obtain ⟨us, hs, p⟩ := hk G' B' F' H' al' mu' ex s' c
        obtain ⟨v', ev, rv⟩ := pGetL p ei
        obtain ⟨rfl, yl⟩ := yl
        have := yl us hs
        rw [ev] at this
        cases this
        exact ⟨F', Ext.refl _ _, s', rv⟩
      · intro G' B' F' H' al' mu' ex s' c
        obtain ⟨us, hs, p⟩ := hk G' B' F' H' al' mu' ex s' c
        exact ⟨us, hs, by rw [← Paired.length p]; exact Nat.le_refl _⟩
  · exact h1.elim

/-- a range -/
def rngW : Int → Nat → List W
  | _, 0 => []
  | lo, n + 1 => .d (.int lo) :: rngW (lo + 1) n
theorem rngW_len : ∀ (lo : Int) (n : Nat), (rngW lo n).length = n
  | _, 0 => rfl
  | lo, n + 1 => by rw [rngW, List.length_cons, rngW_len]
theorem rngW_get : ∀ (lo : Int) (n i : Nat), i < n → (rngW lo n)[i]? = some (.d (.int (lo + i)))
  | _, 0, _, h => by omega
  | lo, n + 1, 0, _ => by simp [rngW]
  | lo, n + 1, i + 1, h => by
    rw [rngW, List.getElem?_cons_succ, rngW_get (lo + 1) n i (by omega)]
    congr 3; omega
theorem it_rng {F : Hp} {al : List Addr} {lo : Int} {n : Nat} (h : n ≤ sizeLine) : ItD K F al (Itr lo n) (rngW lo n) fun _ => True where
  sz := by rw [rngW_len]; exact h
  go := fun i x G B F' H al' mu _ _ _ e => by
    have := (List.getElem?_eq_some_iff.mp e).1
    rw [rngW_len] at this; exact this
  yld := fun i x G B F' H al' mu v H' _ s _ e yl => by
    have l := (List.getElem?_eq_some_iff.mp e).1
    rw [rngW_len] at l
    rw [rngW_get lo n i l] at e
    cases e
    obtain ⟨rfl, rfl⟩ := yl
    exact ⟨F', Ext.refl _ _, s, .d (.int _)⟩
  stop := fun G B F' H al' mu _ _ _ => by
    show n ≤ (rngW lo n).length
    rw [rngW_len]; exact Nat.le_refl _
@[simp] def wRng1 (g : WA) : WI := fun rh mu Q => g rh mu fun ws mu1 => match ws with
  | [.d (.int j)] => j ≤ 1000000 ∧ -(2 ^ 62) ≤ j ∧ Q (rngW 0 j.toNat) (fun _ => True) mu1
  | _ => False
@[simp] def wRng2 (g : WA) : WI := fun rh mu Q => g rh mu fun ws mu1 => match ws with
  | [.d (.int i), .d (.int j)] => (j - i ≤ 1000000 ∧ -(2 ^ 62) ≤ i ∧ i < 2 ^ 62 ∧ -(2 ^ 62) ≤ j ∧ j < 2 ^ 62) ∧ Q (rngW i (j - i).toNat) (fun _ => True) mu1
  | _ => False
theorem vi_rng1 (y : YOk Y P w K mg base N k) (hm : mg "range" = none) (ha : VA Y K [a] ga) (hg : ∀ j, Gl (Y j) "range" := by exact fun _ => rfl) (hs : ∀ i, starEach [a] (Y i).env = [(false, eval a (Y i).env)] := by exact fun _ => rfl) : VI Y K tg (.Call (.Name "range" p) [a] [] pos) (wRng1 ga) := by
  obtain ⟨t, p1, d1⟩ := ha
  refine ⟨_, fun i => pi_range1 (hg i) (by rw [y.hmg i]; exact hm) (p1 i) (hs i), fun G B F H al rh si mu Qd R s h q => ?_⟩
  refine d1 G B F H al rh si mu _ _ s h fun F1 H1 al1 mu1 ws vs e1 s1 r1 h1 => ?_
  split at h1
  · obtain ⟨v, rfl, r⟩ := pair1 r1
    cases repInt r
    have l : sizeLine = 16777216 := sizeLine_eq
    exact ⟨_, rfl, h1.2.1, by have := h1.1; omega, q F1 H1 al1 mu1 _ _ _ e1 s1 (it_rng (by have := h1.1; omega)) h1.2.2⟩
  · exact h1.elim
theorem vi_rng2 (y : YOk Y P w K mg base N k) (hm : mg "range" = none) (ha : VA Y K [a, b] ga) (hg : ∀ j, Gl (Y j) "range" := by exact fun _ => rfl) (hs : ∀ i, starEach [a, b] (Y i).env = [(false, eval a (Y i).env), (false, eval b (Y i).env)] := by exact fun _ => rfl) (hs2 : ∀ i, starEach [b] (Y i).env = [(false, eval b (Y i).env)] := by exact fun _ => rfl) : VI Y K tg (.Call (.Name "range" p) [a, b] [] pos) (wRng2 ga) := by
  obtain ⟨t, p1, d1⟩ := ha
  refine ⟨_, fun i => pi_range2 (hg i) (by rw [y.hmg i]; exact hm) (p1 i) (hs i) (hs2 i), fun G B F H al rh si mu Qd R s h q => ?_⟩
  refine d1 G B F H al rh si mu _ _ s h fun F1 H1 al1 mu1 ws vs e1 s1 r1 h1 => ?_
  split at h1
  · obtain ⟨v, u, rfl, r, r'⟩ := pair2 r1
    cases repInt r
    cases repInt r'
    have l : sizeLine = 16777216 := sizeLine_eq
    obtain ⟨⟨h2, h3⟩, h4⟩ := h1
    exact ⟨_, _, rfl, h3, q F1 H1 al1 mu1 _ _ _ e1 s1 (it_rng (by omega)) h4⟩
  · exact h1.elim

/-- enumerate, zip: each turn's tuple is a new one -/
theorem tup2_new {G B F H : Hp} {al : List Addr} {mu : Sto} {x x' : W} {v v' : V} {T : Addr} (s : SRS K G B F H al mu) (r : RepW K F al x v) (r' : RepW K F al x' v') (hT : H T = none) : ∃ F2, Ext F al F2 al ∧ SRS K G B F2 (upd H T (.tup [v, v'])) al mu ∧ RepW K F2 al (mkTup [x, x']) (.ref T) := by
  have e := s.frozX (o := .tup [v, v']) hT
  refine ⟨_, e, s.froz hT, ?_⟩
  have z : ([v, v'] : List V).length ≤ sizeLine := by show 2 ≤ sizeLine; decide
  have p : Paired (RepW K F al) [x, x'] [v, v'] := .cons r (.cons r' .nil)
  unfold mkTup
  cases q : asDs [x, x'] with
  | none => exact .tup (SqT.of upd_same) z ((RepWs.of p).mono e)
  | some xs => exact .d (.tup (SqT.of upd_same) z ((asDs_rep (.of p) q).mono e.1))
@[simp] def enumW : Nat → List W → List W
  | _, [] => []
  | n, x :: xs => mkTup [.d (.int n), x] :: enumW (n + 1) xs
theorem enumW_len : ∀ (n : Nat) (xs : List W), (enumW n xs).length = xs.length
  | _, [] => rfl
  | n, x :: xs => by rw [enumW, List.length_cons, enumW_len, List.length_cons]
theorem enumW_get : ∀ (n : Nat) (xs : List W) (i : Nat) (z : W), (enumW n xs)[i]? = some z → ∃ x, xs[i]? = some x ∧ z = mkTup [.d (.int ((n + i : Nat) : Int)), x]
  | _, [], i, z, h => by simp [enumW] at h
  | n, x :: xs, 0, z, h => by simp [enumW] at h; exact ⟨x, by simp, by rw [← h]; rfl⟩
  | n, x :: xs, i + 1, z, h => by
    rw [enumW, List.getElem?_cons_succ] at h
    obtain ⟨y, h1, h2⟩ := enumW_get (n + 1) xs i z h
    exact ⟨y, by simpa using h1, by rw [h2]; congr 5; omega⟩
@[simp] def wEnum (g : WA) : WI := fun rh mu Q => g rh mu fun ws mu1 => match ws with
  | [x] => isL mu1 x = true ∧ match seqW mu1 x with
    | some us => Q (enumW 0 us) (chkW x us) mu1
    | none => False
  | _ => False
theorem isL_sqL {G B F H : Hp} {al : List Addr} {mu : Sto} {x : W} {v : V} {ws : List W} (s : SRS K G B F H al mu) (r : RepW K F al x v) (e : seqW mu x = some ws) (l : isL mu x = true) : ∃ (b : Addr) (vs : List V), v = .ref b ∧ vs.length = ws.length ∧ vs.length ≤ sizeLine ∧ SqL K H b vs ∧
    (∀ G' B' F' H' al' mu', Ext F al F' al' → SRS K G' B' F' H' al' mu' → chkW x ws mu' → ∃ us, SqL K H' b us ∧ Paired (RepW K F' al') ws us) := by
  cases x with
  | loc k =>
    cases r with
    | loc ea =>
      rename_i a
      obtain ⟨b, vs, e1, hs, z, p⟩ := seqW_rep s (.loc ea) e
      cases e1
      have main : ∀ G' B' F' H' al' mu', Ext F al F' al' → SRS K G' B' F' H' al' mu' → chkW (.loc k) ws mu' → ∃ us, SqL K H' a us ∧ Paired (RepW K F' al') ws us := fun G' B' F' H' al' mu' x s' c => by
        have c' : seqW mu' (.loc k) = some ws := c
        unfold seqW at c'
        simp only at c'
        split at c'
        · rename_i q
          cases c'
          obtain ⟨us, h, z, p⟩ := s'.lstAt q (x.at ea)
          exact ⟨us, SqL.of h, pMapD p⟩
        · rename_i q
          cases c'
          obtain ⟨us, h, z, p⟩ := s'.lstWAt q (x.at ea)
          exact ⟨us, SqL.of h, p⟩
        · cases c'
      obtain ⟨us, h1, h2⟩ := main G B F H al mu (Ext.refl _ _) s e
      have le := Paired.length h2
      refine ⟨a, us, rfl, le.symm, ?_, h1, main⟩
      rw [← le, Paired.length p]; exact z
  | d x =>
    cases x with
    | lst xs =>
      cases e
      cases r with
      | d r => cases r with
        | lst q z p => exact ⟨_, _, rfl, by rw [List.length_map, p.len], z, .inl (rdMono s.fz q), fun G' B' F' H' al' mu' x s' c => ⟨_, .inl (rdMono (x.1.trans s'.fz) q), pMapD (Paired.mapP p.p fun _ _ z => z.mono x.1)⟩⟩
    | _ => first | (cases l; done) | (cases e; done)
  | tup us => cases l
  | ty n => cases e
  | raw a => cases e
theorem vi_enum (y : YOk Y P w K mg base N k) (hm : mg "enumerate" = none) (ha : VA Y K [e] ga) (hg : ∀ j, Gl (Y j) "enumerate" := by exact fun _ => rfl) (hs : ∀ i, starEach [e] (Y i).env = [(false, eval e (Y i).env)] := by exact fun _ => rfl) : VI Y K (.Tuple elts kk tpos) (.Call (.Name "enumerate" p) [e] [] pos) (wEnum ga) := by
  obtain ⟨t, p1, d1⟩ := ha
  refine ⟨iEnum K t, fun i => by rw [← y.hK i]; exact pi_enum (hg i) (by rw [y.hmg i]; exact hm) (p1 i) (hs i), fun G B F H al rh si mu Qd R s h q => ?_⟩
  refine d1 G B F H al rh si mu _ _ s h fun F1 H1 al1 mu1 ws vs e1 s1 r1 h1 => ?_
  split at h1
  · rename_i x
    obtain ⟨v, rfl, r⟩ := pair1 r1
    obtain ⟨hl, h1⟩ := h1
    split at h1
    · rename_i us e
      obtain ⟨b, vs, rfl, hle, z, hq, main⟩ := isL_sqL s1.s r e hl
      refine ⟨b, vs, rfl, hq, q F1 H1 al1 mu1 _ _ (chkW x us) e1 s1 ⟨by rw [enumW_len]; omega, ?_, ?_, ?_⟩ h1⟩
      · intro i x G' B' F' H' al' mu' ex s' c ei
        obtain ⟨ys, hs, p⟩ := main G' B' F' H' al' mu' ex s' c
        obtain ⟨x0, h2, rfl⟩ := enumW_get _ _ _ _ ei
        obtain ⟨v, ev, rv⟩ := pGetL p h2
        exact ⟨ys, v, hs, ev⟩
      · intro i x G' B' F' H' al' mu' v H'' ex s' c ei yl
        obtain ⟨ys, hs, p⟩ := main G' B' F' H' al' mu' ex s' c
        obtain ⟨x0, h2, rfl⟩ := enumW_get _ _ _ _ ei
        obtain ⟨v', ev, rv⟩ := pGetL p h2
        obtain ⟨T, x1, rfl, hT, rfl, yl⟩ := yl
        have := yl ys hs
        rw [ev] at this
        cases this
        rw [Nat.zero_add]
        exact tup2_new s' (.d (.int _)) rv hT
      · intro G' B' F' H' al' mu' ex s' c
        obtain ⟨ys, hs, p⟩ := main G' B' F' H' al' mu' ex s' c
        exact ⟨ys, hs, by rw [enumW_len, ← Paired.length p]; exact Nat.le_refl _⟩
    · exact h1.elim
  · exact h1.elim
end
end VL
namespace VL
open PySem PySem.Spec PyProof.Rows L2 RZ

/-! ### an object beside: kept by what must stay -/
section
variable {K : KW} {G B F F' H H' : Hp} {al al' : List Addr} {mu mu' : Sto} {p : Addr} {o o' : HO}
theorem SRS.guard (s : SRS K G B F H al mu) (hH : H p = some o) (hF : F p = none) (hal : p ∉ al) : SRS K G (upd B p o) F H al mu where
  fz := s.fz
  bs := fun a u e => by
    by_cases q : a = p
    · subst q; rw [upd_same] at e; cases e; exact hH
    · rw [upd_ne q] at e; exact s.bs _ _ e
  gf := s.gf
  fr := fun a u e => by
    have ne : a ≠ p := ne_of_none e hF
    rw [upd_ne ne]; exact s.fr a u e
  nd := s.nd
  len := s.len
  st := fun k c e => by
    obtain ⟨a, u, e1, e2, e3, e4, e5⟩ := s.st k c e
    have ne : a ≠ p := fun z => hal (z ▸ List.mem_of_getElem? e1)
    exact ⟨a, u, e1, e2, by rw [upd_ne ne]; exact e3, e4, e5⟩
theorem SRS.unguard (s : SRS K G (upd B p o) F H al mu) (hB : B p = none) : SRS K G B F H al mu ∧ H p = some o ∧ p ∉ al where
  left := {
    fz := s.fz
    bs := fun a u e => s.bs _ _ (by rw [upd_ne (ne_of_none e hB)]; exact e)
    gf := s.gf
    fr := fun a u e => by
      rcases s.fr a u e with q | q | q
      · exact .inl q
      · refine .inr (.inl ?_)
        by_cases z : a = p
        · subst z; exact hB
        · rw [upd_ne z] at q; exact q
      · exact .inr (.inr q)
    nd := s.nd
    len := s.len
    st := fun k c e => by
      obtain ⟨a, u, e1, e2, e3, e4, e5⟩ := s.st k c e
      refine ⟨a, u, e1, e2, ?_, e4, e5⟩
      by_cases z : a = p
      · subst z; exact hB
      · rw [upd_ne z] at e3; exact e3 }
  right := ⟨s.bs _ _ upd_same, fun h => by
    obtain ⟨k, hk⟩ := List.mem_iff_getElem?.mp h
    obtain ⟨c, hc⟩ := s.has hk
    obtain ⟨_, _, q, _, _⟩ := s.at hc hk
    rw [upd_same] at q; cases q⟩
/-- it may be written -/
theorem SRS.beside (s : SRS K G B F H al mu) (hB : B p = none) (hF : F p = none) (hal : p ∉ al) : SRS K G B F (upd H p o') al mu where
  fz := fun a u e => by rw [upd_ne (ne_of_none e hF)]; exact s.fz _ _ e
  bs := fun a u e => by rw [upd_ne (ne_of_none e hB)]; exact s.bs _ _ e
  gf := s.gf
  fr := s.fr
  nd := s.nd
  len := s.len
  st := fun k c e => by
    obtain ⟨a, u, e1, e2, e3, e4, e5⟩ := s.st k c e
    have ne : a ≠ p := fun z => hal (z ▸ List.mem_of_getElem? e1)
    exact ⟨a, u, e1, e2, e3, by rw [upd_ne ne]; exact e4, e5⟩
theorem SRS.frozAt (s : SRS K G B F H al mu) (hH : H p = some o) (hF : F p = none) (hB : B p = none) (hal : p ∉ al) : SRS K G B (upd F p o) H al mu where
  fz := fun a u e => by
    by_cases q : a = p
    · subst q; rw [upd_same] at e; cases e; exact hH
    · rw [upd_ne q] at e; exact s.fz _ _ e
  bs := s.bs
  gf := s.gf.trans (sameN hF)
  fr := fun a u e => by
    by_cases q : a = p
    · subst q; exact .inr (.inl hB)
    · rw [upd_ne q] at e; exact s.fr a u e
  nd := s.nd
  len := s.len
  st := fun k c e => by
    obtain ⟨a, u, e1, e2, e3, e4, e5⟩ := s.st k c e
    have ne : a ≠ p := fun z => hal (z ▸ List.mem_of_getElem? e1)
    exact ⟨a, u, e1, by rw [upd_ne ne]; exact e2, e3, e4, e5.mono ⟨sameN hF, [], by simp⟩⟩
theorem SRS.ownAt {c : C} (s : SRS K G B F H al mu) (hH : H p = some o) (hF : F p = none) (hB : B p = none) (hal : p ∉ al) (r : CRep K F al p c o) : SRS K G B F H (al ++ [p]) (mu ++ [c]) where
  fz := s.fz
  bs := s.bs
  gf := s.gf
  fr := s.fr
  nd := List.nodup_append.mpr ⟨s.nd, by simp, fun a ha b hb e => by
    have z : b = p := by simpa using hb
    exact hal (z ▸ e ▸ ha)⟩
  len := by simp [s.len]
  st := fun k c' e => by
    by_cases hk : k < mu.length
    · rw [List.getElem?_append_left hk] at e
      obtain ⟨a, u, e1, e2, e3, e4, e5⟩ := s.st k c' e
      exact ⟨a, u, by rw [List.getElem?_append_left (by rw [s.len]; exact hk)]; exact e1, e2, e3, e4, e5.mono ⟨Same.refl F, [p], rfl⟩⟩
    · rw [List.getElem?_append_right (by omega)] at e
      have hz : k - mu.length = 0 := by
        have := (List.getElem?_eq_some_iff.mp e).1
        simp at this; omega
      rw [hz] at e
      have e' : c = c' := by simpa using e
      subst e'
      exact ⟨p, o, by rw [List.getElem?_append_right (by rw [s.len]; omega), s.len, hz]; rfl, hF, hB, hH, r.mono ⟨Same.refl F, [p], rfl⟩⟩
/-- a list that stands already becomes ours -/
theorem newLW_at {o : Bool} {ws : List W} {vs : List V} {Qd : W → Sto → Prop} {Q : L2.VK} {rh : Ev} {si : L2.St} (s : SR K G B F H al rh si mu) (pr : Paired (RepW K F al) ws vs) (z : vs.length ≤ sizeLine) (hH : H p = some (.lst vs)) (hF : F p = none) (hB : B p = none) (hal : p ∉ al) (h : newLW o ws mu Qd)
    (k : ∀ F' H' al' mu' w v, Ext F al F' al' → SR K G B F' H' al' rh si mu' → RepW K F' al' w v → Qd w mu' → Q v H') : Q (.ref p) H := by
  unfold newLW at h
  have x := SRS.ownX (F := F) (al := al) (p := p)
  cases q : asDs ws with
  | some xs =>
    rw [q] at h
    have pd := (asDs_rep (.of pr) q).p
    unfold newL at h
    cases o with
    | true => exact k _ _ _ _ _ _ x (s.step x (s.s.ownAt hH hF hB hal (.lst z pd))) (.loc s.s.atNew) h
    | false =>
      have x : Ext F al (upd F p (.lst vs)) al := ⟨sameN hF, [], by simp⟩
      exact k _ _ _ _ _ _ x (s.step x (s.s.frozAt hH hF hB hal)) (.d (.lst (Rd.of upd_same) z ((RepDs.of pd).mono x.1))) h
  | none =>
    rw [q] at h
    exact k _ _ _ _ _ _ x (s.step x (s.s.ownAt hH hF hB hal (.lstW z pr))) (.loc s.s.atNew) h
end

/-! ### comprehensions -/
@[simp] def lcL (chk : Sto → Prop) (g : WG) (tt : WT) (te : WE) (rh : Ev) : List W → List W → Sto → (List W → Sto → Prop) → Prop
  | [], acc, mu, Q => chk mu ∧ Q acc mu
  | x :: xs, acc, mu, Q => chk mu ∧ g x rh mu fun rh' mu1 => tt rh' mu1 fun b mu2 => if b = true then te rh' mu2 fun y mu3 => lcL chk g tt te rh xs (acc ++ [y]) mu3 Q else lcL chk g tt te rh xs acc mu2 Q
@[simp] def wLc (o : Bool) (it : WI) (g : WG) (tt : WT) (te : WE) (vs : List Nat) : WE := fun rh mu Q => it rh mu fun items chk mu1 => lcL chk g tt te (wipeE rh vs) items [] mu1 fun ws mu2 => newLW o ws mu2 Q
theorem wipe_wipe (σ : L2.St) (vs : List Nat) : ∀ us : List Nat, (∀ u ∈ us, u ∈ vs) → wipe (wipe σ us) vs = wipe σ vs
  | [], _ => rfl
  | u :: us, h => by
    show wipe ((wipe σ us).set u none) vs = _
    rw [wipe_set _ u none vs (h u (by simp))]
    exact wipe_wipe σ vs us fun x hx => h x (by simp [hx])
def VTs {io : Type} (Y : io → Cx) (K : KW) (ifs : List Expr) (f : WT) : Prop := ∃ t, (∀ i, PTs (Y i) ifs t) ∧ DenT K t f
@[simp] def wYes : WT := fun _ mu Q => Q true mu
section
variable {io : Type} {Y : io → Cx} {P : Program} {w : World} {K : KW} {mg : Str → Option Value} {base : Heap} {N : List Str} {k : Nat} {pos : Pos} {c elt tg iter : Expr} {ifs : List Expr} {fc : WT}
theorem vts_nil : VTs Y K [] wYes := ⟨_, fun _ => pts_nil, fun G B F H al rh si mu Qd Q s h q => q F H al mu true (Ext.refl _ _) s h⟩
theorem vts_one (h : VT Y K c fc) : VTs Y K [c] fc := by
  obtain ⟨t, p, d⟩ := h
  exact ⟨t, fun i => pts_one (p i), d⟩
/-- the contexts of a comprehension's block -/
abbrev BlkIx (io : Type) := io × Shared × Hp × Addr × List (Str × Addr) × List Addr
abbrev blkY (Y : io → Cx) (scope : Scope) : BlkIx io → Cx := fun j => (Y j.1).blk j.2.1 j.2.2.1 scope (compEnvC scope j.2.2.2.2.1 j.2.2.2.1 (Y j.1).env) j.2.2.2.2.2
theorem YOk.blk (y : YOk Y P w K mg base N k) (scope : Scope) : YOk (blkY Y scope) P w K mg base N k :=
  ⟨fun j => y.hP j.1, fun j => y.hw j.1, fun j => y.hK j.1, fun j => y.hmg j.1, fun j => y.hbase j.1, fun j => y.hN j.1, y.nd, fun j => y.calm j.1, fun j => y.room j.1⟩
theorem den_lc (o : Bool) {wi : TI} {g : TG} {tt : TT} {te : TE} {vs : List Nat} {fi : WI} {fg : WG} {ft : WT} {fe : WE} (di : DenI K wi fi) (dg : DenG K g fg) (kg : GKeep vs g) (dt : DenT K tt ft) (de : Den K te fe) : Den K (tLc wi g tt te vs) (wLc o fi fg ft fe vs) := fun G B F H al rh si mu Qd Q s h q => by
  refine di G B F H al rh si mu _ _ s h fun F0 H0 al0 mu0 J items chk e0 s0 it h0 => ?_
  intro D hD
  have hB : B D = none := sameNone s0.s.bs hD
  have hF0 : F0 D = none := sameNone s0.s.fz hD
  have hG : G D = none := sameNone (s0.s.gf) hF0
  refine ⟨fun i m H1 => m = items.length - i ∧ i ≤ items.length ∧ ∃ F1 al1 mu1 acc vs1, Ext F0 al0 F1 al1 ∧ SRS K G (upd B D (.lst vs1)) F1 H1 al1 mu1 ∧ F1 D = none ∧ Paired (RepW K F1 al1) acc vs1 ∧ vs1.length ≤ i ∧ lcL chk fg ft fe (wipeE rh vs) (items.drop i) acc mu1 fun ws mu2 => newLW o ws mu2 Qd, ⟨_, rfl, Nat.zero_le _, F0, al0, mu0, [], [], Ext.refl _ _, ?_, hF0, .nil, Nat.le_refl _, h0⟩, ?_⟩
  · have s1 : SRS K G B F0 (upd H0 D (.lst [])) al0 mu0 := s0.s.beside hB hF0 (fun z => by
      obtain ⟨k, hk⟩ := List.mem_iff_getElem?.mp z
      obtain ⟨c, hc⟩ := s0.s.has hk
      obtain ⟨_, _, _, q, _⟩ := s0.s.at hc hk
      rw [hD] at q; cases q)
    exact s1.guard upd_same hF0 (fun z => by
      obtain ⟨k, hk⟩ := List.mem_iff_getElem?.mp z
      obtain ⟨c, hc⟩ := s0.s.has hk
      obtain ⟨_, _, _, q, _⟩ := s0.s.at hc hk
      rw [hD] at q; cases q)
  rintro i m H1 ⟨rfl, hi, F1, al1, mu1, acc, vs1, e1, s1, hF1, pa, hl, h1⟩
  by_cases hlt : i < items.length
  · have ed : items.drop i = items[i] :: items.drop (i + 1) := List.drop_eq_getElem_cons hlt
    rw [ed] at h1
    have ei : items[i]? = some items[i] := by simp [hlt]
    obtain ⟨hchk, h1⟩ := h1
    refine .inr ⟨it.go i _ _ _ F1 H1 al1 mu1 e1 s1 hchk ei, fun H' => i + 1 ≤ items.length ∧ ∃ F1 al1 mu1 acc vs1, Ext F0 al0 F1 al1 ∧ SRS K G (upd B D (.lst vs1)) F1 H' al1 mu1 ∧ F1 D = none ∧ Paired (RepW K F1 al1) acc vs1 ∧ vs1.length ≤ i + 1 ∧ lcL chk fg ft fe (wipeE rh vs) (items.drop (i + 1)) acc mu1 fun ws mu2 => newLW o ws mu2 Qd,
      fun H' z => ⟨items.length - (i + 1), by omega, rfl, z.1, z.2⟩, fun x H' y => ?_⟩
    obtain ⟨F2, e2, s2, r2⟩ := it.yld i _ _ _ F1 H1 al1 mu1 x H' e1 s1 hchk ei y
    -- the new list is no frozen thing
    have noF : ∀ {F' H' : Hp} {al' : List Addr} {mu' : Sto}, SRS K G (upd B D (.lst vs1)) F' H' al' mu' → F' D = none := fun {F' H' al' mu'} s' => by
      cases q : F' D with
      | none => rfl
      | some u =>
        rcases s'.fr D u q with z | z | z
        · rw [hG] at z; cases z
        · rw [upd_same] at z; cases z
        · have := s'.fz _ _ q
          rw [s'.bs _ _ upd_same] at this
          cases this
          cases z
    have sw : SR K G (upd B D (.lst vs1)) F2 H' al1 (wipeE rh vs) (wipe si vs) mu1 := by
      have a := (s0.wipe vs)
      exact ⟨s2, a.ln, fun j u e => by
        obtain ⟨v, q1, q2⟩ := a.env j u e
        exact ⟨v, q1, q2.mono (e1.trans e2)⟩⟩
    refine kg x (wipe si vs) H' (fun σ2 H2 => tt σ2 H2 fun b H3 => if b = true then te σ2 H3 fun y H4 => ∃ acc, H4 D = some (.lst acc) ∧ acc.length < sizeLine ∧ _ else _) _ (fun σ' H'' w' z => ⟨w'.trans (wipe_wipe si vs vs fun _ z => z), z⟩) ?_
    refine dg G _ F2 H' al1 _ _ mu1 _ _ _ _ sw r2 h1 fun F3 H3 al3 rh3 si3 mu3 e3 s3 h3 => ?_
    refine dt G _ F3 H3 al3 rh3 si3 mu3 _ _ s3 h3 fun F4 H4 al4 mu4 b e4 s4 h4 => ?_
    cases b with
    | false =>
      refine iteF ⟨hlt, F4, al4, mu4, acc, vs1, ((e1.trans e2).trans e3).trans e4, s4.s, noF s4.s, Paired.mapP pa fun _ _ z => z.mono ((e2.trans e3).trans e4), by omega, ?_⟩
      simpa using h4
    | true =>
      refine iteT (de G _ F4 H4 al4 rh3 si3 mu4 _ _ s4 (by simpa using h4) fun F5 H5 al5 mu5 u v e5 s5 r5 h5 => ?_)
      obtain ⟨s6, hD5, hal5⟩ := s5.s.unguard hB
      have ex := (((e2.trans e3).trans e4).trans e5)
      refine ⟨vs1, hD5, by have := it.sz; omega, hlt, F5, al5, mu5, acc ++ [u], vs1 ++ [v], e1.trans ex, ?_, noF s5.s, pApp (Paired.mapP pa fun _ _ z => z.mono ex) (pOne r5), by rw [List.length_append, List.length_singleton]; omega, h5⟩
      exact (s6.beside hB (noF s5.s) hal5).guard upd_same (noF s5.s) hal5
  · have e : i = items.length := by omega
    subst e
    rw [List.drop_length] at h1
    obtain ⟨s2, hD1, hal1⟩ := s1.unguard hB
    refine .inl ⟨it.stop _ _ F1 H1 al1 mu1 e1 s1 h1.1, ?_⟩
    exact newLW_at (s0.step e1 s2) pa (by have := it.sz; omega) hD1 hF1 hB hal1 h1.2 fun F' H' al' mu' w v x => q F' H' al' mu' w v ((e0.trans e1).trans x)
theorem ve_lc (y : YOk Y P w K mg base N k) (o : Bool) {scope : Scope} {own : List (Str × Nat)} {fi : WI} {fg : WG} {ft : WT} {fe : WE} (hi : VI Y K tg iter fi) (ok : ∀ i, BlkOk N (Y i).env.scope scope own)
    (hg : VK (blkY Y scope) K tg fg (own.map (·.2))) (ht : VTs (blkY Y scope) K ifs ft) (he : VE (blkY Y scope) K elt fe) (hs : ∀ i x, foldedSetIterable iter (Y i).env x = pure x := by exact fun _ _ => rfl) :
    VE Y K (.ListComp elt [⟨tg, iter, ifs, 0⟩] scope pos) (wLc o fi fg ft fe (own.map (·.2))) := by
  obtain ⟨t1, p1, d1⟩ := hi
  obtain ⟨t2, p2, d2, kp⟩ := hg
  obtain ⟨t3, p3, d3⟩ := ht
  obtain ⟨t4, p4, d4⟩ := he
  refine ⟨_, fun i => pe_lc (y.calm i) (by rw [y.hN i]; exact y.nd) (p1 i) (by rw [y.hN i]; exact ok i) (fun s H C cl fp => p2 (i, s, H, C, cl, fp)) (fun s H C cl fp => p3 (i, s, H, C, cl, fp)) (fun s H C cl fp => p4 (i, s, H, C, cl, fp)) (hs i), den_lc o d1 d2 kp d3 d4⟩
end
section
variable {X : Cx} {P : Program} {w : World} {K : KW} {mg : Str → Option Value} {base : Heap} {N : List Str} {k : Nat} {pos spos : Pos} {c elt tg iter : Expr} {ifs : List Expr} {fc : WT}
/-- name = [..] on one line -/
theorem vs_setLc (y : YOk (un X) P w K mg base N k) (o : Bool) (i : Nat) {x : Str} {py : Pos} {scope : Scope} {own : List (Str × Nat)} {fi : WI} {fg : WG} {ft : WT} {fe : WE} (hsw : swapsWith (.ListComp elt [⟨tg, iter, ifs, 0⟩] scope pos) (some (.Name x py)) spos.line X.env = pure true)
    (hi : VI (un X) K tg iter fi) (ok : BlkOk N X.env.scope scope own)
    (hg : VK (blkY (un X) scope) K tg fg (own.map (·.2))) (ht : VTs (blkY (un X) scope) K ifs ft) (he : VE (blkY (un X) scope) K elt fe) (hix : N[i]? = some x := by rfl) (hyl : X.env.scope.names.lookup x = some .local := by rfl) (hs : ∀ x, foldedSetIterable iter X.env x = pure x := by exact fun _ => rfl) :
    VS X K (.Assign [.Name x py] (.ListComp elt [⟨tg, iter, ifs, 0⟩] scope pos) spos) (wAsg (wLc o fi fg ft fe (own.map (·.2))) (wgName i)) := by
  obtain ⟨t1, p1, d1⟩ := hi
  obtain ⟨t2, p2, d2, kp⟩ := hg
  obtain ⟨t3, p3, d3⟩ := ht
  obtain ⟨t4, p4, d4⟩ := he
  have q := y.hN ()
  refine ⟨_, ps_setLc (i := i) (y.calm ()) (by rw [show X.N = N from q]; exact y.nd) (by rw [show X.N = N from q]; exact hix) hyl hsw (p1 ()) (by rw [show X.N = N from q]; exact ok) (fun s H C cl fp => p2 ((), s, H, C, cl, fp)) (fun s H C cl fp => p3 ((), s, H, C, cl, fp)) (fun s H C cl fp => p4 ((), s, H, C, cl, fp)) hs, den_asg (den_lc o d1 d2 kp d3 d4) (den_gName i)⟩
end

/-! ### promises -/
abbrev VSp := List W → Sto → (W → Sto → Prop) → Prop
def toSp (K : KW) (sp : VSp) : Sp := fun vs H Q _ => ∃ (B F : Hp) (al : List Addr) (mu : Sto) (ws : List W) (Qd : W → Sto → Prop), SRS K F B F H al mu ∧ Paired (RepW K F al) ws vs ∧ sp ws mu Qd ∧
  ∀ F' H' al' mu' u v, Ext F al F' al' → SRS K F B F' H' al' mu' → RepW K F' al' u v → Qd u mu' → Q v H'
@[simp] def startE (N : List Str) (ws : List W) : Ev := ws.map some ++ List.replicate (N.length - ws.length) none
abbrev bX (P : Program) (w : World) (K : KW) (mg : Str → Option Value) (base : Heap) (N : List Str) (qual : Str) (scope : Scope) (f : Addr) (cdv : Value) (A : Around) (outer : List Env) (s : Shared) (H : Hp) (E : XK) : Cx := (cxOf CX0 P w K mg base N qual scope f cdv A outer s H E).nox
section
variable {P : Program} {w : World} {K : KW} {mg : Str → Option Value} {base : Heap}
theorem bX_ok {N ps : List Str} {qual : Str} {scope : Scope} {f : Addr} {cdv : Value} {A : Around} {outer : List Env} {s : Shared} {H : Hp} {E : XK} {k : Nat} (S : FnScope N ps scope) (hr : Room k (A.deeper (envOfC qual scope s.heap.objs.size f cdv))) :
    YOk (un (bX P w K mg base N qual scope f cdv A outer s H E)) P w K mg base N k := ⟨fun _ => rfl, fun _ => rfl, fun _ => rfl, fun _ => rfl, fun _ => rfl, fun _ => rfl, S.nd, fun _ => rfl, fun _ => hr⟩
theorem start_sr {N : List Str} {G B F H : Hp} {al : List Addr} {mu : Sto} {ws : List W} {vs : List V} (s : SRS K G B F H al mu) (p : Paired (RepW K F al) ws vs) : SR K G B F H al (startE N ws) (L2.start N vs) mu := by
  have l := Paired.length p
  refine ⟨s, by unfold startE L2.start; simp [l], fun i u e => ?_⟩
  unfold startE at e
  unfold L2.start
  by_cases hi : i < ws.length
  · rw [List.getElem?_append_left (by simpa using hi), List.getElem?_map] at e
    cases q : ws[i]? with
    | none => rw [q] at e; cases e
    | some z =>
      rw [q] at e
      cases e
      obtain ⟨v, h1, h2⟩ := pGetL p q
      exact ⟨v, by rw [List.getElem?_append_left (by rw [List.length_map, ← l]; exact hi), List.getElem?_map, h1]; rfl, h2⟩
  · rw [List.getElem?_append_right (by simpa using hi), List.getElem?_replicate] at e
    split at e <;> cases e
/-- THE RULE for a def -/
theorem fnv_ok {x qual : Str} {st : Stmt} {f : Addr} {fd : FuncData} {N ps : List Str} {k : Nat} {sp : VSp} (F : Fun K x qual st f fd) (S : FnScope N ps (defScope st)) (hlen : ∀ ws mu Q, sp ws mu Q → ws.length = ps.length)
    (body : ∀ (cdv : Value) (A : Around) (outer : List Env) (s : Shared) (H : Hp) (E : XK), YOk (un (bX P w K mg base N qual (defScope st) f cdv A outer s H E)) P w K mg base N k →
      ∃ g, VSs (bX P w K mg base N qual (defScope st) f cdv A outer s H E) K (defBody st) g ∧ ∀ ws mu Q, sp ws mu Q → g { nx := fun _ mu => Q (.d .non) mu, rt := Q } (startE N ws) mu) : FnOk P w K mg base CX0 (k + 1) f fd ps (toSp K sp) := by
  refine F.ok S (fun vs H Q E h => ?_) (fun cdv A outer s H vs Q E hr h => ?_)
  · obtain ⟨B, F, al, mu, ws, Qd, s, p, h, _⟩ := h
    rw [← Paired.length p]; exact hlen _ _ _ h
  · obtain ⟨B, F, al, mu, ws, Qd, s', p, h, q⟩ := h
    obtain ⟨g, ⟨t, ht, d⟩, hg⟩ := body cdv A outer s H E (bX_ok S hr)
    refine ⟨t, ht, d F B F H al _ _ mu _ _ (start_sr s' p) (hg ws mu Qd h) ⟨fun F' H' al' rh si mu' x s2 h2 => q F' H' al' mu' _ _ x s2.s (.d .non) h2, fun F' H' al' mu' u v x s2 r h2 => q F' H' al' mu' u v x s2 r h2, fun _ _ _ _ _ _ _ _ z => z.elim, fun _ _ _ _ _ _ _ _ z => z.elim⟩⟩
end
end VL
namespace VL
open PySem PySem.Spec PyProof.Rows L2 RZ

/-! ### a snapshot in any heap that has what is read -/
mutual
@[simp] def dflat : D → Bool
  | .lst _ => false
  | .scr _ => false
  | .tup xs => dflats xs
  | _ => true
@[simp] def dflats : List D → Bool
  | [] => true
  | x :: xs => dflat x && dflats xs
end
mutual
@[simp] def wflat : W → Bool
  | .d x => dflat x
  | .tup ws => wflats ws
  | _ => true
@[simp] def wflats : List W → Bool
  | [] => true
  | x :: xs => wflat x && wflats xs
end
@[simp] def cflat : C → Bool
  | .lst xs => dflats xs
  | .lstW ws => wflats ws
  | .ins _ fs => wflats (fs.map (·.2))
  | .dk kvs => dflats (kvs.map (·.2))
  | .dl _ _ kvs => dflats (kvs.map (·.2))
  | .dn _ kvs => wflats (kvs.map (·.2))
mutual
@[simp] def snapF (mu : Sto) : W → Option D
  | .d x => if dflat x then some x else none
  | .tup ws => (snapFs mu ws).map .tup
  | .loc k => match mu[k]? with
    | some (.lst xs) => if dflats xs then some (.lst xs) else none
    | _ => none
  | _ => none
@[simp] def snapFs (mu : Sto) : List W → Option (List D)
  | [] => some []
  | w :: ws => match snapF mu w, snapFs mu ws with
    | some x, some xs => some (x :: xs)
    | _, _ => none
end
section
variable {K : KW} {G B F F' F2 H H' Fc : Hp} {al al' : List Addr} {mu mu' : Sto}
/-- what F2 must have of F: all, or the tuples -/
def Tups (F F2 : Hp) : Prop := ∀ a o, F a = some o → tupO o = true → F2 a = some o
theorem Tups.sqT {a : Addr} {vs : List V} (h : Tups F F2) (r : SqT K F a vs) : SqT K F2 a vs := by
  rcases r with (r | ⟨o, r⟩) | r
  · exact .inl (.inl (h _ _ r rfl))
  · exact .inl (.inr ⟨o, h _ _ r rfl⟩)
  · exact .inr r
mutual
theorem flat_rep (h : Tups F F2) : ∀ {x : D} {v : V}, RepD K F x v → dflat x = true → RepD K F2 x v
  | _, _, .non, _ => .non
  | _, _, .bl b, _ => .bl b
  | _, _, .int i, _ => .int i
  | _, _, .str x q, _ => .str x q
  | _, _, .tup s z r, e => .tup (h.sqT s) z (flats_rep h r (by simpa [dflat] using e))
  | _, _, .lst s z r, e => by simp [dflat] at e
  | _, _, .scr s z, e => by simp [dflat] at e
theorem flats_rep (h : Tups F F2) : ∀ {x : List D} {v : List V}, RepDs K F x v → dflats x = true → RepDs K F2 x v
  | _, _, .nil, _ => .nil
  | _, _, .cons r t, e => by
    have e' := e
    unfold dflats at e'
    rw [Bool.and_eq_true] at e'
    exact .cons (flat_rep h r e'.1) (flats_rep h t e'.2)
end
mutual
theorem snap_in (s : SRS K G B F H al mu) (h1 : Same F F2) (h2 : ∀ a ∈ al, ∀ o, H a = some o → F2 a = some o) : ∀ {w : W} {v : V} {x : D}, RepW K F al w v → snap mu w = some x → RepD K F2 x v
  | .d x, _, _, .d r, e => by cases e; exact r.mono h1
  | .tup ws, _, _, .tup q z r, e => by
    unfold snap at e
    cases q1 : snaps mu ws with
    | none => rw [q1] at e; cases e
    | some xs => rw [q1] at e; cases e; exact .tup (sqtMono h1 q) z (snaps_in s h1 h2 r q1)
  | .loc k, _, _, .loc ea, e => by
    unfold snap at e
    cases q : mu[k]? with
    | none => rw [q] at e; cases e
    | some c =>
      cases c with
      | lst xs =>
        rw [q] at e; cases e
        obtain ⟨vs, h, z, p⟩ := s.lstAt q ea
        exact .lst (Rd.of (h2 _ (List.mem_of_getElem? ea) _ h)) z (.of (Paired.mapP p fun _ _ r => r.mono h1))
      | lstW ws =>
        rw [q] at e
        cases q2 : asDs ws with
        | none => simp only [q2] at e; cases e
        | some xs =>
          simp only [q2] at e; cases e
          obtain ⟨vs, h, z, p⟩ := s.lstWAt q ea
          exact .lst (Rd.of (h2 _ (List.mem_of_getElem? ea) _ h)) z ((asDs_rep (.of p) q2).mono h1)
      | _ => rw [q] at e; cases e
  | .ty _, _, _, _, e => by cases e
  | .raw _, _, _, _, e => by cases e
theorem snaps_in (s : SRS K G B F H al mu) (h1 : Same F F2) (h2 : ∀ a ∈ al, ∀ o, H a = some o → F2 a = some o) : ∀ {ws : List W} {vs : List V} {xs : List D}, RepWs K F al ws vs → snaps mu ws = some xs → RepDs K F2 xs vs
  | [], _, _, .nil, e => by cases e; exact .nil
  | w :: ws, _, _, .cons r t, e => by
    unfold snaps at e
    cases q : snap mu w with
    | none => rw [q] at e; cases e
    | some x =>
      cases q2 : snaps mu ws with
      | none => rw [q, q2] at e; cases e
      | some xs => rw [q, q2] at e; cases e; exact .cons (snap_in s h1 h2 r q) (snaps_in s h1 h2 t q2)
end
mutual
theorem snapF_in (s : SRS K G B F H al mu) (h1 : Tups F F2) (h2 : ∀ a ∈ al, ∀ o, H a = some o → F2 a = some o) : ∀ {w : W} {v : V} {x : D}, RepW K F al w v → snapF mu w = some x → RepD K F2 x v
  | .d x, _, _, .d r, e => by
    unfold snapF at e
    split at e
    · cases e; exact flat_rep h1 r (by assumption)
    · cases e
  | .tup ws, _, _, .tup q z r, e => by
    unfold snapF at e
    cases q1 : snapFs mu ws with
    | none => rw [q1] at e; cases e
    | some xs => rw [q1] at e; cases e; exact .tup (h1.sqT q) z (snapFs_in s h1 h2 r q1)
  | .loc k, _, _, .loc ea, e => by
    unfold snapF at e
    cases q : mu[k]? with
    | none => rw [q] at e; cases e
    | some c =>
      cases c with
      | lst xs =>
        rw [q] at e
        simp only at e
        split at e
        · cases e
          obtain ⟨vs, h, z, p⟩ := s.lstAt q ea
          exact .lst (Rd.of (h2 _ (List.mem_of_getElem? ea) _ h)) z (flats_rep h1 (.of p) (by assumption))
        · cases e
      | _ => rw [q] at e; cases e
  | .ty _, _, _, _, e => by cases e
  | .raw _, _, _, _, e => by cases e
theorem snapFs_in (s : SRS K G B F H al mu) (h1 : Tups F F2) (h2 : ∀ a ∈ al, ∀ o, H a = some o → F2 a = some o) : ∀ {ws : List W} {vs : List V} {xs : List D}, RepWs K F al ws vs → snapFs mu ws = some xs → RepDs K F2 xs vs
  | [], _, _, .nil, e => by cases e; exact .nil
  | w :: ws, _, _, .cons r t, e => by
    unfold snapFs at e
    cases q : snapF mu w with
    | none => rw [q] at e; cases e
    | some x =>
      cases q2 : snapFs mu ws with
      | none => rw [q, q2] at e; cases e
      | some xs => rw [q, q2] at e; cases e; exact .cons (snapF_in s h1 h2 r q) (snapFs_in s h1 h2 t q2)
end

/-! ### coming back from a call -/
theorem SRS.fresh (s' : SRS K Fc H F' H' al' mu') {a : Addr} (h : a ∈ al') : H a = none := by
  obtain ⟨k, hk⟩ := List.mem_iff_getElem?.mp h
  obtain ⟨c, hc⟩ := s'.has hk
  obtain ⟨_, _, q, _, _⟩ := s'.at hc hk
  exact q
theorem ret_frz (s : SRS K G B F H al mu) (s' : SRS K Fc H F' H' al' mu') (ha : Same F F2) (hb : Same F2 H') (hc : ∀ a o, F2 a = some o → F a = some o ∨ H a = none ∨ tupO o = true) : SRS K G B F2 H' al mu ∧ Ext F al F2 al where
  left := {
    fz := hb
    bs := s.bs.trans s'.bs
    gf := s.gf.trans ha
    fr := fun a o e => by
      rcases hc a o e with q | q | q
      · exact s.fr a o q
      · exact .inr (.inl (sameNone s.bs q))
      · exact .inr (.inr q)
    nd := s.nd
    len := s.len
    st := fun k c e => by
      obtain ⟨a, o, e1, e2, e3, e4, e5⟩ := s.st k c e
      refine ⟨a, o, e1, ?_, e3, s'.bs _ _ e4, e5.mono ⟨ha, [], by simp⟩⟩
      cases q : F2 a with
      | none => rfl
      | some u =>
        rcases hc a u q with z | z | z
        · rw [e2] at z; cases z
        · rw [e4] at z; cases z
        · have := hb _ _ q
          rw [s'.bs _ _ e4] at this
          cases this
          rw [e5.notTup] at z; cases z }
  right := ⟨ha, [], by simp⟩
/-- with the callee's containers frozen -/
def plusC (F2 H' : Hp) (al' : List Addr) : Hp := fun a => if a ∈ al' then H' a else F2 a
theorem plusC_ok (s : SRS K G B F H al mu) (s' : SRS K Fc H F' H' al' mu') (ha : Same F F2) (hb : Same F2 H') (hc : ∀ a o, F2 a = some o → F a = some o ∨ H a = none ∨ tupO o = true) :
    Same F (plusC F2 H' al') ∧ Same (plusC F2 H' al') H' ∧ (∀ a o, plusC F2 H' al' a = some o → F a = some o ∨ H a = none ∨ tupO o = true) ∧ Same F2 (plusC F2 H' al') ∧ ∀ a ∈ al', ∀ o, H' a = some o → plusC F2 H' al' a = some o := by
  have key : Same F2 (plusC F2 H' al') := fun a o e => by
    unfold plusC
    split
    · exact hb _ _ e
    · exact e
  refine ⟨ha.trans key, fun a o e => ?_, fun a o e => ?_, key, fun a hm o e => by unfold plusC; rw [if_pos hm]; exact e⟩
  · unfold plusC at e
    split at e
    · exact e
    · exact hb _ _ e
  · unfold plusC at e
    split at e
    · rename_i hm
      exact .inr (.inl (s'.fresh hm))
    · exact hc a o e
/-- F and the tuples of F' -/
def cutT (F F' : Hp) : Hp := fun a => match F a with
  | some o => some o
  | none => match F' a with
    | some o => if tupO o then some o else none
    | none => none
theorem cutT_ok (s : SRS K G B F H al mu) (s' : SRS K H H F' H' al' mu') : Same F (cutT F F') ∧ Same (cutT F F') H' ∧ (∀ a o, cutT F F' a = some o → F a = some o ∨ H a = none ∨ tupO o = true) ∧ Tups F' (cutT F F') := by
  have FF : Same F F' := s.fz.trans s'.gf
  refine ⟨fun a o e => by unfold cutT; rw [e], fun a o e => ?_, fun a o e => ?_, fun a o e t => ?_⟩
  · unfold cutT at e
    split at e
    · cases e; exact s'.bs _ _ (s.fz _ _ (by assumption))
    · split at e
      · split at e
        · cases e; exact s'.fz _ _ (by assumption)
        · cases e
      · cases e
  · unfold cutT at e
    split at e
    · cases e; exact .inl (by assumption)
    · split at e
      · split at e
        · cases e; exact .inr (.inr (by assumption))
        · cases e
      · cases e
  · unfold cutT
    split
    · rename_i u q
      rw [FF _ _ q] at e; exact e
    · rw [e]; simp [t]
theorem same_ok (s : SRS K G B F H al mu) (s' : SRS K F H F' H' al' mu') : Same F F' ∧ Same F' H' ∧ ∀ a o, F' a = some o → F a = some o ∨ H a = none ∨ tupO o = true := ⟨s'.gf, s'.fz, s'.fr⟩

/-! ### the callee's containers become ours -/
mutual
@[simp] def shiftW (n : Nat) : W → W
  | .loc k => .loc (n + k)
  | .tup ws => .tup (shiftWs n ws)
  | w => w
@[simp] def shiftWs (n : Nat) : List W → List W
  | [] => []
  | w :: ws => shiftW n w :: shiftWs n ws
end
@[simp] def shiftC (n : Nat) : C → C
  | .lstW ws => .lstW (shiftWs n ws)
  | .ins c fs => .ins c (fs.map fun p => (p.1, shiftW n p.2))
  | .dn lk kvs => .dn lk (kvs.map fun p => (p.1, shiftW n p.2))
  | c => c
mutual
theorem shift_rep (h : Same F F2 ∨ Tups F F2) : ∀ {w : W} {v : V}, RepW K F al' w v → (Same F F2 ∨ wflat w = true) → RepW K F2 (al ++ al') (shiftW al.length w) v
  | _, _, .d r, e => by
    unfold shiftW
    rcases e with e | e
    · exact .d (r.mono e)
    · rcases h with h | h
      · exact .d (r.mono h)
      · exact .d (flat_rep h r (by simpa [wflat] using e))
  | _, _, .loc ea, _ => by
    unfold shiftW
    refine .loc ?_
    rw [List.getElem?_append_right (by omega)]
    simpa using ea
  | _, _, .ty n, _ => by unfold shiftW; exact .ty n
  | _, _, .raw a, _ => by unfold shiftW; exact .raw a
  | _, _, .tup s z r, e => by
    unfold shiftW
    refine .tup ?_ z (shifts_rep h r (e.imp id fun q => by simpa [wflat] using q))
    rcases h with h | h
    · exact sqtMono h s
    · exact h.sqT s
theorem shifts_rep (h : Same F F2 ∨ Tups F F2) : ∀ {w : List W} {v : List V}, RepWs K F al' w v → (Same F F2 ∨ wflats w = true) → RepWs K F2 (al ++ al') (shiftWs al.length w) v
  | _, _, .nil, _ => by unfold shiftWs; exact .nil
  | _, _, .cons r t, e => by
    unfold shiftWs
    exact .cons (shift_rep h r (e.imp id fun q => by unfold wflats at q; rw [Bool.and_eq_true] at q; exact q.1)) (shifts_rep h t (e.imp id fun q => by unfold wflats at q; rw [Bool.and_eq_true] at q; exact q.2))
end
theorem flats_mem : ∀ {xs : List D}, dflats xs = true → ∀ x ∈ xs, dflat x = true
  | [], _, x, h => by cases h
  | y :: ys, e, x, h => by
    unfold dflats at e
    rw [Bool.and_eq_true] at e
    rcases List.mem_cons.mp h with rfl | h
    · exact e.1
    · exact flats_mem e.2 x h
theorem wflats_mem : ∀ {xs : List W}, wflats xs = true → ∀ x ∈ xs, wflat x = true
  | [], _, x, h => by cases h
  | y :: ys, e, x, h => by
    unfold wflats at e
    rw [Bool.and_eq_true] at e
    rcases List.mem_cons.mp h with rfl | h
    · exact e.1
    · exact wflats_mem e.2 x h
theorem mapPm {A1 B1 : Type} {R S : A1 → B1 → Prop} : ∀ {xs : List A1} {ys : List B1}, Paired R xs ys → (∀ x ∈ xs, ∀ y, R x y → S x y) → Paired S xs ys
  | _, _, .nil, _ => .nil
  | _, _, .cons r t, h => .cons (h _ (by simp) _ r) (mapPm t fun x hx => h x (by simp [hx]))
theorem mapPmap {A1 B1 C1 : Type} {R : A1 → B1 → Prop} {S : C1 → B1 → Prop} (f : A1 → C1) : ∀ {xs : List A1} {ys : List B1}, Paired R xs ys → (∀ x ∈ xs, ∀ y, R x y → S (f x) y) → Paired S (xs.map f) ys
  | _, _, .nil, _ => .nil
  | _, _, .cons r t, h => .cons (h _ (by simp) _ r) (mapPmap f t fun x hx => h x (by simp [hx]))
mutual
theorem nkey_flat : ∀ {d : D} {k : NestedKey}, nkey d = some k → dflat d = true
  | .int _, _, _ => rfl
  | .str _, _, _ => rfl
  | .tup xs, k, h => by
    unfold nkey at h
    cases q : nkeys xs with
    | none => rw [q] at h; cases h
    | some ks => unfold dflat; exact nkeys_flat q
  | .non, _, h => by cases h
  | .bl _, _, h => by cases h
  | .lst _, _, h => by cases h
  | .scr _, _, h => by cases h
theorem nkeys_flat : ∀ {d : List D} {k : List NestedKey}, nkeys d = some k → dflats d = true
  | [], _, _ => rfl
  | x :: xs, k, h => by
    unfold nkeys at h
    cases q : nkey x with
    | none => rw [q] at h; cases h
    | some k1 =>
      cases q2 : nkeys xs with
      | none => rw [q, q2] at h; cases h
      | some ks => unfold dflats; rw [nkey_flat q, nkeys_flat q2]; rfl
end
theorem shiftC_rep (h : Same F F2 ∨ Tups F F2) {c : C} {o : HO} {a : Addr} (r : CRep K F al' a c o) (e : Same F F2 ∨ cflat c = true) : CRep K F2 (al ++ al') a (shiftC al.length c) o := by
  have dd : ∀ {x : D} {v : V}, RepD K F x v → (Same F F2 ∨ dflat x = true) → RepD K F2 x v := fun r e => by
    rcases e with e | e
    · exact r.mono e
    · rcases h with h | h
      · exact r.mono h
      · exact flat_rep h r e
  cases r with
  | lst z p => exact .lst z (mapPm p fun x hx v r => dd r (e.imp id fun q => flats_mem (by simpa [cflat] using q) x hx))
  | lstW z p => exact .lstW z (shifts_rep h (.of p) (e.imp id fun q => by simpa [cflat] using q)).p
  | ins z p =>
    refine .ins z (mapPmap _ p fun x hx v r => ⟨r.1, shift_rep h r.2 (e.imp id fun q => ?_)⟩)
    exact wflats_mem (show wflats _ = true from q) _ (List.mem_map.mpr ⟨x, hx, rfl⟩)
  | dk p q0 =>
    refine .dk (mapPm p fun x hx v r => ⟨r.1, dd r.2 (e.imp id fun q => ?_)⟩) q0
    exact flats_mem (show dflats _ = true from q) _ (List.mem_map.mpr ⟨x, hx, rfl⟩)
  | dl p q0 =>
    refine .dl (mapPm p fun x hx v r => ⟨r.1, dd r.2 (e.imp id fun q => ?_)⟩) q0
    exact flats_mem (show dflats _ = true from q) _ (List.mem_map.mpr ⟨x, hx, rfl⟩)
  | dn p =>
    refine .dn (mapPmap _ p fun x hx v r => ⟨r.1, dd r.2.1 (.inr (nkey_flat r.1.1)), shift_rep h r.2.2 (e.imp id fun q => ?_)⟩)
    exact wflats_mem (show wflats _ = true from q) _ (List.mem_map.mpr ⟨x, hx, rfl⟩)
theorem ret_own (s : SRS K G B F H al mu) (s' : SRS K Fc H F' H' al' mu') (ha : Same F F2) (hb : Same F2 H') (hc : ∀ a o, F2 a = some o → F a = some o ∨ H a = none ∨ tupO o = true) (hn : ∀ a ∈ al', F2 a = none) (h : Same F' F2 ∨ Tups F' F2) (hf : Same F' F2 ∨ mu'.all cflat = true) :
    SRS K G B F2 H' (al ++ al') (mu ++ mu'.map (shiftC mu.length)) ∧ Ext F al F2 (al ++ al') := by
  obtain ⟨s1, x1⟩ := ret_frz s s' ha hb hc
  refine ⟨⟨s1.fz, s1.bs, s1.gf, s1.fr, ?_, by simp [s1.len, s'.len], fun k c e => ?_⟩, ⟨ha, al', rfl⟩⟩
  · refine List.nodup_append.mpr ⟨s.nd, s'.nd, fun a h1 b h2 e => ?_⟩
    subst e
    obtain ⟨k, hk⟩ := List.mem_iff_getElem?.mp h1
    obtain ⟨c, hc⟩ := s.has hk
    obtain ⟨_, _, _, q, _⟩ := s.at hc hk
    rw [s'.fresh h2] at q; cases q
  · by_cases hk : k < mu.length
    · rw [List.getElem?_append_left hk] at e
      obtain ⟨a, o, e1, e2, e3, e4, e5⟩ := s1.st k c e
      exact ⟨a, o, by rw [List.getElem?_append_left (by rw [s1.len]; exact hk)]; exact e1, e2, e3, e4, e5.mono ⟨Same.refl F2, al', rfl⟩⟩
    · rw [List.getElem?_append_right (by omega), List.getElem?_map] at e
      cases q : mu'[k - mu.length]? with
      | none => rw [q] at e; cases e
      | some c' =>
        rw [q] at e
        cases e
        obtain ⟨a, o, e1, e2, e3, e4, e5⟩ := s'.st _ c' q
        have hm := List.mem_of_getElem? e1
        refine ⟨a, o, by rw [List.getElem?_append_right (by rw [s1.len]; omega), s1.len]; exact e1, hn a hm, sameNone s.bs e3, e4, ?_⟩
        rw [← s.len]
        exact shiftC_rep h e5 (hf.imp id fun z => List.all_eq_true.mp z _ (List.mem_of_getElem? q))
end

/-! ### calls of defs -/
abbrev PSp := List D → (W → Sto → Prop) → Prop
/-- a def that gets data alone -/
@[simp] def pSp (sp : PSp) : VSp := fun ws mu Q => mu = [] ∧ ∃ ds, ws = List.map W.d ds ∧ sp ds Q
@[simp] def allD (ws : List W) : Bool := ws.all fun w => match w with
  | .d _ => true
  | _ => false
/-- what comes back: frozen -/
@[simp] def backF (a : Bool) (w : W) (mu' mu : Sto) (Q : W → Sto → Prop) : Prop := match (if a then snap mu' w else snapF mu' w) with
  | some x => Q (.d x) mu
  | none => False
/-- .. our own -/
@[simp] def backO (a : Bool) (w : W) (mu' mu : Sto) (Q : W → Sto → Prop) : Prop := (a || (wflat w && mu'.all cflat)) = true ∧ Q (shiftW mu.length w) (mu ++ mu'.map (shiftC mu.length))
@[simp] def wCallP (o : Bool) (sp : PSp) (dds : List D) (g : WA) : WE := fun rh mu Q => g rh mu fun ws mu1 => match snaps mu1 ws with
  | some ds => sp (ds ++ dds) fun w mu' => if o then backO (allD ws) w mu' mu1 Q else backF (allD ws) w mu' mu1 Q
  | none => False
section
variable {K : KW} {G B F F' F2 H H' Fc : Hp} {al al' : List Addr} {mu mu' : Sto}
theorem allD_reps : ∀ {ws : List W} {vs : List V} {ds : List D}, Paired (RepW K F al) ws vs → allD ws = true → snaps mu ws = some ds → RepDs K F ds vs
  | [], _, _, .nil, _, e => by cases e; exact .nil
  | w :: ws, _, ds, .cons r t, a, e => by
    unfold allD at a
    rw [List.all_cons, Bool.and_eq_true] at a
    cases w with
    | d x =>
      unfold snaps at e
      cases q : snaps mu ws with
      | none => simp only [q] at e; split at e <;> simp_all
      | some xs =>
        simp only [q] at e
        have : ds = x :: xs := by simp only [snap] at e; cases e; rfl
        subst this
        cases r with
        | d r => exact .cons r (allD_reps t a.2 q)
    | _ => simp at a
theorem pMapDs {ds : List D} {vs : List V} (p : RepDs K F ds vs) : Paired (RepW K F al) (ds.map W.d) vs := pMapD p.p
theorem SRS.none {B F H : Hp} (s : SRS K G B F H al mu) : SRS K F H F H [] [] := ⟨s.fz, Same.refl H, Same.refl F, fun a o e => .inl e, by simp, rfl, fun k c e => by simp at e⟩
theorem SRS.none' {B F H : Hp} (s : SRS K G B F H al mu) : SRS K H H H H [] [] := ⟨Same.refl H, Same.refl H, Same.refl H, fun a o e => .inl e, by simp, rfl, fun k c e => by simp at e⟩
/-- a call of a def that gets data alone -/
theorem callP_ok {o : Bool} {sp : PSp} {dds : List D} {dvs : List V} (hdd : ∀ F, RepDs K F dds dvs) {ws : List W} {vs : List V} {rh : Ev} {si : L2.St} {Qd : W → Sto → Prop} {Q : L2.VK} {E : XK} (s : SR K G B F H al rh si mu) (r : Paired (RepW K F al) ws vs)
    (h : match snaps mu ws with
      | some ds => sp (ds ++ dds) fun w mu' => if o then backO (allD ws) w mu' mu Qd else backF (allD ws) w mu' mu Qd
      | Option.none => False)
    (q : ∀ F' H' al' mu' w v, Ext F al F' al' → SR K G B F' H' al' rh si mu' → RepW K F' al' w v → Qd w mu' → Q v H') : toSp K (pSp sp) (vs ++ dvs) H Q E := by
  split at h
  · rename_i ds e
    -- behind the call
    have fin : ∀ (Fc F' H' : Hp) (al' : List Addr) (mu' : Sto) (u : W) (v : V), (Fc = F ∧ allD ws = true ∨ Fc = H ∧ allD ws = false) → SRS K Fc H F' H' al' mu' → RepW K F' al' u v → (if o then backO (allD ws) u mu' mu Qd else backF (allD ws) u mu' mu Qd) → Q v H' := by
      intro Fc F' H' al' mu' u v hF s' ru hb
      have al'N : ∀ a ∈ al', F' a = Option.none := fun a ha => by
        obtain ⟨k, hk⟩ := List.mem_iff_getElem?.mp ha
        obtain ⟨c, hc⟩ := s'.has hk
        obtain ⟨_, z, _, _, _⟩ := s'.at hc hk
        exact z
      rcases hF with ⟨rfl, ha⟩ | ⟨rfl, ha⟩
      · obtain ⟨a1, a2, a3⟩ := same_ok s.s s'
        rw [ha] at hb
        cases o with
        | false =>
          simp only [Bool.false_eq_true, if_false] at hb
          unfold backF at hb
          rw [if_pos rfl] at hb
          split at hb
          · rename_i x ex
            obtain ⟨b1, b2, b3, b4, b5⟩ := plusC_ok s.s s' a1 a2 a3
            obtain ⟨s2, x2⟩ := ret_frz s.s s' b1 b2 b3
            exact q _ _ _ _ _ _ x2 (s.step x2 s2) (.d (snap_in s' b4 b5 ru ex)) hb
          · exact hb.elim
        | true =>
          simp only [if_true] at hb
          obtain ⟨hf, hb⟩ := hb
          obtain ⟨s2, x2⟩ := ret_own s.s s' a1 a2 a3 al'N (.inl (Same.refl _)) (.inl (Same.refl _))
          have rr : RepW K F' (al ++ al') (shiftW al.length u) v := shift_rep (.inl (Same.refl _)) ru (.inl (Same.refl _))
          rw [s.s.len] at rr
          exact q _ _ _ _ _ _ x2 (s.step x2 s2) rr hb
      · obtain ⟨a1, a2, a3, a4⟩ := cutT_ok s.s s'
        rw [ha] at hb
        cases o with
        | false =>
          simp only [Bool.false_eq_true, if_false] at hb
          unfold backF at hb
          rw [if_neg (by simp)] at hb
          split at hb
          · rename_i x ex
            obtain ⟨b1, b2, b3, b4, b5⟩ := plusC_ok s.s s' a1 a2 a3
            obtain ⟨s2, x2⟩ := ret_frz s.s s' b1 b2 b3
            exact q _ _ _ _ _ _ x2 (s.step x2 s2) (.d (snapF_in s' (fun a u e t => b4 _ _ (a4 a u e t)) b5 ru ex)) hb
          · exact hb.elim
        | true =>
          simp only [if_true] at hb
          obtain ⟨hf, hb⟩ := hb
          rw [Bool.false_or, Bool.and_eq_true] at hf
          have hn : ∀ a ∈ al', cutT F F' a = Option.none := fun a ha => by
            have z1 := sameNone s.s.fz (s'.fresh ha)
            have z2 := al'N a ha
            unfold cutT
            rw [z1, z2]
          obtain ⟨s2, x2⟩ := ret_own s.s s' a1 a2 a3 hn (.inr a4) (.inr hf.2)
          have rr : RepW K (cutT F F') (al ++ al') (shiftW al.length u) v := shift_rep (.inr a4) ru (.inr hf.1)
          rw [s.s.len] at rr
          exact q _ _ _ _ _ _ x2 (s.step x2 s2) rr hb
    cases ha : allD ws with
    | true =>
      have rd := allD_reps r ha e
      refine ⟨H, F, [], [], _, _, s.s.none, pMapDs (.of (pApp rd.p (hdd F).p)), ⟨rfl, _, rfl, h⟩, fun F' H' al' mu' u v x s' ru hb => fin F F' H' al' mu' u v (.inl ⟨rfl, ha⟩) s' ru hb⟩
    | false =>
      have rd := snaps_rep s.s (.of r) e
      refine ⟨H, H, [], [], _, _, s.s.none', pMapDs (.of (pApp rd.p (hdd H).p)), ⟨rfl, _, rfl, h⟩, fun F' H' al' mu' u v x s' ru hb => fin H F' H' al' mu' u v (.inr ⟨rfl, ha⟩) s' ru hb⟩
  · exact h.elim
end
end VL
namespace VL
open PySem PySem.Spec PyProof.Rows L2 RZ

/-- a def of the module, as it is called with dds for the last parameters -/
def Def (P : Program) (w : World) (K : KW) (mg : Str → Option Value) (base : Heap) (x : Str) (k : Nat) (dds : List D) (sp : VSp) : Prop :=
  ∃ (f : Addr) (fd : FuncData) (ps : List Str) (ds : List Value) (dvs : List V), mg x = some (.ref f) ∧ PySem.W.keepIn K (.ref f) = true ∧ Binds K fd ps ds ∧ Vals dvs ds ∧ (∀ F, RepDs K F dds dvs) ∧ FnOk P w K mg base CX0 k f fd ps (toSp K sp)
/-- the store handed on -/
@[simp] def wCallS (sp : VSp) (dds : List D) (g : WA) : WE := fun rh mu Q => g rh mu fun ws mu1 => sp (ws ++ dds.map .d) mu1 Q
section
variable {K : KW} {G B F F' F2 H H' : Hp} {al al' : List Addr} {mu mu' : Sto} {rh : Ev} {si : L2.St}
/-- all but the containers must stay -/
def but (H : Hp) (al : List Addr) : Hp := fun a => if a ∈ al then none else H a
theorem callS_ok {sp : VSp} {dds : List D} {dvs : List V} (hdd : ∀ F, RepDs K F dds dvs) {ws : List W} {vs : List V} {Qd : W → Sto → Prop} {Q : L2.VK} {E : XK} (s : SR K G B F H al rh si mu) (r : Paired (RepW K F al) ws vs) (h : sp (ws ++ dds.map .d) mu Qd)
    (q : ∀ F' H' al' mu' w v, Ext F al F' al' → SR K G B F' H' al' rh si mu' → RepW K F' al' w v → Qd w mu' → Q v H') : toSp K sp (vs ++ dvs) H Q E := by
  have inAl : ∀ {a : Addr}, a ∈ al → B a = none ∧ F a = none := fun {a} hm => by
    obtain ⟨k, hk⟩ := List.mem_iff_getElem?.mp hm
    obtain ⟨c, hc⟩ := s.s.has hk
    obtain ⟨_, z1, z2, _, _⟩ := s.s.at hc hk
    exact ⟨z2, z1⟩
  have s0 : SRS K F (but H al) F H al mu := {
    fz := s.s.fz
    bs := fun a o e => by
      unfold but at e
      split at e
      · cases e
      · exact e
    gf := Same.refl F
    fr := fun a o e => .inl e
    nd := s.s.nd
    len := s.s.len
    st := fun k c e => by
      obtain ⟨a, o, e1, e2, e3, e4, e5⟩ := s.s.st k c e
      exact ⟨a, o, e1, e2, by unfold but; rw [if_pos (List.mem_of_getElem? e1)], e4, e5⟩ }
  refine ⟨but H al, F, al, mu, _, Qd, s0, pApp r (pMapDs (hdd F)), h, fun F' H' al' mu' u v x s' ru hq => ?_⟩
  have bN : ∀ {a : Addr}, but H al a = none → B a = none := fun {a} z => by
    unfold but at z
    split at z
    · exact (inAl (by assumption)).1
    · exact sameNone s.s.bs z
  have s2 : SRS K G B F' H' al' mu' := {
    fz := s'.fz
    bs := fun a o e => s'.bs _ _ (by
      unfold but
      rw [if_neg fun hm => by rw [(inAl hm).1] at e; cases e]
      exact s.s.bs _ _ e)
    gf := s.s.gf.trans s'.gf
    fr := fun a o e => by
      rcases s'.fr a o e with z | z | z
      · exact s.s.fr a o z
      · exact .inr (.inl (bN z))
      · exact .inr (.inr z)
    nd := s'.nd
    len := s'.len
    st := fun k c e => by
      obtain ⟨a, o, e1, e2, e3, e4, e5⟩ := s'.st k c e
      exact ⟨a, o, e1, e2, bN e3, e4, e5⟩ }
  exact q F' H' al' mu' u v x (s.step x s2) ru hq
end
section
variable {io : Type} {Y : io → Cx} {P : Program} {w : World} {K : KW} {mg : Str → Option Value} {base : Heap} {N : List Str} {k j : Nat} {pos p : Pos} {e : Expr} {es : List Expr} {ga : WA} {x : Str} {dds : List D}
theorem fnOk_at {f : Addr} {fd : FuncData} {ps : List Str} {sp : Sp} (y : YOk Y P w K mg base N k) (F : FnOk P w K mg base CX0 j f fd ps sp) (i : io) : FnOk (Y i).prog (Y i).w (Y i).K (Y i).mg (Y i).base CX0 j f fd ps sp := by
  rw [y.hP i, y.hw i, y.hK i, y.hmg i, y.hbase i]; exact F
theorem binds_at {fd : FuncData} {ps : List Str} {ds : List Value} (y : YOk Y P w K mg base N k) (F : Binds K fd ps ds) (i : io) : Binds (Y i).K fd ps ds := by
  rw [y.hK i]; exact F
/-- f(e, ..) of data -/
theorem ve_callP (y : YOk Y P w K mg base N k) (o : Bool) {sp : PSp} (d : Def P w K mg base x j dds (pSp sp)) (hj : j ≤ k) (ha : VA Y K (e :: es) ga) (hg : ∀ i, Gl (Y i) x := by exact fun _ => rfl) (hdb : (x == ("__debug__" : Str)) = false := by decide)
    (he : ∀ i, starEach (e :: es) (Y i).env = (false, eval e (Y i).env) :: starEach es (Y i).env := by exact fun _ => rfl) (hpl : ∀ i, (backTo pos (starEach es (Y i).env)).any (·.1) = false := by exact fun _ => rfl) : VE Y K (.Call (.Name x p) (e :: es) [] pos) (wCallP o sp dds ga) := by
  obtain ⟨f, fd, ps, ds, dvs, hm, hk, hb, hd, hdd, F⟩ := d
  obtain ⟨t, p1, d1⟩ := ha
  refine ⟨tCall (toSp K (pSp sp)) dvs E0 t, fun i => pe_call (fnOk_at y F i) ((y.room i).mono hj) (hg i) (by rw [y.hmg i]; exact hm) (by rw [y.hK i]; exact hk) (binds_at y hb i) hd pass0 (p1 i) hdb (he i) (hpl i), fun G B F H al rh si mu Qd Q s h q => ?_⟩
  refine d1 G B F H al rh si mu _ _ s h fun F1 H1 al1 mu1 ws vs e1 s1 r1 h1 => ?_
  exact callP_ok hdd s1 r1 h1 fun F2 H2 al2 mu2 z vz e2 => q F2 H2 al2 mu2 z vz (e1.trans e2)
/-- f(e, ..) with containers -/
theorem ve_callS (y : YOk Y P w K mg base N k) {sp : VSp} (d : Def P w K mg base x j dds sp) (hj : j ≤ k) (ha : VA Y K (e :: es) ga) (hg : ∀ i, Gl (Y i) x := by exact fun _ => rfl) (hdb : (x == ("__debug__" : Str)) = false := by decide)
    (he : ∀ i, starEach (e :: es) (Y i).env = (false, eval e (Y i).env) :: starEach es (Y i).env := by exact fun _ => rfl) (hpl : ∀ i, (backTo pos (starEach es (Y i).env)).any (·.1) = false := by exact fun _ => rfl) : VE Y K (.Call (.Name x p) (e :: es) [] pos) (wCallS sp dds ga) := by
  obtain ⟨f, fd, ps, ds, dvs, hm, hk, hb, hd, hdd, F⟩ := d
  obtain ⟨t, p1, d1⟩ := ha
  refine ⟨tCall (toSp K sp) dvs E0 t, fun i => pe_call (fnOk_at y F i) ((y.room i).mono hj) (hg i) (by rw [y.hmg i]; exact hm) (by rw [y.hK i]; exact hk) (binds_at y hb i) hd pass0 (p1 i) hdb (he i) (hpl i), fun G B F H al rh si mu Qd Q s h q => ?_⟩
  refine d1 G B F H al rh si mu _ _ s h fun F1 H1 al1 mu1 ws vs e1 s1 r1 h1 => ?_
  exact callS_ok hdd s1 r1 h1 fun F2 H2 al2 mu2 z vz e2 => q F2 H2 al2 mu2 z vz (e1.trans e2)
end
section
variable {P : Program} {w : World} {K : KW} {mg : Str → Option Value} {base : Heap}
/-- a def that stands behind the top -/
theorem def_mk {x qual : Str} {st : Stmt} {f : Addr} {fd : FuncData} {N ps : List Str} {k : Nat} {sp : VSp} (F : Fun K x qual st f fd) (hm : mg x = some (.ref f)) (S : FnScope N ps (defScope st)) (hb : Binds K fd ps []) (hlen : ∀ ws mu Q, sp ws mu Q → ws.length = ps.length)
    (body : ∀ (cdv : Value) (A : Around) (outer : List Env) (s : Shared) (H : Hp) (E : XK), YOk (un (bX P w K mg base N qual (defScope st) f cdv A outer s H E)) P w K mg base N k →
      ∃ g, VSs (bX P w K mg base N qual (defScope st) f cdv A outer s H E) K (defBody st) g ∧ ∀ ws mu Q, sp ws mu Q → g { nx := fun _ mu => Q (.d .non) mu, rt := Q } (startE N ws) mu) : Def P w K mg base x (k + 1) [] sp :=
  ⟨f, fd, ps, [], [], hm, F.kp, hb, .nil, fun _ => .nil, fnv_ok F S hlen body⟩
/-- the law's own promise -/
def lawSp : PSp := fun ds Q => ∃ ns, ds = [.scr ns] ∧ ns.length ≤ 63 ∧ ∀ mu, Q (.d (.bl true)) mu
end
end VL
namespace VL
open PySem PySem.Spec PyProof.Rows L2 RZ
theorem law_sp {K : KW} {H : Hp} {a : Addr} {ns : List Int} (hl : ns.length ≤ 63) (h : SqL K H a (ns.map V.int)) : toSp K (pSp lawSp) [.ref a] H (fun v _ => v = .bl true) fun _ _ _ => False := by
  refine ⟨H, H, [], [], [.d (.scr ns)], fun w _ => w = .d (.bl true), ⟨Same.refl H, Same.refl H, Same.refl H, fun _ _ e => .inl e, by simp, rfl, fun k c e => by simp at e⟩, .cons (.d (.scr h (Nat.le_trans hl (by decide)))) .nil, ⟨rfl, [.scr ns], rfl, ns, rfl, hl, fun _ => rfl⟩, fun F' H' al' mu' u v x s r e => ?_⟩
  subst e
  cases r with
  | d r => cases r; rfl
theorem law_walk {l : PySem.W.OpenLaw} {q : Program} {loose : List Str} {XP : (Str → Option Value) → Heap → Prop} {YP : World → Heap → Prop} {d : DefRec} {K : Params → PySem.W.Frag} {k : Nat} {x : Str} (hn : l.most = some 63) (hdf : d.params.defaults = []) (hr : Room k callerA)
    (hY : ∀ (w : World) (h : Heap), YP w h → (K w.params).In h)
    (F : ∀ (w : World) (mg : Str → Option Value) (fa : Addr) (h : Heap), (K w.params).In h → h.Ns mainGlobals mg → mg d.name = some (.ref fa) →
      ∃ fd : FuncData, (∀ (s : Shared) (u : Value), BindsTo s fd ⟨[u], []⟩ [(x, u)]) ∧
        ∀ base : Heap, (K w.params).In base → base.Ns mainGlobals mg → FnOk l.prog w (K w.params) mg base CX0 k fa fd [x] (toSp ⟨K w.params, w⟩ (pSp lawSp))) :
    PySem.W.WalkO q loose XP YP l.row.toRowW d [] (fun f vs => PySem.call f vs) :=
  L2.walk_of (CX := fun _ => CX0) (sp := fun w => toSp ⟨K w.params, w⟩ (pSp lawSp)) hn (by decide) hdf hr hY F (fun _ _ _ _ hl _ hS => law_sp hl hS) fun _ _ _ _ _ z => z
end VL
namespace VL
open PySem PySem.Spec PyProof.Rows L2 RZ

/-! ### reckoning with the values -/
@[simp] def evr (Q : W → Sto → Prop) : EV := { nx := fun _ mu => Q (.d .non) mu, rt := Q }
@[simp] def sp0 (g : (W → Sto → Prop) → Prop) : PSp := fun ds Q => match ds with
  | [] => g Q
  | _ => False
@[simp] def sp1 (g : D → (W → Sto → Prop) → Prop) : PSp := fun ds Q => match ds with
  | [a] => g a Q
  | _ => False
@[simp] def sp2 (g : D → D → (W → Sto → Prop) → Prop) : PSp := fun ds Q => match ds with
  | [a, b] => g a b Q
  | _ => False
@[simp] def sp3 (g : D → D → D → (W → Sto → Prop) → Prop) : PSp := fun ds Q => match ds with
  | [a, b, c] => g a b c Q
  | _ => False
@[simp] def sp4 (g : D → D → D → D → (W → Sto → Prop) → Prop) : PSp := fun ds Q => match ds with
  | [a, b, c, d] => g a b c d Q
  | _ => False
theorem len1 {g} {ws : List W} {mu : Sto} {Q} (h : pSp (sp1 g) ws mu Q) : ws.length = 1 := by
  obtain ⟨_, ds, rfl, h⟩ := h
  unfold sp1 at h
  split at h
  · rfl
  · exact h.elim
theorem len2 {g} {ws : List W} {mu : Sto} {Q} (h : pSp (sp2 g) ws mu Q) : ws.length = 2 := by
  obtain ⟨_, ds, rfl, h⟩ := h
  unfold sp2 at h
  split at h
  · rfl
  · exact h.elim
theorem len3 {g} {ws : List W} {mu : Sto} {Q} (h : pSp (sp3 g) ws mu Q) : ws.length = 3 := by
  obtain ⟨_, ds, rfl, h⟩ := h
  unfold sp3 at h
  split at h
  · rfl
  · exact h.elim
theorem len4 {g} {ws : List W} {mu : Sto} {Q} (h : pSp (sp4 g) ws mu Q) : ws.length = 4 := by
  obtain ⟨_, ds, rfl, h⟩ := h
  unfold sp4 at h
  split at h
  · rfl
  · exact h.elim
theorem lenL {ws : List W} {mu : Sto} {Q} (h : pSp lawSp ws mu Q) : ws.length = 1 := by
  obtain ⟨_, ds, rfl, ns, rfl, _⟩ := h
  rfl
/-- from the promise to the body -/
theorem at0 {g} {f : WS} {N : List Str} (v : ∀ Q, g Q → f (evr Q) (startE N []) []) : ∀ ws mu Q, pSp (sp0 g) ws mu Q → f { nx := fun _ mu => Q (.d .non) mu, rt := Q } (startE N ws) mu := fun ws mu Q h => by
  obtain ⟨rfl, ds, rfl, h⟩ := h
  unfold sp0 at h
  split at h
  · exact v _ h
  · exact h.elim
theorem at1 {g} {f : WS} {N : List Str} (v : ∀ a Q, g a Q → f (evr Q) (startE N [.d a]) []) : ∀ ws mu Q, pSp (sp1 g) ws mu Q → f { nx := fun _ mu => Q (.d .non) mu, rt := Q } (startE N ws) mu := fun ws mu Q h => by
  obtain ⟨rfl, ds, rfl, h⟩ := h
  unfold sp1 at h
  split at h
  · exact v _ _ h
  · exact h.elim
theorem at2 {g} {f : WS} {N : List Str} (v : ∀ a b Q, g a b Q → f (evr Q) (startE N [.d a, .d b]) []) : ∀ ws mu Q, pSp (sp2 g) ws mu Q → f { nx := fun _ mu => Q (.d .non) mu, rt := Q } (startE N ws) mu := fun ws mu Q h => by
  obtain ⟨rfl, ds, rfl, h⟩ := h
  unfold sp2 at h
  split at h
  · exact v _ _ _ h
  · exact h.elim
theorem at3 {g} {f : WS} {N : List Str} (v : ∀ a b c Q, g a b c Q → f (evr Q) (startE N [.d a, .d b, .d c]) []) : ∀ ws mu Q, pSp (sp3 g) ws mu Q → f { nx := fun _ mu => Q (.d .non) mu, rt := Q } (startE N ws) mu := fun ws mu Q h => by
  obtain ⟨rfl, ds, rfl, h⟩ := h
  unfold sp3 at h
  split at h
  · exact v _ _ _ _ h
  · exact h.elim
theorem at4 {g} {f : WS} {N : List Str} (v : ∀ a b c d Q, g a b c d Q → f (evr Q) (startE N [.d a, .d b, .d c, .d d]) []) : ∀ ws mu Q, pSp (sp4 g) ws mu Q → f { nx := fun _ mu => Q (.d .non) mu, rt := Q } (startE N ws) mu := fun ws mu Q h => by
  obtain ⟨rfl, ds, rfl, h⟩ := h
  unfold sp4 at h
  split at h
  · exact v _ _ _ _ _ h
  · exact h.elim
theorem atL {f : WS} {N : List Str} (v : ∀ (ns : List Int) (Q : W → Sto → Prop), ns.length ≤ 63 → (∀ mu, Q (.d (.bl true)) mu) → f (evr Q) (startE N [.d (.scr ns)]) []) : ∀ ws mu Q, pSp lawSp ws mu Q → f { nx := fun _ mu => Q (.d .non) mu, rt := Q } (startE N ws) mu := fun ws mu Q h => by
  obtain ⟨rfl, ds, rfl, ns, rfl, hl, h⟩ := h
  exact v ns Q hl h

/-! ### numbers -/
@[simp] theorem gDiv_pos {i j : Int} (h : 0 < j) : gDiv i j = i / j := by unfold gDiv; rw [if_pos h]
@[simp] theorem gMod_pos {i j : Int} (h : 0 < j) : gMod i j = i % j := by unfold gMod; rw [if_pos h]
theorem log2_lt_of' {n a : Nat} (h0 : 0 < a) (h : n < 2 ^ a) : n.log2 < a := PySem.Flt.log2_lt_of h0 h
theorem CD_of {i j : Int} (h0 : j ≠ 0) (h1 : j.natAbs < 2 ^ 8000) : CD i j := ⟨h0, Nat.lt_of_lt_of_le (log2_lt_of' (by decide) h1) (by decide)⟩
@[simp] theorem CD_lit {i j : Int} (h0 : 0 < j) (h1 : j < 2 ^ 250) : CD i j ↔ True := ⟨fun _ => trivial, fun _ => ⟨by omega, by
  have h : j.natAbs < 2 ^ 250 := by
    have e : ((2 : Int) ^ 250) = ((2 ^ 250 : Nat) : Int) := by decide
    rw [e] at h1; omega
  exact Nat.lt_of_lt_of_le (log2_lt_of' (by decide) h) (by decide)⟩⟩
theorem CM_r {i j : Int} (h0 : -(2 ^ 64) < j) (h1 : j < 2 ^ 64) : CM i j := .inl (.inr ⟨h0, h1⟩)
theorem CM_l {i j : Int} (h0 : -(2 ^ 64) < i) (h1 : i < 2 ^ 64) : CM i j := .inl (.inl ⟨h0, h1⟩)
theorem CM_w {i j : Int} {a b : Nat} (h0 : i.natAbs < 2 ^ (a + 1)) (h1 : j.natAbs < 2 ^ (b + 1)) (h : a + b < 999990) : CM i j := .inr (by
  have x := log2_lt_of' (Nat.succ_pos _) h0
  have y := log2_lt_of' (Nat.succ_pos _) h1
  unfold CMulW
  omega)
@[simp] theorem CM_lit {i j : Int} (h0 : -(2 ^ 64) < j) (h1 : j < 2 ^ 64) : CM i j ↔ True := ⟨fun _ => trivial, fun _ => CM_r h0 h1⟩
@[simp] theorem CM_lit' {i j : Int} (h0 : -(2 ^ 64) < i) (h1 : i < 2 ^ 64) : CM i j ↔ True := ⟨fun _ => trivial, fun _ => CM_l h0 h1⟩
@[simp] theorem CM_lit2 {i j : Int} (h0 : -(2 ^ 250) < i) (h1 : i < 2 ^ 250) (h2 : -(2 ^ 250) < j) (h3 : j < 2 ^ 250) : CM i j ↔ True := ⟨fun _ => trivial, fun _ => by
  have e : ((2 : Int) ^ 250) = ((2 ^ 250 : Nat) : Int) := by decide
  rw [e] at h0 h1 h2 h3
  exact CM_w (a := 249) (b := 249) (by omega) (by omega) (by decide)⟩
@[simp] theorem CPow_lit {i j : Int} (h0 : 0 ≤ j) (h1 : j ≤ 1000000) (h2 : -(2 ^ 63) < i) (h3 : i < 2 ^ 63) : CPow i j ↔ True := ⟨fun _ => trivial, fun _ => ⟨h0, h1, by omega⟩⟩

/-! ### texts -/
theorem ofString_inj {a b : String} (h : Str.ofString a = Str.ofString b) : a = b := by
  have h1 : (Str.ofString a).cps.toList = (Str.ofString b).cps.toList := by rw [h]
  unfold Str.ofString at h1
  simp only at h1
  rw [cpsOfBytes_string, cpsOfBytes_string] at h1
  have h2 : a.toList = b.toList := by
    refine (List.map_inj_right (f := Char.toNat) fun x y e => ?_).mp h1
    exact Char.toNat_inj.mp e
  exact String.toList_inj.mp h2
@[simp] theorem str_beq (a b : String) : ((Str.ofString a) == (Str.ofString b)) = (a == b) := by
  rw [Bool.eq_iff_iff]
  simp only [beq_iff_eq]
  exact ⟨ofString_inj, fun h => by rw [h]⟩
@[simp] theorem str_eq (a b : String) : (Str.ofString a = Str.ofString b) ↔ (a = b) := ⟨ofString_inj, fun h => by rw [h]⟩

/-! ### lists of data -/
@[simp] theorem asDs_map : ∀ xs : List D, asDs (xs.map W.d) = some xs
  | [] => rfl
  | x :: xs => by simp [asDs_map xs]
@[simp] theorem asDs_mapf {A1 : Type} (f : A1 → D) : ∀ xs : List A1, asDs (xs.map fun x => W.d (f x)) = some (xs.map f)
  | [] => rfl
  | x :: xs => by simp [asDs_mapf f xs]
@[simp] theorem ddeps_int : ∀ ns : List Int, ddeps (ns.map D.int) = 0
  | [] => rfl
  | _ :: ns => by simp [ddeps_int ns]
theorem ddeps_le {n : Nat} : ∀ {xs : List D}, (∀ x ∈ xs, ddep x ≤ n) → ddeps xs ≤ n
  | [], _ => by simp
  | x :: xs, h => by
    have h1 := h x (by simp)
    have h2 := ddeps_le (xs := xs) fun y hy => h y (by simp [hy])
    simp only [ddeps]
    omega

theorem at_mem {A1 : Type} {xs : List A1} {i : Int} (h0 : 0 ≤ i) (h1 : i < xs.length) : ∃ x, atI xs i = some x ∧ x ∈ xs := by
  refine ⟨xs[i.toNat]'(by omega), ?_, List.getElem_mem _⟩
  unfold atI ixN
  rw [if_pos h0, if_pos h1]
  show xs[i.toNat]? = _
  simp
theorem at_nat {A1 : Type} {xs : List A1} {i : Int} (h0 : 0 ≤ i) (h1 : i < xs.length) : atI xs i = xs[i.toNat]? := by
  unfold atI ixN
  rw [if_pos h0, if_pos h1]; rfl
theorem at_getD {A1 : Type} {xs : List A1} {i : Int} (d : A1) (h0 : 0 ≤ i) (h1 : i < xs.length) : atI xs i = some (xs.getD i.toNat d) := by
  rw [at_nat h0 h1, List.getD_eq_getElem?_getD]
  have : i.toNat < xs.length := by omega
  simp [this]
theorem cutL_len {A1 : Type} (xs : List A1) (lo hi : Option Int) : (cutL xs lo hi).length ≤ xs.length := by
  unfold cutL
  rw [List.length_take, List.length_drop]; omega
@[simp] theorem cutL_map {A1 B1 : Type} (f : A1 → B1) (xs : List A1) (lo hi : Option Int) : cutL (xs.map f) lo hi = (cutL xs lo hi).map f := by
  unfold cutL
  rw [List.length_map, List.map_drop.symm, List.map_take.symm]
/-! ### comprehensions of data -/
theorem lc_pure {chk : Sto → Prop} {g : WG} {tt : WT} {te : WE} {rh : Ev} {mu : Sto} {Q : List W → Sto → Prop} (r : W → Option W) (hc : chk mu) : ∀ {items acc : List W},
    (∀ x ∈ items, ∀ (A : W → Sto → Prop) (B : Sto → Prop), (match r x with | some y => A y mu | none => B mu) → g x rh mu fun rh' mu1 => tt rh' mu1 fun b mu2 => if b = true then te rh' mu2 A else B mu2) →
    Q (acc ++ items.filterMap r) mu → lcL chk g tt te rh items acc mu Q
  | [], acc, _, h => ⟨hc, by simpa using h⟩
  | x :: xs, acc, H, h => by
    refine ⟨hc, H x (by simp) _ _ ?_⟩
    split
    · rename_i y e
      refine lc_pure r hc (fun z hz => H z (by simp [hz])) ?_
      rw [List.filterMap_cons, e] at h
      simpa using h
    · rename_i e
      refine lc_pure r hc (fun z hz => H z (by simp [hz])) ?_
      rw [List.filterMap_cons, e] at h
      exact h
theorem lc_D {chk : Sto → Prop} {g : WG} {tt : WT} {te : WE} {rh : Ev} {mu : Sto} {Q : List W → Sto → Prop} {ds : List D} (r : D → Option D) (hc : chk mu)
    (H : ∀ x ∈ ds, ∀ (A : W → Sto → Prop) (B : Sto → Prop), (match r x with | some y => A (.d y) mu | none => B mu) → g (.d x) rh mu fun rh' mu1 => tt rh' mu1 fun b mu2 => if b = true then te rh' mu2 A else B mu2)
    (h : Q ((ds.filterMap r).map W.d) mu) : lcL chk g tt te rh (ds.map W.d) [] mu Q := by
  refine lc_pure (fun w => match w with | .d x => (r x).map W.d | _ => none) hc (fun x hx A B q => ?_) ?_
  · obtain ⟨d, hd, rfl⟩ := List.mem_map.mp hx
    refine H d hd A B ?_
    cases e : r d with
    | none => simp only [e, Option.map_none] at q ⊢; exact q
    | some y => simp only [e, Option.map_some] at q ⊢; exact q
  · have e : (ds.map W.d).filterMap (fun w => match w with | .d x => (r x).map W.d | _ => none) = (ds.filterMap r).map W.d := by
      rw [List.filterMap_map, List.map_filterMap]
      rfl
    rw [List.nil_append, e]
    exact h
/-- .. without a test -/
theorem lc_M {chk : Sto → Prop} {g : WG} {te : WE} {rh : Ev} {mu : Sto} {Q : List W → Sto → Prop} {ds : List D} (f : D → D) (hc : chk mu)
    (H : ∀ x ∈ ds, ∀ (A : W → Sto → Prop), A (.d (f x)) mu → g (.d x) rh mu fun rh' mu1 => te rh' mu1 A)
    (h : Q ((ds.map f).map W.d) mu) : lcL chk g wYes te rh (ds.map W.d) [] mu Q :=
  lc_D (fun x => some (f x)) hc (fun x hx A B q => by simpa using H x hx A q) (by rw [List.filterMap_eq_map']; exact h)

/-! ### an item of a displayed list -/
@[simp] theorem at_c0 {A1 : Type} (x : A1) (xs : List A1) : atI (x :: xs) 0 = some x := by
  rw [at_nat (by omega) (by simp)]; rfl
@[simp] theorem at_c1 {A1 : Type} (x y : A1) (xs : List A1) : atI (x :: y :: xs) 1 = some y := by
  rw [at_nat (by omega) (by simp; omega)]; rfl
@[simp] theorem at_c2 {A1 : Type} (x y z : A1) (xs : List A1) : atI (x :: y :: z :: xs) 2 = some z := by
  rw [at_nat (by omega) (by simp; omega)]; rfl
@[simp] theorem at_c3 {A1 : Type} (x y z u : A1) (xs : List A1) : atI (x :: y :: z :: u :: xs) 3 = some u := by
  rw [at_nat (by omega) (by simp; omega)]; rfl
/-! ### loops by an invariant -/
theorem forL_inv {chk : Sto → Prop} {g : WG} {b : WS} {V : EV} (I : Ev → Sto → Prop) (hc : ∀ rh mu, I rh mu → chk mu) (hend : ∀ rh mu, I rh mu → V.nx rh mu) : ∀ {items : List W} {rh : Ev} {mu : Sto},
    (∀ x ∈ items, ∀ rh mu, I rh mu → ∀ N : Ev → Sto → Prop, (∀ rh mu, I rh mu → N rh mu) → g x rh mu fun rh' mu' => b { V with nx := N, ct := N, bk := V.nx } rh' mu') → I rh mu → forL chk g b V items rh mu
  | [], _, _, _, h => ⟨hc _ _ h, hend _ _ h⟩
  | x :: xs, rh, mu, H, h => ⟨hc _ _ h, H x (by simp) _ _ h _ fun rh mu h1 => forL_inv I hc hend (fun y hy => H y (by simp [hy])) h1⟩
theorem forL_rem {chk : Sto → Prop} {g : WG} {b : WS} {V : EV} (I : List W → Ev → Sto → Prop) (hc : ∀ xs rh mu, I xs rh mu → chk mu) (hend : ∀ rh mu, I [] rh mu → V.nx rh mu)
    (H : ∀ x xs rh mu, I (x :: xs) rh mu → ∀ N : Ev → Sto → Prop, (∀ rh mu, I xs rh mu → N rh mu) → g x rh mu fun rh' mu' => b { V with nx := N, ct := N, bk := V.nx } rh' mu') : ∀ {items : List W} {rh : Ev} {mu : Sto}, I items rh mu → forL chk g b V items rh mu
  | [], _, _, h => ⟨hc _ _ _ h, hend _ _ h⟩
  | x :: xs, rh, mu, h => ⟨hc _ _ _ h, H x xs _ _ h _ fun rh mu h1 => forL_rem I hc hend H h1⟩
theorem forL_idx {chk : Sto → Prop} {g : WG} {b : WS} {V : EV} (I : Nat → Ev → Sto → Prop) (hc : ∀ i rh mu, I i rh mu → chk mu) {items : List W} (hend : ∀ rh mu, I items.length rh mu → V.nx rh mu)
    (H : ∀ i x, items[i]? = some x → ∀ rh mu, I i rh mu → ∀ N : Ev → Sto → Prop, (∀ rh mu, I (i + 1) rh mu → N rh mu) → g x rh mu fun rh' mu' => b { V with nx := N, ct := N, bk := V.nx } rh' mu') {rh : Ev} {mu : Sto} (h : I 0 rh mu) : forL chk g b V items rh mu := by
  refine forL_rem (fun xs rh mu => ∃ i, xs = items.drop i ∧ i ≤ items.length ∧ I i rh mu) (fun _ _ _ ⟨i, _, _, h⟩ => hc i _ _ h) (fun rh mu ⟨i, e, l, h⟩ => ?_) (fun x xs rh mu ⟨i, e, l, h⟩ N hN => ?_) ⟨0, by simp, Nat.zero_le _, h⟩
  · have : items.length ≤ i := by
      have := congrArg List.length e; simp at this; omega
    obtain rfl : i = items.length := by omega
    exact hend _ _ h
  · have hi : i < items.length := by
      have := congrArg List.length e; simp at this; omega
    rw [List.drop_eq_getElem_cons hi] at e
    injection e with e1 e2
    subst e1
    exact H i _ (List.getElem?_eq_getElem hi) _ _ h N fun rh mu h1 => hN _ _ ⟨i + 1, e2, hi, h1⟩
/-- a range from nought -/
theorem forL_rng {chk : Sto → Prop} {g : WG} {b : WS} {V : EV} {n : Nat} (I : Nat → Ev → Sto → Prop) (hc : ∀ i rh mu, I i rh mu → chk mu) (hend : ∀ rh mu, I n rh mu → V.nx rh mu)
    (H : ∀ i, i < n → ∀ rh mu, I i rh mu → ∀ N : Ev → Sto → Prop, (∀ rh mu, I (i + 1) rh mu → N rh mu) → g (.d (.int i)) rh mu fun rh' mu' => b { V with nx := N, ct := N, bk := V.nx } rh' mu') {rh : Ev} {mu : Sto} (h : I 0 rh mu) : forL chk g b V (rngW 0 n) rh mu := by
  refine forL_idx I hc (fun rh mu h => hend rh mu (by rw [rngW_len] at h; exact h)) (fun i x e rh mu h N hN => ?_) h
  have hi : i < n := by
    have := (List.getElem?_eq_some_iff.mp e).1; rw [rngW_len] at this; exact this
  rw [rngW_get 0 n i hi] at e
  injection e with e; subst e
  rw [Int.zero_add]
  exact H i hi rh mu h N hN
/-! ### comprehensions: a filter; results of a kind -/
theorem blkOk_at {N : List Str} {S S' scope : Scope} {own : List (Str × Nat)} (h : blkC N S scope own = true) (e : S' = S := by rfl) : BlkOk N S' scope own := e ▸ blkOk_by h
/-! ### bits -/
end VL
namespace VL
open PySem PySem.Spec PyProof.Rows L2 RZ
/-! ### in, not in -/
@[simp] def flatD : D → Bool
  | .non | .bl _ | .int _ | .str _ => true
  | _ => false
def inD (a : D) (ds : List D) : Bool := ds.any fun z => deqv z a
@[simp] theorem inD_nil (a : D) : inD a [] = false := rfl
@[simp] theorem inD_cons (a x : D) (xs : List D) : inD a (x :: xs) = (deqv x a || inD a xs) := rfl
@[simp] def fInT (neg : Bool) : F2 := fun mu x y Q => match x, y with
  | .d a, .d (.tup ds) => flatD a = true ∧ ds.all flatD = true ∧ Q (.d (.bl (if neg then !inD a ds else inD a ds))) mu
  | _, _ => False
section
variable {io : Type} {Y : io → Cx} {P : Program} {w : World} {K : KW} {mg : Str → Option Value} {base : Heap} {N : List Str} {k : Nat}
theorem flD_rep {F : Hp} {x : D} {v : V} (r : RepD K F x v) (h : flatD x = true) : flatV v = true := by
  cases r <;> first | rfl | (exfalso; simp at h; done)
theorem flat_eqV {F : Hp} {x y : D} {v u : V} (r : RepD K F x v) (r' : RepD K F y u) (h : flatD x = true) (h' : flatD y = true) : eqV v u = deqv x y := by
  cases r <;> cases r' <;> first | (exfalso; simp at h; done) | (exfalso; simp at h'; done) | simp [eqV]
theorem flD_all {F : Hp} : ∀ {xs : List D} {vs : List V}, Paired (RepD K F) xs vs → xs.all flatD = true → vs.all flatV = true
  | [], _, .nil, _ => rfl
  | x :: xs, _, .cons r t, h => by
    rw [List.all_cons, Bool.and_eq_true] at h ⊢
    exact ⟨flD_rep r h.1, flD_all t h.2⟩
theorem flat_in {F : Hp} {a : D} {v : V} (ra : RepD K F a v) (ha : flatD a = true) : ∀ {xs : List D} {vs : List V}, Paired (RepD K F) xs vs → xs.all flatD = true → inV v vs = inD a xs
  | [], _, .nil, _ => rfl
  | x :: xs, _, .cons r t, h => by
    rw [List.all_cons, Bool.and_eq_true] at h
    show (eqV _ v || inV v _) = _
    rw [inD_cons, flat_eqV r ra h.1 ha, flat_in ra ha t h.2]
theorem opd_inT (neg : Bool) : OpD K (rIn K neg) (fInT neg) := fun G B F H al rh si mu x y vx vy Qd Q s r1 r2 h q => by
  unfold fInT at h
  split at h
  · rename_i a ds
    obtain ⟨h1, h2, h3⟩ := h
    obtain ⟨p, vs, rfl, hs, hz, hp⟩ := repTup r2
    cases r1 with
    | d r1 =>
      refine ⟨p, vs, rfl, .inr (sqtMono s.s.fz hs), flD_rep r1 h1, flD_all hp h2, ?_⟩
      rw [flat_in r1 h1 hp h2]
      exact q F H al mu _ _ (Ext.refl _ _) s (.d (.bl _)) h3
  · exact h.elim
theorem c_inT (y : YOk Y P w K mg base N k) : CmpK Y K .In (fInT false) := .mk (fun i => by rw [← y.hK i]; exact op_in_seq) (opd_inT false)
theorem c_notinT (y : YOk Y P w K mg base N k) : CmpK Y K .NotIn (fInT true) := .mk (fun i => by rw [← y.hK i]; exact op_notIn_seq) (opd_inT true)
end

/-! ### methods of texts with one argument -/
section
variable {io : Type} {Y : io → Cx} {P : Program} {w : World} {K : KW} {mg : Str → Option Value} {base : Heap} {N : List Str} {k : Nat} {o e : Expr} {wo we : WE} {apos pos : Pos}
end
end VL
namespace VL
open PySem PySem.Spec PyProof.Rows L2 RZ
/-! ### promises over values and the store -/
@[simp] def sS1 (g : W → Sto → (W → Sto → Prop) → Prop) : VSp := fun ws mu Q => match ws with
  | [a] => g a mu Q
  | _ => False
@[simp] def sS5 (g : W → W → W → W → W → Sto → (W → Sto → Prop) → Prop) : VSp := fun ws mu Q => match ws with
  | [a, b, c, d, e] => g a b c d e mu Q
  | _ => False
theorem lenS1 {g} {ws : List W} {mu : Sto} {Q} (h : sS1 g ws mu Q) : ws.length = 1 := by
  unfold sS1 at h
  split at h
  · rfl
  · exact h.elim
theorem lenS5 {g} {ws : List W} {mu : Sto} {Q} (h : sS5 g ws mu Q) : ws.length = 5 := by
  unfold sS5 at h
  split at h
  · rfl
  · exact h.elim
theorem atS1 {g} {f : WS} {N : List Str} (v : ∀ a mu Q, g a mu Q → f (evr Q) (startE N [a]) mu) : ∀ ws mu Q, sS1 g ws mu Q → f { nx := fun _ mu => Q (.d .non) mu, rt := Q } (startE N ws) mu := fun ws mu Q h => by
  unfold sS1 at h
  split at h
  · exact v _ _ _ h
  · exact h.elim
theorem atS5 {g} {f : WS} {N : List Str} (v : ∀ a b c d e mu Q, g a b c d e mu Q → f (evr Q) (startE N [a, b, c, d, e]) mu) : ∀ ws mu Q, sS5 g ws mu Q → f { nx := fun _ mu => Q (.d .non) mu, rt := Q } (startE N ws) mu := fun ws mu Q h => by
  unfold sS5 at h
  split at h
  · exact v _ _ _ _ _ _ _ h
  · exact h.elim

/-! ### {} -/
section
variable {io : Type} {Y : io → Cx} {P : Program} {w : World} {K : KW} {mg : Str → Option Value} {base : Heap} {N : List Str} {k : Nat} {pos : Pos}
end
@[simp] theorem atI_comp {A1 : Type} (f : A1 → D) (xs : List A1) (i : Int) : atI (xs.map (W.d ∘ f)) i = (atI (xs.map f) i).map W.d := by
  unfold atI
  simp only [List.length_map]
  cases ixN xs.length i with
  | none => rfl
  | some j =>
    show (xs.map (W.d ∘ f))[j]? = ((xs.map f)[j]?).map W.d
    simp [Function.comp_def]
@[simp] theorem len_sign (c : Nat) : Str.length ⟨#[c]⟩ = 1 := rfl
theorem ite_of {c : Prop} [Decidable c] {a b : Prop} (h1 : c → a) (h2 : ¬ c → b) : if c then a else b := by
  by_cases h : c
  · rw [if_pos h]; exact h1 h
  · rw [if_neg h]; exact h2 h
theorem sum_ints {ns : List Int} {mu : Sto} {Q : W → Sto → Prop} (h : Q (.d (.int ns.sum)) mu) : fSum mu [.d (.lst (ns.map D.int))] Q := ⟨ns, rfl, h⟩
end VL
namespace VL
open PySem PySem.Spec PyProof.Rows L2 RZ
/-! ### own classes -/
theorem clsAt.uniq {K : KW} {n : Str} {c c' : Addr} (h : clsAt K n c) (h' : clsAt K n c') : c = c' := by
  unfold clsAt at h h'
  rw [h] at h'
  injection h' with h'
  injection h' with h'
  injection h' with h'
section
variable {K : KW} {G B F H : Hp} {al : List Addr} {mu : Sto}
end
section
variable {io : Type} {Y : io → Cx} {P : Program} {w : World} {K : KW} {mg : Str → Option Value} {base : Heap} {N : List Str} {k j : Nat} {pos p apos : Pos} {a e o : Expr} {es : List Expr} {wa we wo : WE} {ga : WA} {x m : Str}
end
section
variable {X : Cx} {P : Program} {w : World} {K : KW} {mg : Str → Option Value} {base : Heap} {N : List Str} {k : Nat} {pos pos' : Pos} {o e : Expr} {wo we : WE}
end
section
variable {P : Program} {w : World} {K : KW} {mg : Str → Option Value} {base : Heap}
end
end VL
namespace VL
open PySem PySem.Spec PyProof.Rows L2 RZ
/-! ### sets of keys of any kind, their order left open -/
theorem paired_perm {A1 B1 : Type} {R : A1 → B1 → Prop} {xs ys : List A1} (p : ys.Perm xs) : ∀ {us : List B1}, Paired R xs us → ∃ vs, vs.Perm us ∧ Paired R ys vs := by
  induction p with
  | nil => intro us h; exact ⟨us, .refl _, h⟩
  | cons x q ih =>
    intro us h
    cases h with
    | cons r t =>
      obtain ⟨vs, p1, p2⟩ := ih t
      exact ⟨_ :: vs, p1.cons _, .cons r p2⟩
  | swap x y l =>
    intro us h
    cases h with
    | cons r t =>
      cases t with
      | cons r2 t2 => exact ⟨_, .swap _ _ _, .cons r2 (.cons r t2)⟩
  | trans _ _ ih1 ih2 =>
    intro us h
    obtain ⟨vs, p1, p2⟩ := ih2 h
    obtain ⟨ws, p3, p4⟩ := ih1 p2
    exact ⟨ws, p3.trans p1, p4⟩
section
variable {P : Program} {w : World} {T : Type} [DecidableEq T] {knd : PySem.KeyKind P w T}
def Pe (knd : PySem.KeyKind P w T) (e : Int × Value) (k : T) : Prop := knd.is k e.2 = true ∧ e.1 = knd.hash k ∧ e.2.scannable = true
def SetG (knd : PySem.KeyKind P w T) (h : Heap) (a : Addr) (L : List T) : Prop :=
  ∃ o es ep t, h.get? a = some o ∧ o.ExactSet ∧ o.data = .set es ep t ∧ (∃ L', L'.Perm L ∧ Paired (Pe knd) es.toList L') ∧ L.Nodup ∧ es.size < scanBound ∧ t.fits es.size = true ∧ Ris t.place.toList ∧ (w.params.followText "set-order" = true ∨ t.led = true)
theorem pe_elems : ∀ {es : List (Int × Value)} {L : List T}, Paired (Pe knd) es L → ElemsOf knd es
  | _, _, .nil => fun e h => by cases h
  | _, _, .cons r t => fun e h => by
    rcases List.mem_cons.mp h with q | q
    · rw [q]; exact ⟨⟨_, r.1, r.2.1⟩, r.2.2⟩
    · exact pe_elems t e q
theorem pe_mem : ∀ {es : List (Int × Value)} {L : List T}, Paired (Pe knd) es L → ∀ k, k ∈ L ↔ ∃ e ∈ es, knd.is k e.2 = true
  | _, _, .nil, k => by simp
  | _, _, .cons r t, k => by
    have ih := pe_mem t k
    rw [List.mem_cons, ih]
    constructor
    · rintro (rfl | ⟨e, h1, h2⟩)
      · exact ⟨_, List.mem_cons_self, r.1⟩
      · exact ⟨e, List.mem_cons_of_mem _ h1, h2⟩
    · rintro ⟨e, h1, h2⟩
      rcases List.mem_cons.mp h1 with q | q
      · subst q; exact .inl (knd.inj _ _ _ h2 r.1)
      · exact .inr ⟨e, q, h2⟩
theorem SetG.at {h h' : Heap} {a : Addr} {L : List T} (R : SetG knd h a L) (k : ∀ o, h.get? a = some o → h'.get? a = some o) : SetG knd h' a L := by
  obtain ⟨o, es, ep, t, ho, r⟩ := R
  exact ⟨o, es, ep, t, k o ho, r⟩
variable {A : Around} {E : Value → Shared → Prop} {s : Shared} {a : Addr}
theorem setG_add_tail {g : Bool → Sem Unit} (hg : ∀ (b : Bool) (s₁ : Shared) (Q' : Unit → Shared → Prop), Q' () s₁ → wpAny (model P w) A (g b) Q' E s₁)
    {o : Obj} {es : Array (Int × Value)} {ep : Nat} {t : SetTable} (ho : s.heap.get? a = some o) (hex : o.ExactSet) (hd : o.data = .set es ep t)
    {es1 : Array (Int × Value)} {t2 : SetTable} {L : List T} (g1 : ∃ L', L'.Perm L ∧ Paired (Pe knd) es1.toList L') (nd1 : L.Nodup)
    (hb1 : es1.size < scanBound) (hf2 : t2.fits es1.size = true) (hr : Ris t2.place.toList) (hl : w.params.followText "set-order" = true ∨ t2.led = true) {wasDummy : Bool} {R : Option Bool → Shared → Prop}
    (hR : ∀ h', Heap.SameBut a s.heap h' → SetG knd h' a L → R (some true) { s with heap := h' }) :
    wpAny (model P w) A (do
        storeSet a es1 t2
        if (!wasDummy && t2.tooFull) = true then do
            g (relayAll t2 es1 (SetTable.grown es1.size)).2.2
            storeSet a (relayAll t2 es1 (SetTable.grown es1.size)).1 (relayAll t2 es1 (SetTable.grown es1.size)).2.1
            pure (some true)
          else pure (some true)) R E s := by
  refine wpAny_bind (wpAny_storeSet_of ho hd ?_ (fits_of_scanBound hb1))
  have ho1 := store_at (es' := es1) (t' := t2) ho hd
  have sb1 := Heap.SameBut.update s.heap a (Obj.putSet es1 t2)
  split
  · have pm := relayAll_perm t2 es1 (SetTable.grown es1.size)
    have hf3 := relayAll_fits t2 es1 (SetTable.grown es1.size)
    have hr3 := relayAll_ris t2 es1 (SetTable.grown es1.size)
    have hl3 := relayAll_led t2 es1 (SetTable.grown es1.size)
    generalize relayAll t2 es1 (SetTable.grown es1.size) = Z at pm hf3 hr3 hl3 ⊢
    obtain ⟨es2, t3, gave⟩ := Z
    dsimp only at pm hf3 hr3 hl3 ⊢
    have hsz : es2.size = es1.size := by rw [← Array.length_toList, pm.length_eq, Array.length_toList]
    have hb2 : es2.size < scanBound := by rw [hsz]; exact hb1
    refine wpAny_bind (hg _ _ _ ?_)
    refine wpAny_bind (wpAny_storeSet_of ho1 rfl ?_ (fits_of_scanBound hb2))
    have ho2 := store_at (es' := es2) (t' := t3) ho1 rfl
    obtain ⟨L', q1, q2⟩ := g1
    obtain ⟨L2, q3, q4⟩ := paired_perm pm q2
    refine wpAny_pure (hR _ (sb1.trans (Heap.SameBut.update _ a _)) ?_)
    exact ⟨_, es2, _, t3, ho2, hex, rfl, ⟨L2, q3.trans q1, q4⟩, nd1, hb2, hf3, hr3, hl.imp id fun z => by rw [hl3]; exact z⟩
  · exact wpAny_pure (hR _ sb1 ⟨_, es1, _, t2, ho1, hex, rfl, g1, nd1, hb1, hf2, hr, hl⟩)
theorem setG_add_hashed {k : T} {v : Value} {L : List T} {Q : Bool → Shared → Prop} (hkey : knd.is k v = true) (hsc : v.scannable = true) (R : SetG knd s.heap a L) (room : L.length + 1 < scanBound)
    (hQ : ∀ h' b, Heap.SameBut a s.heap h' → SetG knd h' a (if k ∈ L then L else k :: L) → Q b { s with heap := h' }) :
    wpAny (model P w) A (setAddHashed a v (knd.hash k)) Q E s := by
  obtain ⟨o, es, ep, t, ho, hex, hd, ⟨L', pL, pr⟩, nd, hb, hf, hr, hl⟩ := R
  have hel : ElemsOf knd es.toList := pe_elems pr
  have hn : es.size = L.length := by rw [← pL.length_eq, ← Paired.length pr, Array.length_toList]
  unfold setAddHashed setAddHashedIn
  refine wpAny_holding (wpAny_bind (wpAny_setState_of ho hd hf ?_))
  dsimp only
  rw [byScan_of hsc hb hel]
  simp only [↓reduceIte]
  unfold setAddByScan
  refine wpAny_bind ?_
  refine wpAny_bind (wpAny_rule ?_)
  refine wpAny_bind (wpAny_setScan_of hkey ho hd hf hel ?_)
  cases hfi : List.findIdx? (fun e => knd.is k e.2) es.toList with
  | some j =>
    dsimp only
    obtain ⟨hj, pj, _⟩ := List.findIdx?_eq_some_iff_getElem.mp hfi
    have hSk : k ∈ L := pL.mem_iff.mp ((pe_mem pr k).2 ⟨es.toList[j], List.getElem_mem hj, pj⟩)
    refine wpAny_pure (wpAny_pure ?_)
    have q := hQ s.heap false (Heap.SameBut.refl a s.heap)
    rw [if_pos hSk] at q
    exact q ⟨o, es, ep, t, ho, hex, hd, ⟨L', pL, pr⟩, nd, hb, hf, hr, hl⟩
  | none =>
    dsimp only
    have hnk : k ∉ L := fun z => by
      obtain ⟨e, he, q⟩ := (pe_mem pr k).1 (pL.mem_iff.mpr z)
      have c := List.findIdx?_eq_none_iff.mp hfi e he
      rw [q] at c
      cases c
    have hgw : ∀ (b : Bool) {s₁ : Shared} {Q' : Unit → Shared → Prop}, Q' () s₁ → wpAny (model P w) A (match b with | true => rule "set.scan.the-table-gave-way" | false => pure ()) Q' E s₁ :=
      fun b s₁ Q' q => by cases b <;> first | exact wpAny_pure q | exact wpAny_rule q
    have pm := layNew_perm t es (knd.hash k) v
    have hf1 := layNew_fits t es (knd.hash k) v
    have hr1 := layNew_ris t es (knd.hash k) v hr
    have hl1 := layNew_led t es (knd.hash k) v
    generalize layNew t es (knd.hash k) v = Z at pm hf1 hr1 hl1 ⊢
    obtain ⟨es1, t1, wasDummy, gave⟩ := Z
    dsimp only at pm hf1 hr1 hl1 ⊢
    rw [Array.toList_push] at pm
    have pc : es1.toList.Perm ((knd.hash k, v) :: es.toList) := pm.trans (List.perm_append_singleton _ _)
    obtain ⟨L1, p1, p2⟩ := paired_perm pc (Paired.cons (F := Pe knd) (a := (knd.hash k, v)) (b := k) ⟨hkey, rfl, hsc⟩ pr)
    have pl1 : L1.Perm (k :: L) := p1.trans (pL.cons k)
    have nd1 : (k :: L).Nodup := List.nodup_cons.mpr ⟨hnk, nd⟩
    have hsz : es1.size = L.length + 1 := by rw [← Array.length_toList, pc.length_eq, List.length_cons, Array.length_toList, hn]
    have hb1 : es1.size < scanBound := by rw [hsz]; exact room
    have hled : w.params.followText "set-order" = true ∨ t1.led = true := hl.imp id fun z => by rw [hl1]; exact z
    have fin : ∀ h', Heap.SameBut a s.heap h' → SetG knd h' a (k :: L) → Q true { s with heap := h' } := fun h' sb r => by
      have q := hQ h' true sb
      rw [if_neg hnk] at q
      exact q r
    refine wpAny_bind (hgw _ ?_)
    split
    · refine wpAny_bind ?_
      rw [hashByValue_scannable 8 hsc]
      refine wpAny_pure ?_
      refine setG_add_tail (knd := knd) ?_ ho hex hd ⟨L1, pl1, p2⟩ nd1 hb1 ?_ ?_ ?_ ?_
      · intro b s₁ Q' q; cases b <;> first | exact wpAny_pure q | exact wpAny_rule q
      · first | (split <;> first | exact hf1 | exact SetTable.fits_plain_off hf1) | exact hf1
      · first | (split <;> exact hr1) | exact hr1
      · first | (split <;> exact hled) | exact hled
      · intro h' sb r; dsimp only; exact wpAny_pure (fin h' sb r)
    · refine wpAny_bind (wpAny_pure ?_)
      simp only [↓reduceIte]
      refine setG_add_tail (knd := knd) ?_ ho hex hd ⟨L1, pl1, p2⟩ nd1 hb1 hf1 hr1 hled ?_
      · intro b s₁ Q' q; cases b <;> first | exact wpAny_pure q | exact wpAny_rule q
      · intro h' sb r; dsimp only; exact wpAny_pure (fin h' sb r)
/-- the members that have come -/
def dedup (L : List T) : List T → List T
  | [] => L
  | k :: ks => dedup (if k ∈ L then L else k :: L) ks
theorem dedup_mem : ∀ (ks L : List T) (k : T), k ∈ dedup L ks ↔ k ∈ L ∨ k ∈ ks
  | [], L, k => by simp [dedup]
  | j :: ks, L, k => by
    rw [dedup, dedup_mem ks]
    split
    · rename_i h
      simp only [List.mem_cons]
      constructor
      · rintro (q | q)
        · exact .inl q
        · exact .inr (.inr q)
      · rintro (q | rfl | q)
        · exact .inl q
        · exact .inl h
        · exact .inr q
    · simp only [List.mem_cons]
      constructor
      · rintro ((rfl | q) | q)
        · exact .inr (.inl rfl)
        · exact .inl q
        · exact .inr (.inr q)
      · rintro (q | rfl | q)
        · exact .inl (.inr q)
        · exact .inl (.inl rfl)
        · exact .inr q
theorem dedup_len : ∀ (ks L : List T), (dedup L ks).length ≤ L.length + ks.length
  | [], L => by simp [dedup]
  | j :: ks, L => by
    rw [dedup]
    have h1 := dedup_len ks (if j ∈ L then L else j :: L)
    have h2 : (if j ∈ L then L else j :: L).length ≤ L.length + 1 := by split <;> simp
    simp only [List.length_cons]
    omega
theorem dedup_nodup : ∀ (ks L : List T), L.Nodup → (dedup L ks).Nodup
  | [], L, h => h
  | j :: ks, L, h => by
    rw [dedup]
    refine dedup_nodup ks _ ?_
    split
    · exact h
    · rename_i q; exact List.nodup_cons.mpr ⟨q, h⟩
theorem dedup_app : ∀ (ks ls L : List T), dedup L (ks ++ ls) = dedup (dedup L ks) ls
  | [], ls, L => rfl
  | j :: ks, ls, L => by rw [List.cons_append, dedup, dedup]; exact dedup_app ks ls _
def Kv (knd : PySem.KeyKind P w T) (v : Value) (k : T) : Prop := knd.is k v = true ∧ v.scannable = true
theorem set_update_G {R : Result → Shared → Prop} {I : Addr} {fp wr : List Addr} {G : Array GenState → Array GenState → Prop} {n : Nat} {Pv : Nat → Value → Prop} {St : Nat → Shared → Prop}
    (W : WalksS P w A.in1 I fp wr G n Pv St) (S : Addr) (hSf : S ∉ fp) (ks : List T) (hn : n = ks.length) (hb : ks.length + 1 < scanBound) (hval : ∀ i v, Pv i v → ∃ k, ks[i]? = some k ∧ Kv knd v k) :
    ∀ (k i : Nat) (s : Shared), n - i = k → i ≤ n → St i s → SetG knd s.heap S (dedup [] (ks.take i)) →
      (∀ s', Moved (S :: wr) G s s' → SetG knd s'.heap S (dedup [] ks) → R (.ok (.ret .none)) s') →
      codeAny (model P w) A (.builtin "set.update.loop" ⟨[.ref S, .ref I], []⟩) R s := by
  have hSw : S ∉ wr := fun h => hSf (W.sub _ h)
  have hsub : ∀ b ∈ wr, b ∈ S :: wr := fun b hb => List.mem_cons_of_mem _ hb
  intro k
  induction k with
  | zero =>
    intro i s hk' hi hst hS hR
    have hin : i = n := by omega
    subst hin
    refine codeAny_builtin PyProof.Rows.F.entry_set_update_loop ?_
    rw [Around.under_plainId PyProof.Rows.F.plain_set_update_loop _]
    show wpAny _ A.in1 (pyNext (.ref I) >>= _) _ _ s
    refine wpAny_bind (W.done s _ _ hst fun s' hm => ?_)
    show wpAny _ A.in1 (ret Value.none) _ _ s'
    have e : ks.take i = ks := List.take_of_length_le (by omega)
    rw [e] at hS
    exact wpAny_pure (hR s' (hm.mono hsub) (hS.at fun o e => hm.heap S o hSw e))
  | succ k ih =>
    intro i s hk' hi hst hS hR
    have hlt : i < n := by omega
    refine codeAny_builtin PyProof.Rows.F.entry_set_update_loop ?_
    rw [Around.under_plainId PyProof.Rows.F.plain_set_update_loop _]
    show wpAny _ A.in1 (pyNext (.ref I) >>= _) _ _ s
    refine wpAny_bind (W.item i s _ _ hlt hst fun v s' hP hst' hm => ?_)
    obtain ⟨z, hz, hv, hsc⟩ := hval i v hP
    have hS' : SetG knd s'.heap S (dedup [] (ks.take i)) := hS.at fun o e => hm.heap S o hSw e
    show wpAny _ A.in1 (holding [v] (setAdd S v) >>= _) _ _ s'
    refine wpAny_bind (wpAny_holding ?_)
    unfold setAdd
    refine wpAny_holding ?_
    refine wpAny_bind (knd.pyHash (k := z) hv ?_)
    have hlen : (dedup [] (ks.take i)).length + 1 < scanBound := by
      have := dedup_len (ks.take i) []
      simp at this; omega
    refine setG_add_hashed (s := { s' with toks := s'.toks + 1 }) hv hsc hS' hlen fun h' b hsb hS2 => ?_
    have hS3 : SetG knd h' S (dedup [] (ks.take (i + 1))) := by
      rw [List.take_add_one, hz, dedup_app]
      exact hS2
    refine wpAny_pure ⟨plainId_quiet PyProof.Rows.F.plain_set_update_loop _, ih (i + 1) _ (by omega) hlt (W.frame _ s' _ _ hst' (Nat.le_succ _) fun b hb o e => ?_) hS3 fun s'' hm'' hS'' => ?_⟩
    · rw [hsb.2 b (fun h : b = S => hSf (by rw [← h]; exact hb))]; exact e
    · refine hR s'' (Moved.trans W.gtrans ((hm.mono hsub).then_heap (Nat.le_succ _) fun b o hb e => ?_) hm'') hS''
      rw [hsb.2 b (fun h : b = S => hb (by rw [h]; exact List.mem_cons_self))]; exact e
theorem setG_new_at {h : Heap} {a : Addr} (ho : h.get? a = some { cls := .type "set", dict := none, data := .set #[] 0 (.fresh 0 0 (!w.params.followText "set-order")) }) : SetG knd h a [] :=
  ⟨_, #[], 0, _, ho, ⟨rfl, rfl, rfl⟩, rfl, ⟨[], .refl _, .nil⟩, List.nodup_nil, (by decide), (by rfl), List.Pairwise.nil, by
    show _ ∨ (!w.params.followText "set-order") = true
    cases w.params.followText "set-order"
    · exact .inr rfl
    · exact .inl rfl⟩
set_option maxHeartbeats 8000000 in
theorem call_set_listG {l : Addr} {items : Array Value} (ks : List T) {Q : Value → Shared → Prop} (hh : A.handled = none) (hl : s.heap.IsList l items) (hit : Paired (Kv knd) items.toList ks) (hb : ks.length + 1 < scanBound)
    (h : ∀ (h' : Heap) (tk : Nat), SetG knd h' s.heap.objs.size (dedup [] ks) → (∀ b o, s.heap.get? b = some o → h'.get? b = some o) → Q (.ref s.heap.objs.size) { s with heap := h', toks := tk }) :
    wpAny (model P w) A (call (.type "set") [.ref l]) Q E s := by
  have hisz : items.size = ks.length := by
    have q := Paired.length hit
    rw [Array.length_toList] at q
    exact q
  obtain ⟨c, tl, hmro⟩ := PySem.F.called_set.mro
  have hmade := PySem.F.called_set.made
  have hsub := PySem.F.called_set.sub
  refine wpAny_call (codeAny_of_tree ?_)
  show wpAny _ _ (callAny (.type "set") _) _ _ _
  refine wpAny_pure ⟨Code.quiet_builtin _ (by decide +kernel), codeAny_builtin PySem.F.entry_type_call ?_⟩
  rw [Around.under_plain (weight_type_call_type "set" [.ref l] []) rfl]
  have h1 := PySem.F.called_set.notType
  have h2 := PySem.F.called_set.canCreate
  have hct := PySem.F.typeCall_set_1 (.ref l)
  repeat (any_goals (first | assumption | wp_step))

  refine codeAny_mono (code_set_led1 (.ref l) (E := E) (Q₁ := fun obj s₁ => obj = .ref s.heap.objs.size ∧ s₁ = { s with heap := s.heap.push { cls := .type "set", dict := none, data := .set #[] 0 (.fresh 0 0 (!w.params.followText "set-order")) } }) ⟨rfl, rfl⟩) fun r s₁ hr => ?_
  cases r with
  | error e => exact hr
  | ok fl =>
    cases fl with
    | ret obj =>
      obtain ⟨rfl, rfl⟩ := hr
      have hS : (s.heap.push { cls := .type "set", dict := none, data := .set #[] 0 (.fresh 0 0 (!w.params.followText "set-order")) }).get? s.heap.objs.size = some { cls := .type "set", dict := none, data := .set #[] 0 (.fresh 0 0 (!w.params.followText "set-order")) } := Heap.get?_push_size _ rfl
      have hT : Shared.TypeIs { s with heap := s.heap.push { cls := .type "set", dict := none, data := .set #[] 0 (.fresh 0 0 (!w.params.followText "set-order")) } } (.ref s.heap.objs.size) "set" := ⟨_, hS, rfl⟩
      have hli := PySem.F.called_set.init.lookup
      have hbi := PySem.F.called_set.init.bind (.ref s.heap.objs.size)
      repeat (any_goals (first | assumption | wp_step))

      refine codeAny_mono (codeAny_call_builtin (R := wants (fun r s₂ => r = .none ∧ ∃ h' tk, s₂ = { s with heap := h', toks := tk } ∧ SetG knd h' s.heap.objs.size (dedup [] ks) ∧
          (∀ b o, s.heap.get? b = some o → h'.get? b = some o)) E) PySem.F.called_set.init.plain PySem.F.entry_set_init (check_set_init_1 hT ?_)) fun r₂ s₂ hr₂ => ?_
      · obtain ⟨ol, hol, hcl, nl, hdl⟩ := hl
        obtain ⟨ocls, odict, odata, oslots⟩ := ol
        simp only at hcl hdl
        subst hcl; subst hdl
        have hol' : (s.heap.push { cls := .type "set", dict := none, data := .set #[] 0 (.fresh 0 0 (!w.params.followText "set-order")) }).get? l = some { cls := .type "list", dict := odict, data := .seq items nl, slots := oslots } := Heap.get?_push_of_some _ hol
        have hsls := PySem.F.sub_list_set
        have hslf := PySem.F.sub_list_frozenset
        have hne : (Value.type "list" == Value.type "dict") = false := by decide
        have hl1 : (s.heap.push { cls := .type "set", dict := none, data := .set #[] 0 (.fresh 0 0 (!w.params.followText "set-order")) }).IsList l items := ⟨_, hol', rfl, nl, rfl⟩
        unfold Builtin.«set.__init__» noKeywords Builtin.Frozenset.updateFrom
        generalize hPI : pyIter = PI
        wp_walk
        subst hPI

        refine wpAny_pyIter_list hl1 ?_
        refine wpAny_bind (wpAny_runValue ?_)
        have hlS : l < s.heap.objs.size := Heap.lt_size hol
        have hh3 : A.in1.in1.in1.handled = none := by simp [hh]
        have hneI : l ≠ (s.heap.push { cls := .type "set", dict := none, data := .set #[] 0 (.fresh 0 0 (!w.params.followText "set-order")) }).objs.size := by
          rw [Heap.size_push]; exact Nat.ne_of_lt (Nat.lt_succ_of_lt hlS)
        have hSf : s.heap.objs.size ∉ [(s.heap.push { cls := .type "set", dict := none, data := .set #[] 0 (.fresh 0 0 (!w.params.followText "set-order")) }).objs.size, l] := by
          rw [Heap.size_push]; simp only [List.mem_cons, List.mem_singleton, List.not_mem_nil, or_false, not_or]
          exact ⟨Nat.ne_of_lt (Nat.lt_succ_self _), Nat.ne_of_gt hlS⟩
        have hval : ∀ (i : Nat) (v : Value), items[i]? = some v → ∃ k, ks[i]? = some k ∧ Kv knd v k := fun i v hv => pGetL hit (by rw [Array.getElem?_toList]; exact hv)
        refine set_update_G ((Walks.list hh3 _ l hneI items).toS) s.heap.objs.size
          hSf ks hisz hb hval (items.size - 0) 0 _ (by omega) (Nat.zero_le _)
          ⟨⟨_, Heap.get?_push_size _ rfl, rfl, rfl⟩, (hl1.push _)⟩ ?hS0 ?hR
        case hS0 =>
          have hget : ((s.heap.push { cls := .type "set", dict := none, data := .set #[] 0 (.fresh 0 0 (!w.params.followText "set-order")) }).push { cls := .type "list_iterator", data := .fields #[.ref l, .int 0 0] }).get? s.heap.objs.size
              = some { cls := .type "set", dict := none, data := .set #[] 0 (.fresh 0 0 (!w.params.followText "set-order")) } := Heap.get?_push_of_some _ hS
          exact setG_new_at hget
        case hR =>
          intro s' hm hS'
          obtain ⟨h', g2, d', tk', os'⟩ := s'
          have eg : g2 = s.gens := hm.gens
          have ed : d' = s.drawn := hm.drawn
          have eo : os' = s.os := hm.os
          subst eg; subst ed; subst eo
          show wpAny _ _ _ _ _ _
          refine wpAny_pure ?_
          show wpAny _ _ (ret Value.none) _ _ _
          refine wpAny_pure ⟨rfl, h', tk', rfl, hS', fun b o e => ?_⟩
          have hb0 : b < s.heap.objs.size := Heap.lt_size e
          have hb1 : b ≠ s.heap.objs.size := Nat.ne_of_lt hb0
          have hb2 : b ≠ (s.heap.push { cls := .type "set", dict := none, data := .set #[] 0 (.fresh 0 0 (!w.params.followText "set-order")) }).objs.size := by
            rw [Heap.size_push]; exact Nat.ne_of_lt (Nat.lt_succ_of_lt hb0)
          exact hm.heap b o (by simp only [List.mem_cons, List.mem_singleton, List.not_mem_nil, or_false, not_or]; exact ⟨hb1, hb2⟩) (Heap.get?_push_of_some _ (Heap.get?_push_of_some _ e))
      · cases r₂ with
        | error e => exact hr₂
        | ok fl₂ =>
          cases fl₂ with
          | ret r =>
            obtain ⟨rfl, h', tk, rfl, hS', hk'⟩ := hr₂
            repeat (any_goals (first | assumption | wp_step))
            exact h _ _ hS' hk'
          | _ => exact hr₂.elim
    | _ => exact hr.elim
end
end VL
namespace VL
open PySem PySem.Spec PyProof.Rows L2 RZ
/-! ### texts in order -/
def leS (a b : Str) : Bool := !ltCps b.cps.toList a.cps.toList
theorem leS_iff (a b : Str) : leS a b = true ↔ a.cps.toList ≤ b.cps.toList := by
  unfold leS
  rw [ltCps_eq]
  simp
theorem leS_trans (a b c : Str) (h1 : leS a b = true) (h2 : leS b c = true) : leS a c = true := by
  rw [leS_iff] at *
  exact List.le_trans h1 h2
theorem leS_total (a b : Str) : (leS a b || leS b a) = true := by
  rw [Bool.or_eq_true, leS_iff, leS_iff]
  exact List.le_total _ _
theorem leS_anti {a b : Str} (h1 : leS a b = true) (h2 : leS b a = true) : a = b := by
  rw [leS_iff] at *
  have := List.le_antisymm h1 h2
  cases a; cases b
  simp only [Str.mk.injEq]
  exact Array.toList_inj.mp this
def srtS (l : List Str) : List Str := l.mergeSort leS
def setS (l : List Str) : List Str := srtS (dedup [] l)
theorem srtS_perm (l : List Str) : (srtS l).Perm l := List.mergeSort_perm l leS
theorem setS_mem {l : List Str} {x : Str} : x ∈ setS l ↔ x ∈ l := by
  unfold setS; rw [(srtS_perm _).mem_iff, dedup_mem]; simp
theorem setS_nodup (l : List Str) : (setS l).Nodup := (srtS_perm _).nodup_iff.mpr (dedup_nodup _ _ List.nodup_nil)
theorem setS_nd {l : List Str} (h : l.Nodup) : (setS l).Perm l := (List.perm_ext_iff_of_nodup (setS_nodup l) h).mpr fun x => setS_mem
theorem setS_len (l : List Str) : (setS l).length ≤ l.length := by
  unfold setS; rw [(srtS_perm _).length_eq]; have := dedup_len l []; simpa using this
/-! ints -/
def leI (a b : Int) : Bool := decide (a ≤ b)
def srtI (l : List Int) : List Int := l.mergeSort leI
def setI (l : List Int) : List Int := srtI (dedup [] l)
theorem srtI_perm (l : List Int) : (srtI l).Perm l := List.mergeSort_perm l leI
theorem setI_mem {l : List Int} {x : Int} : x ∈ setI l ↔ x ∈ l := by
  unfold setI; rw [(srtI_perm _).mem_iff, dedup_mem]; simp
theorem setI_len (l : List Int) : (setI l).length ≤ l.length := by
  unfold setI; rw [(srtI_perm _).length_eq]; have := dedup_len l []; simpa using this

/-! ### sorted(set(..)) -/
section
variable {P : Program} {w : World} {A : Around} {E : Value → Shared → Prop} {s : Shared} {a : Addr}
end
section
variable {X : Cx}
end
section
variable {io : Type} {Y : io → Cx} {P : Program} {w : World} {K : KW} {mg : Str → Option Value} {base : Heap} {N : List Str} {k : Nat} {pos p p2 q : Pos} {a : Expr} {wa : WE}
end
end VL
namespace VL
open PySem PySem.Spec PyProof.Rows L2 RZ
/-! ### dicts with ints and texts as keys -/
section
variable {K : KW} {G B F H : Hp} {al : List Addr} {mu : Sto}
end
section
variable {K : KW} {G B F H : Hp} {al : List Addr} {mu : Sto}
end
section
variable {io : Type} {Y : io → Cx} {P : Program} {w : World} {K : KW} {mg : Str → Option Value} {base : Heap} {N : List Str} {k : Nat} {pos p apos cpos : Pos} {a i e o f : Expr} {wa wi we wo wf : WE}
end
section
variable {X : Cx} {P : Program} {w : World} {K : KW} {mg : Str → Option Value} {base : Heap} {N : List Str} {k : Nat} {pos pos' : Pos} {o i e : Expr} {wo wi we : WE}
end
/-! ### sorted(..): a list of texts, of ints, the keys of a dict, fewer than 64 -/
section
variable {io : Type} {Y : io → Cx} {P : Program} {w : World} {K : KW} {mg : Str → Option Value} {base : Heap} {N : List Str} {k : Nat} {pos p : Pos} {e : Expr} {es : List Expr} {ga : WA}
end
end VL
namespace VL
open PySem PySem.Spec PyProof.Rows L2 RZ RT
/-! ### list(reversed(a list)) -/
section
variable {prog : Program} {w : World} {A : Around} {E : Value → Shared → Prop} {s : Shared}
end
section
variable {X : Cx}
end
section
variable {io : Type} {Y : io → Cx} {P : Program} {w : World} {K : KW} {mg : Str → Option Value} {base : Heap} {N : List Str} {k : Nat} {pos p p2 pos2 : Pos} {a : Expr} {wa : WE}
end
end VL
namespace VL
open PySem PySem.Spec PyProof.Rows L2 RZ
/-! ### sorted(..) of a list of tuples of ints and texts, any number of them -/
def kD : Key → D
  | .inl i => .int i
  | .inr x => .str x
@[simp] theorem kD_inl (i : Int) : kD (.inl i) = .int i := rfl
@[simp] theorem kD_inr (x : Str) : kD (.inr x) = .str x := rfl
def isInl : Key → Bool
  | .inl _ => true
  | .inr _ => false
def ltK : Key → Key → Bool
  | .inl i, .inl j => decide (i < j)
  | .inr x, .inr y => ltCps x.cps.toList y.cps.toList
  | .inl _, .inr _ => true
  | .inr _, .inl _ => false
def ltL : List Key → List Key → Bool
  | [], [] => false
  | [], _ :: _ => true
  | _ :: _, [] => false
  | a :: as, b :: bs => if a = b then ltL as bs else ltK a b
theorem leS_lt {x y : Str} (h : ltCps x.cps.toList y.cps.toList = false) : leS y x = true := by unfold leS; rw [h]; rfl
theorem lt_leS {x y : Str} (h : ltCps x.cps.toList y.cps.toList = true) : leS y x = false := by unfold leS; rw [h]; rfl
theorem ltK_irr (a : Key) : ltK a a = false := by
  cases a with
  | inl i => simp [ltK]
  | inr x =>
    unfold ltK
    cases h : ltCps x.cps.toList x.cps.toList with
    | false => exact h
    | true =>
      have h1 := lt_leS h
      have h2 := leS_total x x
      rw [h1] at h2
      cases h2
theorem ltK_tri {a b : Key} (h1 : ltK a b = false) (h2 : ltK b a = false) : a = b := by
  cases a <;> cases b
  · simp [ltK] at h1 h2; congr 1; omega
  · cases h1
  · cases h2
  · rename_i x y
    have e := leS_anti (leS_lt h2) (leS_lt h1)
    rw [e]
theorem ltK_trans {a b c : Key} (h1 : ltK a b = true) (h2 : ltK b c = true) : ltK a c = true := by
  cases a <;> cases b <;> cases c <;> first | (cases h1; done) | (cases h2; done) | rfl | skip
  · simp [ltK] at *; omega
  · rename_i x y z
    unfold ltK at *
    cases h : ltCps x.cps.toList z.cps.toList with
    | true => exact h
    | false =>
      have h3 := leS_lt h
      have l1 := lt_leS h1
      have l2 := lt_leS h2
      have t1 : leS x y = true := by have := leS_total x y; rw [l1] at this; simpa using this
      have := leS_trans _ _ _ h3 t1
      rw [l2] at this; cases this
theorem ltL_irr : ∀ a : List Key, ltL a a = false
  | [] => rfl
  | a :: as => by unfold ltL; rw [if_pos rfl]; exact ltL_irr as
theorem ltL_tri : ∀ {a b : List Key}, ltL a b = false → ltL b a = false → a = b
  | [], [], _, _ => rfl
  | [], _ :: _, h, _ => by cases h
  | _ :: _, [], _, h => by cases h
  | a :: as, b :: bs, h1, h2 => by
    unfold ltL at h1 h2
    by_cases c : a = b
    · subst c
      rw [if_pos rfl] at h1 h2
      rw [ltL_tri h1 h2]
    · rw [if_neg c] at h1
      rw [if_neg fun z => c z.symm] at h2
      exact absurd (ltK_tri h1 h2) c
theorem ltL_trans : ∀ {a b c : List Key}, ltL a b = true → ltL b c = true → ltL a c = true
  | [], [], _, h, _ => by cases h
  | [], _ :: _, [], _, h => by cases h
  | [], _ :: _, _ :: _, _, _ => rfl
  | _ :: _, [], _, h, _ => by cases h
  | _ :: _, _ :: _, [], _, h => by cases h
  | a :: as, b :: bs, c :: cs, h1, h2 => by
    unfold ltL at h1 h2 ⊢
    by_cases e1 : a = b
    · subst e1
      rw [if_pos rfl] at h1
      by_cases e2 : a = c
      · subst e2
        rw [if_pos rfl] at h2 ⊢
        exact ltL_trans h1 h2
      · rw [if_neg e2] at h2 ⊢
        exact h2
    · rw [if_neg e1] at h1
      by_cases e2 : b = c
      · subst e2
        rw [if_neg e1]; exact h1
      · rw [if_neg e2] at h2
        have h3 := ltK_trans h1 h2
        rw [if_neg fun z => by subst z; rw [ltK_irr] at h3; cases h3]
        exact h3
theorem ltL_asym {a b : List Key} (h : ltL a b = true) : ltL b a = false := by
  cases q : ltL b a with
  | false => rfl
  | true => have := ltL_trans h q; rw [ltL_irr] at this; cases this
def leL (a b : List Key) : Bool := !ltL b a
theorem leL_trans (a b c : List Key) (h1 : leL a b = true) (h2 : leL b c = true) : leL a c = true := by
  unfold leL at *
  cases q : ltL c a with
  | false => rfl
  | true =>
    simp at h1 h2
    cases q2 : ltL a b with
    | true => have := ltL_trans q q2; rw [h2] at this; cases this
    | false => have := ltL_tri h1 q2; subst this; rw [h2] at q; cases q
theorem leL_total (a b : List Key) : (leL a b || leL b a) = true := by
  unfold leL
  cases q : ltL b a with
  | false => rfl
  | true => rw [ltL_asym q]; rfl
theorem leL_anti {a b : List Key} (h1 : leL a b = true) (h2 : leL b a = true) : a = b := by
  unfold leL at *
  simp at h1 h2
  exact ltL_tri h2 h1
def srtL (l : List (List Key)) : List (List Key) := l.mergeSort leL
theorem srtL_perm (l : List (List Key)) : (srtL l).Perm l := List.mergeSort_perm l leL
theorem srtL_pw (l : List (List Key)) : (srtL l).Pairwise fun a b => leL a b = true := List.pairwise_mergeSort leL_trans leL_total l
theorem srtL_eq {ys l : List (List Key)} (p : ys.Perm l) (h : ys.Pairwise fun a b => leL a b = true) : ys = srtL l :=
  List.Perm.eq_of_pairwise (fun _ _ _ _ a b => leL_anti a b) h (srtL_pw l) (p.trans (srtL_perm l).symm)
theorem srtL_congr {l l' : List (List Key)} (p : l.Perm l') : srtL l = srtL l' := srtL_eq ((srtL_perm l).trans p) (srtL_pw l)
/-- the tuple of these keys -/
def IsRow (h : Heap) (v : Value) (ks : List Key) : Prop := ∃ a o us n, v = .ref a ∧ h.get? a = some o ∧ o.cls = .type "tuple" ∧ o.data = .seq us n ∧ Paired (fun k u => L2.RelV (kV k) u) ks us.toList
theorem IsRow.keeps {h h' : Heap} {v : Value} {ks : List Key} (p : IsRow h v ks) (k : ∀ b o, h.get? b = some o → o.cls = .type "tuple" → h'.get? b = some o) : IsRow h' v ks := by
  obtain ⟨a, o, us, n, e, ho, hc, hd, r⟩ := p
  exact ⟨a, o, us, n, e, k _ _ ho hc, hc, hd, r⟩
section
variable {prog : Program} {w : World} {A : Around} {E : Value → Shared → Prop} {s : Shared}
theorem eqKeys {k k' : Key} {u u' : Value} (r : L2.RelV (kV k) u) (r' : L2.RelV (kV k') u') (hs : isInl k = isInl k') {Q : Bool → Shared → Prop} (h : Q (decide (k = k')) s) : wpAny (model prog w) A (eqBool u u') Q E s := by
  cases k with
  | inl i =>
    cases k' with
    | inr y => cases hs
    | inl j =>
      obtain ⟨t, rfl⟩ := r
      obtain ⟨t', rfl⟩ := r'
      refine SeqAt.EqAt.int_int i t j t' prog w _ _ ?_
      have e : (i == j) = decide ((Sum.inl i : Key) = Sum.inl j) := by by_cases c : i = j <;> simp [c]
      rw [e]; exact h
  | inr x =>
    cases k' with
    | inl y => cases hs
    | inr y =>
      obtain ⟨t, rfl⟩ := r
      obtain ⟨t', rfl⟩ := r'
      refine SeqAt.EqAt.str_str x t y t' prog w _ _ ?_
      have e : (x == y) = decide ((Sum.inr x : Key) = Sum.inr y) := by by_cases c : x = y <;> simp [c]
      rw [e]; exact h
theorem lex_rows : ∀ {ks ks' : List Key} {us us' : List Value} {i : Nat} {Q : Bool → Shared → Prop}, Paired (fun k u => L2.RelV (kV k) u) ks us → Paired (fun k u => L2.RelV (kV k) u) ks' us' → ks.map isInl = ks'.map isInl →
    (i = 0 → ∀ k, ks.head? = some k → isInl k = true) → Q (ltL ks ks') s → PySem.W.KatLex prog w A true false Q (us.zip us') i s
  | _, _, _, _, i, Q, .nil, .nil, _, _, h => PySem.W.kat_nil h
  | _, _, _, _, i, Q, .nil, .cons _ _, e, _, h => by simp at e
  | _, _, _, _, i, Q, .cons _ _, .nil, e, _, h => by simp at e
  | k :: ks, k' :: ks', u :: us, u' :: us', i, Q, .cons r t, .cons r' t', e, hi, h => by
    simp only [List.map_cons, List.cons.injEq] at e
    refine PySem.W.kat_cons (eqKeys r r' e.1 ?_)
    unfold ltL at h
    refine PySem.W.kat_go (fun e1 => ?_) (fun e1 => ?_)
    · have ex : k = k' := by simpa using e1
      rw [if_pos ex] at h
      exact PySem.W.kat_yes (lex_rows t t' e.2 (by omega) h)
    · have ex : ¬ k = k' := by simpa using e1
      rw [if_neg ex] at h
      refine PySem.W.kat_no ?_
      cases k with
      | inl x =>
        cases k' with
        | inr y => cases e.1
        | inl y =>
          obtain ⟨t, rfl⟩ := r
          obtain ⟨t', rfl⟩ := r'
          exact TS.oneLt_ints _ h
      | inr x =>
        cases k' with
        | inl y => cases e.1
        | inr y =>
          obtain ⟨t, rfl⟩ := r
          obtain ⟨t', rfl⟩ := r'
          have hi0 : i ≠ 0 := fun z => by have := hi z _ rfl; cases this
          have : (true && i == 0) = false := by simp [hi0]
          rw [this]
          refine PySem.W.kat_one _ _ (PyProof.Rows.lt_str ?_)
          have e2 : ltK (Sum.inr x) (Sum.inr y) = decide (x.cps.toList < y.cps.toList) := ltCps_eq _ _
          rw [e2] at h
          exact h
/-- rows of one kind, an int ahead -/
def RowSig (sg : List Bool) (ks : List Key) : Prop := ks.map isInl = true :: sg
theorem row_cmp {vs : List Value} {k : Value → List Key} {sg : List Bool} (hp : ∀ v ∈ vs, IsRow s.heap v (k v) ∧ RowSig sg (k v)) : SrtO.Cmp prog w A s (tuples' true) (fun p => p.1 ∈ vs) (SrtO.lt2 fun v u => ltL (k v) (k u)) := by
  intro p q hm hm'
  obtain ⟨h1, g1⟩ := hp _ hm
  obtain ⟨h2, g2⟩ := hp _ hm'
  show wpAny (model prog w) A (keyLt' (tuples' true) p.1 q.1) (fun r s' => s' = s ∧ r = ltL (k p.1) (k q.1)) (fun _ _ => False) s
  generalize k p.1 = x at h1 g1 ⊢
  generalize k q.1 = x' at h2 g2 ⊢
  obtain ⟨a, o, us, n, e, ho, hc, hd, r⟩ := h1
  obtain ⟨a', o', us', n', e', ho', hc', hd', r'⟩ := h2
  rw [e, e']
  refine PySem.W.kat_lt ho hd ho' hd' ?_
  have l1 := Paired.length r
  have l2 := Paired.length r'
  have l3 : x.length = x'.length := by
    have := congrArg List.length (g1.trans g2.symm)
    simpa using this
  have : decide (us.size < us'.size) = false := by
    simp only [Array.length_toList] at l1 l2
    exact decide_eq_false (by omega)
  rw [this]
  refine lex_rows r r' (g1.trans g2.symm) (fun _ y hy => ?_) ⟨rfl, rfl⟩
  unfold RowSig at g1
  cases x with
  | nil => cases hy
  | cons z zs => simp at hy g1; subst hy; exact g1.1
theorem row_firsts {h : Heap} {k : Value → List Key} {sg : List Bool} : ∀ {vs : List Value}, (∀ v ∈ vs, IsRow h v (k v) ∧ RowSig sg (k v)) → ∃ fs : List Value, PySem.W.KatTups h vs fs ∧ fs.length = vs.length ∧ ∀ f ∈ fs, ∃ x t, f = Value.int x t
  | [], _ => ⟨[], PySem.W.KatTups.nil, rfl, fun _ hm => by simp at hm⟩
  | v :: vs, hp => by
    obtain ⟨fs, h1, h2, h3⟩ := row_firsts (vs := vs) fun v' hm => hp v' (List.mem_cons_of_mem _ hm)
    obtain ⟨⟨a, o, us, n, e, ho, hc, hd, r⟩, g⟩ := hp v (List.mem_cons_self ..)
    subst e
    unfold RowSig at g
    cases q : k (.ref a) with
    | nil => rw [q] at g; simp at g
    | cons z zs =>
      rw [q] at g r
      simp at g
      cases z with
      | inr y => cases g.1
      | inl x =>
        obtain ⟨u0, us0, eu⟩ : ∃ u0 us0, us.toList = u0 :: us0 := by
          cases h : us.toList with
          | nil => rw [h] at r; cases r
          | cons a b => exact ⟨a, b, rfl⟩
        rw [eu] at r
        cases r with
        | cons r0 _ =>
          obtain ⟨t, rfl⟩ := r0
          refine ⟨.int x t :: fs, PySem.W.KatTups.cons ho hc hd (by have := congrArg (fun l : List Value => l[0]?) eu; simpa using this) h1, by rw [List.length_cons, List.length_cons, h2], fun f hm => ?_⟩
          rcases List.mem_cons.mp hm with rfl | hm
          · exact ⟨x, t, rfl⟩
          · exact h3 f hm
theorem rows_sortable {a : Addr} {vs : List Value} {k : Value → List Key} {sg : List Bool} (h0 : 0 < vs.length) (hp : ∀ v ∈ vs, IsRow s.heap v (k v) ∧ RowSig sg (k v)) (ha : ∀ o, s.heap.get? a = some o → o.cls ≠ .type "tuple") : SrtO.SortableO prog w A s a vs fun v u => ltL (k v) (k u) := by
  intro h' keep
  have hp' : ∀ v ∈ vs, IsRow h' v (k v) ∧ RowSig sg (k v) := fun v hm => ⟨(hp v hm).1.keeps fun b o e c => keep b o (fun z => by subst z; exact ha o e c) e, (hp v hm).2⟩
  obtain ⟨fs, h1, h2, h3⟩ := row_firsts hp'
  refine ⟨tuples' true, fun Q E hq => ?_, row_cmp (s := { s with heap := h' }) hp'⟩
  refine PySem.W.kat_kind (T := .type "int") h1 (by omega) (fun f hm => ?_) (by rfl) ?_
  · obtain ⟨x, t, rfl⟩ := h3 f hm
    exact PySem.W.Looks.now
  · have e : (Value.type "int" != Value.type "tuple") = true := by first | decide +kernel | rfl | decide
    rw [e]
    exact hq
theorem swo_row (k : Value → List Key) : SrtO.Swo fun v u => ltL (k v) (k u) := by
  refine ⟨fun x y h => ltL_asym h, fun x y z h1 h2 => ?_⟩
  have a : leL (k x) (k y) = true := by unfold leL; simp [h1]
  have b : leL (k y) (k z) = true := by unfold leL; simp [h2]
  have := leL_trans _ _ _ a b
  unfold leL at this
  simpa using this
theorem sorted_rows {l : Addr} {vs : List Value} {k : Value → List Key} {sg : List Bool} {Q : Value → Shared → Prop} (hl : s.heap.IsList l vs.toArray) (hz : vs.length ≤ sizeLine) (hp : ∀ v ∈ vs, IsRow s.heap v (k v) ∧ RowSig sg (k v))
    (h : ∀ (h' : Heap) (d : Addr) (out : List Value), SrtO.Srtd (fun v u => ltL (k v) (k u)) out → SrtO.Stb (fun v u => ltL (k v) (k u)) out vs → (∀ b o, s.heap.get? b = some o → h'.get? b = some o) → s.heap.objs.size ≤ d → (∃ n, h'.get? d = some (seqObj "list" out.toArray n)) → Q (.ref d) { s with heap := h' }) :
    wpAny (model prog w) A (call (.builtin "sorted") [.ref l]) Q E s := by
  refine SrtO.sorted_ord (swo_row k) hl hz (fun h2 h₁ a ha kk => ?_) fun out hs hb => ?_
  · refine rows_sortable (s := { s with heap := h₁ }) (by omega) (fun v hm => ⟨(hp v hm).1.keeps fun b o e _ => (kk b o e).2, (hp v hm).2⟩) fun o e => ?_
    have e' : some o = some (seqObj "list" vs.toArray 0) := e.symm.trans ha
    cases e'
    intro c
    exact absurd (Value.type.inj c) (by decide)
  · exact h _ _ out hs hb (fun b o e => PyProof.Rows.sortedAll_old e) (Nat.le_succ _) (PyProof.Rows.sortedAll_at s.heap vs out.toArray)
end

/-- sorted(xs), xs a list of rows -/
def rSortedR (K : PySem.W.Frag) : List V → Hp → L2.VK → Prop := fun vs H Q => ∃ (a : Addr) (xs : List V) (rs : List (List Key)) (R : V → List Key → Prop) (sg : List Bool), vs = [V.ref a] ∧ SqL K H a xs ∧
  Paired (fun x r => R x r ∧ (∃ t, x = V.ref t ∧ SqT K H t (r.map kV)) ∧ RowSig sg r) xs rs ∧ ∀ ys p, Paired R ys (srtL rs) → H p = none → Q (.ref p) (upd H p (.lst ys))
theorem vals_keys : ∀ {ks : List Key} {us : List Value}, Vals (ks.map kV) us → Paired (fun k u => L2.RelV (kV k) u) ks us
  | [], _, .nil => .nil
  | _ :: _, _, .cons r t => .cons r (vals_keys t)
theorem relK_inj {k k' : Key} {u : Value} (r : L2.RelV (kV k) u) (r' : L2.RelV (kV k') u) : k = k' := by
  have e := r.inj r'
  cases k <;> cases k' <;> simp [kV] at e <;> rw [e]
theorem relKs_inj : ∀ {ks ks' : List Key} {us : List Value}, Paired (fun k u => L2.RelV (kV k) u) ks us → Paired (fun k u => L2.RelV (kV k) u) ks' us → ks = ks'
  | _, _, _, .nil, .nil => rfl
  | _, _, _, .cons r t, .cons r' t' => by rw [relK_inj r r', relKs_inj t t']
theorem isRow_inj {h : Heap} {v : Value} {ks ks' : List Key} (r : IsRow h v ks) (r' : IsRow h v ks') : ks = ks' := by
  obtain ⟨a, o, us, n, e, ho, hc, hd, p⟩ := r
  obtain ⟨a', o', us', n', e', ho', hc', hd', p'⟩ := r'
  rw [e] at e'
  injection e' with e'
  subst e'
  rw [ho] at ho'
  injection ho' with ho'
  subst ho'
  rw [hd] at hd'
  injection hd' with hd' _
  subst hd'
  exact relKs_inj p p'
theorem paired_of {A1 B1 : Type} {R : A1 → B1 → Prop} (k : A1 → B1) : ∀ {ys : List A1}, (∀ y ∈ ys, R y (k y)) → Paired R ys (ys.map k)
  | [], _ => .nil
  | y :: ys, h => .cons (h y (by simp)) (paired_of k fun z hz => h z (by simp [hz]))
theorem paired_map {A1 B1 : Type} {R : A1 → B1 → Prop} {k : A1 → B1} : ∀ {xs : List A1} {rs : List B1}, Paired R xs rs → (∀ x r, R x r → k x = r) → xs.map k = rs
  | _, _, .nil, _ => rfl
  | _, _, .cons h t, e => by rw [List.map_cons, e _ _ h, paired_map t e]
theorem paired_in {A1 B1 : Type} {R : A1 → B1 → Prop} : ∀ {xs : List A1} {rs : List B1}, Paired R xs rs → ∀ x ∈ xs, ∃ r ∈ rs, R x r
  | _, _, .nil, x, h => by cases h
  | _, _, .cons h t, x, hx => by
    rcases List.mem_cons.mp hx with rfl | hx
    · exact ⟨_, by simp, h⟩
    · obtain ⟨r, h1, h2⟩ := paired_in t x hx
      exact ⟨r, by simp [h1], h2⟩
section
variable {X : Cx}
open Classical in
theorem cr_sortedR : CallR X (.builtin "sorted") (rSortedR X.K) := by
  intro pins s σ H vs us Q I r h
  obtain ⟨a, xs, rs, R, sg, rfl, hs, hx, q⟩ := h
  obtain ⟨its, rv, hl, hz⟩ := I.list hs
  obtain ⟨u, rfl, ru⟩ := vals1 r
  obtain rfl : u = Value.ref a := ru
  have hx0 := paired_in hx
  obtain ⟨e1, e2⟩ := refs_back rv fun x m => by
    obtain ⟨r, _, _, ⟨t, e, _⟩, _⟩ := hx0 x m
    exact ⟨t, e⟩
  let kv : Value → List Key := fun v => if h : ∃ ks, IsRow s.heap v ks then h.choose else []
  have row : ∀ {t : Addr} {ks : List Key}, SqT X.K H t (ks.map kV) → IsRow s.heap (.ref t) ks := fun {t ks} ht => by
    obtain ⟨us, r2, ⟨o, ho, hc, n, hd⟩, _⟩ := I.tuple ht
    exact ⟨t, o, us.toArray, n, rfl, ho, hc, hd, by simpa using vals_keys r2⟩
  have kve : ∀ {v : Value} {ks : List Key}, IsRow s.heap v ks → kv v = ks := fun {v ks} h => by
    have hex : ∃ ks, IsRow s.heap v ks := ⟨ks, h⟩
    show (if h : ∃ ks, IsRow s.heap v ks then h.choose else []) = ks
    rw [dif_pos hex]
    exact isRow_inj hex.choose_spec h
  let vv : V → Value := fun v => match v with | .ref t => .ref t | _ => .none
  let k : V → List Key := fun v => kv (vv v)
  have kR : ∀ x r, (R x r ∧ (∃ t, x = V.ref t ∧ SqT X.K H t (r.map kV)) ∧ RowSig sg r) → k x = r := fun x r h => by
    obtain ⟨_, ⟨t, rfl, ht⟩, _⟩ := h
    exact kve (row ht)
  have kb : ∀ t : Addr, k (backV (Value.ref t)) = kv (.ref t) := fun t => rfl
  refine sorted_rows (k := kv) (sg := sg) hl.isList (by rw [← rv.length]; exact hz) (fun v hv => ?_) fun h' d out h1 h2 kp hd hn => ?_
  · obtain ⟨t, rfl⟩ := e2 v hv
    have hm : V.ref t ∈ xs := by rw [e1]; exact List.mem_map.mpr ⟨_, hv, rfl⟩
    obtain ⟨r, _, _, ⟨t', e, ht⟩, hg⟩ := hx0 _ hm
    cases e
    have h3 := row ht
    rw [kve h3]
    exact ⟨h3, hg⟩
  · have h3 : ∀ u ∈ out, ∃ a, u = Value.ref a := fun u hu => e2 u (h2.perm.mem_iff.mp hu)
    obtain ⟨n, hn⟩ := hn
    have hp : (out.map backV).Perm xs := by rw [e1]; exact h2.perm.map _
    have hk : (out.map backV).map k = out.map kv := by
      rw [List.map_map]
      refine List.map_congr_left fun u hu => ?_
      obtain ⟨t, rfl⟩ := h3 u hu
      rfl
    have hr : xs.map k = rs := paired_map hx kR
    have hsr : (out.map backV).map k = srtL rs := by
      refine srtL_eq ?_ ?_
      · rw [← hr]; exact hp.map k
      · rw [hk, List.pairwise_map]
        exact h1.imp fun h => by unfold leL; simpa using h
    refine ⟨.ref d, upd H d (.lst (out.map backV)), I.laid (t' := s.toks) kp hd ⟨?_, out, n, vals_back h3, hn⟩, rfl, q _ d ?_ (I.hok.fresh hd)⟩
    · rw [hp.length_eq]; exact hz
    · rw [← hsr]
      refine paired_of k fun y hy => ?_
      obtain ⟨r, _, h4⟩ := hx0 y (hp.mem_iff.mp hy)
      rw [kR _ _ h4]
      exact h4.1
end
section
variable {io : Type} {Y : io → Cx} {P : Program} {w : World} {K : KW} {mg : Str → Option Value} {base : Heap} {N : List Str} {k : Nat} {pos p : Pos} {e : Expr} {es : List Expr} {ga : WA}
end
end VL
namespace VL
open PySem PySem.Spec PyProof.Rows L2 RZ
/-! ### dicts with tuples as keys -/
/-- keys are told apart -/
def keq (a b : D) : Bool := deqv a b
section
variable {K : KW} {F H : Hp}
end

section
variable {X : Cx} {pins : List (Addr × Obj)} {σ : L2.St} {H : Hp} {s : Shared} {a : Addr} {y v : V} {u r : Value} {o : Option V} {A : Around} {E : Value → Shared → Prop} {L : NL}
end
/-! ### the rules -/
section
variable {X : Cx} {o i e f value : Expr} {pos pos' tpos apos cpos : Pos} {td ty tv tx : TE}
end

/-! ### on values -/
section
variable {K : KW} {G B F H : Hp} {al : List Addr} {mu : Sto}
end
section
variable {io : Type} {Y : io → Cx} {P : Program} {K : KW} {mg : Str → Option Value} {base : Heap} {N : List Str} {k : Nat} {pos p apos cpos : Pos} {a i e o f : Expr} {wa wi we wo wf : WE}
end
section
variable {X : Cx} {P : Program} {K : KW} {mg : Str → Option Value} {base : Heap} {N : List Str} {k : Nat} {pos pos' : Pos} {o i e : Expr} {wo wi we : WE}
end

end VL
namespace VL
open PySem PySem.Spec PyProof.Rows L2 RZ
/-! ### walks over a dict with tuples as keys, under a lock -/
section
variable {X : Cx} {pins : List (Addr × Obj)} {σ : L2.St} {H : Hp} {s : Shared} {d : Addr} {o : Obj}
end
section
variable {P : Program} {w : World} {K : PySem.W.Frag} {tg : Expr} {d : Addr} {o : Obj} {es : Array DictEntry} {ep : Nat}
end
section
variable {X : Cx} {tg e : Expr} {td : TE} {apos cpos : Pos}
end
/-! on values -/
section
variable {io : Type} {Y : io → Cx} {P : Program} {K : KW} {mg : Str → Option Value} {base : Heap} {N : List Str} {k : Nat} {pos p apos cpos tpos : Pos} {a tg : Expr} {wa : WE} {elts : List Expr} {kk : Nat}
end
/-! ### locks -/
section
variable {K : KW} {G B F F' H H' : Hp} {al al' : List Addr} {mu mu' : Sto}
end
section
variable {X : Cx} {P : Program} {K : KW} {mg : Str → Option Value} {base : Heap} {N : List Str} {k : Nat} {st : Stmt} {f : WS}
end
section
variable {io : Type} {Y : io → Cx} {K : KW} {e : Expr} {f : WE}
end
end VL
namespace VL
open PySem PySem.Spec PyProof.Rows L2 RZ
section
variable {K : KW} {G B F F' H H' : Hp} {al al' : List Addr} {mu mu' : Sto} {rh : Ev} {si : L2.St}
end
section
variable {io : Type} {Y : io → Cx} {P : Program} {w : World} {K : KW} {mg : Str → Option Value} {base : Heap} {N : List Str} {k : Nat} {cpos apos : Pos} {o e e2 : Expr} {es : List Expr} {wo : WE} {ga : WA}
end
end VL
namespace VL
open PySem PySem.Spec PyProof.Rows L2 RZ
/-! ### how a body is run -/
theorem seq_to {a b : WS} {V : EV} {rh : Ev} {mu : Sto} (rh' : Ev) (mu' : Sto) (h1 : ∀ K : Ev → Sto → Prop, K rh' mu' → a { V with nx := K } rh mu) (h2 : b V rh' mu') : wSeq a b V rh mu := h1 _ h2
theorem seq_R {a b : WS} {V : EV} {rh : Ev} {mu : Sto} (R : Ev → Sto → Prop) (h1 : ∀ K : Ev → Sto → Prop, (∀ rh' mu', R rh' mu' → K rh' mu') → a { V with nx := K } rh mu) (h2 : ∀ rh' mu', R rh' mu' → b V rh' mu') : wSeq a b V rh mu := h1 _ h2
theorem seq_do {a b : WS} {V : EV} {rh : Ev} {mu : Sto} (h : ∀ N, a { V with nx := N } rh mu) : wSeq a b V rh mu := h _
theorem tup2_to {i j : Nat} {x y : D} {rh : Ev} {mu : Sto} {K : Ev → Sto → Prop} (h : K ((rh.set i (some (.d x))).set j (some (.d y))) mu) : wgTup 2 (wgCons (wgName i) (wgCons (wgName j) wgNil)) (W.d (.tup [x, y])) rh mu K := by simpa using h
theorem tup3_to {i j k : Nat} {x y z : D} {rh : Ev} {mu : Sto} {K : Ev → Sto → Prop} (h : K (((rh.set i (some (.d x))).set j (some (.d y))).set k (some (.d z))) mu) : wgTup 3 (wgCons (wgName i) (wgCons (wgName j) (wgCons (wgName k) wgNil))) (W.d (.tup [x, y, z])) rh mu K := by simpa using h
/-- a loop: what is left, and the state -/
theorem forL_S {A1 : Type} {chk : Sto → Prop} {g : WG} {b : WS} {V : EV} (f : A1 → W) (I : List A1 → Ev → Sto → Prop) (hc : ∀ xs rh mu, I xs rh mu → chk mu) (hend : ∀ rh mu, I [] rh mu → V.nx rh mu)
    (hs : ∀ x xs rh mu, I (x :: xs) rh mu → ∀ N : Ev → Sto → Prop, (∀ rh' mu', I xs rh' mu' → N rh' mu') → g (f x) rh mu fun rh' mu' => b { V with nx := N, ct := N, bk := V.nx } rh' mu') :
    ∀ {xs : List A1} {rh : Ev} {mu : Sto}, I xs rh mu → forL chk g b V (xs.map f) rh mu
  | [], _, _, h => ⟨hc _ _ _ h, hend _ _ h⟩
  | x :: xs, rh, mu, h => ⟨hc _ _ _ h, hs x xs _ _ h _ fun rh mu h1 => forL_S f I hc hend hs h1⟩
/-! ### expressions that change nothing: their value -/
abbrev Is (e : WE) (rh : Ev) (mu : Sto) (w : W) : Prop := ∀ K : W → Sto → Prop, K w mu → e rh mu K
abbrev IsB (t : WT) (rh : Ev) (mu : Sto) (b : Bool) : Prop := ∀ K : Bool → Sto → Prop, K b mu → t rh mu K
theorem ifS_T {c : WT} {f g : WS} {V : EV} {rh : Ev} {mu : Sto} (h1 : IsB c rh mu true) (h2 : f V rh mu) : wIfS c f g V rh mu := h1 _ (by simpa using h2)
theorem ifS_F {c : WT} {f g : WS} {V : EV} {rh : Ev} {mu : Sto} (h1 : IsB c rh mu false) (h2 : g V rh mu) : wIfS c f g V rh mu := h1 _ (by simpa using h2)
theorem asg_to {e : WE} {i : Nat} {V : EV} {rh : Ev} {mu : Sto} (w : W) (h1 : Is e rh mu w) (h2 : V.nx (rh.set i (some w)) mu) : wAsg e (wgName i) V rh mu := h1 _ h2
theorem ret_to {e : WE} {V : EV} {rh : Ev} {mu : Sto} (w : W) (h1 : Is e rh mu w) (h2 : V.rt w mu) : wRet e V rh mu := h1 _ h2
theorem op_to {f : F2} {a b : WE} {rh : Ev} {mu : Sto} (x y z : W) (ha : Is a rh mu x) (hb : Is b rh mu y) (h : ∀ K : W → Sto → Prop, K z mu → f mu x y K) : Is (wOp f a b) rh mu z := fun K hK => ha _ (hb _ (h K hK))
theorem tup2_is {a b : WE} {rh : Ev} {mu : Sto} {x y : D} (ha : Is a rh mu (.d x)) (hb : Is b rh mu (.d y)) : Is (wTup (wCons a (wCons b wNil))) rh mu (.d (.tup [x, y])) := fun K hK => ha _ (hb _ ⟨by simp [sizeLine_eq], hK⟩)
theorem ix_lst {a b : WE} {rh : Ev} {mu : Sto} {ds : List D} {i : Int} {d : D} (ha : Is a rh mu (.d (.lst ds))) (hb : Is b rh mu (.d (.int i))) (h : atI ds i = some d) : Is (wOp fIx a b) rh mu (.d d) := op_to _ _ _ ha hb fun K hK => ⟨d, h, hK⟩
/-- comprehensions over any list of items: with a test, without -/
theorem lc_A0 {A1 : Type} {chk : Sto → Prop} {g : WG} {tt : WT} {te : WE} {rh : Ev} {mu : Sto} {Q : List W → Sto → Prop} (f : A1 → W) (r : A1 → Option W) (hc : chk mu) : ∀ {xs : List A1} {acc : List W},
    (∀ x ∈ xs, ∀ (A : W → Sto → Prop) (B : Sto → Prop), (match r x with | some y => A y mu | none => B mu) → g (f x) rh mu fun rh' mu1 => tt rh' mu1 fun b mu2 => if b = true then te rh' mu2 A else B mu2) →
    Q (acc ++ xs.filterMap r) mu → lcL chk g tt te rh (xs.map f) acc mu Q
  | [], acc, _, h => ⟨hc, by simpa using h⟩
  | x :: xs, acc, H, h => by
    refine ⟨hc, H x (by simp) _ _ ?_⟩
    split
    · rename_i y e
      refine lc_A0 f r hc (fun z hz => H z (by simp [hz])) ?_
      rw [List.filterMap_cons, e] at h
      simpa using h
    · rename_i e
      refine lc_A0 f r hc (fun z hz => H z (by simp [hz])) ?_
      rw [List.filterMap_cons, e] at h
      exact h
theorem lc_AF {A1 : Type} {chk : Sto → Prop} {g : WG} {tt : WT} {te : WE} {rh : Ev} {mu : Sto} {Q : List W → Sto → Prop} (f : A1 → W) (p : A1 → Bool) (r : A1 → W) (hc : chk mu) {xs : List A1}
    (H : ∀ x ∈ xs, ∀ (A : W → Sto → Prop) (B : Sto → Prop), (if p x = true then A (r x) mu else B mu) → g (f x) rh mu fun rh' mu1 => tt rh' mu1 fun b mu2 => if b = true then te rh' mu2 A else B mu2) (h : Q ((xs.filter p).map r) mu) : lcL chk g tt te rh (xs.map f) [] mu Q :=
  lc_A0 f (fun x => if p x = true then some (r x) else none) hc (fun x hx A B q => H x hx A B (by by_cases c : p x = true <;> simp [c] at q ⊢ <;> exact q)) (by
    have e : xs.filterMap (fun x => if p x = true then some (r x) else none) = (xs.filter p).map r := by
      clear H h
      induction xs with
      | nil => rfl
      | cons x xs ih =>
        rw [List.filterMap_cons]
        by_cases c : p x = true
        · simp [c, ih]
        · simp [c, ih]
    rw [List.nil_append, e]; exact h)
/-! ### locks -/
theorem for_lst {a : WE} {g : WG} {b : WS} {V : EV} {rh : Ev} {mu : Sto} {ds : List D} (h : Is a rh mu (.d (.lst ds))) (h2 : forL (fun _ => True) g b V (ds.map W.d) rh mu) : wFor (wSeqI a) g b V rh mu := h _ h2
theorem for_lstM {A1 : Type} {a : WE} {g : WG} {b : WS} {V : EV} {rh : Ev} {mu : Sto} {xs : List A1} {f : A1 → D} (h : Is a rh mu (.d (.lst (xs.map f)))) (h2 : forL (fun _ => True) g b V (xs.map fun x => .d (f x)) rh mu) : wFor (wSeqI a) g b V rh mu := h _ (by
  show forL _ _ _ _ ((xs.map f).map W.d) _ _
  rw [List.map_map]; exact h2)
end VL
namespace VL
open PySem PySem.Spec PyProof.Rows L2 RZ
/-! ### o.f as a target, within a tuple too -/
end VL
namespace VL
open PySem PySem.Spec PyProof.Rows L2 RZ
/-! ### defs with defaults -/
section
variable {P : Program} {w : World} {K : KW} {mg : Str → Option Value} {base : Heap}
end
end VL
namespace VL
open PySem PySem.Spec PyProof.Rows L2
/-! ### t < u of two rows (ints and texts of one signature) -/
section
variable {io : Type} {Y : io → Cx} {P : Program} {w : World} {K : KW} {mg : Str → Option Value} {base : Heap} {N : List Str} {k : Nat}
end
end VL
namespace VL
open PySem PySem.Spec PyProof.Rows L2 RZ
/-! ### walks over the keys of dicts of ints and texts, under a lock -/
section
variable {io : Type} {Y : io → Cx} {P : Program} {K : KW} {mg : Str → Option Value} {base : Heap} {N : List Str} {k : Nat} {pos p apos cpos tpos : Pos} {a tg : Expr} {wa : WE} {elts : List Expr} {kk : Nat}
end
/-! ### locks -/
section
variable {K : KW} {G B F F' H H' : Hp} {al al' : List Addr} {mu mu' : Sto}
end
section
variable {X : Cx} {P : Program} {K : KW} {mg : Str → Option Value} {base : Heap} {N : List Str} {k : Nat} {st : Stmt} {f : WS}
end
section
variable {io : Type} {Y : io → Cx} {K : KW} {e : Expr} {f : WE}
end
/-! dicts of texts to sets -/
end VL
namespace VL
open PySem PySem.Spec PyProof.Rows L2 RZ
/-! ### sorted(..) of a dict with tuples as keys -/
def RawD (d : Addr) (es : Array DictEntry) (ep : Nat) (h : Heap) : Prop := ∃ o, h.get? d = some o ∧ o.ExactDict ∧ o.data = .dict es ep
theorem RawD.push {d : Addr} {es : Array DictEntry} {ep : Nat} {h : Heap} (r : RawD d es ep h) (o : Obj) : RawD d es ep (h.push o) := let ⟨u, e, q⟩ := r; ⟨u, Heap.get?_push_of_some _ e, q⟩
section
variable {prog : Program} {w : World}
theorem walks_raw {A : Around} (hh : A.handled = none) (I d : Addr) (hne : d ≠ I) (es : Array DictEntry) (ep : Nat) :
    PySem.Walks prog w A I [I, d] [I] es.size (fun i v => ∃ en, es[i]? = some en ∧ v = en.key) (fun i h => h.IsKeyIter I d i es.size ep ∧ RawD d es ep h) where
  sub := fun b hb => by simp at hb; simp [hb]
  frame := fun _ _ _ st hk => ⟨st.1.at fun o e => hk I (by simp) o e, let ⟨o, e, r⟩ := st.2; ⟨o, hk d (by simp) o e, r⟩⟩
  item := fun i s Q E hi st hQ => by
    obtain ⟨o, ho, hc, hd⟩ := st.2
    refine L2.next_key_item st.1 ho hd rfl (Array.getElem?_eq_getElem hi) fun h' hit' hs' => ?_
    exact hQ _ h' s.toks ⟨_, Array.getElem?_eq_getElem hi, rfl⟩ ⟨hit', o, hs'.extBut _ _ hne ho, hc, hd⟩ fun b o hb e => hs'.extBut b o (fun h => hb (by simp [h])) e
  done := fun s Q E st hQ => by
    obtain ⟨o, ho, hc, hd⟩ := st.2
    exact L2.next_key_end hh st.1 ho hd rfl (Nat.le_refl _) fun h' he' => hQ h' s.toks fun b o hb e => he' b o (fun h => hb (by simp [h])) e
  self := fun _ _ _ _ st hQ => PySem.wpAny_pyIter_keyiter st.1 hQ
theorem src_raw {d : Addr} {es : Array DictEntry} {ep : Nat} (lo : (d == sysModules) = false) : PySem.W.KdlSrc prog w "dict" d d es.size (fun i v => ∃ en, es[i]? = some en ∧ v = en.key) (RawD d es ep) where
  type := fun _ ⟨o, ho, hc, _⟩ => ⟨o, ho, hc.1⟩
  there := fun _ ⟨o, ho, _⟩ => ⟨Heap.lt_size ho, Heap.lt_size ho⟩
  keep := fun _ _ ⟨o, ho, r⟩ hk => ⟨o, hk d (.inl rfl) o ho, r⟩
  notList := by decide
  notTuple := by decide
  hint := fun _ _ _ _ ⟨o, ho, hc, _⟩ hq => PySem.W.kdl_hint_dict ⟨o, ho, hc.1⟩ hq
  iter := fun _ _ hh ⟨o, ho, hc, hd⟩ => ⟨_, _, (fun _ _ hq => L2.iter_keys lo ho hc hd hq), walks_raw hh _ d (Nat.ne_of_lt (Heap.lt_size ho)) es ep, ⟨⟨_, Heap.get?_push_size _ rfl, rfl, rfl⟩, RawD.push ⟨o, ho, hc, hd⟩ _⟩⟩
end
def rSortedN (K : PySem.W.Frag) (w : World) : List V → Hp → L2.VK → Prop := fun vs H Q => ∃ (a : Addr) (L : NL) (rs : List (List Key)) (R : V → List Key → Prop) (sg : List Bool), vs = [V.ref a] ∧ Rd H a (NdO w a L) ∧
  Paired (fun q r => R (.ref q.2.1) r ∧ SqT K H q.2.1 (r.map kV) ∧ RowSig sg r) L rs ∧ ∀ ys p, Paired R ys (srtL rs) → H p = none → Q (.ref p) (upd H p (.lst ys))
section
variable {X : Cx}
theorem paired_L {A1 B1 C1 : Type} {R : A1 → B1 → Prop} (f : A1 → C1) : ∀ {xs : List A1} {rs : List B1} {S : C1 → B1 → Prop}, Paired R xs rs → (∀ x r, R x r → S (f x) r) → Paired S (xs.map f) rs
  | _, _, _, .nil, _ => .nil
  | _, _, _, .cons h t, e => .cons (e _ _ h) (paired_L f t e)
open Classical in
theorem cr_sortedN (hcalm : X.calm = true) : CallR X (.builtin "sorted") (rSortedN X.K X.w) := by
  intro pins s σ H vs us Q I r h
  obtain ⟨a, L, rs, R, sg, rfl, hs, hx, q⟩ := h
  obtain ⟨u, rfl, ru⟩ := vals1 r
  obtain rfl : u = Value.ref a := ru
  obtain ⟨⟨⟨lo, z, nd⟩, ents, pe, o, es, ep, ho, hc, hdat, he⟩, _, _⟩ := hs.ok I.hok
  have l1 : es.size = ents.length := by rw [← Array.length_toList, he, List.length_map]
  have l2 : L.length = ents.length := Paired.length pe
  obtain ⟨xs, exs⟩ : ∃ xs : List V, xs = L.map fun q => V.ref q.2.1 := ⟨_, rfl⟩
  have hx1 : Paired (fun x r => R x r ∧ (∃ t, x = V.ref t ∧ SqT X.K H t (r.map kV)) ∧ RowSig sg r) xs rs := by
    rw [exs]
    exact paired_L _ hx fun q r h => ⟨h.1, ⟨_, rfl, h.2.1⟩, h.2.2⟩
  have hx0 := paired_in hx1
  let kv : Value → List Key := fun v => if h : ∃ ks, IsRow s.heap v ks then h.choose else []
  have row : ∀ {t : Addr} {ks : List Key}, SqT X.K H t (ks.map kV) → IsRow s.heap (.ref t) ks := fun {t ks} ht => by
    obtain ⟨us, r2, ⟨o, ho, hc, n, hd⟩, _⟩ := I.tuple ht
    exact ⟨t, o, us.toArray, n, rfl, ho, hc, hd, by simpa using vals_keys r2⟩
  have kve : ∀ {v : Value} {ks : List Key}, IsRow s.heap v ks → kv v = ks := fun {v ks} h => by
    have hex : ∃ ks, IsRow s.heap v ks := ⟨ks, h⟩
    show (if h : ∃ ks, IsRow s.heap v ks then h.choose else []) = ks
    rw [dif_pos hex]
    exact isRow_inj hex.choose_spec h
  let vv : V → Value := fun v => match v with | .ref t => .ref t | _ => .none
  let k : V → List Key := fun v => kv (vv v)
  have kR : ∀ x r, (R x r ∧ (∃ t, x = V.ref t ∧ SqT X.K H t (r.map kV)) ∧ RowSig sg r) → k x = r := fun x r h => by
    obtain ⟨_, ⟨t, rfl, ht⟩, _⟩ := h
    exact kve (row ht)
  refine Calls.call_function_entry PyProof.Rows.kind_sorted PyProof.Rows.plain_sorted PyProof.Rows.entry_sorted (PyProof.Rows.args_sorted1 _) ?_
  unfold Builtin.«sorted»
  refine wpAny_bind (m := checkCount "sorted" 1 1 _) (wpAny_pure ?_)
  refine wpAny_bind (PySem.W.kdu_collect (A := X.A.in1) (src_raw (es := es) (ep := ep) lo) (I.ok.hd hcalm) ⟨o, ho, hc, hdat⟩ (by omega) fun h' tk acc hk hacc => ?_)
  have eacc : acc.toList = L.map fun q => Value.ref q.2.1 := by
    refine List.ext_getElem? fun i => ?_
    rw [Array.getElem?_toList, List.getElem?_map]
    by_cases c : i < es.size
    · obtain ⟨v, hv⟩ : ∃ v, acc[i]? = some v := ⟨acc[i]'(by rw [hacc.1]; exact c), Array.getElem?_eq_getElem _⟩
      obtain ⟨en, hen, rfl⟩ := hacc.2 i v hv
      obtain ⟨q', hq'⟩ : ∃ q', L[i]? = some q' := ⟨L[i]'(by omega), List.getElem?_eq_getElem _⟩
      obtain ⟨b, hb, e1, e2, e3⟩ := L2.paired_get pe hq'
      have e4 : es[i]? = some (entN X.w b) := by rw [← Array.getElem?_toList, he, List.getElem?_map, hb]; rfl
      rw [hen] at e4
      cases e4
      rw [hv, hq']
      show some (Value.ref b.2.1) = some (Value.ref q'.2.1)
      rw [e2]
    · rw [Array.getElem?_eq_none (by rw [hacc.1]; omega), List.getElem?_eq_none (by omega)]; rfl
  have hal : acc.toList.length ≤ sizeLine := by rw [eacc, List.length_map]; exact z
  have I1 : Inv X pins σ H { s with heap := h', toks := tk } := I.kept hk
  refine wpAny_bind (wpAny_newList ?_ hal)
  have hoL : (h'.push (seqObj "list" acc.toList.toArray 0)).get? h'.objs.size = some (seqObj "list" acc.toList.toArray 0) := Heap.get?_push_size _ rfl
  show wpAny _ _ _ _ _ { s with heap := h'.push (seqObj "list" acc.toList.toArray 0), toks := tk }
  have e1 : ∀ v ∈ acc.toList, ∃ t, v = Value.ref t ∧ V.ref t ∈ xs := fun v hv => by
    rw [eacc] at hv
    obtain ⟨q', hq', rfl⟩ := List.mem_map.mp hv
    exact ⟨_, rfl, by rw [exs]; exact List.mem_map.mpr ⟨q', hq', rfl⟩⟩
  have hrow : ∀ v ∈ acc.toList, IsRow (h'.push (seqObj "list" acc.toList.toArray 0)) v (kv v) ∧ RowSig sg (kv v) := fun v hv => by
    obtain ⟨t, rfl, hm⟩ := e1 v hv
    obtain ⟨r, _, _, ⟨t', e, ht⟩, hg⟩ := hx0 _ hm
    cases e
    have h3 := row ht
    rw [kve h3]
    exact ⟨h3.keeps fun b o e _ => Heap.get?_push_of_some _ (hk b o e), hg⟩
  refine wpAny_bind (wpAny_holding (wpAny_call_entry PyProof.Rows.slot_list_sort ⟨_, hoL, rfl⟩ PyProof.Rows.entry_list_sort
    (SrtO.list_sort_ord (s := { s with heap := h'.push (seqObj "list" acc.toList.toArray 0), toks := tk }) (swo_row kv) hoL hal (fun h2 => rows_sortable (by omega) hrow fun o e => ?_) fun out h1 h2 => ⟨_, rfl, ?_⟩)
    (PyProof.Rows.args_list_sort _)))
  · rw [hoL] at e
    cases e
    intro c
    exact absurd (Value.type.inj c) (by decide)
  have h3 : ∀ u ∈ out, ∃ a, u = Value.ref a := fun u hu => by
    obtain ⟨t, e, _⟩ := e1 u (h2.perm.mem_iff.mp hu)
    exact ⟨t, e⟩
  have hp : (out.map backV).Perm xs := by
    have h4 := h2.perm.map backV
    rw [eacc, List.map_map] at h4
    rw [exs]
    exact h4
  have hkk : (out.map backV).map k = out.map kv := by
    rw [List.map_map]
    refine List.map_congr_left fun u hu => ?_
    obtain ⟨t, rfl⟩ := h3 u hu
    rfl
  have hr : xs.map k = rs := paired_map hx1 kR
  have hsr : (out.map backV).map k = srtL rs := by
    refine srtL_eq ?_ ?_
    · rw [← hr]; exact hp.map k
    · rw [hkk, List.pairwise_map]
      exact h1.imp fun h => by unfold leL; simpa using h
  obtain ⟨e', he'⟩ := PyProof.Rows.sortedHeap_at (vs := acc.toList) (out := out.toArray) hoL
  have hlen : (out.map backV).length ≤ sizeLine := by
    rw [hp.length_eq, exs, List.length_map]; exact z
  refine wpAny_pure ⟨_, rfl, .ref h'.objs.size, upd H h'.objs.size (.lst (out.map backV)), I1.laid (t' := tk) (fun b u e => ?_) (Nat.le_refl _) ⟨hlen, out, e', vals_back h3, he'⟩, rfl, q _ h'.objs.size ?_ (I1.hok.fresh (Nat.le_refl _))⟩
  · have hb : b < h'.objs.size := Heap.lt_size e
    rw [PyProof.Rows.sortedHeap_old (Nat.ne_of_lt hb) (by rw [size_push']; exact Nat.lt_succ_of_lt hb)]
    exact Heap.get?_push_of_some _ e
  · rw [← hsr]
    refine paired_of k fun y hy => ?_
    obtain ⟨r, _, h4⟩ := hx0 y (hp.mem_iff.mp hy)
    rw [kR _ _ h4]
    exact h4.1
end
section
variable {io : Type} {Y : io → Cx} {P : Program} {K : KW} {mg : Str → Option Value} {base : Heap} {N : List Str} {k : Nat} {pos p : Pos} {e : Expr} {es : List Expr} {ga : WA}
end
/-! ### is True, is not True -/
section
variable {K : KW}
end
section
variable {io : Type} {Y : io → Cx} {P : Program} {w : World} {K : KW} {mg : Str → Option Value} {base : Heap} {N : List Str} {k : Nat}
end
/-! ### store promises with six arguments -/
/-! ### comprehensions whose test makes containers -/
end VL
namespace VL
open PySem PySem.Spec PyProof.Rows L2 RZ
/-! ### min(d.values()) -/
section
variable {io : Type} {Y : io → Cx} {P : Program} {w : World} {K : KW} {mg : Str → Option Value} {base : Heap} {N : List Str} {k : Nat} {pos p apos mpos : Pos} {o : Expr} {wo : WE}
end
/-! ### o == [], o == {}: whatever the list or dict holds -/
section
variable {io : Type} {Y : io → Cx} {P : Program} {w : World} {K : KW} {mg : Str → Option Value} {base : Heap} {N : List Str} {k : Nat}
end
end VL
namespace VL
open PySem PySem.Spec PyProof.Rows L2 RZ
/-! ### xs[::-1] -/
section
variable {io : Type} {Y : io → Cx} {P : Program} {w : World} {K : KW} {mg : Str → Option Value} {base : Heap} {N : List Str} {k : Nat} {pos p p1 p2 p3 : Pos} {a i e : Expr} {wa wi we : WE}
end
/-! ### sorted(d), ints as keys -/
section
variable {io : Type} {Y : io → Cx} {P : Program} {w : World} {K : KW} {mg : Str → Option Value} {base : Heap} {N : List Str} {k : Nat} {pos p : Pos} {e : Expr} {es : List Expr} {ga : WA}
end
end VL
namespace VL
open PySem PySem.Spec PyProof.Rows L2 RZ
/-! ### zip of a list and a tuple, in any mix -/
def IterA (t : Bool) (h : Heap) (i a : Addr) (k : Nat) : Prop := match t with
  | true => h.IsTupleIter i a k
  | false => h.IsListIter i a k
theorem IterA.obj {t : Bool} {h : Heap} {i a : Addr} {k : Nat} (q : IterA t h i a k) : ∃ o, h.get? i = some o ∧ ∀ v, o.data ≠ .cell v := by
  cases t with
  | true => obtain ⟨o, e, _, d⟩ := q; exact ⟨o, e, fun v z => by rw [d] at z; cases z⟩
  | false => obtain ⟨o, e, _, d⟩ := q; exact ⟨o, e, fun v z => by rw [d] at z; cases z⟩
theorem IterA.at {t : Bool} {h h' : Heap} {i a : Addr} {k : Nat} (q : IterA t h i a k) (e : ∀ o, h.get? i = some o → h'.get? i = some o) : IterA t h' i a k := by
  cases t with
  | true => exact Heap.IsTupleIter.at q e
  | false => exact Heap.IsListIter.at q e
section
variable {io : Type} {Y : io → Cx} {P : Program} {w : World} {K : KW} {mg : Str → Option Value} {base : Heap} {N : List Str} {k : Nat} {pos p tpos : Pos} {e e2 : Expr} {elts : List Expr} {kk : Nat} {ga : WA}
end
end VL
namespace VL
open PySem PySem.Spec PyProof.Rows L2 RZ
/-! ### equality of lists that hold our own lists -/
section
variable {K : KW} {G B F H : Hp} {al : List Addr} {mu : Sto}
end
section
variable {K : KW}
end
section
variable {io : Type} {Y : io → Cx} {P : Program} {w : World} {K : KW} {mg : Str → Option Value} {base : Heap} {N : List Str} {k : Nat}
end
end VL
namespace VL
open PySem PySem.Spec PyProof.Rows L2 RZ
/-! ### {k: v, .., k: v}, the keys all apart -/
abbrev WPs := Ev → Sto → (List (Key × D) → Sto → Prop) → Prop
section
variable {io : Type} {Y : io → Cx} {P : Program} {w : World} {K : KW} {mg : Str → Option Value} {base : Heap} {N : List Str} {k : Nat} {pos : Pos} {i e : Expr} {wi we : WE} {ks : List (Option Expr)} {vs : List Expr} {g : WPs}
end
end VL
namespace VL
open PySem PySem.Spec PyProof.Rows L2 RZ
/-! ### xs.index(y) where items are data of any depth -/
section
variable {K : KW} {G B F F' H H' : Hp} {al al' : List Addr} {mu mu' : Sto} {rh : Ev} {si : L2.St}
end
section
variable {io : Type} {Y : io → Cx} {P : Program} {w : World} {K : KW} {mg : Str → Option Value} {base : Heap} {N : List Str} {k : Nat} {cpos apos : Pos} {o e e2 : Expr} {es : List Expr} {wo : WE} {ga : WA}
end
section
variable {io : Type} {Y : io → Cx} {P : Program} {w : World} {K : KW} {mg : Str → Option Value} {base : Heap} {N : List Str} {k : Nat} {a : Expr} {pos : Pos} {wa : WE}
end
end VL
namespace VL
open PySem PySem.Spec PyProof.Rows L2 RZ
/-! ### o != []: whatever the list holds -/
section
variable {io : Type} {Y : io → Cx} {P : Program} {w : World} {K : KW} {mg : Str → Option Value} {base : Heap} {N : List Str} {k : Nat}
end
end VL
namespace VL
open PySem PySem.Spec PyProof.Rows L2 RZ
/-! ### for x in reversed(xs) -/
section
variable {io : Type} {Y : io → Cx} {P : Program} {w : World} {K : KW} {mg : Str → Option Value} {base : Heap} {N : List Str} {k : Nat} {pos p tpos : Pos} {a tg : Expr} {wa : WE}
end
end VL
namespace VL
open PySem PySem.Spec PyProof.Rows L2 RZ
/-! ### sorted(d), ints as keys, any number of them -/
section
variable {X : Cx}
end
section
variable {io : Type} {Y : io → Cx} {P : Program} {w : World} {K : KW} {mg : Str → Option Value} {base : Heap} {N : List Str} {k : Nat} {pos p : Pos} {e : Expr} {es : List Expr} {ga : WA}
end
end VL
namespace VL
open PySem PySem.Spec PyProof.Rows L2 RZ
/-! ### len(d) -/
section
variable {X : Cx}
end
section
variable {io : Type} {Y : io → Cx} {P : Program} {w : World} {K : KW} {mg : Str → Option Value} {base : Heap} {N : List Str} {k : Nat} {pos p : Pos} {e : Expr} {es : List Expr} {ga : WA}
end
end VL
namespace VL
open PySem PySem.Spec PyProof.Rows L2 RZ
/-! ### texts: str(x), int(text), s.split(sep) -/
section
variable {K : KW} {G B F F' H H' : Hp} {al al' : List Addr} {mu mu' : Sto} {rh : Ev} {si : L2.St}
end
section
variable {io : Type} {Y : io → Cx} {P : Program} {w : World} {K : KW} {mg : Str → Option Value} {base : Heap} {N : List Str} {k : Nat} {p pos apos : Pos} {o e : Expr} {wo we : WE} {ga : WA}
end
end VL
namespace VL
open PySem PySem.Spec PyProof.Rows L2 RZ
@[simp] theorem band_nat (a b : Nat) : Builtin.bitAnd (a : Int) (b : Int) = ((a &&& b : Nat) : Int) := by simp [Builtin.bitAnd]
@[simp] theorem bor_nat (a b : Nat) : Builtin.bitOr (a : Int) (b : Int) = ((a ||| b : Nat) : Int) := by
  unfold Builtin.bitOr
  rw [bitAnd_nn (by unfold Builtin.bitNot; omega) (by unfold Builtin.bitNot; omega), bitNot_bitNot, bitNot_bitNot, bitNot_bitNot]
  simp
theorem xor_and_or : ∀ (n a b : Nat), a ≤ n → (a ^^^ b) + (a &&& b) = a ||| b := by
  intro n
  induction n with
  | zero => intro a b h; obtain rfl : a = 0 := by omega
            simp
  | succ n ih =>
    intro a b h
    by_cases ha : a = 0
    · subst ha; simp
    have q := ih (a / 2) (b / 2) (by omega)
    have d1 : (a ^^^ b) / 2 = (a / 2) ^^^ (b / 2) := by simpa using Nat.xor_div_two_pow (a := a) (b := b) (n := 1)
    have d2 : (a &&& b) / 2 = (a / 2) &&& (b / 2) := by simpa using Nat.and_div_two_pow (a := a) (b := b) (n := 1)
    have d3 : (a ||| b) / 2 = (a / 2) ||| (b / 2) := by simpa using Nat.or_div_two_pow (a := a) (b := b) (n := 1)
    have m1 : (a ^^^ b).testBit 0 = (a.testBit 0 ^^ b.testBit 0) := Nat.testBit_xor ..
    have m2 : (a &&& b).testBit 0 = (a.testBit 0 && b.testBit 0) := Nat.testBit_and ..
    have m3 : (a ||| b).testBit 0 = (a.testBit 0 || b.testBit 0) := Nat.testBit_or ..
    simp only [Nat.testBit_zero] at m1 m2 m3
    rw [← d1, ← d2, ← d3] at q
    generalize a ^^^ b = x at *
    generalize a &&& b = y at *
    generalize a ||| b = z at *
    rcases Nat.mod_two_eq_zero_or_one a with ea | ea <;> rcases Nat.mod_two_eq_zero_or_one b with eb | eb <;> simp [ea, eb] at m1 m2 m3 <;> omega
@[simp] theorem bxor_nat (a b : Nat) : Builtin.bitXor (a : Int) (b : Int) = ((a ^^^ b : Nat) : Int) := by
  unfold Builtin.bitXor
  rw [bor_nat, band_nat]
  have := xor_and_or a a b (Nat.le_refl _)
  omega
/-- an edge -/
def Edge (xs : List Nat) (j k : Nat) : Prop := ∃ x, xs[j]? = some x ∧ x.testBit k = true
inductive Path (xs : List Nat) : Nat → Nat → Prop
  | refl (i : Nat) : Path xs i i
  | step {i j k : Nat} : Path xs i j → Edge xs j k → Path xs i k
theorem Path.head {xs : List Nat} {i j k : Nat} (e : Edge xs i j) (p : Path xs j k) : Path xs i k := by
  induction p with
  | refl => exact .step (.refl _) e
  | step _ e' ih => exact .step ih e'
def IsReach (xs : List Nat) (r w : Nat) : Prop := ∀ j, w.testBit j = true ↔ ∃ i, r.testBit i = true ∧ Path xs i j
theorem IsReach.uniq {xs : List Nat} {r w w' : Nat} (h : IsReach xs r w) (h' : IsReach xs r w') : w = w' :=
  Nat.eq_of_testBit_eq fun j => by rw [Bool.eq_iff_iff, h j, h' j]
theorem IsReach.closed {xs : List Nat} {r w : Nat} (h : IsReach xs r w) {i j : Nat} (hi : w.testBit i = true) (e : Edge xs i j) : w.testBit j = true := by
  obtain ⟨a, ha, p⟩ := (h i).mp hi
  exact (h j).mpr ⟨a, ha, .step p e⟩
end VL
namespace VL
open PySem PySem.Spec PyProof.Rows L2 RZ
/-! ### tables: tuples of a number, a text and a set -/
abbrev TRow := Nat × Str × Nat
abbrev Tab := List TRow
def tKey (h : Nat) (w : Str) : D := .tup [.int (h : Nat), .str w]
def trD (r : TRow) : D := .tup [.int (r.1 : Nat), .str r.2.1, .int (r.2.2 : Nat)]
def trK (r : TRow) : List Key := [.inl (r.1 : Nat), .inr r.2.1, .inl (r.2.2 : Nat)]
def tN (T : Tab) : List (D × W) := T.map fun r => (tKey r.1 r.2.1, .d (.int (r.2.2 : Nat)))
def tGet : Tab → Nat → Str → Option Nat
  | [], _, _ => none
  | (a, b, c) :: r, h, w => if a = h ∧ b = w then some c else tGet r h w
def tPut : Tab → Nat → Str → Nat → Tab
  | [], h, w, v => [(h, w, v)]
  | (a, b, c) :: r, h, w, v => if a = h ∧ b = w then (a, b, v) :: r else (a, b, c) :: tPut r h w v
abbrev tOf (T : Tab) (h : Nat) (w : Str) : Nat := (tGet T h w).getD 0
def tKeys (T : Tab) : List (Nat × Str) := T.map fun r => (r.1, r.2.1)
theorem tGet_mem {T : Tab} {h : Nat} {w : Str} {v : Nat} (e : tGet T h w = some v) : (h, w, v) ∈ T := by
  induction T with
  | nil => cases e
  | cons r T ih =>
    obtain ⟨a, b, c⟩ := r
    rw [tGet] at e
    split at e
    · rename_i q; obtain ⟨rfl, rfl⟩ := q; cases e; simp
    · simp [ih e]
theorem tGet_of {T : Tab} (nd : (tKeys T).Nodup) {h : Nat} {w : Str} {v : Nat} (e : (h, w, v) ∈ T) : tGet T h w = some v := by
  induction T with
  | nil => cases e
  | cons r T ih =>
    obtain ⟨a, b, c⟩ := r
    rw [tKeys, List.map_cons, List.nodup_cons] at nd
    rw [tGet]
    rcases List.mem_cons.mp e with q | q
    · cases q; simp
    · rw [if_neg, ih nd.2 q]
      rintro ⟨rfl, rfl⟩
      exact nd.1 (List.mem_map.mpr ⟨_, q, rfl⟩)
theorem tPut_keys {T : Tab} {h : Nat} {w : Str} {v : Nat} : tKeys (tPut T h w v) = if (h, w) ∈ tKeys T then tKeys T else tKeys T ++ [(h, w)] := by
  induction T with
  | nil => simp [tPut, tKeys]
  | cons r T ih =>
    obtain ⟨a, b, c⟩ := r
    rw [tPut]
    by_cases q : a = h ∧ b = w
    · rw [if_pos q]
      obtain ⟨rfl, rfl⟩ := q
      simp [tKeys]
    · rw [if_neg q]
      have e1 : tKeys ((a, b, c) :: tPut T h w v) = (a, b) :: tKeys (tPut T h w v) := rfl
      have e2 : tKeys ((a, b, c) :: T) = (a, b) :: tKeys T := rfl
      rw [e1, e2, ih]
      by_cases m : (h, w) ∈ tKeys T
      · rw [if_pos m, if_pos (List.mem_cons_of_mem _ m)]
      · rw [if_neg m, if_neg]
        · rfl
        · intro z
          rcases List.mem_cons.mp z with z | z
          · injection z with z1 z2; exact q ⟨z1.symm, z2.symm⟩
          · exact m z
theorem tPut_nodup {T : Tab} (nd : (tKeys T).Nodup) (h : Nat) (w : Str) (v : Nat) : (tKeys (tPut T h w v)).Nodup := by
  rw [tPut_keys]
  split
  · exact nd
  · rename_i m
    rw [List.nodup_append]
    exact ⟨nd, by simp, fun a ha b hb e => by subst e; simp at hb; subst hb; exact m ha⟩
theorem tPut_mem {T : Tab} {h : Nat} {w : Str} {v : Nat} {r : TRow} (hr : r ∈ tPut T h w v) : r ∈ T ∨ r = (h, w, v) := by
  induction T with
  | nil => simp [tPut] at hr; exact .inr hr
  | cons p T ih =>
    obtain ⟨a, b, c⟩ := p
    rw [tPut] at hr
    split at hr
    · rename_i q
      obtain ⟨rfl, rfl⟩ := q
      rcases List.mem_cons.mp hr with z | z
      · exact .inr z
      · exact .inl (by simp [z])
    · rcases List.mem_cons.mp hr with z | z
      · exact .inl (by simp [z])
      · rcases ih z with z | z
        · exact .inl (by simp [z])
        · exact .inr z
theorem tGet_put (T : Tab) (h : Nat) (w : Str) (v : Nat) (h' : Nat) (w' : Str) : tGet (tPut T h w v) h' w' = if h = h' ∧ w = w' then some v else tGet T h' w' := by
  induction T with
  | nil => simp [tPut, tGet]
  | cons p T ih =>
    obtain ⟨a, b, c⟩ := p
    rw [tPut]
    by_cases q : a = h ∧ b = w
    · rw [if_pos q]
      obtain ⟨rfl, rfl⟩ := q
      rw [tGet, tGet]
      split <;> rfl
    · rw [if_neg q, tGet, ih, tGet]
      by_cases z : a = h' ∧ b = w'
      · rw [if_pos z, if_pos z, if_neg]
        rintro ⟨rfl, rfl⟩; exact q z
      · rw [if_neg z, if_neg z]
/-! sorted -/
def unK : List Key → TRow
  | [.inl a, .inr b, .inl c] => (a.toNat, b, c.toNat)
  | _ => (0, Str.ofString "", 0)
def srtT (T : Tab) : Tab := (srtL (T.map trK)).map unK
def tabL (T : Tab) : List D := (srtT T).map trD
/-! what rows keep -/
theorem nat_bits {n m : Nat} (h : ∀ j, n.testBit j = true ↔ m.testBit j = true) : n = m := Nat.eq_of_testBit_eq fun j => Bool.eq_iff_iff.mpr (h j)
@[simp] theorem tN_shift (T : Tab) (n : Nat) : (tN T).map (fun p => (p.1, shiftW n p.2)) = tN T := by
  unfold tN
  rw [List.map_map]
  exact List.map_congr_left fun r _ => rfl
@[simp] theorem tN_inj {T T' : Tab} : tN T = tN T' ↔ T = T' := by
  constructor
  · intro h
    refine (List.map_inj_right fun a b hab => ?_).mp h
    obtain ⟨a1, a2, a3⟩ := a
    obtain ⟨b1, b2, b3⟩ := b
    simp [tKey] at hab
    obtain ⟨⟨h1, h2⟩, h3⟩ := hab
    have e1 : a1 = b1 := by omega
    have e3 : a3 = b3 := by omega
    rw [e1, h2, e3]
  · rintro rfl; rfl
end VL
namespace VL
open PySem PySem.Spec PyProof.Rows L2 RZ
def isLet (c : Nat) : Bool := decide (c ∈ (Str.ofString "abcdefghijklmnopqrstuvwxyz").cps.toList)
def nameOk (s : Str) : Bool := decide (1 ≤ s.length) && decide (s.length ≤ 8) && s.cps.toList.all isLet
def numOk (n : Int) : Bool := decide (-1000000000000000000000000000000 ≤ n) && decide (n < 1000000000000000000000000000000)
def nameD : D → Bool
  | .str s => nameOk s
  | _ => false
def numD : D → Bool
  | .int n => numOk n
  | _ => false
def operD (x : D) : Bool := nameD x || numD x
def fieldD : D → Bool
  | .str s => Txt.startswith s (Str.ofString ".") && nameOk (cutS s (some 1) none)
  | _ => false
/-- what may be asked: no script -/
def plainD : D → Prop
  | .scr _ => False
  | _ => True
/-- the names among some data -/
def namesOf : List D → List Str
  | [] => []
  | .str s :: r => if nameOk s then s :: namesOf r else namesOf r
  | _ :: r => namesOf r
theorem namesOf_len : ∀ xs : List D, (namesOf xs).length ≤ xs.length
  | [] => by simp [namesOf]
  | x :: r => by
    have := namesOf_len r
    cases x with
    | str s =>
      rw [namesOf]
      split
      · simp only [List.length_cons]; omega
      · simp only [List.length_cons]; omega
    | _ => simp only [namesOf, List.length_cons]; omega
def plainDs (xs : List D) : Prop := ∀ x ∈ xs, plainD x
def allOpD : D → Bool
  | .tup xs => decide (xs.length ≤ 4) && xs.all operD
  | _ => false
/-! the classes -/
def rowCls : List String := ["Row", "Bare", "Def", "Give", "While", "Fail", "Set", "New", "Put", "Do", "Get", "Call"]
def okBare (xs : List D) : Bool := ((xs.length : Int) == 1)
def okDef : List D → Bool
  | [_, n, .tup ys] => nameD n && (allOpD (.tup ys) && (((setS (namesOf ys)).length : Int) == (ys.length : Int)))
  | _ => false
def okGive : List D → Bool
  | [_, x] => operD x
  | _ => false
def okName : List D → Bool
  | [_, x] => nameD x
  | _ => false
def okPut : List D → Bool
  | [_, n, x] => nameD n && operD x
  | _ => false
def okSet : List D → Bool
  | [_, n, k, x] => nameD n && ((fieldD k || operD k) && operD x)
  | _ => false
def reckW (x : D) : Bool := inD x [.str (Str.ofString "plus"), .str (Str.ofString "minus"), .str (Str.ofString "times"), .str (Str.ofString "over"), .str (Str.ofString "rest"), .str (Str.ofString "less"), .str (Str.ofString "same")]
def okDo : List D → Bool
  | [_, n, a, o, b] => nameD n && (reckW o && (operD a && operD b))
  | _ => false
def okGet : List D → Bool
  | [_, n, r, k] => nameD n && (nameD r && (fieldD k || operD k))
  | _ => false
def okCall : List D → Bool
  | [_, n, f, ops] => nameD n && (nameD f && allOpD ops)
  | _ => false
/-- the class of a word -/
def clsOf (w : Str) : String :=
  if w = Str.ofString "def" then "Def" else if w = Str.ofString "give" ∨ w = Str.ofString "if" then "Give" else if w = Str.ofString "put" then "Put" else if w = Str.ofString "do" then "Do" else if w = Str.ofString "new" then "New"
  else if w = Str.ofString "get" then "Get" else if w = Str.ofString "set" then "Set" else if w = Str.ofString "call" then "Call" else if w = Str.ofString "fail" then "Fail" else if w = Str.ofString "while" then "While"
  else if w = Str.ofString "else" ∨ w = Str.ofString "end" ∨ w = Str.ofString "skip" then "Bare" else "Row"
theorem clsOf_in (w : Str) : clsOf w ∈ rowCls := by
  unfold clsOf
  repeat (first | (split; · simp [rowCls]) | simp [rowCls])
/-- whether parts are a row -/
def rowOk (xs : List D) : Bool := match xs with
  | .str w :: _ =>
    let c := clsOf w
    if c = "Bare" then okBare xs else if c = "Def" then okDef xs else if c = "Give" ∨ c = "While" then okGive xs else if c = "Fail" ∨ c = "New" then okName xs else if c = "Set" then okSet xs
    else if c = "Put" then okPut xs else if c = "Do" then okDo xs else if c = "Get" then okGet xs else if c = "Call" then okCall xs else false
  | _ => false
/-- parts as one may ask of them -/
structure RowIn (w : Str) (ps : List D) : Prop where
  pl : plainDs ps
  few : ps.length < 60
  inn : ∀ x ∈ ps, ∀ ys, x = .tup ys → plainDs ys ∧ ys.length < 64
  fl : ∀ o, w = Str.ofString "do" → ps[2]? = some o → flatD o = true
end VL
namespace VL
open PySem PySem.Spec PyProof.Rows L2 RZ
theorem cut_dropN {A1 : Type} (xs : List A1) (k : Nat) : cutL xs (some (k : Int)) none = xs.drop k := by
  unfold cutL
  rw [HT.sIx_nat, HT.sIx_none]
  by_cases h : k ≤ xs.length
  · rw [Nat.min_eq_left h, List.take_of_length_le (by simp)]
  · rw [Nat.min_eq_right (by omega), List.drop_length, List.drop_of_length_le (by omega)]; simp
def defPs : List D → List D
  | _ :: _ :: .tup ys :: _ => ys
  | _ => []
def sndL : List D → List D
  | _ :: x :: _ => [x]
  | _ => []
/-! what shapes rows have -/
theorem reck_str {o : D} (h : reckW o = true) : ∃ z, o = .str z := by
  cases o with
  | str z => exact ⟨z, rfl⟩
  | scr ns => simp [reckW, deqv] at h
  | _ => simp [reckW] at h
def madeF (xs : List D) : List D := match xs with
  | .str w :: _ =>
    let c := clsOf w
    if c = "Def" then defPs xs else if c = "New" ∨ c = "Put" ∨ c = "Do" ∨ c = "Get" ∨ c = "Call" then sndL xs else []
  | _ => []
/-- a right row -/
def RowR (w : Str) (ps : List D) : Prop := RowIn w ps ∧ rowOk (.str w :: ps) = true
end VL
namespace VL
open PySem PySem.Spec PyProof.Rows L2 RZ
def optD : Option Nat → D
  | none => .non
  | some k => .int (k : Nat)
def natsL (xs : List Nat) : List D := xs.map fun n => .int (n : Nat)
/-- what shape knows -/
structure ShS where
  heads : List (Option Nat)
  ends : List (Option Nat)
  elses : List (Option Nat)
  homes : List (Option Nat)
  stack : List Nat
def ShS.start (n : Nat) : ShS := ⟨List.replicate n none, List.replicate n none, List.replicate n none, List.replicate n none, []⟩
def shC (mu : Sto) (s : ShS) : Sto := mu ++ [.lst (s.heads.map optD), .lst (s.ends.map optD), .lst (s.elses.map optD), .lst (s.homes.map optD), .lst (natsL s.stack)]
/-- the five things that shape does with the row at place k, of the word w -/
def topS (k : Nat) (s : ShS) : ShS := match s.stack.getLast?, s.stack.head? with
  | some j, some i => { s with heads := s.heads.set k (some j), homes := s.homes.set k (some i) }
  | _, _ => s
def defS (k : Nat) (w : Str) (s : ShS) : ShS := if w = Str.ofString "def" then { s with homes := s.homes.set k (some k) } else s
def elseS (k : Nat) (w : Str) (s : ShS) : Option ShS := if w = Str.ofString "else" then (match s.stack.getLast? with
    | some j => some { s with elses := s.elses.set j (some k) }
    | none => none) else some s
def footS (k : Nat) (w : Str) (s : ShS) : Option ShS := if w = Str.ofString "give" ∨ w = Str.ofString "end" then (match s.stack.getLast? with
    | some j => some { s with ends := s.ends.set j (some k), stack := s.stack.dropLast }
    | none => none) else some s
def pushS (k : Nat) (w : Str) (s : ShS) : ShS := if w = Str.ofString "def" ∨ w = Str.ofString "if" ∨ w = Str.ofString "while" then { s with stack := s.stack ++ [k] } else s
def stepS (k : Nat) (w : Str) (s : ShS) : Option ShS := ((elseS k w (defS k w (topS k s))).bind (footS k w)).map (pushS k w)
def wordR : D → Option Str
  | .tup (.str w :: _) => some w
  | _ => none
def runS : Nat → List D → ShS → Option ShS
  | _, [], s => some s
  | k, r :: rs, s => match wordR r with
    | some w => match stepS k w s with
      | some s' => runS (k + 1) rs s'
      | none => none
    | none => none
@[simp] def p_shape : W → Sto → (W → Sto → Prop) → Prop := fun a mu Q => ∃ (rows : List D) (s : ShS), a = .d (.lst rows) ∧ rows.length ≤ 1000 ∧ runS 0 rows (.start rows.length) = some s ∧
  Q (.tup [.loc mu.length, .loc (mu.length + 1), .loc (mu.length + 2), .loc (mu.length + 3)]) (shC mu s)
structure ShOk (n k : Nat) (s : ShS) : Prop where
  l1 : s.heads.length = n
  l2 : s.ends.length = n
  l3 : s.elses.length = n
  l4 : s.homes.length = n
  st : ∀ j ∈ s.stack, j < k
  sl : s.stack.length ≤ k
theorem ShOk.top {n k : Nat} {s : ShS} (h : ShOk n k s) : ShOk n k (topS k s) := by
  unfold topS
  split
  · exact ⟨by simp [h.l1], h.l2, h.l3, by simp [h.l4], h.st, h.sl⟩
  · exact h
theorem ShOk.deff {n k : Nat} {w : Str} {s : ShS} (h : ShOk n k s) : ShOk n k (defS k w s) := by
  unfold defS
  split
  · exact ⟨h.l1, h.l2, h.l3, by simp [h.l4], h.st, h.sl⟩
  · exact h
theorem ShOk.els {n k : Nat} {w : Str} {s s' : ShS} (h : ShOk n k s) (e : elseS k w s = some s') : ShOk n k s' := by
  unfold elseS at e
  split at e
  · split at e
    · injection e with e; subst e; exact ⟨h.l1, h.l2, by simp [h.l3], h.l4, h.st, h.sl⟩
    · cases e
  · injection e with e; subst e; exact h
theorem ShOk.foot {n k : Nat} {w : Str} {s s' : ShS} (h : ShOk n k s) (e : footS k w s = some s') : ShOk n k s' := by
  unfold footS at e
  split at e
  · split at e
    · injection e with e; subst e
      exact ⟨h.l1, by simp [h.l2], h.l3, h.l4, fun j hj => h.st j (List.dropLast_subset _ hj), by have := h.sl; simp; omega⟩
    · cases e
  · injection e with e; subst e; exact h
theorem ShOk.push {n k : Nat} {w : Str} {s : ShS} (h : ShOk n k s) : ShOk n (k + 1) (pushS k w s) := by
  unfold pushS
  split
  · refine ⟨h.l1, h.l2, h.l3, h.l4, fun j hj => ?_, by have := h.sl; simp; omega⟩
    rcases List.mem_append.mp hj with hj | hj
    · have := h.st j hj; omega
    · have := List.mem_singleton.mp hj; omega
  · exact ⟨h.l1, h.l2, h.l3, h.l4, fun j hj => by have := h.st j hj; omega, by have := h.sl; omega⟩
theorem at_lastS {A1 : Type} (xs : List A1) (x : A1) : atI (xs ++ [x]) (-1) = some x := by
  unfold atI ixN
  rw [if_neg (by omega), if_pos (by simp; omega)]
  show (xs ++ [x])[_]? = _
  have : ((-1 : Int) + ((xs ++ [x]).length : Nat)).toNat = xs.length := by simp; omega
  rw [this]; simp
def w_shape : WS := (wSeq (wAsg (wLc false (wSeqI (wVar 0)) (wgName 2) wYes (wC .non) [2]) (wgName 1))
    (wSeq (wAsg (wCall (fList true) (wCons (wVar 1) wNil)) (wgName 3))
    (wSeq (wAsg (wCall (fList true) (wCons (wVar 1) wNil)) (wgName 4))
    (wSeq (wAsg (wCall (fList true) (wCons (wVar 1) wNil)) (wgName 5))
    (wSeq (wAsg (wCall (fList true) (wCons (wVar 1) wNil)) (wgName 6))
    (wSeq (wAsg (wLst true wNil) (wgName 7))
    (wSeq (wFor (wEnum (wCons (wVar 0) wNil)) (wgTup 2 (wgCons (wgName 8) (wgCons (wgName 2) wgNil))) (wSeq (wAsg (wOp fIx (wVar 2) (wC (.int 0))) (wgName 9))
    (wSeq (wIfS (wTest (wOp (fEq true) (wVar 7) (wLst false wNil))) (wSeq (wAsg (wOp fIx (wVar 7) (wUn (fun i => -i) (wC (.int 1)))) (wgSub fSetL (wVar 3) (wVar 8)))
    (wAsg (wOp fIx (wVar 7) (wC (.int 0))) (wgSub fSetL (wVar 6) (wVar 8)))) wNext)
    (wSeq (wIfS (wTest (wOp (fEq false) (wVar 9) (wC (.str "def")))) (wAsg (wVar 8) (wgSub fSetL (wVar 6) (wVar 8))) wNext)
    (wSeq (wIfS (wTest (wOp (fEq false) (wVar 9) (wC (.str "else")))) (wAsg (wVar 8) (wgSub fSetL (wVar 5) (wOp fIx (wVar 7) (wUn (fun i => -i) (wC (.int 1)))))) wNext)
    (wSeq (wIfS (wOr (wTest (wOp (fEq false) (wVar 9) (wC (.str "give")))) (wTest (wOp (fEq false) (wVar 9) (wC (.str "end"))))) (wAsg (wVar 8) (wgSub fSetL (wVar 4) (wBM fPop (wVar 7) wNil))) wNext)
    (wIfS (wOr (wTest (wOp (fEq false) (wVar 9) (wC (.str "def")))) (wOr (wTest (wOp (fEq false) (wVar 9) (wC (.str "if")))) (wTest (wOp (fEq false) (wVar 9) (wC (.str "while")))))) (wDrop (wBM fApp (wVar 7) (wCons (wVar 8) wNil))) wNext)))))))
    (wRet (wTup (wCons (wVar 3) (wCons (wVar 4) (wCons (wVar 5) (wCons (wVar 6) wNil)))))))))))))
@[simp] def sp_shape : VSp := sS1 p_shape
theorem v_shape : ∀ a mu Q, p_shape a mu Q → w_shape (evr Q) (startE ["program", "nothing", "row", "heads", "ends", "elses", "homes", "stack", "place", "word"] [a]) mu := by
  intro a mu Q h
  obtain ⟨rows, s, rfl, hl, hr, h⟩ := h
  simp [w_shape, sizeLine_eq]
  refine lc_M (fun _ => .non) trivial (fun x hx A q => by simpa using q) ?_
  simp only [asDs_map]
  have en : rows.map (fun _ => D.non) = (List.replicate rows.length none).map optD := by rw [List.map_replicate]; exact List.map_const' ..
  refine forL_rem (fun items rh mu' => ∃ (k : Nat) (ys : List D) (s1 : ShS) (a b c : Option W), items = enumW k (ys.map W.d) ∧ rh = [some (W.d (D.lst rows)), some (W.d (D.lst (rows.map fun _ => D.non))), a, some (W.loc mu.length), some (W.loc (mu.length + 1)), some (W.loc (mu.length + 2)), some (W.loc (mu.length + 3)), some (W.loc (mu.length + 4)), b, c] ∧
    mu' = shC mu s1 ∧ runS k ys s1 = some s ∧ k + ys.length = rows.length ∧ ShOk rows.length k s1) (fun _ _ _ _ => trivial) ?_ ?_ ⟨0, rows, .start rows.length, _, _, _, rfl, rfl, ?_, hr, by omega, ⟨by simp [ShS.start], by simp [ShS.start], by simp [ShS.start], by simp [ShS.start], by simp [ShS.start], by simp [ShS.start]⟩⟩
  · rintro _ _ ⟨k, ys, s1, a, b, c, e, rfl, rfl, hrun, hk, ok⟩
    have hy : ys = [] := by
      cases ys with
      | nil => rfl
      | cons y ys => simp at e
    subst hy
    simp only [runS] at hrun
    injection hrun with hrun
    subst hrun
    simp [sizeLine_eq]
    exact h
  · rintro x items _ _ ⟨k, ys, s1, a, b, c, e, rfl, rfl, hrun, hk, ok⟩ N hN
    cases ys with
    | nil => simp at e
    | cons y ys =>
      simp at e
      obtain ⟨rfl, rfl⟩ := e
      simp only [runS] at hrun
      split at hrun
      · rename_i w ew
        obtain ⟨rest, rfl⟩ : ∃ rest, y = .tup (.str w :: rest) := by
          unfold wordR at ew
          split at ew
          · injection ew with ew; subst ew; exact ⟨_, rfl⟩
          · cases ew
        split at hrun
        · rename_i s2 es
          simp only [List.length_cons] at hk
          unfold stepS at es
          have fin : ∀ a b c, ShOk rows.length (k + 1) s2 → N [some (W.d (D.lst rows)), some (W.d (D.lst (rows.map fun _ => D.non))), a, some (W.loc mu.length), some (W.loc (mu.length + 1)), some (W.loc (mu.length + 2)), some (W.loc (mu.length + 3)), some (W.loc (mu.length + 4)), b, c] (shC mu s2) := fun a b c ok2 =>
            hN _ _ ⟨k + 1, ys, s2, _, _, _, rfl, rfl, rfl, hrun, by omega, ok2⟩
          have g0 : ∀ a b c d e : C, (mu ++ [a, b, c, d, e])[mu.length]? = some a := fun a b c d e => by simp
          have g1 : ∀ a b c d e : C, (mu ++ [a, b, c, d, e])[mu.length + 1]? = some b := fun a b c d e => by simp
          have g2 : ∀ a b c d e : C, (mu ++ [a, b, c, d, e])[mu.length + 2]? = some c := fun a b c d e => by simp
          have g3 : ∀ a b c d e : C, (mu ++ [a, b, c, d, e])[mu.length + 3]? = some d := fun a b c d e => by simp
          have g4 : ∀ a b c d e : C, (mu ++ [a, b, c, d, e])[mu.length + 4]? = some e := fun a b c d e => by simp
          have t0 : ∀ a b c d e x : C, (mu ++ [a, b, c, d, e]).set mu.length x = mu ++ [x, b, c, d, e] := fun a b c d e x => by simp
          have t1 : ∀ a b c d e x : C, (mu ++ [a, b, c, d, e]).set (mu.length + 1) x = mu ++ [a, x, c, d, e] := fun a b c d e x => by simp
          have t2 : ∀ a b c d e x : C, (mu ++ [a, b, c, d, e]).set (mu.length + 2) x = mu ++ [a, b, x, d, e] := fun a b c d e x => by simp
          have t3 : ∀ a b c d e x : C, (mu ++ [a, b, c, d, e]).set (mu.length + 3) x = mu ++ [a, b, c, x, e] := fun a b c d e x => by simp
          have t4 : ∀ a b c d e x : C, (mu ++ [a, b, c, d, e]).set (mu.length + 4) x = mu ++ [a, b, c, d, x] := fun a b c d e x => by simp
          have ixk : ∀ (j n : Nat), j < n → ixN n (j : Int) = some j := fun j n hn => by
            unfold ixN; rw [if_pos (by omega), if_pos (by omega)]; rfl
          have hat : ∀ (xs : List Nat) (j : Nat), atI (natsL (xs ++ [j])) (-1) = some (.int (j : Nat)) := fun xs j => by
            rw [show natsL (xs ++ [j]) = natsL xs ++ [.int (j : Nat)] by simp [natsL]]; exact at_lastS _ _
          have hat' : ∀ (xs : List Nat) (j : Nat), atI ((natsL (xs ++ [j])).map W.d) (-1) = some (.d (.int (j : Nat))) := fun xs j => by
            rw [show (natsL (xs ++ [j])).map W.d = (natsL xs).map W.d ++ [.d (.int (j : Nat))] by simp [natsL]]; exact at_lastS _ _
          have hdp : ∀ xs : List Nat, ddeps (natsL xs) ≤ 63 := fun xs => ddeps_le fun x hx => by
            obtain ⟨z, _, rfl⟩ := List.mem_map.mp hx; simp
          have m1 : ∀ (xs : List (Option Nat)) (j v : Nat), (xs.map optD).set j (.int (v : Nat)) = (xs.set j (some v)).map optD := fun xs j v => by rw [List.map_set]; rfl
          let E : Ev := [some (W.d (D.lst rows)), some (W.d (D.lst (rows.map fun _ => D.non))), some (.d (.tup (.str w :: rest))), some (W.loc mu.length), some (W.loc (mu.length + 1)), some (W.loc (mu.length + 2)), some (W.loc (mu.length + 3)), some (W.loc (mu.length + 4)), some (.d (.int k)), some (.d (.str w))]
          show wgTup 2 (wgCons (wgName 8) (wgCons (wgName 2) wgNil)) _ _ _ _
          simp only [wgTup, wgCons, wgName, wgNil, mkTup]
          refine ⟨rfl, seq_to E (shC mu s1) (fun K hK => by simpa using hK) ?_⟩
          have okA := ok.top
          refine seq_to E (shC mu (topS k s1)) (fun K hK => ?_) ?_
          · rcases s1 with ⟨he, nd, el, hm, stk⟩
            obtain ⟨l1, l2, l3, l4, st, sl⟩ := ok
            simp only at l1 l2 l3 l4 st sl
            rcases List.eq_nil_or_concat stk with rfl | ⟨s0, j, hz⟩
            · simp [E, shC, natsL, g4]
              exact hK
            · rw [List.concat_eq_append] at hz
              subst hz
              obtain ⟨i, r, hi⟩ : ∃ i r, s0 ++ [j] = i :: r := by
                cases s0 with
                | nil => exact ⟨_, _, rfl⟩
                | cons x xs => exact ⟨_, _, rfl⟩
              have e1 : topS k ⟨he, nd, el, hm, s0 ++ [j]⟩ = ⟨he.set k (some j), nd, el, hm.set k (some i), s0 ++ [j]⟩ := by
                unfold topS
                simp only
                rw [List.getLast?_concat, hi]; rfl
              rw [e1] at hK
              have ne : deqvs (natsL (s0 ++ [j])) [] = false := by rw [hi]; simp [natsL]
              have a0 : atI ((natsL (s0 ++ [j])).map W.d) 0 = some (.d (.int (i : Nat))) := by rw [hi]; simp [natsL]
              have k1 := ixk k he.length (by omega)
              have k2 := ixk k hm.length (by omega)
              simp [E, shC, g0, g1, g2, g3, g4, t0, t1, t2, t3, t4, hdp, ne, hat', a0, k1, k2]
              have := hK
              simp only [E, shC, List.map_set] at this
              exact this
          clear ok
          generalize topS k s1 = sA at *
          have okB := okA.deff (w := w)
          refine seq_to E (shC mu (defS k w sA)) (fun K hK => ?_) ?_
          · rcases sA with ⟨he, nd, el, hm, stk⟩
            obtain ⟨l1, l2, l3, l4, st, sl⟩ := okA
            simp only at l1 l2 l3 l4 st sl
            have k2 := ixk k hm.length (by omega)
            unfold defS at hK
            by_cases c : w = Str.ofString "def"
            · rw [if_pos c] at hK
              have := hK
              simp only [E, shC, List.map_set] at this
              simp [E, shC, c, g3, t3, k2]
              rw [c] at this
              exact this
            · rw [if_neg c] at hK
              simp [E, shC, c]
              exact hK
          clear okA
          generalize defS k w sA = sB at *
          obtain ⟨sC, eC, es⟩ : ∃ sC, elseS k w sB = some sC ∧ (footS k w sC).map (pushS k w) = some s2 := by
            cases q : elseS k w sB with
            | none => rw [q] at es; cases es
            | some sC => rw [q] at es; exact ⟨sC, rfl, es⟩
          have okC := okB.els eC
          refine seq_to E (shC mu sC) (fun K hK => ?_) ?_
          · rcases sB with ⟨he, nd, el, hm, stk⟩
            obtain ⟨l1, l2, l3, l4, st, sl⟩ := okB
            simp only at l1 l2 l3 l4 st sl
            unfold elseS at eC
            by_cases c : w = Str.ofString "else"
            · rw [if_pos c] at eC
              rcases List.eq_nil_or_concat stk with rfl | ⟨s0, j, hz⟩
              · cases eC
              · rw [List.concat_eq_append] at hz
                subst hz
                simp only [List.getLast?_concat] at eC
                injection eC with eC
                subst eC
                have hj : j < k := st j (by simp)
                have k3 := ixk j el.length (by omega)
                have := hK
                simp only [E, shC, List.map_set] at this
                simp [E, shC, c, g2, g4, t2, hat', k3]
                rw [c] at this
                exact this
            · rw [if_neg c] at eC
              injection eC with eC
              subst eC
              simp [E, shC, c]
              exact hK
          clear okB eC
          obtain ⟨sD, eD, es⟩ : ∃ sD, footS k w sC = some sD ∧ pushS k w sD = s2 := by
            cases q : footS k w sC with
            | none => rw [q] at es; cases es
            | some sD => rw [q] at es; injection es with es; exact ⟨sD, rfl, es⟩
          have okD := okC.foot eD
          refine seq_to E (shC mu sD) (fun K hK => ?_) ?_
          · rcases sC with ⟨he, nd, el, hm, stk⟩
            obtain ⟨l1, l2, l3, l4, st, sl⟩ := okC
            simp only at l1 l2 l3 l4 st sl
            unfold footS at eD
            by_cases c : w = Str.ofString "give" ∨ w = Str.ofString "end"
            · rw [if_pos c] at eD
              rcases List.eq_nil_or_concat stk with rfl | ⟨s0, j, hz⟩
              · cases eD
              · rw [List.concat_eq_append] at hz
                subst hz
                simp only [List.getLast?_concat, List.dropLast_concat] at eD
                injection eD with eD
                subst eD
                have hj : j < k := st j (by simp)
                have k3 := ixk j nd.length (by omega)
                have n1 : natsL (s0 ++ [j]) = natsL s0 ++ [.int (j : Nat)] := by simp [natsL]
                have := hK
                simp only [E, shC, List.map_set] at this
                rcases c with c | c
                · simp [E, shC, c, g1, g4, t1, t4, n1, k3]
                  rw [c] at this
                  exact this
                · simp [E, shC, c, g1, g4, t1, t4, n1, k3]
                  rw [c] at this
                  exact this
            · rw [if_neg c] at eD
              injection eD with eD
              subst eD
              have c1 : ¬ w = Str.ofString "give" := fun z => c (.inl z)
              have c2 : ¬ w = Str.ofString "end" := fun z => c (.inr z)
              simp [E, shC, c1, c2]
              exact hK
          subst es
          have okE := okD.push (w := w)
          have fin' := fin (some (.d (.tup (.str w :: rest)))) (some (.d (.int k))) (some (.d (.str w))) okE
          rcases sD with ⟨he, nd, el, hm, stk⟩
          obtain ⟨l1, l2, l3, l4, st, sl⟩ := okD
          simp only at l1 l2 l3 l4 st sl
          have q1 : (natsL stk).length < sizeLine := by rw [sizeLine_eq]; simp [natsL]; omega
          unfold pushS at fin'
          by_cases c : w = Str.ofString "def" ∨ w = Str.ofString "if" ∨ w = Str.ofString "while"
          · rw [if_pos c] at fin'
            have n1 : natsL (stk ++ [k]) = natsL stk ++ [.int (k : Nat)] := by simp [natsL]
            simp only [shC, n1] at fin'
            rcases c with c | c | c
            · rw [c] at fin'
              simp [E, shC, c, g4, t4, q1]
              exact fin'
            · rw [c] at fin'
              simp [E, shC, c, g4, t4, q1]
              exact fin'
            · rw [c] at fin'
              simp [E, shC, c, g4, t4, q1]
              exact fin'
          · rw [if_neg c] at fin'
            have c1 : ¬ w = Str.ofString "def" := fun z => c (.inl z)
            have c2 : ¬ w = Str.ofString "if" := fun z => c (.inr (.inl z))
            have c3 : ¬ w = Str.ofString "while" := fun z => c (.inr (.inr z))
            simp [E, shC, c1, c2, c3]
            exact fin'
        · cases hrun
      · cases hrun
  · simp only [shC, ShS.start, en]; rfl
end VL
namespace VL
open PySem PySem.Spec PyProof.Rows L2 RZ
/-! ### blocks -/
def fitsB (w : Str) (st : List Str) : Bool := match st.getLast? with
  | none => decide (w = Str.ofString "def") || decide (w = Str.ofString "skip")
  | some z => if w = Str.ofString "def" then false else if w = Str.ofString "give" then z == Str.ofString "def" else if w = Str.ofString "else" then z == Str.ofString "if" else if w = Str.ofString "end" then !(z == Str.ofString "def") else true
def nextB (w : Str) (st : List Str) : List Str :=
  if w = Str.ofString "def" ∨ w = Str.ofString "if" ∨ w = Str.ofString "while" then st ++ [w] else if w = Str.ofString "give" ∨ w = Str.ofString "end" then st.dropLast else if w = Str.ofString "else" then st.dropLast ++ [Str.ofString "else"] else st
/-- where blocks break: the place, with these rows open -/
def breakB : Nat → List D → List Str → Option Nat
  | k, [], st => if st = [] then none else some k
  | k, r :: rs, st => match wordR r with
    | some w => if fitsB w st then breakB (k + 1) rs (nextB w st) else some k
    | none => some k
/-! ### calls -/
def isDef (n : Str) (r : D) : Bool := match r with
  | .tup (.str w :: .str m :: _) => w == Str.ofString "def" && m == n
  | _ => false
/-- the first def of a name -/
def defOf (rows : List D) (n : Str) : Option Nat := rows.findIdx? (isDef n)
/-- no call, no def breaks the order of the functions -/
def callOk (rows : List D) (k : Nat) (r : D) : Prop := ∃ w ps, r = .tup (.str w :: ps) ∧ (w = Str.ofString "def" → ∃ m ys qs, ps = .str m :: .tup ys :: qs ∧ ∃ j, defOf rows m = some j ∧ k ≤ j) ∧
  (w = Str.ofString "call" → ∃ x f ops qs, ps = x :: .str f :: .tup ops :: qs ∧ ∃ j m ys rs, defOf rows f = some j ∧ k ≤ j ∧ rows[j]? = some (.tup (.str (Str.ofString "def") :: m :: .tup ys :: rs)) ∧ ys.length = ops.length)
/-- a program that is taken -/
structure ProgOk (rows : List D) : Prop where
  few : rows.length ≤ 60
  right : ∀ r ∈ rows, ∃ w ps, r = .tup (.str w :: ps) ∧ RowIn w ps ∧ rowOk (.str w :: ps) = true
  blocks : breakB 0 rows [] = none
  calls : ∀ k r, rows[k]? = some r → callOk rows k r
end VL
namespace VL
open PySem PySem.Spec PyProof.Rows L2 RZ
@[simp] def p__law_cell_at : D → D → (W → Sto → Prop) → Prop := fun s k Q => match s, k with
  | .scr ns, .int i => 0 ≤ i ∧ Q (.d (.int (ns.getD i.toNat 0))) []
  | _, _ => False
def w__law_cell_at : WS := (wSeq (wIfS (wTest (wOp (fB0 fun i j => decide (i < j)) (wVar 1) (wCall fLen (wCons (wVar 0) wNil)))) (wRet (wOp fIx (wVar 0) (wVar 1))) wNext)
    (wRet (wC (.int 0))))
@[simp] def sp__law_cell_at : PSp := sp2 p__law_cell_at
theorem v__law_cell_at : ∀ a b Q, p__law_cell_at a b Q → w__law_cell_at (evr Q) (startE ["_law_script", "_law_k"] [.d a, .d b]) [] := by
  intro a b Q h
  unfold p__law_cell_at at h
  split at h
  · rename_i ns i
    obtain ⟨h0, h⟩ := h
    simp [w__law_cell_at]
    split
    · rename_i hl
      exact ⟨_, atI_map (at_getD 0 h0 hl), h⟩
    · rename_i hl
      simpa [List.getD_eq_getElem?_getD, List.getElem?_eq_none (show ns.length ≤ i.toNat by omega)] using h
  · exact h.elim
/-! words -/
theorem az_list : (Str.ofString "abcdefghijklmnopqrstuvwxyz").cps.toList = (List.range 26).map (97 + ·) := by decide +kernel
theorem az_at (n : Int) : atI (Str.ofString "abcdefghijklmnopqrstuvwxyz").cps.toList (n % 26) = some (97 + (n % 26).toNat) := by
  rw [az_list, at_nat (by omega) (by simp; omega)]
  have : (n % 26).toNat < 26 := by omega
  simp [this]
def goodW (w : Str) : Prop := 1 ≤ w.length ∧ w.length ≤ 8 ∧ ∀ c ∈ w.cps.toList, 97 ≤ c ∧ c ≤ 122
theorem low_ok {w : Str} (h : ∀ c ∈ w.cps.toList, 97 ≤ c ∧ c ≤ 122) (l : w.length ≤ 1000) : StrOk w := by
  refine ⟨?_, by rw [sizeLine_eq]; omega⟩
  unfold PyData.strOk
  rw [Array.all_eq_true']
  intro c hc
  have := h c (by simpa using hc)
  simp
  omega
theorem goodW.ok {w : Str} (h : goodW w) : StrOk w := low_ok h.2.2 (by have := h.2.1; omega)
@[simp] def p__law_words : D → D → (W → Sto → Prop) → Prop := fun a b Q => match a, b with
  | .int _, .int m => 2 ≤ m ∧ m ≤ 20 ∧ ∀ ws : List Str, ws.length = m.toNat → (∀ w ∈ ws, goodW w) → ws.Nodup → Q (.loc 0) [.lst (ws.map D.str)]
  | _, _ => False
/-- the number of the j-th sign of the k-th word -/
def wNum (c at' k : Int) (j : Nat) : Int := c / 49 / (j + 1) + j * j + (if (j : Int) = at' then k else 0)
def wCps (c at' k : Int) (n : Nat) : List Nat := (List.range n).map fun j => 97 + (wNum c at' k j % 26).toNat
def wStr (c at' k : Int) (n : Nat) : Str := ⟨(wCps c at' k n).toArray⟩
theorem wStr_len (c a k : Int) (n : Nat) : (wStr c a k n).length = n := by simp [wStr, wCps, Str.length]
theorem wStr_low (c a k : Int) (n : Nat) : ∀ x ∈ (wStr c a k n).cps.toList, 97 ≤ x ∧ x ≤ 122 := by
  intro x hx
  simp [wStr, wCps] at hx
  obtain ⟨j, _, rfl⟩ := hx
  omega
theorem wStr_succ (c a k : Int) (n : Nat) : wStr c a k n ++ ⟨#[97 + (wNum c a k n % 26).toNat]⟩ = wStr c a k (n + 1) := by
  show Str.mk _ = Str.mk _
  congr 1
  simp [wStr, wCps, List.range_succ]
theorem wStr_ne {c a k k' : Int} {n : Nat} (ha : 0 ≤ a) (hn : a < n) (hk : 0 ≤ k) (hk' : 0 ≤ k') (h : k < 26) (h' : k' < 26) (e : wStr c a k n = wStr c a k' n) : k = k' := by
  have e1 := congrArg (fun z : Str => z.cps.toList[a.toNat]?) e
  have : a.toNat < n := by omega
  have ea : ((a.toNat : Nat) : Int) = a := by omega
  simp [wStr, wCps, this] at e1
  unfold wNum at e1
  rw [ea] at e1
  simp at e1
  omega
theorem goodW_w {c a k : Int} {n : Nat} (h : 1 ≤ n) (h' : n ≤ 8) : goodW (wStr c a k n) := ⟨by rw [wStr_len]; exact h, by rw [wStr_len]; exact h', wStr_low _ _ _ _⟩
theorem nodup_set {A1 : Type} {y : A1} : ∀ {xs : List A1}, xs.Nodup → y ∉ xs → ∀ i, (xs.set i y).Nodup
  | [], _, _, _ => by simp
  | x :: xs, h, hy, 0 => by
    rw [List.set_cons_zero, List.nodup_cons]
    exact ⟨fun hm => hy (List.mem_cons_of_mem _ hm), (List.nodup_cons.mp h).2⟩
  | x :: xs, h, hy, i + 1 => by
    rw [List.set_cons_succ, List.nodup_cons]
    refine ⟨fun hm => ?_, nodup_set (List.nodup_cons.mp h).2 (fun hm => hy (List.mem_cons_of_mem _ hm)) i⟩
    rcases List.mem_or_eq_of_mem_set hm with hm | rfl
    · exact (List.nodup_cons.mp h).1 hm
    · exact hy List.mem_cons_self
def w__law_words : WS := (wSeq (wAsg (wC (.str "abcdefghijklmnopqrstuvwxyz")) (wgName 2))
    (wSeq (wAsg (wOp (fI CR0 gMod) (wVar 0) (wOp (fI CPow fun i j => i ^ j.toNat) (wC (.int 10)) (wC (.int 12)))) (wgName 0))
    (wSeq (wAsg (wOp (fAdd false) (wC (.int 1)) (wOp (fI CR0 gMod) (wVar 0) (wC (.int 7)))) (wgName 3))
    (wSeq (wAsg (wOp (fI CR0 gMod) (wOp (fI CD gDiv) (wVar 0) (wC (.int 7))) (wVar 3)) (wgName 4))
    (wSeq (wAsg (wLst true wNil) (wgName 5))
    (wSeq (wFor (wRng1 (wCons (wVar 1) wNil)) (wgName 6) (wSeq (wAsg (wC (.str "")) (wgName 7))
    (wSeq (wFor (wRng1 (wCons (wVar 3) wNil)) (wgName 8) (wSeq (wAsg (wOp (fAdd false) (wOp (fI CD gDiv) (wOp (fI CD gDiv) (wVar 0) (wC (.int 49))) (wOp (fAdd false) (wVar 8) (wC (.int 1)))) (wOp (fMul false) (wVar 8) (wVar 8))) (wgName 9))
    (wSeq (wIfS (wTest (wOp (fEq false) (wVar 8) (wVar 4))) (wAug (fI0 fun a b => a + b) 9 (wVar 6)) wNext)
    (wAsg (wOp (fAdd false) (wVar 7) (wOp fIx (wVar 2) (wOp (fI CR0 gMod) (wVar 9) (wC (.int 26))))) (wgName 7)))))
    (wDrop (wBM fApp (wVar 5) (wCons (wVar 7) wNil))))))
    (wSeq (wIfS (wTest (wOp (fEq false) (wOp (fI CR0 gMod) (wOp (fI CD gDiv) (wVar 0) (wC (.int 49))) (wC (.int 3))) (wC (.int 1)))) (wAsg (wOp (fAdd false) (wOp fIx (wVar 5) (wC (.int 0))) (wOp fIx (wVar 2) (wOp (fI CR0 gMod) (wOp (fI CD gDiv) (wVar 0) (wC (.int 147))) (wC (.int 26))))) (wgSub fSetL (wVar 5) (wC (.int 1)))) wNext)
    (wRet (wVar 5)))))))))
@[simp] def sp__law_words : PSp := sp2 p__law_words
theorem v__law_words : ∀ a b Q, p__law_words a b Q → w__law_words (evr Q) (startE ["_law_cell", "_law_many", "_law_letters", "_law_size", "_law_at", "_law_words_here", "_law_k", "_law_word", "_law_j", "_law_number"] [.d a, .d b]) [] := by
  intro a b Q h
  unfold p__law_words at h
  split at h
  · rename_i c0 m
    obtain ⟨h0, h1, h⟩ := h
    simp [w__law_words, sizeLine_eq]
    refine ⟨by omega, by omega, ?_⟩
    generalize (c0 % 1000000000000 : Int) = c at *
    obtain ⟨n, en, n1, n2⟩ : ∃ n : Nat, (1 + c % 7 : Int) = n ∧ 1 ≤ n ∧ n ≤ 7 := ⟨(1 + c % 7 : Int).toNat, by omega, by omega, by omega⟩
    rw [en]
    have hn0 : (0 : Int) < n := by omega
    rw [gMod_pos hn0]
    have a0 := Int.emod_nonneg (c / 7) (b := (n : Int)) (by omega)
    have a1 := Int.emod_lt_of_pos (c / 7) hn0
    generalize c / 7 % (n : Int) = at' at *
    obtain ⟨m', rfl⟩ : ∃ m' : Nat, m = m' := ⟨m.toNat, by omega⟩
    simp only [Int.toNat_natCast] at h ⊢
    have gw : ∀ k : Int, goodW (wStr c at' k n) := fun k => goodW_w n1 (by omega)
    refine ⟨by omega, forL_rng (fun i rh mu => mu = [C.lst (((List.range i).map fun k => wStr c at' (k : Nat) n).map D.str)] ∧ ∃ (x1 x2 x3 x4 : Option W), rh = [some (W.d (D.int c)), some (W.d (D.int m')), some (W.d (D.str (Str.ofString "abcdefghijklmnopqrstuvwxyz"))),
        some (W.d (D.int n)), some (W.d (D.int at')), some (W.loc 0), x1, x2, x3, x4]) (fun _ _ _ _ => trivial) ?_ ?_ ⟨rfl, _, _, _, _, rfl⟩⟩
    · rintro _ _ ⟨rfl, x1, x2, x3, x4, rfl⟩
      have nd : ((List.range m').map fun k => wStr c at' (k : Nat) n).Nodup := by
        rw [List.Nodup, List.pairwise_map]
        refine List.Pairwise.imp_of_mem (R := (· ≠ ·)) (fun {x y} hx hy hxy e => hxy ?_) List.nodup_range
        have hx' := List.mem_range.mp hx
        have hy' := List.mem_range.mp hy
        have := wStr_ne a0 a1 (by omega) (by omega) (by omega) (by omega) e
        omega
      have gd : ∀ w ∈ (List.range m').map fun k => wStr c at' (k : Nat) n, goodW w := fun w hw => by
        obtain ⟨k, _, rfl⟩ := List.mem_map.mp hw; exact gw _
      have i0 : ((List.range m').map fun k => wStr c at' (k : Nat) n)[0]? = some (wStr c at' 0 n) := by
        rw [List.getElem?_map, List.getElem?_range (by omega)]; rfl
      have il : ((List.range m').map fun k => wStr c at' (k : Nat) n).length = m' := by simp
      have il2 : ∀ w ∈ (List.range m').map fun k => wStr c at' (k : Nat) n, w.length = n := fun w hw => by
        obtain ⟨k, _, rfl⟩ := List.mem_map.mp hw; exact wStr_len _ _ _ _
      generalize ((List.range m').map fun k => wStr c at' (k : Nat) n) = ws at *
      have at0 : atI (ws.map D.str) 0 = some (.str (wStr c at' 0 n)) := by
        rw [at_nat (by omega) (by simp; omega)]; simp [i0]
      have ix1 : ixN ws.length 1 = some 1 := by
        unfold ixN; rw [if_pos (by omega), if_pos (by omega)]; rfl
      simp [at0, az_at, ix1, sizeLine_eq, wStr_len]
      split
      · refine ⟨by omega, ?_⟩
        have l1 : (wStr c at' 0 n ++ ⟨#[97 + (c / 147 % 26).toNat]⟩ : Str).length = n + 1 := by
          show ((wStr c at' 0 n).cps ++ #[97 + (c / 147 % 26).toNat]).size = _
          simp [Str.length] at *
          have := wStr_len c at' 0 n
          simp [Str.length] at this
          omega
        have q := h (ws.set 1 (wStr c at' 0 n ++ ⟨#[97 + (c / 147 % 26).toNat]⟩)) (by simp; exact il) (fun w hw => ?_) (nodup_set nd (fun hm => ?_) 1)
        · rw [List.map_set] at q; exact q
        · rcases List.mem_or_eq_of_mem_set hw with hw | rfl
          · exact gd w hw
          · refine ⟨by omega, by omega, fun x hx => ?_⟩
            have hx : x ∈ (wStr c at' 0 n).cps.toList ++ [97 + (c / 147 % 26).toNat] := by
              have : (wStr c at' 0 n ++ ⟨#[97 + (c / 147 % 26).toNat]⟩ : Str).cps.toList = (wStr c at' 0 n).cps.toList ++ [97 + (c / 147 % 26).toNat] := by
                show ((wStr c at' 0 n).cps ++ #[97 + (c / 147 % 26).toNat]).toList = _
                simp
              rw [this] at hx; exact hx
            rcases List.mem_append.mp hx with hx | hx
            · exact wStr_low _ _ _ _ x hx
            · rw [List.mem_singleton.mp hx]; omega
        · have := il2 _ hm; omega
      · exact h ws il gd nd
    · rintro k hk _ _ ⟨rfl, x1, x2, x3, x4, rfl⟩ N hN
      simp
      refine ⟨by omega, forL_rng (fun j rh mu => mu = [C.lst ((List.range k).map (D.str ∘ fun k => wStr c at' (k : Nat) n))] ∧ ∃ (x3 x4 : Option W), rh = [some (W.d (D.int c)), some (W.d (D.int m')), some (W.d (D.str (Str.ofString "abcdefghijklmnopqrstuvwxyz"))),
        some (W.d (D.int n)), some (W.d (D.int at')), some (W.loc 0), some (.d (.int k)), some (.d (.str (wStr c at' k j))), x3, x4]) (fun _ _ _ _ => trivial) ?_ ?_ ⟨rfl, _, _, rfl⟩⟩
      · rintro _ _ ⟨rfl, x3, x4, rfl⟩
        simp [sizeLine_eq]
        refine ⟨by omega, hN _ _ ⟨?_, _, _, _, _, rfl⟩⟩
        simp [List.range_succ]
      · rintro j hj _ _ ⟨rfl, x3, x4, rfl⟩ N' hN'
        have c3 : CM (j : Int) j := CM_r (by omega) (by omega)
        have j1 : (0 : Int) < j + 1 := by omega
        have cd : CD (c / 49) ((j : Int) + 1) := CD_of (by omega) (by omega)
        simp [c3, j1, cd, az_at, wStr_len, sizeLine_eq, gDiv_pos j1]
        have e := wStr_succ c at' k j
        unfold wNum at e
        split
        · rename_i hb
          rw [if_pos hb] at e
          rw [e]
          exact ⟨by omega, hN' _ _ ⟨rfl, _, _, rfl⟩⟩
        · rename_i hb
          rw [if_neg hb, Int.add_zero] at e
          rw [e]
          exact ⟨by omega, hN' _ _ ⟨rfl, _, _, rfl⟩⟩
  · exact h.elim
/-! operands, keys, rows -/
@[simp] theorem strs_inj {ws vs : List Str} : (ws.map D.str = vs.map D.str) ↔ ws = vs := by
  constructor
  · intro h
    exact List.map_inj_right (f := D.str) (fun _ _ e => by injection e) |>.mp h
  · rintro rfl; rfl
def OperD (ws : List Str) (d : D) : Prop := (∃ x, x ∈ ws ∧ d = .str x) ∨ ∃ n : Int, -1000000000000000000000000000000 ≤ n ∧ n < 1000000000000000000000000000000 ∧ d = .int n
def KeyD (ws : List Str) (d : D) : Prop := (∃ x, x ∈ ws ∧ d = .str (Str.ofString "." ++ x)) ∨ OperD ws d
theorem at_word {ws : List Str} {i : Int} {n : Nat} (h0 : 0 ≤ i) (h1 : i < n) (hn : n ≤ ws.length) : ∃ x, x ∈ ws ∧ atI (ws.map D.str) i = some (.str x) := by
  refine ⟨ws[i.toNat]'(by omega), ?_, ?_⟩
  · exact List.getElem_mem _
  · rw [at_nat h0 (by simp; omega)]
    have : i.toNat < ws.length := by omega
    simp [this]
@[simp] def p__law_operand : D → D → (W → Sto → Prop) → Prop := fun a b Q => match a, b with
  | .int n, .lst ds => ∃ ws : List Str, ds = ws.map D.str ∧ -100000000000000000000000000000000000000000000000000 ≤ n ∧ n ≤ 100000000000000000000000000000000000000000000000000 ∧ 4 ≤ ws.length ∧ ∀ d, OperD ws d → Q (.d d) []
  | _, _ => False
def w__law_operand : WS := (wSeq (wIfS (wTest (wOp (fB0 fun i j => decide (j < i)) (wOp (fI CR0 gMod) (wVar 0) (wC (.int 3))) (wC (.int 0)))) (wRet (wOp fIx (wVar 1) (wOp (fI CR0 gMod) (wOp (fI CD gDiv) (wVar 0) (wC (.int 3))) (wC (.int 4))))) wNext)
    (wSeq (wIfS (wTest (wOp (fEq false) (wOp (fI CR0 gMod) (wVar 0) (wC (.int 15))) (wC (.int 0)))) (wRet (wOp (fI0 fun i j => i - j) (wOp (fI CR0 gMod) (wOp (fAdd false) (wOp (fMul false) (wOp (fMul false) (wVar 0) (wC (.int 1000003))) (wOp (fI CPow fun i j => i ^ j.toNat) (wC (.int 10)) (wC (.int 20)))) (wVar 0)) (wOp (fMul false) (wC (.int 2)) (wOp (fI CPow fun i j => i ^ j.toNat) (wC (.int 10)) (wC (.int 30))))) (wOp (fI CPow fun i j => i ^ j.toNat) (wC (.int 10)) (wC (.int 30))))) wNext)
    (wRet (wOp (fI0 fun i j => i - j) (wOp (fI CR0 gMod) (wOp (fI CD gDiv) (wVar 0) (wC (.int 3))) (wC (.int 9))) (wC (.int 4))))))
@[simp] def sp__law_operand : PSp := sp2 p__law_operand
theorem v__law_operand : ∀ a b Q, p__law_operand a b Q → w__law_operand (evr Q) (startE ["_law_number", "_law_words_here"] [.d a, .d b]) [] := by
  intro a b Q h
  unfold p__law_operand at h
  split at h
  · rename_i n ds
    obtain ⟨ws, rfl, b0, b1, h0, h⟩ := h
    have cm : CM (n * 1000003) 100000000000000000000 := by
      rw [CM_lit2 (by omega) (by omega) (by omega) (by omega)]; trivial
    simp [w__law_operand, cm]
    split
    · obtain ⟨x, hx, e⟩ := at_word (ws := ws) (i := n / 3 % 4) (n := 4) (by omega) (by omega) h0
      simp [e]
      exact h _ (.inl ⟨x, hx, rfl⟩)
    · split
      · refine h _ (.inr ⟨_, ?_, ?_, rfl⟩) <;> omega
      · refine h _ (.inr ⟨_, ?_, ?_, rfl⟩) <;> omega
  · exact h.elim
@[simp] def p__law_key : D → D → (W → Sto → Prop) → Prop := fun a b Q => match a, b with
  | .int n, .lst ds => ∃ ws : List Str, ds = ws.map D.str ∧ -100000000000000000000000000000000000000000000000000 ≤ n ∧ n ≤ 100000000000000000000000000000000000000000000000000 ∧ 4 ≤ ws.length ∧ (∀ w ∈ ws, goodW w) ∧ ∀ d, KeyD ws d → Q (.d d) []
  | _, _ => False
def w__law_key : WS := (wSeq (wIfS (wTest (wOp (fEq false) (wOp (fI CR0 gMod) (wVar 0) (wC (.int 2))) (wC (.int 0)))) (wRet (wOp (fAdd true) (wC (.str ".")) (wOp fIx (wVar 1) (wOp (fI CR0 gMod) (wOp (fI CD gDiv) (wVar 0) (wC (.int 2))) (wC (.int 2)))))) wNext)
    (wRet (wCallP true sp__law_operand [] (wCons (wOp (fI CD gDiv) (wVar 0) (wC (.int 2))) (wCons (wVar 1) wNil)))))
@[simp] def sp__law_key : PSp := sp2 p__law_key
theorem v__law_key : ∀ a b Q, p__law_key a b Q → w__law_key (evr Q) (startE ["_law_number", "_law_words_here"] [.d a, .d b]) [] := by
  intro a b Q h
  unfold p__law_key at h
  split at h
  · rename_i n ds
    obtain ⟨ws, rfl, b0, b1, h0, hg, h⟩ := h
    simp [w__law_key]
    split
    · obtain ⟨x, hx, e⟩ := at_word (ws := ws) (i := n / 2 % 2) (n := 2) (by omega) (by omega) (by omega)
      have := (hg x hx).2.1
      simp [e, sizeLine_eq]
      refine ⟨?_, h _ (.inl ⟨x, hx, rfl⟩)⟩
      show 1 + x.length ≤ 16777216
      omega
    · refine ⟨by omega, by omega, h0, fun d hd => h _ (.inr hd)⟩
  · exact h.elim
/-- the defs that come later: name, parameters -/
def planD (pl : List (Str × List Str)) : List D := pl.map fun p => .tup [.str p.1, .tup (p.2.map D.str)]
def opWords : List String := ["plus", "minus", "times", "over", "rest", "less", "same"]
/-- a row that is no head, no foot -/
inductive Simple (ws : List Str) (pl : List (Str × List Str)) : D → Prop
  | put {n : Str} {op : D} : n ∈ ws → OperD ws op → Simple ws pl (.tup [.str "put", .str n, op])
  | doo {n : Str} {a b : D} {o : String} : n ∈ ws → OperD ws a → o ∈ opWords → OperD ws b → Simple ws pl (.tup [.str "do", .str n, a, .str o, b])
  | new {n : Str} : n ∈ ws → Simple ws pl (.tup [.str "new", .str n])
  | get {n o : Str} {k : D} : n ∈ ws → o ∈ ws → KeyD ws k → Simple ws pl (.tup [.str "get", .str n, .str o, k])
  | set {o : Str} {k op : D} : o ∈ ws → KeyD ws k → OperD ws op → Simple ws pl (.tup [.str "set", .str o, k, op])
  | call {n : Str} {p : Str × List Str} {ops : List D} : n ∈ ws → p ∈ pl → ops.length = p.2.length → (∀ d ∈ ops, OperD ws d) → Simple ws pl (.tup [.str "call", .str n, .str p.1, .tup ops])
  | fail {n : Str} : n ∈ ws → Simple ws pl (.tup [.str "fail", .str n])
  | skip : Simple ws pl (.tup [.str "skip"])
@[simp] def p__law_call : D → D → D → D → (W → Sto → Prop) → Prop := fun a n b l Q => match a, n, b, l with
  | .int m, .str n, .lst ds, .lst ls => ∃ (ws : List Str) (pl : List (Str × List Str)), ds = ws.map D.str ∧ ls = planD pl ∧ 0 ≤ m ∧ m ≤ 100000000000000000000000000000000000000000000000000 ∧ 4 ≤ ws.length ∧ pl ≠ [] ∧ pl.length ≤ 1000 ∧ (∀ p ∈ pl, p.2.length ≤ 1000) ∧ n ∈ ws ∧ ∀ d mu, Simple ws pl d → Q (.d d) mu
  | _, _, _, _ => False
def w__law_call : WS := (wSeq (wAsg (wOp fIx (wVar 3) (wOp (fI CR0 gMod) (wVar 0) (wCall fLen (wCons (wVar 3) wNil)))) (wgTup 2 (wgCons (wgName 4) (wgCons (wgName 5) wgNil))))
    (wSeq (wAsg (wLst true wNil) (wgName 6))
    (wSeq (wFor (wRng1 (wCons (wCall fLen (wCons (wVar 5) wNil)) wNil)) (wgName 7) (wDrop (wBM fApp (wVar 6) (wCons (wCallP false sp__law_operand [] (wCons (wOp (fI CD gDiv) (wVar 0) (wOp (fAdd false) (wCall fLen (wCons (wVar 3) wNil)) (wVar 7))) (wCons (wVar 2) wNil))) wNil))))
    (wRet (wTup (wCons (wC (.str "call")) (wCons (wVar 1) (wCons (wVar 4) (wCons (wCall fTuple (wCons (wVar 6) wNil)) wNil)))))))))
@[simp] def sp__law_call : PSp := sp4 p__law_call
theorem v__law_call : ∀ a b c d Q, p__law_call a b c d Q → w__law_call (evr Q) (startE ["_law_number", "_law_name", "_law_words_here", "_law_later", "_law_other", "_law_parameters", "_law_operands", "_law_k"] [.d a, .d b, .d c, .d d]) [] := by
  intro a b c d Q h
  unfold p__law_call at h
  split at h
  · rename_i m n ds ls
    obtain ⟨ws, pl, rfl, rfl, h0, hB, h1, h2, h3, h4, h5, h⟩ := h
    have pl0 : 0 < pl.length := List.length_pos_iff.mpr h2
    have plN : ¬ planD pl = [] := by intro e; have := congrArg List.length e; simp [planD] at this; exact h2 this
    have ll : (planD pl).length = pl.length := by simp [planD]
    have m1 := Int.emod_nonneg m (b := (pl.length : Int)) (by omega)
    have m2 := Int.emod_lt_of_pos m (b := (pl.length : Int)) (by omega)
    obtain ⟨p, hp, ep⟩ : ∃ p, p ∈ pl ∧ atI (planD pl) (m % (pl.length : Int)) = some (.tup [.str p.1, .tup (p.2.map D.str)]) := by
      obtain ⟨d, e, hd⟩ := at_mem (xs := planD pl) (i := m % (pl.length : Int)) m1 (by rw [ll]; exact m2)
      obtain ⟨p, hp, rfl⟩ := List.mem_map.mp hd
      exact ⟨p, hp, e⟩
    have p1 := h4 p hp
    simp [w__law_call, plN, ll, gMod_pos (show (0 : Int) < pl.length by omega), ep, sizeLine_eq]
    refine ⟨by omega, by omega, forL_rng (fun i rh mu => ∃ (ops : List D) (b : Option W), mu = [C.lst ops] ∧ rh = [some (.d (.int m)), some (.d (.str n)), some (.d (.lst (ws.map D.str))), some (.d (.lst (planD pl))), some (.d (.str p.1)), some (.d (.tup (p.2.map D.str))), some (.loc 0), b] ∧ ops.length = i ∧ ∀ d ∈ ops, OperD ws d) (fun _ _ _ _ => trivial) ?_ ?_ ⟨[], _, rfl, rfl, rfl, by simp⟩⟩
    · rintro _ _ ⟨ops, b, rfl, rfl, ho, hops⟩
      simp [sizeLine_eq]
      exact h _ _ (.call h5 hp ho hops)
    · rintro i hi _ _ ⟨ops, b, rfl, rfl, ho, hops⟩ N hN
      have cd : CD m ((pl.length : Int) + i) := CD_of (by omega) (by omega)
      have q0 : (0 : Int) < (pl.length : Int) + i := by omega
      simp [ll, cd, gDiv_pos q0, sizeLine_eq]
      have e1 := Int.ediv_nonneg h0 (Int.le_of_lt q0)
      have e2 := Int.ediv_le_self ((pl.length : Int) + i) h0
      refine ⟨by omega, by omega, h1, fun d hd => ⟨by omega, hN _ _ ⟨ops ++ [d], _, rfl, rfl, by simp [ho], fun x hx => ?_⟩⟩⟩
      rcases List.mem_append.mp hx with hx | hx
      · exact hops x hx
      · rw [List.mem_singleton.mp hx]; exact hd
  · exact h.elim
def planOk (pl : List (Str × List Str)) : Prop := pl.length ≤ 1000 ∧ ∀ p ∈ pl, p.2.length ≤ 1000
theorem plan_dep {pl : List (Str × List Str)} : ddeps (planD pl) ≤ 5 := ddeps_le fun x hx => by
  obtain ⟨p, _, rfl⟩ := List.mem_map.mp hx
  have : ddeps (p.2.map D.str) ≤ 0 := ddeps_le fun y hy => by
    obtain ⟨z, _, rfl⟩ := List.mem_map.mp hy; simp
  simp; omega
theorem deqvs_e (xs : List D) : deqvs xs [] = xs.isEmpty := by cases xs <;> simp
@[simp] def p__law_simple : D → D → D → (W → Sto → Prop) → Prop := fun a b l Q => match a, b, l with
  | .int m, .lst ds, .lst ls => ∃ (ws : List Str) (pl : List (Str × List Str)), ds = ws.map D.str ∧ ls = planD pl ∧ 0 ≤ m ∧ m ≤ 100000000000000000000000000000000000000000000000000 ∧ 6 ≤ ws.length ∧ (∀ w ∈ ws, goodW w) ∧ planOk pl ∧ ∀ d mu, Simple ws pl d → Q (.d d) mu
  | _, _, _ => False
def w__law_simple : WS := (wSeq (wAsg (wOp (fI CR0 gMod) (wVar 0) (wC (.int 13))) (wgName 3))
    (wSeq (wAsg (wOp fIx (wVar 1) (wOp (fI CR0 gMod) (wOp (fI CD gDiv) (wVar 0) (wC (.int 13))) (wC (.int 4)))) (wgName 4))
    (wSeq (wAsg (wOp fIx (wVar 1) (wOp (fI CR0 gMod) (wOp (fI CD gDiv) (wVar 0) (wC (.int 52))) (wC (.int 4)))) (wgName 5))
    (wSeq (wAsg (wOp (fI CD gDiv) (wVar 0) (wC (.int 208))) (wgName 6))
    (wSeq (wIfS (wTest (wOp (fB0 fun i j => decide (i < j)) (wVar 3) (wC (.int 2)))) (wRet (wTup (wCons (wC (.str "put")) (wCons (wVar 4) (wCons (wCallP false sp__law_operand [] (wCons (wVar 6) (wCons (wVar 1) wNil))) wNil))))) wNext)
    (wSeq (wIfS (wTest (wOp (fB0 fun i j => decide (i < j)) (wVar 3) (wC (.int 5)))) (wSeq (wAsg (wOp fIx (wLst false (wCons (wC (.str "plus")) (wCons (wC (.str "minus")) (wCons (wC (.str "times")) (wCons (wC (.str "over")) (wCons (wC (.str "rest")) (wCons (wC (.str "less")) (wCons (wC (.str "same")) wNil)))))))) (wOp (fI CR0 gMod) (wVar 6) (wC (.int 7)))) (wgName 7))
    (wRet (wTup (wCons (wC (.str "do")) (wCons (wVar 4) (wCons (wCallP false sp__law_operand [] (wCons (wOp (fI CD gDiv) (wVar 6) (wC (.int 7))) (wCons (wVar 1) wNil))) (wCons (wVar 7) (wCons (wCallP false sp__law_operand [] (wCons (wOp (fI CD gDiv) (wVar 6) (wC (.int 420))) (wCons (wVar 1) wNil))) wNil)))))))) wNext)
    (wSeq (wIfS (wTest (wOp (fEq false) (wVar 3) (wC (.int 5)))) (wRet (wTup (wCons (wC (.str "new")) (wCons (wVar 4) wNil)))) wNext)
    (wSeq (wIfS (wTest (wOp (fB0 fun i j => decide (i < j)) (wVar 3) (wC (.int 8)))) (wRet (wTup (wCons (wC (.str "get")) (wCons (wVar 4) (wCons (wVar 5) (wCons (wCallP false sp__law_key [] (wCons (wVar 6) (wCons (wVar 1) wNil))) wNil)))))) wNext)
    (wSeq (wIfS (wTest (wOp (fB0 fun i j => decide (i < j)) (wVar 3) (wC (.int 10)))) (wRet (wTup (wCons (wC (.str "set")) (wCons (wVar 5) (wCons (wCallP false sp__law_key [] (wCons (wVar 6) (wCons (wVar 1) wNil))) (wCons (wCallP false sp__law_operand [] (wCons (wOp (fI CD gDiv) (wVar 6) (wC (.int 90))) (wCons (wVar 1) wNil))) wNil)))))) wNext)
    (wSeq (wIfS (wAnd (wTest (wOp (fEq false) (wVar 3) (wC (.int 10)))) (wTest (wOp (fEq true) (wVar 2) (wLst false wNil)))) (wRet (wCallP true sp__law_call [] (wCons (wVar 6) (wCons (wVar 4) (wCons (wVar 1) (wCons (wVar 2) wNil)))))) wNext)
    (wSeq (wIfS (wAnd (wTest (wOp (fEq false) (wVar 3) (wC (.int 11)))) (wTest (wOp (fEq false) (wOp (fI CR0 gMod) (wVar 6) (wC (.int 3))) (wC (.int 0))))) (wRet (wTup (wCons (wC (.str "fail")) (wCons (wOp fIx (wVar 1) (wOp (fAdd false) (wC (.int 4)) (wOp (fI CR0 gMod) (wOp (fI CD gDiv) (wVar 6) (wC (.int 3))) (wC (.int 2))))) wNil)))) wNext)
    (wSeq (wIfS (wAnd (wTest (wOp (fEq false) (wVar 3) (wC (.int 12)))) (wTest (wOp (fEq false) (wOp (fI CR0 gMod) (wVar 6) (wC (.int 2))) (wC (.int 0))))) (wRet (wTup (wCons (wC (.str "skip")) wNil))) wNext)
    (wRet (wTup (wCons (wC (.str "put")) (wCons (wVar 4) (wCons (wVar 5) wNil)))))))))))))))))
@[simp] def sp__law_simple : PSp := sp3 p__law_simple
theorem v__law_simple : ∀ a b c Q, p__law_simple a b c Q → w__law_simple (evr Q) (startE ["_law_number", "_law_words_here", "_law_later", "_law_kind", "_law_name", "_law_other", "_law_rest", "_law_word"] [.d a, .d b, .d c]) [] := by
  intro a b c Q h
  unfold p__law_simple at h
  split at h
  · rename_i m ds ls
    obtain ⟨ws, pl, rfl, rfl, h0, hB, h1, hg, hp, h⟩ := h
    have h4 : 4 ≤ ws.length := by omega
    obtain ⟨n, hn, en⟩ := at_word (ws := ws) (i := m / 13 % 4) (n := 4) (by omega) (by omega) h4
    obtain ⟨o, ho, eo⟩ := at_word (ws := ws) (i := m / 52 % 4) (n := 4) (by omega) (by omega) h4
    have en' : atI (ws.map (W.d ∘ D.str)) (m / 13 % 4) = some (.d (.str n)) := by rw [atI_comp, en]; rfl
    have b1 : 0 ≤ m / 208 ∧ m / 208 ≤ m := ⟨by omega, by omega⟩
    have oput := h _ [] (.put (n := n) (op := .str o) hn (.inl ⟨o, ho, rfl⟩))
    have oskip := h _ [] (.skip)
    have tail : ∀ (_ : 10 ≤ m % 13), if m % 13 = 11 then
                if m / 208 % 3 = 0 then
                  ∃ d,
                    atI (List.map D.str ws) (4 + m / 208 / 3 % 2) = some d ∧
                      Q (W.d (D.tup [D.str (Str.ofString "fail"), d])) []
                else
                  if m % 13 = 12 then
                    if m / 208 % 2 = 0 then Q (W.d (D.tup [D.str (Str.ofString "skip")])) []
                    else Q (W.d (D.tup [D.str (Str.ofString "put"), D.str n, D.str o])) []
                  else Q (W.d (D.tup [D.str (Str.ofString "put"), D.str n, D.str o])) []
              else
                if m % 13 = 12 then
                  if m / 208 % 2 = 0 then Q (W.d (D.tup [D.str (Str.ofString "skip")])) []
                  else Q (W.d (D.tup [D.str (Str.ofString "put"), D.str n, D.str o])) []
                else Q (W.d (D.tup [D.str (Str.ofString "put"), D.str n, D.str o])) [] := by
      intro _
      split
      · split
        · obtain ⟨j, ej, j0, j1⟩ : ∃ j : Nat, 4 + m / 208 / 3 % 2 = (j : Int) ∧ 4 ≤ j ∧ j < 6 := ⟨(4 + m / 208 / 3 % 2).toNat, by omega, by omega, by omega⟩
          rw [ej]
          refine ⟨.str ws[j], by rw [at_nat (by omega) (by simp; omega)]; simp [show j < ws.length by omega], h _ _ (.fail ?_)⟩
          exact List.getElem_mem _
        · split
          · split
            · exact oskip
            · exact oput
          · exact oput
      · split
        · split
          · exact oskip
          · exact oput
        · exact oput
    simp [w__law_simple, en, eo, sizeLine_eq]
    refine ite_of (fun c => ?_) (fun c => ite_of (fun c2 => ?_) (fun c2 => ite_of (fun c3 => ?_) (fun c3 => ite_of (fun c4 => ?_) (fun c4 => ite_of (fun c5 => ?_) (fun c5 => ite_of (fun c6 => ?_) (fun c6 => ?_))))))
    · exact ⟨by omega, by omega, h4, fun d hd => h _ _ (.put hn hd)⟩
    · obtain ⟨d, e, hd⟩ := at_mem (xs := opWords.map fun z => D.str (Str.ofString z)) (i := m / 208 % 7) (by omega) (by simp [opWords]; omega)
      obtain ⟨z, hz, rfl⟩ := List.mem_map.mp hd
      exact ⟨_, e, by omega, by omega, h4, fun a ha => ⟨by omega, by omega, h4, fun b hb => h _ _ (.doo hn ha hz hb)⟩⟩
    · exact h _ _ (.new hn)
    · exact ⟨by omega, by omega, h4, hg, fun d hd => h _ _ (.get hn ho hd)⟩
    · exact ⟨by omega, by omega, h4, hg, fun d hd => ⟨by omega, by omega, h4, fun op hop => h _ _ (.set ho hd hop)⟩⟩
    · refine ⟨Nat.le_trans plan_dep (by decide), ?_⟩
      rw [deqvs_e]
      refine ite_of (fun he => tail (by omega)) (fun he => ?_)
      refine ⟨pl, rfl, by omega, by omega, h4, ?_, hp.1, ?_, hn, fun d mu hd => h _ _ hd⟩
      · rintro rfl; simp [planD] at he
      · exact fun a b hab => hp.2 (a, b) hab
    · exact tail (by omega)
  · exact h.elim
theorem rngW_nats (k : Nat) : rngW 0 k = ((List.range k).map fun j => D.int (j : Nat)).map W.d := by
  refine List.ext_getElem? fun i => ?_
  by_cases h : i < k
  · rw [rngW_get 0 k i h]; simp [h]
  · rw [List.getElem?_eq_none (by rw [rngW_len]; omega), List.getElem?_eq_none (by simp; omega)]
/-- a plan: which defs there are -/
structure PlanIn (ws : List Str) (pl : List (Str × List Str)) : Prop where
  pos : 1 ≤ pl.length
  few : pl.length ≤ 3
  nm : ∀ (i : Nat) (p : Str × List Str), pl[i]? = some p → ws[i]? = some p.1
  ps : ∀ p ∈ pl, p.2.length ≤ 4 ∧ (∀ x ∈ p.2, x ∈ ws) ∧ p.2.Nodup
theorem PlanIn.ok {ws : List Str} {pl : List (Str × List Str)} (h : PlanIn ws pl) : planOk pl := ⟨by have := h.few; omega, fun p hp => by have := (h.ps p hp).1; omega⟩
@[simp] def p__law_plan : D → D → (W → Sto → Prop) → Prop := fun a b Q => match a, b with
  | .int _, .lst ds => ∃ ws : List Str, ds = ws.map D.str ∧ 4 ≤ ws.length ∧ ws.Nodup ∧ ∀ pl, PlanIn ws pl → Q (.loc 0) [.lst (planD pl)]
  | _, _ => False
def w__law_plan : WS := (wSeq (wAsg (wOp (fI CR0 gMod) (wVar 0) (wOp (fI CPow fun i j => i ^ j.toNat) (wC (.int 10)) (wC (.int 9)))) (wgName 2))
    (wSeq (wAsg (wLst true wNil) (wgName 3))
    (wSeq (wFor (wRng1 (wCons (wOp (fAdd false) (wC (.int 1)) (wOp (fI CR0 gMod) (wVar 2) (wC (.int 3)))) wNil)) (wgName 4) (wSeq (wAsg (wOp (fI CR0 gMod) (wOp (fAdd false) (wOp (fAdd false) (wOp (fMul false) (wVar 2) (wVar 2)) (wOp (fMul false) (wC (.int 48271)) (wVar 2))) (wVar 4)) (wC (.int 2147483647))) (wgName 2))
    (wSeq (wAsg (wLc false (wRng1 (wCons (wOp (fI CR0 gMod) (wVar 2) (wC (.int 3))) wNil)) (wgName 6) wYes (wOp fIx (wVar 1) (wOp (fI CR0 gMod) (wOp (fAdd false) (wOp (fI CD gDiv) (wVar 2) (wC (.int 3))) (wVar 6)) (wC (.int 4)))) [6]) (wgName 5))
    (wDrop (wBM fApp (wVar 3) (wCons (wTup (wCons (wOp fIx (wVar 1) (wVar 4)) (wCons (wCall fTuple (wCons (wVar 5) wNil)) wNil))) wNil))))))
    (wRet (wVar 3)))))
@[simp] def sp__law_plan : PSp := sp2 p__law_plan
theorem v__law_plan : ∀ a b Q, p__law_plan a b Q → w__law_plan (evr Q) (startE ["_law_cell", "_law_words_here", "_law_number", "_law_plan_here", "_law_k", "_law_parameters", "_law_j"] [.d a, .d b]) [] := by
  intro a b Q h
  unfold p__law_plan at h
  split at h
  · rename_i c ds
    obtain ⟨ws, rfl, h4, hnd, h⟩ := h
    obtain ⟨m, em, m0, m1⟩ : ∃ m : Nat, (1 + c % 1000000000 % 3 : Int) = m ∧ 1 ≤ m ∧ m ≤ 3 := ⟨(1 + c % 1000000000 % 3 : Int).toNat, by omega, by omega, by omega⟩
    simp [w__law_plan, sizeLine_eq, em]
    refine ⟨by omega, forL_rng (fun k rh mu => ∃ (pl : List (Str × List Str)) (n : Int) (x1 x2 x3 : Option W), 0 ≤ n ∧ n < 2147483647 ∧ mu = [C.lst (planD pl)] ∧ rh = [some (.d (.int c)), some (.d (.lst (ws.map D.str))), some (.d (.int n)), some (.loc 0), x1, x2, x3] ∧
      pl.length = k ∧ (∀ (i : Nat) (p : Str × List Str), pl[i]? = some p → ws[i]? = some p.1) ∧ ∀ p ∈ pl, p.2.length ≤ 4 ∧ (∀ x ∈ p.2, x ∈ ws) ∧ p.2.Nodup) (fun _ _ _ _ => trivial) ?_ ?_ ⟨[], c % 1000000000, _, _, _, by omega, by omega, rfl, rfl, rfl, by simp, by simp⟩⟩
    · rintro _ _ ⟨pl, n, x1, x2, x3, n0, n1, rfl, rfl, e1, e2, e3⟩
      simp
      exact h pl ⟨by omega, by omega, e2, e3⟩
    · rintro k hk _ _ ⟨pl, n, x1, x2, x3, n0, n1, rfl, rfl, e1, e2, e3⟩ N hN
      have c1 : CM n n := CM_r (by omega) (by omega)
      have v0 : 0 ≤ (n * n + 48271 * n + (k : Int)) % 2147483647 := by omega
      have v1 : (n * n + 48271 * n + (k : Int)) % 2147483647 < 2147483647 := by omega
      have lk : k < ws.length := by omega
      have wk : atI (ws.map D.str) (k : Int) = some (.str ws[k]) := by
        rw [at_nat (by omega) (by simp; omega)]; simp [lk]
      have lp : (planD pl).length = k := by simp [planD, e1]
      have wj : ∀ j : Nat, j < 4 → ∃ x, x ∈ ws ∧ atI (ws.map D.str) (j : Int) = some (.str x) ∧ ws[j]? = some x := fun j hj => by
        refine ⟨ws[j]'(by omega), ?_, ?_, by simp [show j < ws.length by omega]⟩
        · exact List.getElem_mem _
        · rw [at_nat (by omega) (by simp; omega)]; simp [show j < ws.length by omega]
      simp [c1, sizeLine_eq]
      generalize (n * n + 48271 * n + (k : Int)) % 2147483647 = v at *
      have wsel : ∀ j : Nat, ∃ x, x ∈ ws ∧ atI (ws.map D.str) ((v / 3 + (j : Int)) % 4) = some (.str x) ∧ ws[((v / 3 + (j : Int)) % 4).toNat]? = some x := fun j => by
        obtain ⟨i, ei, hi⟩ : ∃ i : Nat, (v / 3 + (j : Int)) % 4 = (i : Int) ∧ i < 4 := ⟨((v / 3 + (j : Int)) % 4).toNat, by omega, by omega⟩
        obtain ⟨x, h1, h2, h3⟩ := wj i hi
        exact ⟨x, h1, by rw [ei]; exact h2, by rw [ei]; simpa using h3⟩
      let sel : Nat → Str := fun j => (ws[((v / 3 + (j : Int)) % 4).toNat]?).getD (Str.ofString "")
      have hsel : ∀ j : Nat, sel j ∈ ws ∧ atI (ws.map D.str) ((v / 3 + (j : Int)) % 4) = some (.str (sel j)) := fun j => by
        obtain ⟨x, h1, h2, h3⟩ := wsel j
        have : sel j = x := by simp [sel, h3]
        rw [this]; exact ⟨h1, h2⟩
      have selN : ∀ n : Nat, n ≤ 4 → ((List.range n).map sel).Nodup := fun n hn => by
        rw [List.Nodup, List.pairwise_map]
        refine List.Pairwise.imp_of_mem (R := (· ≠ ·)) (fun {x y} hx hy hxy e => hxy ?_) List.nodup_range
        have hx' := List.mem_range.mp hx
        have hy' := List.mem_range.mp hy
        obtain ⟨_, _, _, g1⟩ := wsel x
        obtain ⟨_, _, _, g2⟩ := wsel y
        simp only [sel, g1, g2, Option.getD_some] at e
        subst e
        obtain ⟨l1, q1⟩ := List.getElem?_eq_some_iff.mp g1
        obtain ⟨l2, q2⟩ := List.getElem?_eq_some_iff.mp g2
        have this := List.pairwise_iff_getElem.mp hnd
        rcases Nat.lt_trichotomy ((v / 3 + (x : Int)) % 4).toNat ((v / 3 + (y : Int)) % 4).toNat with q | q | q
        · exact absurd (by rw [q1, q2]) (this _ _ l1 l2 q)
        · omega
        · exact absurd (by rw [q1, q2]) (this _ _ l2 l1 q)
      have fin : ∀ (qs : List Str) (x2 x3 : Option W), qs.length ≤ 4 → (∀ x ∈ qs, x ∈ ws) → qs.Nodup → N [some (.d (.int c)), some (.d (.lst (ws.map D.str))), some (.d (.int v)), some (.loc 0), some (.d (.int k)), x2, x3] [C.lst (planD pl ++ [.tup [.str ws[k], .tup (qs.map D.str)]])] := fun qs x2 x3 q1 q2 q3 => by
        refine hN _ _ ⟨pl ++ [(ws[k], qs)], v, _, _, _, v0, v1, by simp [planD], rfl, by simp [e1], fun i p hp => ?_, fun p hp => ?_⟩
        · by_cases q : i < pl.length
          · rw [List.getElem?_append_left q] at hp; exact e2 i p hp
          · have hl := (List.getElem?_eq_some_iff.mp hp).1
            simp at hl
            obtain rfl : i = pl.length := by omega
            simp at hp
            subst hp
            subst e1
            simp
        · rcases List.mem_append.mp hp with hp | hp
          · exact e3 p hp
          · rw [List.mem_singleton.mp hp]; exact ⟨q1, q2, q3⟩
      obtain ⟨n3, e3, hn3⟩ : ∃ n : Nat, v % 3 = (n : Int) ∧ n ≤ 4 := ⟨(v % 3).toNat, by omega, by omega⟩
      obtain ⟨n5, e5, hn5⟩ : ∃ n : Nat, v % 5 = (n : Int) ∧ n ≤ 4 := ⟨(v % 5).toNat, by omega, by omega⟩
      simp [e3, e5, wk, lp]
      first
        | (refine ⟨by omega, ?_⟩; rw [rngW_nats n3]; have hn := hn3; revert hn; generalize n3 = n)
        | (refine ⟨by omega, ?_⟩; rw [rngW_nats n5]; have hn := hn5; revert hn; generalize n5 = n)
      intro hn
      refine lc_M (fun d => match d with | .int j => .str (sel j.toNat) | _ => .non) trivial (fun d hd A q => ?_) ?_
      · obtain ⟨j, _, rfl⟩ := List.mem_map.mp hd
        have := (hsel j).2
        simp [this]
        simpa using q
      · simp only [asDs_map]
        simp
        have := fin ((List.range n).map sel) (some (.d (.lst ((List.range n).map fun j => D.str (sel j))))) x3 (by simpa using hn) (fun x hx => by obtain ⟨j, _, rfl⟩ := List.mem_map.mp hx; exact (hsel j).1) (selN n hn)
        simp only [List.map_map] at this
        exact ⟨by omega, this⟩
  · exact h.elim
/-- the rows of a body so far; the blocks that are open -/
inductive Part (ws : List Str) (pl : List (Str × List Str)) : List String → List D → Prop
  | nil : Part ws pl [] []
  | row {st : List String} {rs : List D} {r : D} : Part ws pl st rs → Simple ws pl r → Part ws pl st (rs ++ [r])
  | opIf {st : List String} {rs : List D} {op : D} : Part ws pl st rs → OperD ws op → Part ws pl (st ++ ["if"]) (rs ++ [.tup [.str "if", op]])
  | opWhile {st : List String} {rs : List D} {op : D} : Part ws pl st rs → OperD ws op → Part ws pl (st ++ ["while"]) (rs ++ [.tup [.str "while", op]])
  | els {st : List String} {rs : List D} : Part ws pl (st ++ ["if"]) rs → Part ws pl (st ++ ["else"]) (rs ++ [.tup [.str "else"]])
  | cls {st : List String} {rs : List D} {w : String} : Part ws pl (st ++ [w]) rs → Part ws pl st (rs ++ [.tup [.str "end"]])
def stD (st : List String) : List D := st.map fun z => .str (Str.ofString z)
def lay1 (rs : List D) (st : List String) (mu : Sto) (i j : Nat) : Sto := (mu.set i (.lst rs)).set j (.lst (stD st))
@[simp] def p__law_lay : W → W → W → W → W → Sto → (W → Sto → Prop) → Prop := fun a b c d e mu Q => ∃ (i j : Nat) (pre rs : List D) (st : List String) (n : Int) (ws : List Str) (pl : List (Str × List Str)),
  a = .loc i ∧ b = .loc j ∧ c = .d (.int n) ∧ d = .d (.lst (ws.map D.str)) ∧ e = .d (.lst (planD pl)) ∧ i ≠ j ∧ mu[i]? = some (.lst (pre ++ rs)) ∧ mu[j]? = some (.lst (stD st)) ∧
  Part ws pl st rs ∧ pre.length + rs.length ≤ 1000 ∧ st.length ≤ 4 ∧ 6 ≤ ws.length ∧ (∀ w ∈ ws, goodW w) ∧ planOk pl ∧
  ∀ rs' st', Part ws pl st' rs' → rs'.length + st'.length ≤ rs.length + st.length + 3 → st'.length ≤ 4 → Q (.d .non) (lay1 (pre ++ rs') st' mu i j)
theorem set_same {A1 : Type} {x : A1} : ∀ {xs : List A1} {j : Nat}, xs[j]? = some x → xs.set j x = xs
  | [], _, _ => by simp
  | y :: ys, 0, h => by simp at h; simp [h]
  | y :: ys, j + 1, h => by simp at h; simp [set_same h]
theorem at_last {A1 : Type} (xs : List A1) (x : A1) : atI (xs ++ [x]) (-1) = some x := by
  unfold atI ixN
  rw [if_neg (by omega), if_pos (by simp; omega)]
  show (xs ++ [x])[_]? = _
  have : ((-1 : Int) + ((xs ++ [x]).length : Nat)).toNat = xs.length := by simp; omega
  rw [this]; simp
theorem intB {rh : Ev} {mu : Sto} (d : D) : Is (wC d) rh mu (.d d) := fun K hK => by simpa using hK
theorem varB {rh : Ev} {mu : Sto} {i : Nat} {w : W} (e : rh[i]? = some (some w)) : Is (wVar i) rh mu w := fun K hK => by simp [e]; exact hK
theorem appB {o e : WE} {V : EV} {rh : Ev} {mu : Sto} {l : Nat} {xs : List D} (d : D) (ho : Is o rh mu (.loc l)) (he : Is e rh mu (.d d)) (h1 : mu[l]? = some (.lst xs)) (hl : xs.length < sizeLine) (q : V.nx rh (mu.set l (.lst (xs ++ [d])))) : wDrop (wBM fApp o (wCons e wNil)) V rh mu := ho _ ⟨by simp [h1], he _ (by
  simp [h1]; exact ⟨hl, q⟩)⟩
theorem eqI {a : WE} {rh : Ev} {mu : Sto} {n z : Int} (ha : Is a rh mu (.d (.int n))) : IsB (wTest (wOp (fEq false) a (wC (.int z)))) rh mu (n == z) := fun K hK => ha _ (by simpa using hK)
theorem ifB {c : WT} {f g : WS} {V : EV} {rh : Ev} {mu : Sto} {b : Bool} (h : IsB c rh mu b) (h1 : b = true → f V rh mu) (h2 : b = false → g V rh mu) : wIfS c f g V rh mu := h _ (by cases b <;> simp at h1 h2 ⊢ <;> assumption)
theorem andB {f g : WT} {rh : Ev} {mu : Sto} {a b : Bool} (h : IsB f rh mu a) (h2 : IsB g rh mu b) : IsB (wAnd f g) rh mu (a && b) := fun K hK => h _ (by cases a <;> simp at hK ⊢; exact hK; exact h2 _ hK)
theorem andB' {f g : WT} {rh : Ev} {mu : Sto} {a b : Bool} (h : IsB f rh mu a) (h2 : a = true → IsB g rh mu b) : IsB (wAnd f g) rh mu (a && b) := fun K hK => h _ (by cases a <;> simp at hK h2 ⊢; exact hK; exact h2 _ hK)
theorem div_is {a : WE} {rh : Ev} {mu : Sto} {n z : Int} (hz : 0 < z) (hl : z < 1000000) (ha : Is a rh mu (.d (.int n))) : Is (wOp (fI CD gDiv) a (wC (.int z))) rh mu (.d (.int (n / z))) := fun K hK => ha _ (by
  have cd : CD n z := CD_of (by omega) (by omega)
  simp only [wC, fI]
  exact ⟨cd, by rw [gDiv_pos hz]; exact hK⟩)
theorem isB_of {c : WT} {rh : Ev} {mu : Sto} {b b' : Bool} (h : IsB c rh mu b) (e : b = b') : IsB c rh mu b' := e ▸ h
theorem mod_is {a : WE} {rh : Ev} {mu : Sto} {n z : Int} (hz : 0 < z) (ha : Is a rh mu (.d (.int n))) : Is (wOp (fI CR0 gMod) a (wC (.int z))) rh mu (.d (.int (n % z))) := fun K hK => ha _ (by
  simp only [wC, fI, CR0]
  exact ⟨by omega, by rw [gMod_pos hz]; exact hK⟩)

theorem tupI {g : WA} {rh : Ev} {mu : Sto} (ds : List D) (hd : ds.length ≤ 10) (hg : ∀ K : List W → Sto → Prop, K (ds.map W.d) mu → g rh mu K) : Is (wTup g) rh mu (.d (.tup ds)) := fun K hK => hg _ (by
  simp only [mkTup, asDs_map]
  exact ⟨by rw [sizeLine_eq]; simp; omega, hK⟩)
theorem oper_to {ws : List Str} {a b : WE} {rh : Ev} {mu : Sto} {K : W → Sto → Prop} {n : Int} (h0 : 0 ≤ n) (h1 : n ≤ 100000000000000) (hl : 4 ≤ ws.length) (ha : Is a rh mu (.d (.int n))) (hb : Is b rh mu (.d (.lst (ws.map D.str)))) (h : ∀ d, OperD ws d → K (.d d) mu) : wCallP false sp__law_operand [] (wCons a (wCons b wNil)) rh mu K := ha _ (hb _ (by
  simp only [snaps, snap, wNil]
  refine ⟨ws, rfl, by omega, by omega, hl, fun d hd => ?_⟩
  have := h d hd
  simpa using this))
theorem simple_to {ws : List Str} {pl : List (Str × List Str)} {a b c : WE} {rh : Ev} {mu : Sto} {K : W → Sto → Prop} {n : Int} (h0 : 0 ≤ n) (h1 : n ≤ 100000000000000) (hl : 6 ≤ ws.length) (hg : ∀ w ∈ ws, goodW w) (hp : planOk pl) (ha : Is a rh mu (.d (.int n))) (hb : Is b rh mu (.d (.lst (ws.map D.str)))) (hc : Is c rh mu (.d (.lst (planD pl)))) (h : ∀ r, Simple ws pl r → K (.d r) mu) : wCallP false sp__law_simple [] (wCons a (wCons b (wCons c wNil))) rh mu K := ha _ (hb _ (hc _ (by
  simp only [snaps, snap, wNil]
  refine ⟨ws, pl, rfl, rfl, h0, by omega, hl, hg, hp, fun r mu' hr => ?_⟩
  have := h r hr
  simpa using this)))
def w__law_lay : WS := (wSeq (wAsg (wOp (fI CR0 gMod) (wOp (fMul false) (wOp (fI CD gDiv) (wVar 2) (wC (.int 8))) (wC (.int 48271))) (wC (.int 2147483647))) (wgName 5))
    (wSeq (wAsg (wOp (fI CR0 gMod) (wVar 2) (wC (.int 8))) (wgName 6))
    (wIfS (wAnd (wTest (wOp (fEq false) (wVar 6) (wC (.int 0)))) (wTest (wOp (fB0 fun i j => decide (i < j)) (wCall fLen (wCons (wVar 1) wNil)) (wC (.int 4))))) (wSeq (wDrop (wBM fApp (wVar 0) (wCons (wTup (wCons (wC (.str "if")) (wCons (wCallP false sp__law_operand [] (wCons (wVar 5) (wCons (wVar 3) wNil))) wNil))) wNil)))
    (wDrop (wBM fApp (wVar 1) (wCons (wC (.str "if")) wNil)))) (wIfS (wAnd (wTest (wOp (fEq false) (wVar 6) (wC (.int 1)))) (wTest (wOp (fB0 fun i j => decide (i < j)) (wCall fLen (wCons (wVar 1) wNil)) (wC (.int 4))))) (wSeq (wDrop (wBM fApp (wVar 1) (wCons (wC (.str "while")) wNil)))
    (wIfS (wTest (wOp (fEq false) (wOp (fI CR0 gMod) (wVar 5) (wC (.int 3))) (wC (.int 0)))) (wDrop (wBM fApp (wVar 0) (wCons (wTup (wCons (wC (.str "while")) (wCons (wCallP false sp__law_operand [] (wCons (wOp (fI CD gDiv) (wVar 5) (wC (.int 3))) (wCons (wVar 3) wNil))) wNil))) wNil))) (wSeq (wAsg (wOp fIx (wVar 3) (wOp (fI CR0 gMod) (wOp (fI CD gDiv) (wVar 5) (wC (.int 3))) (wC (.int 4)))) (wgName 7))
    (wSeq (wDrop (wBM fApp (wVar 0) (wCons (wTup (wCons (wC (.str "while")) (wCons (wVar 7) wNil))) wNil)))
    (wDrop (wBM fApp (wVar 0) (wCons (wTup (wCons (wC (.str "do")) (wCons (wVar 7) (wCons (wVar 7) (wCons (wC (.str "minus")) (wCons (wC (.int 1)) wNil)))))) wNil))))))) (wIfS (wAnd (wTest (wOp (fEq false) (wVar 6) (wC (.int 2)))) (wAnd (wTest (wOp (fEq true) (wVar 1) (wLst false wNil))) (wTest (wOp (fEq false) (wOp fIx (wVar 1) (wUn (fun i => -i) (wC (.int 1)))) (wC (.str "if")))))) (wSeq (wDrop (wBM fApp (wVar 0) (wCons (wTup (wCons (wC (.str "else")) wNil)) wNil)))
    (wAsg (wC (.str "else")) (wgSub fSetL (wVar 1) (wUn (fun i => -i) (wC (.int 1)))))) (wIfS (wAnd (wTest (wOp (fEq false) (wVar 6) (wC (.int 3)))) (wTest (wOp (fEq true) (wVar 1) (wLst false wNil)))) (wSeq (wDrop (wBM fApp (wVar 0) (wCons (wTup (wCons (wC (.str "end")) wNil)) wNil)))
    (wDrop (wBM fPop (wVar 1) wNil))) (wDrop (wBM fApp (wVar 0) (wCons (wCallP false sp__law_simple [] (wCons (wVar 5) (wCons (wVar 3) (wCons (wVar 4) wNil)))) wNil)))))))))
@[simp] def sp__law_lay : VSp := sS5 p__law_lay
theorem v__law_lay : ∀ a b c d e mu Q, p__law_lay a b c d e mu Q → w__law_lay (evr Q) (startE ["_law_rows", "_law_stack", "_law_cell", "_law_words_here", "_law_later", "_law_number", "_law_move", "_law_name"] [a, b, c, d, e]) mu := by
  rintro _ _ _ _ _ mu Q ⟨i, j, pre, rs, st, n, ws, pl, rfl, rfl, rfl, rfl, rfl, hij, hi, hj, hp, hrl, hsl, h6, hg, hpl, h⟩
  have li := (List.getElem?_eq_some_iff.mp hi).1
  have lj := (List.getElem?_eq_some_iff.mp hj).1
  have sz : ∀ m : Nat, m ≤ 10000 → m < sizeLine := fun m hm => by rw [sizeLine_eq]; omega
  have hs1 : ∀ c, (mu.set i c)[j]? = some (C.lst (stD st)) := fun c => by rw [List.getElem?_set_ne hij]; exact hj
  have app : ∀ z : String, stD st ++ [.str (Str.ofString z)] = stD (st ++ [z]) := fun z => by simp [stD]
  have same : ∀ rs', lay1 rs' st mu i j = mu.set i (.lst rs') := fun rs' => set_same (hs1 _)
  have set2 : ∀ (c c' : C), (mu.set i c).set i c' = mu.set i c' := fun c c' => List.set_set ..
  unfold w__law_lay
  obtain ⟨u, eu, u0, u1⟩ : ∃ u : Int, n / 8 * 48271 % 2147483647 = u ∧ 0 ≤ u ∧ u < 2147483647 := ⟨_, rfl, Int.emod_nonneg _ (by decide), Int.emod_lt_of_pos _ (by decide)⟩
  refine seq_to [some (.loc i), some (.loc j), some (.d (.int n)), some (.d (.lst (ws.map D.str))), some (.d (.lst (planD pl))), some (.d (.int u)), none, none] mu (fun K hK => by simp [eu]; exact hK) ?_
  clear eu
  obtain ⟨k, ek⟩ : ∃ k : Int, n % 8 = k := ⟨_, rfl⟩
  refine seq_to [some (.loc i), some (.loc j), some (.d (.int n)), some (.d (.lst (ws.map D.str))), some (.d (.lst (planD pl))), some (.d (.int u)), some (.d (.int k)), none] mu (fun K hK => by simp [ek]; exact hK) ?_
  clear ek
  obtain ⟨x, hx, ew⟩ := at_word (ws := ws) (i := u / 3 % 4) (n := 4) (by omega) (by omega) (by omega)
  generalize hr0 : [some (W.loc i), some (.loc j), some (.d (.int n)), some (.d (.lst (ws.map D.str))), some (.d (.lst (planD pl))), some (.d (.int u)), some (.d (.int k)), none] = rh0 at *
  have v0 : rh0[0]? = some (some (.loc i)) := by rw [← hr0]; rfl
  have v1 : rh0[1]? = some (some (.loc j)) := by rw [← hr0]; rfl
  have v3 : rh0[3]? = some (some (.d (.lst (ws.map D.str)))) := by rw [← hr0]; rfl
  have v4 : rh0[4]? = some (some (.d (.lst (planD pl)))) := by rw [← hr0]; rfl
  have v5 : rh0[5]? = some (some (.d (.int u))) := by rw [← hr0]; rfl
  have v6 : rh0[6]? = some (some (.d (.int k))) := by rw [← hr0]; rfl
  have ix : Is (wOp fIx (wVar 3) (wOp (fI CR0 gMod) (wOp (fI CD gDiv) (wVar 5) (wC (.int 3))) (wC (.int 4)))) rh0 (mu.set j (.lst (stD st ++ [.str (Str.ofString "while")]))) (.d (.str x)) := ix_lst (varB v3) (mod_is (by decide) (div_is (by decide) (by decide) (varB v5))) ew
  have lst : IsB (wTest (wOp (fB0 fun i j => decide (i < j)) (wCall fLen (wCons (wVar 1) wNil)) (wC (.int 4)))) rh0 mu (decide (st.length < 4)) := fun K hK => by
    simp only [wTest, wOp, wCall, wCons, wNil]
    refine varB v1 _ ?_
    simp [hj, stD]
    rw [show decide ((st.length : Int) < 4) = decide (st.length < 4) from decide_eq_decide.mpr (by omega)]
    exact hK
  have nst : IsB (wTest (wOp (fEq true) (wVar 1) (wLst false wNil))) rh0 mu (!st.isEmpty) := fun K hK => by
    simp only [wTest, wOp]
    refine varB v1 _ ?_
    have e : deqvs (stD st) [] = st.isEmpty := by rw [deqvs_e]; simp [stD]
    have dst : ddeps (stD st) ≤ 63 := ddeps_le fun x hx => by
      obtain ⟨z, _, rfl⟩ := List.mem_map.mp hx; simp
    simp [sizeLine_eq, hj, e]
    exact ⟨by omega, hK⟩
  -- if
  by_cases c1 : k = 0 ∧ st.length < 4
  · refine ifS_T (isB_of (andB (eqI (varB v6)) lst) (by simp [c1.1, c1.2])) ?_
    refine seq_R (fun rh m => rh = rh0 ∧ ∃ d, OperD ws d ∧ m = mu.set i (.lst (pre ++ rs ++ [.tup [.str (Str.ofString "if"), d]]))) (fun K hK => ?_) ?_
    · simp only [wDrop, wBM]
      refine varB v0 _ ⟨by simp [hi], ?_⟩
      simp only [wTup, wCons, wNil]
      refine intB _ _ (oper_to (n := u) (by omega) (by omega) (by omega) (varB v5) (varB v3) fun d hd => ?_)
      simp [hi, sizeLine_eq]
      exact ⟨by omega, hK _ _ ⟨rfl, d, hd, by simp⟩⟩
    · rintro _ _ ⟨rfl, d, hd, rfl⟩
      refine appB (l := j) (xs := stD st) (.str (Str.ofString "if")) (varB v1) (intB _) (hs1 _) (sz _ (by simp [stD]; omega)) ?_
      rw [app]
      have := h (rs ++ [.tup [.str (Str.ofString "if"), d]]) (st ++ ["if"]) (.opIf hp hd) (by simp; omega) (by simp; omega)
      simpa [lay1] using this
  refine ifS_F (isB_of (andB (eqI (varB v6)) lst) (by simp; simpa using c1)) ?_
  -- while
  by_cases c2 : k = 1 ∧ st.length < 4
  · refine ifS_T (isB_of (andB (eqI (varB v6)) lst) (by simp [c2.1, c2.2])) ?_
    have hm : (mu.set j (.lst (stD st ++ [.str (Str.ofString "while")])))[i]? = some (.lst (pre ++ rs)) := by rw [List.getElem?_set_ne (Ne.symm hij)]; exact hi
    have mv : ∀ rs', (mu.set j (.lst (stD st ++ [.str (Str.ofString "while")]))).set i (.lst (pre ++ rs')) = lay1 (pre ++ rs') (st ++ ["while"]) mu i j := fun rs' => by
      unfold lay1
      rw [List.set_comm _ _ hij, app]
    refine seq_to rh0 (mu.set j (.lst (stD st ++ [.str (Str.ofString "while")]))) (fun K hK => appB (l := j) (xs := stD st) (.str (Str.ofString "while")) (varB v1) (intB _) hj (sz _ (by simp [stD]; omega)) hK) ?_
    by_cases c3 : u % 3 = 0
    · refine ifS_T (isB_of (eqI (mod_is (by decide) (varB v5))) (by simpa using c3)) ?_
      simp only [wDrop, wBM]
      refine varB v0 _ ⟨by simp [hm], ?_⟩
      simp only [wTup, wCons, wNil]
      refine intB _ _ (oper_to (n := u / 3) (by omega) (by omega) (by omega) (div_is (by decide) (by decide) (varB v5)) (varB v3) fun d hd => ?_)
      have := h (rs ++ [.tup [.str (Str.ofString "while"), d]]) (st ++ ["while"]) (.opWhile hp hd) (by simp; omega) (by simp; omega)
      rw [← mv] at this
      simp [hm, sizeLine_eq]
      exact ⟨by omega, by simpa using this⟩
    · refine ifS_F (isB_of (eqI (mod_is (by decide) (varB v5))) (by simpa using c3)) ?_
      refine seq_to (rh0.set 7 (some (.d (.str x)))) _ (fun K hK => asg_to _ ix hK) ?_
      have w0 : (rh0.set 7 (some (.d (.str x))))[0]? = some (some (.loc i)) := by rw [← hr0]; rfl
      have w7 : (rh0.set 7 (some (.d (.str x))))[7]? = some (some (.d (.str x))) := by rw [← hr0]; rfl
      generalize rh0.set 7 (some (.d (.str x))) = rh1 at *
      have q1 : Part ws pl (st ++ ["while"]) (rs ++ [.tup [.str (Str.ofString "while"), .str x]]) := .opWhile hp (.inl ⟨x, hx, rfl⟩)
      refine seq_to rh1 (lay1 (pre ++ (rs ++ [D.tup [.str (Str.ofString "while"), .str x]])) (st ++ ["while"]) mu i j) (fun K hK => appB (l := i) (xs := pre ++ rs) _ (varB w0) (tupI [.str (Str.ofString "while"), .str x] (by simp) fun K hK => intB _ _ (varB w7 _ hK)) hm (sz _ (by simp; omega)) (by rw [List.append_assoc, mv]; exact hK)) ?_
      have l1 : (lay1 (pre ++ (rs ++ [D.tup [.str (Str.ofString "while"), .str x]])) (st ++ ["while"]) mu i j)[i]? = some (.lst (pre ++ (rs ++ [D.tup [.str (Str.ofString "while"), .str x]]))) := by
        unfold lay1
        rw [List.getElem?_set_ne (Ne.symm hij), List.getElem?_set_self li]
      refine appB (l := i) _ (varB w0) (tupI [.str (Str.ofString "do"), .str x, .str x, .str (Str.ofString "minus"), .int 1] (by simp) fun K hK => intB _ _ (varB w7 _ (varB w7 _ hK))) l1 (sz _ (by simp; omega)) ?_
      have q2 : Part ws pl (st ++ ["while"]) ((rs ++ [.tup [.str (Str.ofString "while"), .str x]]) ++ [.tup [.str (Str.ofString "do"), .str x, .str x, .str (Str.ofString "minus"), .int 1]]) := .row q1 (.doo (o := "minus") hx (.inl ⟨x, hx, rfl⟩) (by decide) (.inr ⟨1, by omega, by omega, rfl⟩))
      have := h _ _ q2 (by simp; omega) (by simp; omega)
      unfold lay1 at this ⊢
      rw [List.set_comm _ _ (Ne.symm hij), set2]
      simpa using this
  refine ifS_F (isB_of (andB (eqI (varB v6)) lst) (by simp; simpa using c2)) ?_
  -- a row
  have tail : (wDrop (wBM fApp (wVar 0) (wCons (wCallP false sp__law_simple [] (wCons (wVar 5) (wCons (wVar 3) (wCons (wVar 4) wNil)))) wNil))) (evr Q) rh0 mu := by
    simp only [wDrop, wBM]
    refine varB v0 _ ⟨by simp [hi], ?_⟩
    refine simple_to (n := u) (by omega) (by omega) h6 hg hpl (varB v5) (varB v3) (varB v4) fun r hr => ?_
    have := h (rs ++ [r]) st (.row hp hr) (by simp; omega) hsl
    rw [same] at this
    simp [hi, sizeLine_eq]
    exact ⟨by omega, by simpa using this⟩
  rcases List.eq_nil_or_concat st with hz | ⟨s0, z, hz⟩
  · subst hz
    refine ifS_F (isB_of (andB (eqI (varB v6)) (b := false) fun K hK => ?_) (by simp)) ?_
    · have := andB' (g := wTest (wOp (fEq false) (wOp fIx (wVar 1) (wUn (fun i => -i) (wC (.int 1)))) (wC (.str "if")))) nst (b := false) (fun z => by simp at z)
      exact this _ hK
    refine ifS_F (isB_of (andB (eqI (varB v6)) nst) (by simp)) ?_
    exact tail
  rw [List.concat_eq_append] at hz
  subst hz
  have lz : atI (stD (s0 ++ [z])) (-1) = some (.str (Str.ofString z)) := by simp only [stD, List.map_append, List.map_cons, List.map_nil]; exact at_last _ _
  have isif : IsB (wTest (wOp (fEq false) (wOp fIx (wVar 1) (wUn (fun i => -i) (wC (.int 1)))) (wC (.str "if")))) rh0 mu (z == "if") := fun K hK => by
    simp only [wTest, wOp]
    refine varB v1 _ ?_
    have lz2 : atI ((stD (s0 ++ [z])).map W.d) (-1) = some (.d (.str (Str.ofString z))) := atI_map lz
    simp [hj, lz2]
    exact hK
  have cond := andB (eqI (z := 2) (varB (mu := mu) v6)) (andB nst isif)
  have ls0 : (stD s0).length = s0.length := by simp [stD]
  have ix1 : ixN (s0.length + 1) (-1) = some s0.length := by
    unfold ixN; rw [if_neg (by omega), if_pos (by omega)]; congr 1; omega
  have sset : ∀ y : D, (stD (s0 ++ [z])).set s0.length y = stD s0 ++ [y] := fun y => by
    have e0 : stD (s0 ++ [z]) = stD s0 ++ [.str (Str.ofString z)] := by simp [stD]
    rw [e0, List.set_append_right _ _ (by rw [ls0]; exact Nat.le_refl _), ls0, Nat.sub_self]; rfl
  by_cases c3 : k = 2 ∧ z = "if"
  · refine ifS_T (isB_of cond (by simp [c3.1, c3.2])) ?_
    obtain ⟨_, rfl⟩ := c3
    refine seq_to rh0 (mu.set i (.lst (pre ++ rs ++ [.tup [.str (Str.ofString "else")]]))) (fun K hK => appB (l := i) (xs := pre ++ rs) _ (varB v0) (tupI [.str (Str.ofString "else")] (by simp) fun K hK => intB _ _ hK) hi (sz _ (by simp; omega)) hK) ?_
    simp only [wAsg]
    refine intB _ _ ?_
    simp only [wgSub]
    refine varB v1 _ ?_
    have hs := hs1 (.lst (pre ++ rs ++ [.tup [.str (Str.ofString "else")]]))
    have l1 : (stD (s0 ++ ["if"])).length = s0.length + 1 := by simp [stD]
    have := h (rs ++ [.tup [.str (Str.ofString "else")]]) (s0 ++ ["else"]) (.els hp) (by simp; omega) (by simp at hsl ⊢; omega)
    have e2 : stD (s0 ++ ["else"]) = stD s0 ++ [.str (Str.ofString "else")] := by simp [stD]
    unfold lay1 at this
    rw [e2] at this
    simp at hs
    simp [hs, l1, ix1, sset]
    simpa using this
  refine ifS_F (isB_of cond (by
    cases q : (z == "if") with
    | false => simp
    | true =>
      have : z = "if" := by simpa using q
      have : k ≠ 2 := fun e => c3 ⟨e, this⟩
      simp [this])) ?_
  by_cases c4 : k = 3
  · refine ifS_T (isB_of (andB (eqI (varB v6)) nst) (by simp [c4])) ?_
    refine seq_to rh0 (mu.set i (.lst (pre ++ rs ++ [.tup [.str (Str.ofString "end")]]))) (fun K hK => appB (l := i) (xs := pre ++ rs) _ (varB v0) (tupI [.str (Str.ofString "end")] (by simp) fun K hK => intB _ _ hK) hi (sz _ (by simp; omega)) hK) ?_
    have hs := hs1 (.lst (pre ++ rs ++ [.tup [.str (Str.ofString "end")]]))
    have := h (rs ++ [.tup [.str (Str.ofString "end")]]) s0 (.cls hp) (by simp; omega) (by simp at hsl ⊢; omega)
    simp only [wDrop, wBM]
    have e2 : stD (s0 ++ [z]) = stD s0 ++ [.str (Str.ofString z)] := by simp [stD]
    rw [e2] at hs
    simp at hs
    refine varB v1 _ ⟨by simp [hs], ?_⟩
    unfold lay1 at this
    simp [hs]
    simpa using this
  refine ifS_F (isB_of (andB (eqI (varB v6)) nst) (by simp [c4])) ?_
  exact tail
end VL
namespace VL
open PySem PySem.Spec PyProof.Rows L2 RZ
/-- the rows of one def -/
inductive FunRows (ws : List Str) (p : Str × List Str) (later : List (Str × List Str)) : List D → Prop
  | mk {body : List D} {op : D} : Part ws later [] body → OperD ws op → FunRows ws p later ([.tup [.str "def", .str p.1, .tup (p.2.map D.str)]] ++ body ++ [.tup [.str "give", op]])
  | sk {rs : List D} : FunRows ws p later rs → FunRows ws p later (rs ++ [.tup [.str "skip"]])
inductive Funs (ws : List Str) (pl : List (Str × List Str)) : Nat → List D → Prop
  | nil : Funs ws pl 0 []
  | next {k : Nat} {rs fr : List D} {p : Str × List Str} : Funs ws pl k rs → pl[k]? = some p → FunRows ws p (pl.drop (k + 1)) fr → Funs ws pl (k + 1) (rs ++ fr)
@[simp] def p__law_program : D → D → D → (W → Sto → Prop) → Prop := fun a b c Q => match a, b, c with
  | .lst cs, .lst ds, .lst ls => ∃ (ns : List Int) (ws : List Str) (pl : List (Str × List Str)), cs = ns.map D.int ∧ ds = ws.map D.str ∧ ls = planD pl ∧ ns.length ≤ 1000 ∧ 6 ≤ ws.length ∧ (∀ w ∈ ws, goodW w) ∧ PlanIn ws pl ∧
    ∀ rs mu, Funs ws pl pl.length rs → rs.length ≤ 60 → (∀ c ∈ mu, cflat c = true) → Q (.loc 0) (.lst rs :: mu)
  | _, _, _ => False
def w__law_program : WS := (wSeq (wAsg (wLst true wNil) (wgName 3))
    (wSeq (wFor (wRng1 (wCons (wCall fLen (wCons (wVar 2) wNil)) wNil)) (wgName 4) (wSeq (wDrop (wBM fApp (wVar 3) (wCons (wTup (wCons (wC (.str "def")) (wCons (wOp fIx (wOp fIx (wVar 2) (wVar 4)) (wC (.int 0))) (wCons (wOp fIx (wOp fIx (wVar 2) (wVar 4)) (wC (.int 1))) wNil)))) wNil)))
    (wSeq (wAsg (wLst true wNil) (wgName 5))
    (wSeq (wAsg (wOp (fI CD gDiv) (wOp (fMul false) (wVar 4) (wCall fLen (wCons (wVar 0) wNil))) (wCall fLen (wCons (wVar 2) wNil))) (wgName 6))
    (wSeq (wAsg (wSl false (wVar 0) (wPart (wVar 6)) (wPart (wOp (fI CD gDiv) (wOp (fMul false) (wOp (fAdd false) (wVar 4) (wC (.int 1))) (wCall fLen (wCons (wVar 0) wNil))) (wCall fLen (wCons (wVar 2) wNil))))) (wgName 7))
    (wSeq (wFor (wSeqI (wVar 7)) (wgName 8) (wIfS (wTest (wOp (fB0 fun i j => decide (i < j)) (wOp (fAdd false) (wCall fLen (wCons (wVar 3) wNil)) (wCall fLen (wCons (wVar 5) wNil))) (wOp (fI0 fun i j => i - j) (wC (.int 56)) (wOp (fMul false) (wC (.int 3)) (wOp (fI0 fun i j => i - j) (wOp (fI0 fun i j => i - j) (wCall fLen (wCons (wVar 2) wNil)) (wC (.int 1))) (wVar 4)))))) (wDrop (wCallS sp__law_lay [] (wCons (wVar 3) (wCons (wVar 5) (wCons (wVar 8) (wCons (wVar 1) (wCons (wSl false (wVar 2) (wPart (wOp (fAdd false) (wVar 4) (wC (.int 1)))) wNoPart) wNil))))))) wNext))
    (wSeq (wFor (wSeqI (wVar 5)) (wgName 9) (wDrop (wBM fApp (wVar 3) (wCons (wTup (wCons (wC (.str "end")) wNil)) wNil))))
    (wSeq (wDrop (wBM fApp (wVar 3) (wCons (wTup (wCons (wC (.str "give")) (wCons (wCallP false sp__law_operand [] (wCons (wOp (fI CR0 gMod) (wCall fSum (wCons (wVar 7) wNil)) (wOp (fI CPow fun i j => i ^ j.toNat) (wC (.int 10)) (wC (.int 6)))) (wCons (wVar 1) wNil))) wNil))) wNil)))
    (wIfS (wAnd (wTest (wOp (fEq false) (wOp (fI CR0 gMod) (wVar 4) (wC (.int 2))) (wC (.int 0)))) (wTest (wOp (fEq false) (wOp (fI CR0 gMod) (wCall fLen (wCons (wVar 7) wNil)) (wC (.int 2))) (wC (.int 1))))) (wDrop (wBM fApp (wVar 3) (wCons (wTup (wCons (wC (.str "skip")) wNil)) wNil))) wNext)))))))))
    (wRet (wVar 3))))
@[simp] def sp__law_program : PSp := sp3 p__law_program
theorem cut_from {A1 : Type} (xs : List A1) (k : Nat) : cutL xs (some (k : Int)) none = xs.drop k := by
  unfold cutL
  rw [HT.sIx_nat, HT.sIx_none]
  by_cases h : k ≤ xs.length
  · rw [Nat.min_eq_left h, List.take_of_length_le (by simp)]
  · rw [Nat.min_eq_right (by omega), List.drop_length, List.drop_of_length_le (by omega)]; simp
theorem planD_drop (pl : List (Str × List Str)) (k : Nat) : (planD pl).drop k = planD (pl.drop k) := by simp [planD, List.map_drop]
theorem stD_flat : ∀ st : List String, dflats (stD st) = true
  | [] => rfl
  | z :: r => by have := stD_flat r; simpa [stD] using this
theorem v__law_program : ∀ a b c Q, p__law_program a b c Q → w__law_program (evr Q) (startE ["_law_cells", "_law_words_here", "_law_plan_here", "_law_rows", "_law_k", "_law_stack", "_law_begin", "_law_share", "_law_cell", "_law_word"] [.d a, .d b, .d c]) [] := by
  intro a b c Q h
  unfold p__law_program at h
  split at h
  · obtain ⟨ns, ws, pl, rfl, rfl, rfl, hn, h6, hg, hpl, h⟩ := h
    have lp : (planD pl).length = pl.length := by simp [planD]
    have hf := hpl.few
    have hp1 := hpl.pos
    simp [w__law_program, lp]
    refine ⟨by omega, forL_rng (fun k rh mu => ∃ (rs : List D) (rest : Sto) (x1 x2 x3 x4 x5 x6 : Option W), mu = .lst rs :: rest ∧ rh = [some (.d (.lst (ns.map D.int))), some (.d (.lst (ws.map D.str))), some (.d (.lst (planD pl))), some (.loc 0), x1, x2, x3, x4, x5, x6] ∧
      Funs ws pl k rs ∧ rs.length + 3 * pl.length ≤ 60 + 3 * k ∧ ∀ c ∈ rest, cflat c = true) (fun _ _ _ _ => trivial) ?_ ?_ ⟨[], [], _, _, _, _, _, _, rfl, rfl, .nil, by simp; omega, by simp⟩⟩
    · rintro _ _ ⟨rs, rest, x1, x2, x3, x4, x5, x6, rfl, rfl, hF, hl, hc⟩
      simp
      exact h _ _ hF (by omega) hc
    · rintro k hk _ _ ⟨rs, rest, x1, x2, x3, x4, x5, x6, rfl, rfl, hF, hl, hc⟩ N hN
      obtain ⟨p, ep⟩ : ∃ p, pl[k]? = some p := ⟨_, List.getElem?_eq_getElem hk⟩
      have ak : atI (planD pl) (k : Int) = some (.tup [.str p.1, .tup (p.2.map D.str)]) := by
        rw [at_nat (by omega) (by rw [lp]; omega)]; simp [planD, ep]
      have cm1 : CM (k : Int) ns.length := CM_r (by omega) (by omega)
      have cm2 : CM ((k : Int) + 1) ns.length := CM_r (by omega) (by omega)
      have cd1 : ∀ x : Int, CD x (pl.length : Int) := fun x => CD_of (by omega) (by omega)
      have rl : rs.length < 16777216 := by omega
      have hm1 : ∀ (a c : C), (a :: (rest ++ [c]))[rest.length + 1]? = some c := fun a c => by simp
      have hm2 : ∀ (a c c' : C), (a :: (rest ++ [c])).set (rest.length + 1) c' = a :: (rest ++ [c']) := fun a c c' => by simp
      simp [lp, ak, sizeLine_eq, rl, cm1, cm2, cd1]
      have sl := cutL_len ns (some (gDiv ((k : Int) * ns.length) pl.length)) (some (gDiv (((k : Int) + 1) * ns.length) pl.length))
      generalize cutL ns (some (gDiv ((k : Int) * ns.length) pl.length)) (some (gDiv (((k : Int) + 1) * ns.length) pl.length)) = sh at *
      generalize (gDiv ((k : Int) * ns.length) pl.length) = u1
      generalize (gDiv (((k : Int) + 1) * ns.length) pl.length) = u2
      refine forL_inv (fun rh mu => ∃ (body : List D) (st : List String) (x6 x7 : Option W), mu = .lst (rs ++ [.tup [.str (Str.ofString "def"), .str p.1, .tup (p.2.map D.str)]] ++ body) :: (rest ++ [.lst (stD st)]) ∧
        rh = [some (W.d (D.lst (List.map D.int ns))), some (W.d (D.lst (List.map D.str ws))), some (W.d (D.lst (planD pl))), some (W.loc 0), some (W.d (D.int ↑k)), some (W.loc (List.length rest + 1)), some (W.d (D.int u1)), some (.d (.lst (sh.map D.int))), x6, x7] ∧
        Part ws (pl.drop (k + 1)) st body ∧ st.length ≤ 4 ∧ rs.length + 1 + body.length + st.length + 3 * pl.length ≤ 61 + 3 * k) (fun _ _ _ => trivial) ?_ ?_ ⟨[], [], _, _, by simp [stD], rfl, .nil, by simp, by simp; omega⟩
      · rintro _ _ ⟨body, st, x6, x7, rfl, rfl, hP, hst, hL⟩
        simp [hm1, hm2]
        refine forL_rem (fun items rh mu => ∃ (st' : List String) (body' : List D) (x7 : Option W), items.length = st'.length ∧ mu = .lst (rs ++ .tup [.str (Str.ofString "def"), .str p.1, .tup (p.2.map D.str)] :: body') :: (rest ++ [.lst (stD st)]) ∧
          rh = [some (W.d (D.lst (List.map D.int ns))), some (W.d (D.lst (List.map D.str ws))), some (W.d (D.lst (planD pl))), some (W.loc 0), some (W.d (D.int ↑k)), some (W.loc (List.length rest + 1)), some (W.d (D.int u1)), some (.d (.lst (sh.map D.int))), x6, x7] ∧
          Part ws (pl.drop (k + 1)) st' body' ∧ body'.length + st'.length = body.length + st.length) ?_ ?_ ?_ ⟨st, body, _, by simp [stD], rfl, rfl, hP, rfl⟩
        · rintro _ _ _ ⟨st', body', x7, _, rfl, _⟩
          simp [hm1]
        · rintro _ _ ⟨st', body', x7, e, rfl, rfl, hP', hL'⟩
          have : st' = [] := List.length_eq_zero_iff.mp e.symm
          subst this
          have q1 : rs.length + (body'.length + 1) < 16777216 := by simp at hL'; omega
          have fin : ∀ (fr : List D) (x7 : Option W), FunRows ws p (pl.drop (k + 1)) fr → fr.length ≤ body'.length + 3 → N [some (W.d (D.lst (List.map D.int ns))), some (W.d (D.lst (List.map D.str ws))), some (W.d (D.lst (planD pl))), some (W.loc 0), some (W.d (D.int ↑k)), some (W.loc (List.length rest + 1)), some (W.d (D.int u1)), some (.d (.lst (sh.map D.int))), x6, x7]
              (.lst (rs ++ fr) :: (rest ++ [.lst (stD st)])) := fun fr x7 hfr hle => by
            refine hN _ _ ⟨_, _, _, _, _, _, _, _, rfl, rfl, .next hF ep hfr, ?_, fun c hm => ?_⟩
            · simp at hL' ⊢; omega
            · rcases List.mem_append.mp hm with hm | hm
              · exact hc c hm
              · rw [List.mem_singleton.mp hm]
                show dflats (stD st) = true
                exact stD_flat st
          simp only [List.length_nil, Nat.add_zero] at hL'
          have q2 : rs.length + (body'.length + 1) + 1 < 16777216 := by omega
          have q2' : rs.length + (body'.length + 1 + 1) < 16777216 := by omega
          simp [sizeLine_eq, q1]
          refine sum_ints ?_
          simp [q1, q2, q2']
          have gp : gMod sh.sum 1000000 = sh.sum % 1000000 := gMod_pos (by decide)
          refine ⟨by omega, by omega, by omega, fun op hop => ?_⟩
          have f1 := FunRows.mk (p := p) hP' hop
          refine ite_of (fun c => ite_of (fun c2 => ?_) (fun c2 => ?_)) (fun c => ?_)
          · simpa using fin _ x7 f1.sk (by simp)
          · simpa using fin _ x7 f1 (by simp)
          · simpa using fin _ x7 f1 (by simp)
        · rintro x items _ _ ⟨st', body', x7, e, rfl, rfl, hP', hL'⟩ N' hN'
          rcases List.eq_nil_or_concat st' with rfl | ⟨s0, z, hz⟩
          · simp at e
          · rw [List.concat_eq_append] at hz
            subst hz
            simp at hL' e
            have q1 : rs.length + (body'.length + 1) < 16777216 := by omega
            simp [sizeLine_eq, q1]
            exact hN' _ _ ⟨s0, body' ++ [.tup [.str (Str.ofString "end")]], _, e, rfl, rfl, .cls hP', by simp; omega⟩
      · rintro x hx _ _ ⟨body, st, x6, x7, rfl, rfl, hP, hst, hL⟩ N' hN'
        simp at hx
        obtain ⟨n, _, rfl⟩ := hx
        have ls : (stD st).length = st.length := by simp [stD]
        simp [hm1, hm2, ls]
        refine ite_of (fun c => ?_) (fun c => hN' _ _ ⟨body, st, _, _, by simp, rfl, hP, hst, hL⟩)
        rw [lp] at c
        have cl : cutL (planD pl) (some ((k : Int) + 1)) none = planD (pl.drop (k + 1)) := by
          rw [show ((k : Int) + 1) = ((k + 1 : Nat) : Int) by omega, cut_from, planD_drop]
        refine ⟨rs ++ [.tup [.str (Str.ofString "def"), .str p.1, .tup (p.2.map D.str)]], body, st, pl.drop (k + 1), cl, by simp, rfl, hP, by simp; omega, hst, h6, hg, ⟨by simp; omega, fun q hq => hpl.ok.2 q (List.mem_of_mem_drop hq)⟩, fun rs' st' g1 g2 g3 => hN' _ _ ⟨rs', st', _, _, ?_, rfl, g1, g3, by omega⟩⟩
        simp [lay1, hm2]
  · exact h.elim
end VL
namespace VL
open PySem PySem.Spec PyProof.Rows L2 RZ
def wordN : D → Option Str
  | .tup (.str w :: _) => some w
  | _ => none
def opensW (w : Str) : Prop := w = Str.ofString "def" ∨ w = Str.ofString "if" ∨ w = Str.ofString "while"
def closesW (w : Str) : Prop := w = Str.ofString "give" ∨ w = Str.ofString "end"
/-- rows that are well nested so far, with h blocks open -/
inductive Nest : Nat → List D → Prop
  | nil : Nest 0 []
  | pl {h : Nat} {rs : List D} {r : D} {w : Str} : Nest h rs → wordN r = some w → ¬ opensW w → ¬ closesW w → w ≠ Str.ofString "else" → Nest h (rs ++ [r])
  | op {h : Nat} {rs : List D} {r : D} {w : Str} : Nest h rs → wordN r = some w → opensW w → Nest (h + 1) (rs ++ [r])
  | els {h : Nat} {rs : List D} {r : D} : Nest (h + 1) rs → wordN r = some (Str.ofString "else") → Nest (h + 1) (rs ++ [r])
  | cl {h : Nat} {rs : List D} {r : D} {w : Str} : Nest (h + 1) rs → wordN r = some w → closesW w → Nest h (rs ++ [r])
theorem Nest.plain {h : Nat} {rs : List D} {z : String} {rest : List D} (n : Nest h rs) (hz : z ∉ ["def", "if", "while", "give", "end", "else"]) : Nest h (rs ++ [.tup (.str (Str.ofString z) :: rest)]) := by
  simp at hz
  exact .pl n rfl (by unfold opensW; simp [hz]) (by unfold closesW; simp [hz]) (by simp [hz])
end VL
namespace VL
open PySem PySem.Spec PyProof.Rows L2 RZ
/-! ### the law's programs are taken -/
theorem az_let {c : Nat} (h : 97 ≤ c ∧ c ≤ 122) : isLet c = true := by
  unfold isLet
  rw [decide_eq_true_eq, az_list]
  simp
  exact ⟨c - 97, by omega, by omega⟩
theorem good_name {w : Str} (h : goodW w) : nameOk w = true := by
  unfold nameOk
  rw [Bool.and_eq_true, Bool.and_eq_true, decide_eq_true_eq, decide_eq_true_eq, List.all_eq_true]
  exact ⟨⟨h.1, h.2.1⟩, fun c hc => az_let (h.2.2 c hc)⟩
theorem dot_len : (Str.ofString ".").length = 1 := rfl
theorem dot_cps : (Str.ofString ".").cps = #[46] := by decide +kernel
theorem cps_app (a b : Str) : (a ++ b).cps = a.cps ++ b.cps := rfl
theorem str_app_len (a b : Str) : (a ++ b).length = a.length + b.length := by
  show (a.cps ++ b.cps).size = _; simp [Str.length]
theorem dot_starts (t : Str) : Txt.startswith (Str.ofString "." ++ t) (Str.ofString ".") = true := by
  unfold Txt.startswith Builtin.Str.subAt
  rw [str_app_len, dot_len, cps_app, dot_cps]
  simp
theorem dot_cut (t : Str) : cutS (Str.ofString "." ++ t) (some 1) none = t := by
  unfold cutS
  have e : HT.sIx (Str.ofString "." ++ t).length 0 (some 1) = 1 := by
    rw [show (1 : Int) = ((1 : Nat) : Int) from rfl, HT.sIx_nat, str_app_len, dot_len]; omega
  rw [e, HT.sIx_none, cps_app, dot_cps]
  have e2 : (Str.ofString "." ++ t).length - 1 = t.cps.toList.length := by rw [str_app_len, dot_len]; simp [Str.length]
  rw [e2]
  simp only [Array.toList_append, List.singleton_append, List.drop_succ_cons, List.drop_zero, List.take_length]
theorem field_ok {x : Str} (h : goodW x) : fieldD (.str (Str.ofString "." ++ x)) = true := by
  simp [fieldD, dot_starts, dot_cut, good_name h]
section
variable {ws : List Str} {pl : List (Str × List Str)}
theorem oper_ok (g : ∀ w ∈ ws, goodW w) {d : D} (h : OperD ws d) : operD d = true := by
  rcases h with ⟨x, hx, rfl⟩ | ⟨n, h1, h2, rfl⟩
  · simp [operD, nameD, good_name (g x hx)]
  · simp [operD, numD, numOk, h1, h2]
theorem oper_plain {d : D} (h : OperD ws d) : plainD d := by
  rcases h with ⟨x, hx, rfl⟩ | ⟨n, h1, h2, rfl⟩ <;> trivial
theorem oper_ntup {d : D} (h : OperD ws d) {ys : List D} : d ≠ .tup ys := by
  rcases h with ⟨x, hx, rfl⟩ | ⟨n, h1, h2, rfl⟩ <;> simp
theorem key_ok (g : ∀ w ∈ ws, goodW w) {d : D} (h : KeyD ws d) : (fieldD d || operD d) = true := by
  rcases h with ⟨x, hx, rfl⟩ | h
  · simp [field_ok (g x hx)]
  · simp [oper_ok g h]
theorem key_plain {d : D} (h : KeyD ws d) : plainD d := by
  rcases h with ⟨x, hx, rfl⟩ | h
  · trivial
  · exact oper_plain h
theorem key_ntup {d : D} (h : KeyD ws d) {ys : List D} : d ≠ .tup ys := by
  rcases h with ⟨x, hx, rfl⟩ | h
  · simp
  · exact oper_ntup h
theorem name4 (g : ∀ w ∈ ws, goodW w) {n : Str} (h : n ∈ ws) : nameOk n = true := good_name (g n h)
/-- a row that is right -/
def RightR (r : D) : Prop := ∃ w ps, r = .tup (.str w :: ps) ∧ RowIn w ps ∧ rowOk (.str w :: ps) = true
theorem simple_right (g : ∀ w ∈ ws, goodW w) (few : ∀ p ∈ pl, p.2.length ≤ 4) (gp : ∀ p ∈ pl, goodW p.1) {r : D} (s : Simple ws pl r) : RightR r := by
  cases s with
  | put hn ho =>
    refine ⟨_, _, rfl, ⟨?_, by simp, ?_, fun o h => by simp at h⟩, ?_⟩
    · intro x hx; simp at hx; rcases hx with rfl | rfl
      · trivial
      · exact oper_plain ho
    · intro x hx ys e; simp at hx; rcases hx with rfl | rfl
      · cases e
      · exact absurd e (oper_ntup ho)
    · simp [rowOk, clsOf, okPut, nameD, name4 g hn, oper_ok g ho]
  | @doo n a b o hn ha hm hb =>
    refine ⟨_, _, rfl, ⟨?_, by simp, ?_, fun o' _ h => ?_⟩, ?_⟩
    · intro x hx; simp at hx; rcases hx with rfl | rfl | rfl | rfl
      · trivial
      · exact oper_plain ha
      · trivial
      · exact oper_plain hb
    · intro x hx ys e; simp at hx; rcases hx with rfl | rfl | rfl | rfl
      · cases e
      · exact absurd e (oper_ntup ha)
      · cases e
      · exact absurd e (oper_ntup hb)
    · simp at h; subst h; rfl
    · have : reckW (.str (Str.ofString o)) = true := by
        simp [opWords] at hm
        rcases hm with rfl | rfl | rfl | rfl | rfl | rfl | rfl <;> simp [reckW]
      simp [rowOk, clsOf, okDo, nameD, name4 g hn, oper_ok g ha, oper_ok g hb, this]
  | new hn =>
    refine ⟨_, _, rfl, ⟨?_, by simp, ?_, fun o h => by simp at h⟩, ?_⟩
    · intro x hx; simp at hx; subst hx; trivial
    · intro x hx ys e; simp at hx; subst hx; cases e
    · simp [rowOk, clsOf, okName, nameD, name4 g hn]
  | get hn ho hk =>
    refine ⟨_, _, rfl, ⟨?_, by simp, ?_, fun o h => by simp at h⟩, ?_⟩
    · intro x hx; simp at hx; rcases hx with rfl | rfl | rfl
      · trivial
      · trivial
      · exact key_plain hk
    · intro x hx ys e; simp at hx; rcases hx with rfl | rfl | rfl
      · cases e
      · cases e
      · exact absurd e (key_ntup hk)
    · have := key_ok g hk
      simp only [Bool.or_eq_true] at this
      simp [rowOk, clsOf, okGet, nameD, name4 g hn, name4 g ho, this]
  | set ho hk hop =>
    refine ⟨_, _, rfl, ⟨?_, by simp, ?_, fun o h => by simp at h⟩, ?_⟩
    · intro x hx; simp at hx; rcases hx with rfl | rfl | rfl
      · trivial
      · exact key_plain hk
      · exact oper_plain hop
    · intro x hx ys e; simp at hx; rcases hx with rfl | rfl | rfl
      · cases e
      · exact absurd e (key_ntup hk)
      · exact absurd e (oper_ntup hop)
    · have := key_ok g hk
      simp only [Bool.or_eq_true] at this
      simp [rowOk, clsOf, okSet, nameD, name4 g ho, oper_ok g hop, this]
  | @call n p ops hn hp hl ho =>
    have h4 := few p hp
    refine ⟨_, _, rfl, ⟨?_, by simp, ?_, fun o h => by simp at h⟩, ?_⟩
    · intro x hx; simp at hx; rcases hx with rfl | rfl | rfl <;> trivial
    · intro x hx ys e; simp at hx; rcases hx with rfl | rfl | rfl
      · cases e
      · cases e
      · cases e
        exact ⟨fun x hx => oper_plain (ho x hx), by omega⟩
    · have ha : allOpD (.tup ops) = true := by
        simp [allOpD]
        exact ⟨by omega, fun x hx => oper_ok g (ho x hx)⟩
      simp [rowOk, clsOf, okCall, nameD, name4 g hn, good_name (gp p hp), ha]
  | fail hn =>
    refine ⟨_, _, rfl, ⟨?_, by simp, ?_, fun o h => by simp at h⟩, ?_⟩
    · intro x hx; simp at hx; subst hx; trivial
    · intro x hx ys e; simp at hx; subst hx; cases e
    · simp [rowOk, clsOf, okName, nameD, good_name (g _ hn)]
  | skip =>
    refine ⟨_, _, rfl, ⟨?_, by simp, ?_, fun o h => by simp at h⟩, ?_⟩
    · intro x hx; simp at hx
    · intro x hx; simp at hx
    · simp [rowOk, clsOf, okBare]
theorem bare_right {z : String} (h : z = "else" ∨ z = "end" ∨ z = "skip") : RightR (.tup [.str (Str.ofString z)]) := by
  refine ⟨_, _, rfl, ⟨?_, by simp, ?_, fun o h => by simp⟩, ?_⟩
  · intro x hx; simp at hx
  · intro x hx; simp at hx
  · rcases h with rfl | rfl | rfl <;> simp [rowOk, clsOf, okBare]
theorem give_right (g : ∀ w ∈ ws, goodW w) {z : String} (h : z = "give" ∨ z = "if" ∨ z = "while") {op : D} (ho : OperD ws op) : RightR (.tup [.str (Str.ofString z), op]) := by
  refine ⟨_, _, rfl, ⟨?_, by simp, ?_, fun o _ h => by simp at h⟩, ?_⟩
  · intro x hx; simp at hx; subst hx; exact oper_plain ho
  · intro x hx ys e; simp at hx; subst hx; exact absurd e (oper_ntup ho)
  · rcases h with rfl | rfl | rfl <;> simp [rowOk, clsOf, okGive, oper_ok g ho]
theorem part_right (g : ∀ w ∈ ws, goodW w) (few : ∀ p ∈ pl, p.2.length ≤ 4) (gp : ∀ p ∈ pl, goodW p.1) {st : List String} {body : List D} (p : Part ws pl st body) : ∀ r ∈ body, RightR r := by
  have app : ∀ {rs : List D} {r : D}, (∀ x ∈ rs, RightR x) → RightR r → ∀ x ∈ rs ++ [r], RightR x := fun h1 h2 x hx => by
    rcases List.mem_append.mp hx with hx | hx
    · exact h1 x hx
    · rw [List.mem_singleton.mp hx]; exact h2
  induction p with
  | nil => intro r hr; cases hr
  | row _ s ih => exact app ih (simple_right g few gp s)
  | opIf _ h ih => exact app ih (give_right g (.inr (.inl rfl)) h)
  | opWhile _ h ih => exact app ih (give_right g (.inr (.inr rfl)) h)
  | els _ ih => exact app ih (bare_right (.inl rfl))
  | cls _ ih => exact app ih (bare_right (.inr (.inl rfl)))
theorem names_strs : ∀ {xs : List Str}, (∀ x ∈ xs, goodW x) → namesOf (xs.map D.str) = xs
  | [], _ => rfl
  | x :: xs, h => by
    rw [List.map_cons, namesOf, if_pos (good_name (h x (by simp))), names_strs fun y hy => h y (by simp [hy])]
def defRow (p : Str × List Str) : D := .tup [.str (Str.ofString "def"), .str p.1, .tup (p.2.map D.str)]
theorem def_right {p : Str × List Str} (h1 : goodW p.1) (h2 : ∀ x ∈ p.2, goodW x) (h3 : p.2.length ≤ 4) (h4 : p.2.Nodup) : RightR (defRow p) := by
  refine ⟨_, _, rfl, ⟨?_, by simp, ?_, fun o h => by simp at h⟩, ?_⟩
  · intro x hx; simp at hx; rcases hx with rfl | rfl <;> trivial
  · intro x hx ys e; simp at hx; rcases hx with rfl | rfl
    · cases e
    · cases e
      refine ⟨fun x hx => ?_, by simp; omega⟩
      obtain ⟨z, _, rfl⟩ := List.mem_map.mp hx
      trivial
  · have ha : allOpD (.tup (p.2.map D.str)) = true := by
      simp [allOpD]
      exact ⟨by omega, fun x hx => by simp [operD, nameD, good_name (h2 x hx)]⟩
    have hn : namesOf (p.2.map D.str) = p.2 := names_strs h2
    have hs : (setS p.2).length = p.2.length := (setS_nd h4).length_eq
    simp [rowOk, clsOf, okDef, nameD, good_name h1, ha, hn, hs]
theorem funrows_right (g : ∀ w ∈ ws, goodW w) (few : ∀ p ∈ pl, p.2.length ≤ 4) (gp : ∀ p ∈ pl, goodW p.1) {p : Str × List Str} (hp : RightR (defRow p)) {fr : List D} (f : FunRows ws p pl fr) : ∀ r ∈ fr, RightR r := by
  induction f with
  | mk hb ho =>
    intro r hr
    rcases List.mem_append.mp hr with hr | hr
    · rcases List.mem_append.mp hr with hr | hr
      · rw [List.mem_singleton.mp hr]; exact hp
      · exact part_right g few gp hb r hr
    · rw [List.mem_singleton.mp hr]; exact give_right g (.inl rfl) ho
  | sk _ ih =>
    intro r hr
    rcases List.mem_append.mp hr with hr | hr
    · exact ih r hr
    · rw [List.mem_singleton.mp hr]; exact bare_right (.inr (.inr rfl))
/-- a plan that is good -/
structure PlanGood (ws : List Str) (pl : List (Str × List Str)) : Prop where
  nd : (pl.map (·.1)).Nodup
  nm : ∀ p ∈ pl, goodW p.1
  ps : ∀ p ∈ pl, p.2.length ≤ 4 ∧ (∀ x ∈ p.2, goodW x) ∧ p.2.Nodup
theorem funs_right (g : ∀ w ∈ ws, goodW w) (P : PlanGood ws pl) {k : Nat} {rs : List D} (f : Funs ws pl k rs) : ∀ r ∈ rs, RightR r := by
  induction f with
  | nil => intro r hr; cases hr
  | next hf hp hfr ih =>
    intro r hr
    rcases List.mem_append.mp hr with hr | hr
    · exact ih r hr
    · have hm := List.mem_of_getElem? hp
      have q := P.ps _ hm
      exact funrows_right g (fun p hp => (P.ps p (List.mem_of_mem_drop hp)).1) (fun p hp => P.nm p (List.mem_of_mem_drop hp)) (def_right (P.nm _ hm) q.2.1 q.1 q.2.2) hfr r hr
theorem PlanIn.good (nd : ws.Nodup) (g : ∀ w ∈ ws, goodW w) (h : PlanIn ws pl) : PlanGood ws pl where
  nd := by
    rw [List.Nodup, List.pairwise_iff_getElem]
    intro i j hi hj hij e
    simp at hi hj e
    have h1 := h.nm i pl[i] (by simp [hi])
    have h2 := h.nm j pl[j] (by simp [hj])
    rw [e] at h1
    obtain ⟨l1, q1⟩ := List.getElem?_eq_some_iff.mp h1
    obtain ⟨l2, q2⟩ := List.getElem?_eq_some_iff.mp h2
    exact (List.pairwise_iff_getElem.mp nd) i j l1 l2 hij (by rw [q1, q2])
  nm := fun p hp => by
    obtain ⟨i, hi⟩ := List.mem_iff_getElem?.mp hp
    exact g _ (List.mem_of_getElem? (h.nm i p hi))
  ps := fun p hp => by
    obtain ⟨h1, h2, h3⟩ := h.ps p hp
    exact ⟨by omega, fun x hx => g x (h2 x hx), h3⟩
/-! blocks -/
def stB : List D → List Str → Option (List Str)
  | [], st => some st
  | r :: rs, st => match wordR r with
    | some w => if fitsB w st then stB rs (nextB w st) else none
    | none => none
theorem stB_app : ∀ (a b : List D) (st : List Str), stB (a ++ b) st = (stB a st).bind (stB b)
  | [], b, st => rfl
  | r :: a, b, st => by
    simp only [List.cons_append, stB]
    split
    · split
      · exact stB_app a b _
      · rfl
    · rfl
theorem break_st : ∀ (rows : List D) (k : Nat) (st : List Str), stB rows st = some [] → breakB k rows st = none
  | [], k, st, h => by simp [stB] at h; simp [breakB, h]
  | r :: rows, k, st, h => by
    simp only [stB] at h
    simp only [breakB]
    split at h
    · split at h
      · rename_i w e c
        simp only [e, if_pos c]
        exact break_st rows _ _ h
      · cases h
    · cases h
theorem stB_one {r : D} {w : Str} {st : List Str} (h : wordR r = some w) (hf : fitsB w st = true) : stB [r] st = some (nextB w st) := by
  simp [stB, h, hf]
theorem part_ops {st : List String} {body : List D} (p : Part ws pl st body) : ∀ z ∈ st, z = "if" ∨ z = "else" ∨ z = "while" := by
  induction p with
  | nil => intro z h; cases h
  | row _ _ ih => exact ih
  | opIf _ _ ih =>
    intro z h
    rcases List.mem_append.mp h with h | h
    · exact ih z h
    · simp at h; simp [h]
  | opWhile _ _ ih =>
    intro z h
    rcases List.mem_append.mp h with h | h
    · exact ih z h
    · simp at h; simp [h]
  | els _ ih =>
    intro z h
    rcases List.mem_append.mp h with h | h
    · exact ih z (by simp [h])
    · simp at h; simp [h]
  | cls _ ih => exact fun z h => ih z (by simp [h])
def opn (st : List String) : List Str := Str.ofString "def" :: st.map Str.ofString
theorem opn_last (st : List String) (w : String) : opn (st ++ [w]) = opn st ++ [Str.ofString w] := by simp [opn]
theorem opn_ne (st : List String) : ∃ s0 z, opn st = s0 ++ [z] := by
  rcases List.eq_nil_or_concat st with rfl | ⟨s0, z, hz⟩
  · exact ⟨[], _, rfl⟩
  · exact ⟨opn s0, Str.ofString z, by rw [hz, List.concat_eq_append, opn_last]⟩
theorem plain_st {w : String} (h : w ∉ ["def", "if", "while", "give", "end", "else"]) {r : D} (hr : wordR r = some (Str.ofString w)) (st : List String) : stB [r] (opn st) = some (opn st) := by
  obtain ⟨s0, z, e⟩ := opn_ne st
  simp at h
  rw [stB_one hr]
  · simp [nextB, h]
  · rw [e]; simp [fitsB, h]
theorem open_st {w : String} (h : w = "if" ∨ w = "while") {r : D} (hr : wordR r = some (Str.ofString w)) (st : List String) : stB [r] (opn st) = some (opn (st ++ [w])) := by
  obtain ⟨s0, z, e⟩ := opn_ne st
  rw [stB_one hr]
  · rw [opn_last]; rcases h with rfl | rfl <;> simp [nextB]
  · rw [e]; rcases h with rfl | rfl <;> simp [fitsB]
theorem simple_word {r : D} (s : Simple ws pl r) : ∃ w : String, wordR r = some (Str.ofString w) ∧ w ∉ ["def", "if", "while", "give", "end", "else"] := by
  cases s <;> exact ⟨_, rfl, by decide⟩
theorem part_st {st : List String} {body : List D} (p : Part ws pl st body) : stB body (opn []) = some (opn st) := by
  induction p with
  | nil => rfl
  | row _ s ih =>
    obtain ⟨w, hw, hn⟩ := simple_word s
    rw [stB_app, ih]
    exact plain_st hn hw _
  | @opIf st rs op _ _ ih => rw [stB_app, ih]; exact open_st (w := "if") (r := .tup [.str (Str.ofString "if"), op]) (.inl rfl) rfl _
  | @opWhile st rs op _ _ ih => rw [stB_app, ih]; exact open_st (w := "while") (r := .tup [.str (Str.ofString "while"), op]) (.inr rfl) rfl _
  | els _ ih =>
    rw [stB_app, ih]
    show stB _ (opn _) = _
    rw [stB_one (w := Str.ofString "else") rfl]
    · rw [opn_last, opn_last]; simp [nextB]
    · rw [opn_last]; simp [fitsB]
  | @cls st rs w p ih =>
    have hz := part_ops p w (by simp)
    rw [stB_app, ih]
    show stB _ (opn _) = _
    rw [stB_one (w := Str.ofString "end") rfl]
    · rw [opn_last]; simp [nextB]
    · rw [opn_last]; rcases hz with rfl | rfl | rfl <;> simp [fitsB]
theorem skip_st : stB [.tup [.str (Str.ofString "skip")]] [] = some [] := by
  rw [stB_one (w := Str.ofString "skip") rfl]
  · simp [nextB]
  · simp [fitsB]
theorem funrows_st {p : Str × List Str} {fr : List D} (f : FunRows ws p pl fr) : stB fr [] = some [] := by
  induction f with
  | mk hb ho =>
    rw [stB_app, stB_app, stB_one (w := Str.ofString "def") rfl (by simp [fitsB])]
    show (stB _ (nextB (Str.ofString "def") [])).bind _ = _
    rw [show nextB (Str.ofString "def") [] = opn [] by simp [nextB, opn], part_st hb]
    show stB _ (opn []) = _
    rw [stB_one (w := Str.ofString "give") rfl (by simp [fitsB, opn])]
    simp [nextB, opn]
  | sk _ ih => rw [stB_app, ih]; exact skip_st
theorem funs_st {k : Nat} {rs : List D} (f : Funs ws pl k rs) : stB rs [] = some [] := by
  induction f with
  | nil => rfl
  | next _ _ hfr ih => rw [stB_app, ih]; exact funrows_st hfr
theorem skips_st : ∀ n : Nat, stB (List.replicate n (.tup [.str (Str.ofString "skip")])) [] = some []
  | 0 => rfl
  | n + 1 => by
    rw [List.replicate_succ, ← List.singleton_append, stB_app, skip_st]
    exact skips_st n
/-! calls -/
/-- no def, no call -/
def quietR (r : D) : Prop := ∃ w ps, r = .tup (.str w :: ps) ∧ w ≠ Str.ofString "def" ∧ w ≠ Str.ofString "call"
/-- a row that calls one of the functions ls -/
def callR (ls : List (Str × List Str)) (r : D) : Prop := ∃ x ops p, r = .tup [.str (Str.ofString "call"), x, .str p.1, .tup ops] ∧ p ∈ ls ∧ ops.length = p.2.length
theorem simple_call {r : D} (s : Simple ws pl r) : quietR r ∨ callR pl r := by
  cases s with
  | call _ hp hl _ => exact .inr ⟨_, _, _, rfl, hp, hl⟩
  | _ => exact .inl ⟨_, _, rfl, by simp, by simp⟩
theorem part_call {st : List String} {body : List D} (p : Part ws pl st body) : ∀ r ∈ body, quietR r ∨ callR pl r := by
  have app : ∀ {rs : List D} {r : D}, (∀ x ∈ rs, quietR x ∨ callR pl x) → (quietR r ∨ callR pl r) → ∀ x ∈ rs ++ [r], quietR x ∨ callR pl x := fun h1 h2 x hx => by
    rcases List.mem_append.mp hx with hx | hx
    · exact h1 x hx
    · rw [List.mem_singleton.mp hx]; exact h2
  have q : ∀ (z : String) (ps : List D), z ≠ "def" → z ≠ "call" → quietR (.tup (.str (Str.ofString z) :: ps)) ∨ callR pl (.tup (.str (Str.ofString z) :: ps)) := fun z ps h1 h2 => .inl ⟨_, _, rfl, by simpa using h1, by simpa using h2⟩
  induction p with
  | nil => intro r hr; cases hr
  | row _ s ih => exact app ih (simple_call s)
  | opIf _ h ih => exact app ih (q _ _ (by decide) (by decide))
  | opWhile _ h ih => exact app ih (q _ _ (by decide) (by decide))
  | els _ ih => exact app ih (q _ _ (by decide) (by decide))
  | cls _ ih => exact app ih (q _ _ (by decide) (by decide))
theorem funrows_call {p : Str × List Str} {fr : List D} (f : FunRows ws p pl fr) : ∃ tl, fr = defRow p :: tl ∧ ∀ r ∈ tl, quietR r ∨ callR pl r := by
  induction f with
  | @mk body op hb ho =>
    refine ⟨body ++ [.tup [.str (Str.ofString "give"), op]], rfl, fun r hr => ?_⟩
    rcases List.mem_append.mp hr with hr | hr
    · exact part_call hb r hr
    · rw [List.mem_singleton.mp hr]; exact .inl ⟨_, _, rfl, by simp, by simp⟩
  | sk _ ih =>
    obtain ⟨tl, e, h⟩ := ih
    refine ⟨tl ++ [.tup [.str (Str.ofString "skip")]], by rw [e]; rfl, fun r hr => ?_⟩
    rcases List.mem_append.mp hr with hr | hr
    · exact h r hr
    · rw [List.mem_singleton.mp hr]; exact .inl ⟨_, _, rfl, by simp, by simp⟩
theorem quiet_ndef {r : D} (h : quietR r) (n : Str) : isDef n r = false := by
  obtain ⟨w, ps, rfl, h1, _⟩ := h
  unfold isDef
  split
  · rename_i e; cases e; simp [h1]
  · rfl
theorem call_ndef {ls : List (Str × List Str)} {r : D} (h : callR ls r) (n : Str) : isDef n r = false := by
  obtain ⟨x, ops, p, rfl, _⟩ := h
  cases x <;> simp [isDef]
theorem def_isDef (p : Str × List Str) (n : Str) : isDef n (defRow p) = (p.1 == n) := by simp [isDef, defRow]
/-- where the functions stand, k of them so far -/
structure Laid (pl : List (Str × List Str)) (k : Nat) (rs : List D) : Prop where
  defs : ∀ m p, m < k → pl[m]? = some p → ∃ j : Nat, rs[j]? = some (defRow p) ∧ ∀ (i : Nat) (r : D), rs[i]? = some r → isDef p.1 r = true → j ≤ i
  rows : ∀ (i : Nat) (r : D), rs[i]? = some r → quietR r ∨ (∃ p, r = defRow p ∧ ∀ (i' : Nat) (r' : D), rs[i']? = some r' → isDef p.1 r' = true → i ≤ i') ∨
    (∃ (m : Nat) (p : Str × List Str), callR [p] r ∧ pl[m]? = some p ∧ (k ≤ m ∨ ∃ j : Nat, i ≤ j ∧ rs[j]? = some (defRow p) ∧ ∀ (i' : Nat) (r' : D), rs[i']? = some r' → isDef p.1 r' = true → j ≤ i'))
  nms : ∀ (i : Nat) (r : D) (n : Str), rs[i]? = some r → isDef n r = true → ∃ m p, m < k ∧ pl[m]? = some p ∧ p.1 = n
theorem laid_pre {pre : List D} (h : ∀ r ∈ pre, quietR r) : Laid pl 0 pre where
  defs := fun m p hm => by omega
  rows := fun i r e => .inl (h r (List.mem_of_getElem? e))
  nms := fun i r n e hd => by rw [quiet_ndef (h r (List.mem_of_getElem? e))] at hd; cases hd
theorem laid_next (nd : (pl.map (·.1)).Nodup) {k : Nat} {rs fr : List D} {p : Str × List Str} (L : Laid pl k rs) (hp : pl[k]? = some p) (f : FunRows ws p (pl.drop (k + 1)) fr) : Laid pl (k + 1) (rs ++ fr) := by
  obtain ⟨tl, rfl, ht⟩ := funrows_call f
  have uniq : ∀ (m : Nat) (q : Str × List Str), pl[m]? = some q → q.1 = p.1 → m = k := fun m q hq e => by
    obtain ⟨l1, q1⟩ := List.getElem?_eq_some_iff.mp hq
    obtain ⟨l2, q2⟩ := List.getElem?_eq_some_iff.mp hp
    rcases Nat.lt_trichotomy m k with c | c | c
    · refine absurd ?_ ((List.pairwise_iff_getElem.mp nd) m k (by simpa using l1) (by simpa using l2) c)
      simp only [List.getElem_map, q1, q2, e]
    · exact c
    · refine absurd ?_ ((List.pairwise_iff_getElem.mp nd) k m (by simpa using l2) (by simpa using l1) c)
      simp only [List.getElem_map, q1, q2, e]
  have tlq : ∀ r ∈ tl, ∀ n, isDef n r = false := fun r hr n => by
    rcases ht r hr with h | h
    · exact quiet_ndef h n
    · exact call_ndef h n
  -- a row of the new list
  have cases : ∀ (i : Nat) (r : D), (rs ++ defRow p :: tl)[i]? = some r → (i < rs.length ∧ rs[i]? = some r) ∨ (i = rs.length ∧ r = defRow p) ∨ (rs.length < i ∧ r ∈ tl) := fun i r e => by
    rcases Nat.lt_trichotomy i rs.length with c | c | c
    · rw [List.getElem?_append_left c] at e; exact .inl ⟨c, e⟩
    · subst c; simp at e; exact .inr (.inl ⟨rfl, e.symm⟩)
    · rw [List.getElem?_append_right (by omega)] at e
      obtain ⟨d, ed⟩ : ∃ d, i - rs.length = d + 1 := ⟨i - rs.length - 1, by omega⟩
      rw [ed] at e
      simp at e
      exact .inr (.inr ⟨c, List.mem_of_getElem? e⟩)
  have old : ∀ (j : Nat) (q : Str × List Str) (m : Nat), m < k → pl[m]? = some q → rs[j]? = some (defRow q) → (∀ (i : Nat) (r : D), rs[i]? = some r → isDef q.1 r = true → j ≤ i) →
      (rs ++ defRow p :: tl)[j]? = some (defRow q) ∧ ∀ (i : Nat) (r : D), (rs ++ defRow p :: tl)[i]? = some r → isDef q.1 r = true → j ≤ i := fun j q m hm hq ej hj => by
    have jl := (List.getElem?_eq_some_iff.mp ej).1
    refine ⟨by rw [List.getElem?_append_left jl]; exact ej, fun i r e hd => ?_⟩
    rcases cases i r e with ⟨_, e1⟩ | ⟨rfl, rfl⟩ | ⟨c, hr⟩
    · exact hj i r e1 hd
    · omega
    · omega
  have new : (rs ++ defRow p :: tl)[rs.length]? = some (defRow p) ∧ ∀ (i : Nat) (r : D), (rs ++ defRow p :: tl)[i]? = some r → isDef p.1 r = true → rs.length ≤ i := by
    refine ⟨by simp, fun i r e hd => ?_⟩
    rcases cases i r e with ⟨_, e1⟩ | ⟨rfl, rfl⟩ | ⟨c, hr⟩
    · obtain ⟨m, q, hm, hq, eq⟩ := L.nms i r p.1 e1 hd
      have := uniq m q hq eq
      omega
    · omega
    · omega
  refine ⟨fun m q hm hq => ?_, fun i r e => ?_, fun i r n e hd => ?_⟩
  · by_cases c : m < k
    · obtain ⟨j, ej, hj⟩ := L.defs m q c hq
      exact ⟨j, old j q m c hq ej hj⟩
    · have : m = k := by omega
      subst this
      rw [hp] at hq
      cases hq
      exact ⟨rs.length, new⟩
  · rcases cases i r e with ⟨hi, e1⟩ | ⟨rfl, rfl⟩ | ⟨c, hr⟩
    · rcases L.rows i r e1 with h | ⟨q, rfl, hq⟩ | ⟨m, q, hc, hq, h⟩
      · exact .inl h
      · refine .inr (.inl ⟨q, rfl, fun i' r' e' hd => ?_⟩)
        rcases cases i' r' e' with ⟨_, e2⟩ | ⟨rfl, rfl⟩ | ⟨c, hr⟩
        · exact hq i' r' e2 hd
        · omega
        · omega
      · refine .inr (.inr ⟨m, q, hc, hq, ?_⟩)
        rcases h with h | ⟨j, h1, h2, h3⟩
        · by_cases c : m = k
          · subst c
            rw [hp] at hq
            cases hq
            exact .inr ⟨rs.length, by omega, new⟩
          · exact .inl (by omega)
        · have jl := (List.getElem?_eq_some_iff.mp h2).1
          refine .inr ⟨j, h1, by rw [List.getElem?_append_left jl]; exact h2, fun i' r' e' hd => ?_⟩
          rcases cases i' r' e' with ⟨_, e2⟩ | ⟨rfl, rfl⟩ | ⟨c, hr⟩
          · exact h3 i' r' e2 hd
          · omega
          · omega
    · exact .inr (.inl ⟨p, rfl, new.2⟩)
    · rcases ht r hr with h | ⟨x, ops, q, rfl, hq, hl⟩
      · exact .inl h
      · obtain ⟨m, hm⟩ := List.mem_iff_getElem?.mp hq
        rw [List.getElem?_drop] at hm
        exact .inr (.inr ⟨k + 1 + m, q, ⟨x, ops, q, rfl, by simp, hl⟩, hm, .inl (by omega)⟩)
  · rcases cases i r e with ⟨hi, e1⟩ | ⟨rfl, rfl⟩ | ⟨c, hr⟩
    · obtain ⟨m, q, hm, h1, h2⟩ := L.nms i r n e1 hd
      exact ⟨m, q, by omega, h1, h2⟩
    · rw [def_isDef] at hd
      exact ⟨k, p, by omega, hp, by simpa using hd⟩
    · rw [tlq r hr n] at hd; cases hd
theorem funs_laid (nd : (pl.map (·.1)).Nodup) {pre : List D} (hq : ∀ r ∈ pre, quietR r) {k : Nat} {rs : List D} (f : Funs ws pl k rs) : Laid pl k (pre ++ rs) := by
  induction f with
  | nil => simpa using laid_pre hq
  | next _ hp hfr ih => rw [← List.append_assoc]; exact laid_next nd ih hp hfr
theorem defOf_eq {rows : List D} {n : Str} {j : Nat} {r : D} (h : rows[j]? = some r) (hd : isDef n r = true) (hm : ∀ (i : Nat) (r : D), rows[i]? = some r → isDef n r = true → j ≤ i) : defOf rows n = some j := by
  unfold defOf
  obtain ⟨hl, e⟩ := List.getElem?_eq_some_iff.mp h
  rw [List.findIdx?_eq_some_iff_getElem]
  refine ⟨hl, by rw [e]; exact hd, fun i hi => ?_⟩
  intro c
  have := hm i _ (List.getElem?_eq_getElem (Nat.lt_trans hi hl)) c
  omega
theorem laid_calls {rows : List D} (L : Laid pl pl.length rows) : ∀ k r, rows[k]? = some r → callOk rows k r := by
  intro k r e
  rcases L.rows k r e with ⟨w, ps, rfl, h1, h2⟩ | ⟨p, rfl, hp⟩ | ⟨m, p, ⟨x, ops, q, rfl, hq, hl⟩, hm, h⟩
  · exact ⟨w, ps, rfl, fun c => absurd c h1, fun c => absurd c h2⟩
  · refine ⟨_, _, rfl, fun _ => ⟨p.1, p.2.map D.str, [], rfl, k, defOf_eq e (by rw [def_isDef]; simp) hp, Nat.le_refl _⟩, fun c => by simp at c⟩
  · have : q = p := by simpa using hq
    subst this
    rcases h with h | ⟨j, h1, h2, h3⟩
    · have := (List.getElem?_eq_some_iff.mp hm).1; omega
    · refine ⟨_, _, rfl, fun c => by simp at c, fun _ => ⟨x, q.1, ops, [], rfl, j, .str q.1, q.2.map D.str, [], defOf_eq h2 (by rw [def_isDef]; simp) h3, h1, h2, by simp [hl]⟩⟩
/-- skips ahead, then a program -/
theorem prog_ok (g : ∀ w ∈ ws, goodW w) (P : PlanGood ws pl) {n : Nat} {rs : List D} (f : Funs ws pl pl.length rs) (hl : n + rs.length ≤ 60) : ProgOk (List.replicate n (.tup [.str (Str.ofString "skip")]) ++ rs) where
  few := by simpa using hl
  right := fun r hr => by
    rcases List.mem_append.mp hr with hr | hr
    · rw [(List.mem_replicate.mp hr).2]; exact bare_right (.inr (.inr rfl))
    · exact funs_right g P f r hr
  blocks := break_st _ _ _ (by rw [stB_app, skips_st]; exact funs_st f)
  calls := laid_calls (funs_laid P.nd (fun r hr => by rw [(List.mem_replicate.mp hr).2]; exact ⟨_, _, rfl, by simp, by simp⟩) f)
end
theorem oper_dep {ws : List Str} {d : D} (h : OperD ws d) : ddep d = 0 := by
  rcases h with ⟨x, _, rfl⟩ | ⟨n, _, _, rfl⟩ <;> simp
theorem key_dep {ws : List Str} {d : D} (h : KeyD ws d) : ddep d = 0 := by
  rcases h with ⟨x, _, rfl⟩ | h
  · simp
  · exact oper_dep h
theorem strs_dep (ws : List Str) : ddeps (ws.map D.str) = 0 := Nat.le_zero.mp (ddeps_le fun y hy => by
  obtain ⟨z, _, rfl⟩ := List.mem_map.mp hy; simp)
theorem simple_dep {ws : List Str} {pl : List (Str × List Str)} {r : D} (s : Simple ws pl r) : ddep r ≤ 20 := by
  cases s with
  | put _ h => simp [oper_dep h]
  | doo _ h1 _ h2 => simp [oper_dep h1, oper_dep h2]
  | new _ => simp
  | get _ _ h => simp [key_dep h]
  | set _ h1 h2 => simp [key_dep h1, oper_dep h2]
  | call _ _ _ h =>
    have := ddeps_le (n := 0) fun x hx => Nat.le_of_eq (oper_dep (h x hx))
    simp; omega
  | fail _ => simp
  | skip => simp
/-! flat -/
theorem dflats_of {xs : List D} (h : ∀ x ∈ xs, dflat x = true) : dflats xs = true := by
  induction xs with
  | nil => rfl
  | cons x xs ih => simp [h x (by simp), ih fun y hy => h y (by simp [hy])]
theorem oper_flat {ws : List Str} {d : D} (h : OperD ws d) : dflat d = true := by
  rcases h with ⟨x, _, rfl⟩ | ⟨n, _, _, rfl⟩ <;> simp
theorem key_flat {ws : List Str} {d : D} (h : KeyD ws d) : dflat d = true := by
  rcases h with ⟨x, _, rfl⟩ | h
  · simp
  · exact oper_flat h
theorem simple_flat {ws : List Str} {pl : List (Str × List Str)} {r : D} (s : Simple ws pl r) : dflat r = true := by
  cases s with
  | put _ h => simp [oper_flat h]
  | doo _ h1 _ h2 => simp [oper_flat h1, oper_flat h2]
  | new _ => simp
  | get _ _ h => simp [key_flat h]
  | set _ h1 h2 => simp [key_flat h1, oper_flat h2]
  | call _ _ _ h => simp [dflats_of fun x hx => oper_flat (h x hx)]
  | fail _ => simp
  | skip => simp
/-- a row as the makers make it -/
def FlatR (r : D) : Prop := dflat r = true ∧ ddep r ≤ 20 ∧ ∃ xs, r = .tup xs
theorem app_all {Q : D → Prop} {xs ys : List D} (h1 : ∀ x ∈ xs, Q x) (h2 : ∀ x ∈ ys, Q x) : ∀ x ∈ xs ++ ys, Q x := fun x hx => by
  rcases List.mem_append.mp hx with hx | hx
  · exact h1 x hx
  · exact h2 x hx
theorem simple_flatR {ws : List Str} {pl : List (Str × List Str)} {r : D} (s : Simple ws pl r) : FlatR r := ⟨simple_flat s, simple_dep s, by cases s <;> exact ⟨_, rfl⟩⟩
theorem part_flat {ws : List Str} {pl : List (Str × List Str)} {st : List String} {body : List D} (p : Part ws pl st body) : ∀ r ∈ body, FlatR r := by
  have one : ∀ {r : D}, FlatR r → ∀ x ∈ [r], FlatR x := fun h x hx => by rw [List.mem_singleton.mp hx]; exact h
  induction p with
  | nil => intro r hr; cases hr
  | row _ s ih => exact app_all ih (one (simple_flatR s))
  | opIf _ h ih => exact app_all ih (one ⟨by simp [oper_flat h], by simp [oper_dep h], _, rfl⟩)
  | opWhile _ h ih => exact app_all ih (one ⟨by simp [oper_flat h], by simp [oper_dep h], _, rfl⟩)
  | els _ ih => exact app_all ih (one ⟨by simp, by simp, _, rfl⟩)
  | cls _ ih => exact app_all ih (one ⟨by simp, by simp, _, rfl⟩)
theorem skip_flat : FlatR (.tup [.str (Str.ofString "skip")]) := ⟨by simp, by simp, _, rfl⟩
theorem fun_flat {ws : List Str} {p : Str × List Str} {later : List (Str × List Str)} {fr : List D} (f : FunRows ws p later fr) : ∀ r ∈ fr, FlatR r := by
  have one : ∀ {r : D}, FlatR r → ∀ x ∈ [r], FlatR x := fun h x hx => by rw [List.mem_singleton.mp hx]; exact h
  induction f with
  | @mk body op hp ho =>
    refine app_all (app_all (one ⟨?_, by simp [strs_dep], _, rfl⟩) (part_flat hp)) (one ⟨by simp [oper_flat ho], by simp [oper_dep ho], _, rfl⟩)
    simp
    exact dflats_of fun x hx => by obtain ⟨z, _, rfl⟩ := List.mem_map.mp hx; simp
  | sk _ ih => exact app_all ih (one skip_flat)
theorem funs_flat {ws : List Str} {pl : List (Str × List Str)} {k : Nat} {rs : List D} (f : Funs ws pl k rs) : ∀ r ∈ rs, FlatR r := by
  induction f with
  | nil => intro r hr; cases hr
  | next _ _ hf ih => exact app_all ih (fun_flat hf)
end VL
namespace VL
open PySem PySem.Spec PyProof.Rows L2 RZ
theorem runS_app : ∀ (xs : List D) (r : D) (k : Nat) (s s' : ShS) (w : Str), runS k xs s = some s' → wordR r = some w → runS k (xs ++ [r]) s = stepS (k + xs.length) w s'
  | [], r, k, s, s', w, h, hw => by
    injection h with h; subst h
    show runS k [r] s = _
    unfold runS
    rw [hw]
    simp only [List.length_nil, Nat.add_zero]
    cases stepS k w s with
    | none => rfl
    | some s2 => rfl
  | x :: xs, r, k, s, s', w, h, hw => by
    show runS k (x :: (xs ++ [r])) s = _
    unfold runS at h ⊢
    cases q : wordR x with
    | none => rw [q] at h; cases h
    | some v =>
      rw [q] at h
      simp only at h ⊢
      cases q2 : stepS k v s with
      | none => rw [q2] at h; cases h
      | some s2 =>
        rw [q2] at h
        simp only at h ⊢
        rw [runS_app xs r (k + 1) s2 s' w h hw]
        congr 1
        simp; omega
/-- the last row of nested rows -/
theorem wordR_tup {r : D} {w : Str} (h : wordR r = some w) : ∃ rest, r = .tup (.str w :: rest) := by
  unfold wordR at h
  split at h
  · injection h with h; subst h; exact ⟨_, rfl⟩
  · cases h
/-- the word of the row at a place -/
def wA (rows : List D) (k : Nat) : Option Str := (rows[k]?).bind wordR
abbrev Mode := Option (Nat × List (Nat × String))
def plainW (w : Str) : Prop := ¬ opensW w ∧ ¬ closesW w ∧ w ≠ Str.ofString "else"
inductive StepM : Nat → Str → Mode → Mode → Prop
  | dfn {k : Nat} : StepM k (Str.ofString "def") none (some (k, []))
  | out {k : Nat} {w : Str} : plainW w → StepM k w none none
  | ins {k : Nat} {w : Str} {d : Nat} {st : List (Nat × String)} : plainW w → StepM k w (some (d, st)) (some (d, st))
  | opn {k d : Nat} {st : List (Nat × String)} {z : String} : z = "if" ∨ z = "while" → StepM k (Str.ofString z) (some (d, st)) (some (d, (k, z) :: st))
  | els {k d j : Nat} {st : List (Nat × String)} : StepM k (Str.ofString "else") (some (d, (j, "if") :: st)) (some (d, (j, "else") :: st))
  | cls {k d j : Nat} {z : String} {st : List (Nat × String)} : StepM k (Str.ofString "end") (some (d, (j, z) :: st)) (some (d, st))
  | giv {k d : Nat} : StepM k (Str.ofString "give") (some (d, [])) none
/-- rows of functions, one behind the other -/
inductive RunM : List D → Mode → Prop
  | nil : RunM [] none
  | snoc {rs : List D} {r : D} {w : Str} {m m' : Mode} : RunM rs m → wordR r = some w → StepM rs.length w m m' → RunM (rs ++ [r]) m'
theorem plain_of {z : String} (hz : z ∉ ["def", "if", "while", "give", "end", "else"]) : plainW (Str.ofString z) := by
  simp at hz
  exact ⟨by unfold opensW; simp [hz], by unfold closesW; simp [hz], by simp [hz]⟩
theorem simple_plainW {ws : List Str} {pl : List (Str × List Str)} {r : D} (s : Simple ws pl r) : ∃ w, wordR r = some w ∧ plainW w := by
  cases s <;> exact ⟨_, rfl, plain_of (by decide)⟩
/-! ### the walks -/
inductive PW (rows : List D) : Nat → Nat → Nat → Prop
  | stop {h : Nat} {w : Str} : wA rows h = some w → (w = Str.ofString "else" ∨ w = Str.ofString "end") → PW rows h 0 h
  | up {h d p : Nat} {w : Str} : wA rows h = some w → (w = Str.ofString "if" ∨ w = Str.ofString "while") → PW rows (h + 1) (d + 1) p → PW rows h d p
  | down {h d p : Nat} : wA rows h = some (Str.ofString "end") → PW rows (h + 1) d p → PW rows h (d + 1) p
  | same {h d p : Nat} {w : Str} : wA rows h = some w → ¬ (w = Str.ofString "if" ∨ w = Str.ofString "while") → w ≠ Str.ofString "end" → (w = Str.ofString "else" → 0 < d) → PW rows (h + 1) d p → PW rows h d p
inductive BW (rows : List D) : Nat → Nat → Nat → Prop
  | stop {h : Nat} {w : Str} : wA rows h = some w → (w = Str.ofString "if" ∨ w = Str.ofString "while") → BW rows h 0 h
  | up {h d p : Nat} : wA rows (h + 1) = some (Str.ofString "end") → BW rows h (d + 1) p → BW rows (h + 1) d p
  | down {h d p : Nat} {w : Str} : wA rows (h + 1) = some w → (w = Str.ofString "if" ∨ w = Str.ofString "while") → BW rows h d p → BW rows (h + 1) (d + 1) p
  | same {h d p : Nat} {w : Str} : wA rows (h + 1) = some w → ¬ (w = Str.ofString "if" ∨ w = Str.ofString "while") → w ≠ Str.ofString "end" → BW rows h d p → BW rows (h + 1) d p
/-- the home that a row has -/
def homeS (rows : List D) : Nat → Option Nat
  | 0 => none
  | k + 1 => if wA rows k = some (Str.ofString "give") then none else if wA rows k = some (Str.ofString "def") then some k else homeS rows k
def homeV (rows : List D) (k : Nat) : Option Nat := if wA rows k = some (Str.ofString "def") then some k else homeS rows k
/-- of a block that is closed -/
def FactB (rows : List D) (s : ShS) (j : Nat) : Prop := ∃ n, s.ends[j]? = some (some n) ∧ j < n ∧ wA rows n = some (Str.ofString "end") ∧
  ((s.elses[j]? = some none ∧ PW rows (j + 1) 0 n) ∨ ∃ e, wA rows j = some (Str.ofString "if") ∧ s.elses[j]? = some (some e) ∧ j < e ∧ wA rows e = some (Str.ofString "else") ∧ PW rows (j + 1) 0 e ∧ PW rows (e + 1) 0 n)
def lvl (rows : List D) (k : Nat) (s : ShS) (i j : Nat) (z : String) : Prop :=
  j < k ∧ (z = "while" ∧ wA rows j = some (Str.ofString "while") ∨ (z = "if" ∨ z = "else") ∧ wA rows j = some (Str.ofString "if")) ∧
  ((z = "else" ∧ ∃ e, s.elses[j]? = some (some e) ∧ j < e ∧ wA rows e = some (Str.ofString "else") ∧ PW rows (j + 1) 0 e ∧ ∀ p, PW rows k i p → PW rows (e + 1) 0 p) ∨
   (z ≠ "else" ∧ s.elses[j]? = some none ∧ ∀ p, PW rows k i p → PW rows (j + 1) 0 p))
def Lvls (rows : List D) (k : Nat) (s : ShS) : Nat → List (Nat × String) → Prop
  | _, [] => True
  | i, (j, z) :: st => lvl rows k s i j z ∧ Lvls rows k s (i + 1) st
def BA (rows : List D) : Nat → List (Nat × String) → Prop
  | _, [] => True
  | k, (j, _) :: st => j < k ∧ (∃ w, wA rows j = some w ∧ (w = Str.ofString "if" ∨ w = Str.ofString "while")) ∧ (∀ d p, BW rows j d p → BW rows (k - 1) d p) ∧ BA rows j st
theorem Lvls.to {rows : List D} {k k' : Nat} {s s' : ShS} : ∀ {st : List (Nat × String)} {i i' : Nat}, Lvls rows k s i st → (∀ n j z, (j, z) ∈ st → lvl rows k s (i + n) j z → lvl rows k' s' (i' + n) j z) → Lvls rows k' s' i' st
  | [], _, _, _, _ => trivial
  | (j, z) :: st, i, i', h, f => ⟨f 0 j z (by simp) h.1, Lvls.to h.2 fun n j z hm h => by have := f (n + 1) j z (by simp [hm]) (by rwa [show i + (n + 1) = i + 1 + n by omega]); rwa [show i' + 1 + n = i' + (n + 1) by omega]⟩
theorem lvl.to {rows : List D} {k i i' j : Nat} {z : String} {s s' : ShS} (h : lvl rows k s i j z) (e : s'.elses[j]? = s.elses[j]?) (f : ∀ p, PW rows (k + 1) i' p → PW rows k i p) : lvl rows (k + 1) s' i' j z := by
  obtain ⟨h1, h2, h3⟩ := h
  refine ⟨by omega, h2, ?_⟩
  rw [e]
  rcases h3 with ⟨a, n, b, c, d, g, q⟩ | ⟨a, b, q⟩
  · exact .inl ⟨a, n, b, c, d, g, fun p hp => q p (f p hp)⟩
  · exact .inr ⟨a, b, fun p hp => q p (f p hp)⟩
theorem BA.lt {rows : List D} : ∀ {st : List (Nat × String)} {k : Nat}, BA rows k st → ∀ j, j ∈ st.map (·.1) → j < k
  | [], _, _, j, h => by simp at h
  | (i, z) :: st, k, b, j, h => by
    simp only [List.map_cons, List.mem_cons] at h
    rcases h with rfl | h
    · exact b.1
    · exact Nat.lt_trans (BA.lt b.2.2.2 j h) b.1
theorem FactB.to {rows : List D} {s s' : ShS} {j : Nat} (h : FactB rows s j) (e1 : s'.ends[j]? = s.ends[j]?) (e2 : s'.elses[j]? = s.elses[j]?) : FactB rows s' j := by
  unfold FactB at h ⊢
  rw [e1, e2]; exact h
structure Inv31 (rows : List D) (k : Nat) (m : Mode) (s : ShS) : Prop where
  ok : ShOk rows.length k s
  stk : s.stack = match m with | none => [] | some (d, st) => d :: (st.map (·.1)).reverse
  dl : ∀ d st, m = some (d, st) → wA rows d = some (Str.ofString "def")
  lv : ∀ d st, m = some (d, st) → Lvls rows k s 0 st
  ba : ∀ d st, m = some (d, st) → BA rows k st
  cl : ∀ j < k, (wA rows j = some (Str.ofString "if") ∨ wA rows j = some (Str.ofString "while")) → (∀ d st, m = some (d, st) → j ∉ st.map (·.1)) → FactB rows s j
  op : ∀ j < k, (wA rows j = some (Str.ofString "if") ∨ wA rows j = some (Str.ofString "while") ∨ wA rows j = some (Str.ofString "end")) → homeV rows j ≠ none
  el : ∀ e < k, wA rows e = some (Str.ofString "else") → ∃ j, s.heads[e]? = some (some j) ∧ s.elses[j]? = some (some e) ∧ wA rows j = some (Str.ofString "if") ∧ j < e
  en : ∀ e < k, wA rows e = some (Str.ofString "end") → ∃ j w, s.heads[e]? = some (some j) ∧ wA rows j = some w ∧ BW rows (e - 1) 0 j ∧ j < e
  fe : ∀ j, k ≤ j → j < rows.length → s.elses[j]? = some none ∧ s.homes[j]? = some none
  hm : ∀ i < k, s.homes[i]? = some (homeV rows i)
  hs : homeS rows k = m.map (·.1)
theorem inv_start (rows : List D) : Inv31 rows 0 none (.start rows.length) where
  ok := ⟨by simp [ShS.start], by simp [ShS.start], by simp [ShS.start], by simp [ShS.start], by simp [ShS.start], by simp [ShS.start]⟩
  stk := rfl
  dl := by simp
  lv := by simp
  ba := by simp
  cl := by simp
  op := by simp
  el := by simp
  en := by simp
  fe := fun j _ h => by simp [ShS.start, List.getElem?_replicate, h]
  hm := by simp
  hs := rfl
theorem ShOk.step {n k : Nat} {w : Str} {s s' : ShS} (h : ShOk n k s) (e : stepS k w s = some s') : ShOk n (k + 1) s' := by
  unfold stepS at e
  cases q : elseS k w (defS k w (topS k s)) with
  | none => rw [q] at e; cases e
  | some a =>
    rw [q] at e
    simp only [Option.bind_some] at e
    cases q2 : footS k w a with
    | none => rw [q2] at e; cases e
    | some b =>
      rw [q2] at e
      injection e with e
      subst e
      exact ((h.top.deff.els q).foot q2).push
theorem plain_ne {w : Str} (h : plainW w) : w ≠ Str.ofString "def" ∧ w ≠ Str.ofString "if" ∧ w ≠ Str.ofString "while" ∧ w ≠ Str.ofString "give" ∧ w ≠ Str.ofString "end" ∧ w ≠ Str.ofString "else" := by
  obtain ⟨h1, h2, h3⟩ := h
  unfold opensW at h1
  unfold closesW at h2
  simp only [not_or] at h1 h2
  exact ⟨h1.1, h1.2.1, h1.2.2, h2.1, h2.2, h3⟩
theorem next_of {k : Nat} {Q : Nat → Prop} (h1 : ∀ j < k, Q j) (h2 : Q k) : ∀ j < k + 1, Q j := fun j hj => by
  rcases Nat.lt_succ_iff_lt_or_eq.mp hj with h | rfl
  · exact h1 j h
  · exact h2
/-- what the step keeps, inside a function, of heads and homes -/
theorem homes_in {rows : List D} {k d : Nat} {st : List (Nat × String)} {s : ShS} {w : Str} (hk : k < rows.length) (hw : wA rows k = some w) (wd : w ≠ Str.ofString "def") (I : Inv31 rows k (some (d, st)) s) :
    (∀ i < k + 1, (s.homes.set k (some d))[i]? = some (homeV rows i)) ∧ (w ≠ Str.ofString "give" → homeS rows (k + 1) = some d) ∧ (w = Str.ofString "give" → homeS rows (k + 1) = none) ∧ homeV rows k = some d := by
  have hs := I.hs
  simp at hs
  have hv : homeV rows k = some d := by unfold homeV; rw [hw, if_neg (by simpa using wd), hs]
  refine ⟨next_of (fun i hi => ?_) ?_, fun h => ?_, fun h => ?_, hv⟩
  · rw [List.getElem?_set_ne (by omega)]; exact I.hm i hi
  · rw [List.getElem?_set_self (by rw [I.ok.l4]; exact hk), hv]
  · unfold homeS; rw [hw, if_neg (by simpa using h), if_neg (by simpa using wd), hs]
  · unfold homeS; rw [hw, if_pos (by rw [h])]
theorem step_to {rows : List D} {k : Nat} {w : Str} {m m' : Mode} {s : ShS} (hk : k < rows.length) (hw : wA rows k = some w) (t : StepM k w m m') (I : Inv31 rows k m s) : ∃ s', stepS k w s = some s' ∧ Inv31 rows (k + 1) m' s' := by
  have l1 := I.ok.l1
  have l2 := I.ok.l2
  have l3 := I.ok.l3
  have l4 := I.ok.l4
  have stk := I.stk
  have hs := I.hs
  cases t with
  | dfn =>
    have e : stepS k (Str.ofString "def") s = some { s with homes := s.homes.set k (some k), stack := s.stack ++ [k] } := by simp [stepS, topS, stk, defS, elseS, footS, pushS]
    refine ⟨_, e, I.ok.step e, by simp [stk], by simp [hw], by simp [Lvls], by simp [BA], next_of (fun j hj h _ => (I.cl j hj h (by simp)).to rfl rfl) (by rw [hw]; simp), next_of I.op (by rw [hw]; simp), next_of I.el (by rw [hw]; simp), next_of I.en (by rw [hw]; simp), fun j h1 h2 => ⟨(I.fe j (by omega) h2).1, ?_⟩, next_of (fun i hi => ?_) ?_, ?_⟩
    · show (s.homes.set k (some k))[j]? = _
      rw [List.getElem?_set_ne (by omega)]; exact (I.fe j (by omega) h2).2
    · show (s.homes.set k (some k))[i]? = _
      rw [List.getElem?_set_ne (by omega)]; exact I.hm i hi
    · show (s.homes.set k (some k))[k]? = _
      rw [List.getElem?_set_self (by omega)]; unfold homeV; rw [if_pos hw]
    · unfold homeS; rw [hw]; simp
  | out hp =>
    obtain ⟨n1, n2, n3, n4, n5, n6⟩ := plain_ne hp
    have e : stepS k w s = some s := by simp [stepS, topS, stk, defS, elseS, footS, pushS, n1, n2, n3, n4, n5, n6]
    simp at hs
    have h0 : homeV rows k = none := by unfold homeV; rw [hw, if_neg (by simpa using n1), hs]
    refine ⟨_, e, I.ok.step e, by simp [stk], by simp, by simp, by simp, next_of (fun j hj h _ => (I.cl j hj h (by simp)).to rfl rfl) (by rw [hw]; simp [n2, n3]), next_of I.op (by rw [hw]; simp [n2, n3, n5]), next_of I.el (by rw [hw]; simp [n6]), next_of I.en (by rw [hw]; simp [n5]), fun j h1 h2 => I.fe j (by omega) h2, next_of I.hm ?_, ?_⟩
    · rw [(I.fe k (by omega) hk).2, h0]
    · unfold homeS; rw [hw]; simp [n1, n4, hs]
  | @ins w d st hp =>
    obtain ⟨n1, n2, n3, n4, n5, n6⟩ := plain_ne hp
    simp only at stk
    obtain ⟨t, ht⟩ : ∃ t, (d :: (st.map (·.1)).reverse).getLast? = some t := ⟨_, List.getLast?_eq_some_getLast (by simp)⟩
    have e : stepS k w s = some { s with heads := s.heads.set k (some t), homes := s.homes.set k (some d) } := by simp only [stepS, topS, stk, ht, List.head?_cons]; simp [defS, elseS, footS, pushS, n1, n2, n3, n4, n5, n6]
    obtain ⟨h1, h2, h3, h4⟩ := homes_in hk hw n1 I
    have hne : ∀ i < k, (s.heads.set k (some t))[i]? = s.heads[i]? := fun i hi => List.getElem?_set_ne (by omega)
    refine ⟨_, e, I.ok.step e, by simp [stk], by rintro d' st' ⟨⟩; exact I.dl d _ rfl, ?_, ?_, next_of (fun j hj h z => (I.cl j hj h z).to rfl rfl) (by rw [hw]; simp [n2, n3]), next_of I.op (by rw [hw]; simp [n2, n3, n5]), next_of (fun i hi h => ?_) (by rw [hw]; simp [n6]), next_of (fun i hi h => ?_) (by rw [hw]; simp [n5]), fun j g1 g2 => ⟨(I.fe j (by omega) g2).1, ?_⟩, h1, by simp [h2 n4]⟩
    · rintro d' st' ⟨⟩
      exact (I.lv d st rfl).to fun n j z _ h => h.to rfl fun p hp => .same hw (by simp [n2, n3]) n5 (fun h => absurd h n6) hp
    · rintro d' st' ⟨⟩
      have b := I.ba d st rfl
      cases st with
      | nil => trivial
      | cons a st =>
        obtain ⟨j, z⟩ := a
        obtain ⟨b1, b2, b3, b4⟩ := b
        refine ⟨by omega, b2, fun d p h => ?_, b4⟩
        have := b3 d p h
        obtain ⟨k, rfl⟩ : ∃ k', k = k' + 1 := ⟨k - 1, by omega⟩
        exact .same hw (by simp [n2, n3]) n5 this
    · show ∃ j, (s.heads.set k (some t))[i]? = _ ∧ _
      rw [hne i hi]; exact I.el i hi h
    · show ∃ j w, (s.heads.set k (some t))[i]? = _ ∧ _
      rw [hne i hi]; exact I.en i hi h
    · show (s.homes.set k (some d))[j]? = _
      rw [List.getElem?_set_ne (by omega)]; exact (I.fe j (by omega) g2).2
  | @opn d st z hz =>
    simp only at stk
    obtain ⟨t, ht⟩ : ∃ t, (d :: (st.map (·.1)).reverse).getLast? = some t := ⟨_, List.getLast?_eq_some_getLast (by simp)⟩
    have n1 : Str.ofString z ≠ Str.ofString "def" := by rcases hz with rfl | rfl <;> simp
    have n4 : Str.ofString z ≠ Str.ofString "give" := by rcases hz with rfl | rfl <;> simp
    have n5 : Str.ofString z ≠ Str.ofString "end" := by rcases hz with rfl | rfl <;> simp
    have n6 : Str.ofString z ≠ Str.ofString "else" := by rcases hz with rfl | rfl <;> simp
    have np : Str.ofString z = Str.ofString "if" ∨ Str.ofString z = Str.ofString "while" := by rcases hz with rfl | rfl <;> simp
    have nz : z ≠ "else" := by rcases hz with rfl | rfl <;> decide
    have e : stepS k (Str.ofString z) s = some { s with heads := s.heads.set k (some t), homes := s.homes.set k (some d), stack := s.stack ++ [k] } := by simp only [stepS, topS, stk, ht, List.head?_cons]; rcases hz with rfl | rfl <;> simp [defS, elseS, footS, pushS, stk]
    obtain ⟨h1, h2, h3, h4⟩ := homes_in hk hw n1 I
    have hne : ∀ i < k, (s.heads.set k (some t))[i]? = s.heads[i]? := fun i hi => List.getElem?_set_ne (by omega)
    refine ⟨_, e, I.ok.step e, by simp [stk], by rintro d' st' ⟨⟩; exact I.dl d _ rfl, ?_, ?_, next_of (fun j hj h z => (I.cl j hj h fun d' st' q hm => ?_).to rfl rfl) (fun _ q => absurd (List.mem_cons_self) (q d _ rfl)), next_of I.op (fun _ => by rw [h4]; simp), next_of (fun i hi h => ?_) (by rw [hw]; intro h; injection h with h; exact absurd h n6), next_of (fun i hi h => ?_) (by rw [hw]; intro h; injection h with h; exact absurd h n5), fun j g1 g2 => ⟨(I.fe j (by omega) g2).1, ?_⟩, h1, by simp [h2 n4]⟩
    · rintro d' st' ⟨⟩
      refine ⟨⟨by omega, ?_, .inr ⟨nz, (I.fe k (by omega) hk).1, fun p hp => hp⟩⟩, (I.lv d st rfl).to fun n j z _ h => h.to rfl fun p hp => .up hw np (by rwa [show 0 + n + 1 = 0 + 1 + n by omega])⟩
      rcases hz with rfl | rfl
      · exact .inr ⟨.inl rfl, hw⟩
      · exact .inl ⟨rfl, hw⟩
    · rintro d' st' ⟨⟩
      exact ⟨by omega, ⟨_, hw, np⟩, fun d p h => h, I.ba d st rfl⟩
    · cases q
      exact z d _ rfl (List.mem_cons_of_mem _ hm)
    · show ∃ j, (s.heads.set k (some t))[i]? = _ ∧ _
      rw [hne i hi]; exact I.el i hi h
    · show ∃ j w, (s.heads.set k (some t))[i]? = _ ∧ _
      rw [hne i hi]; exact I.en i hi h
    · show (s.homes.set k (some d))[j]? = _
      rw [List.getElem?_set_ne (by omega)]; exact (I.fe j (by omega) g2).2
  | @els d j st =>
    simp only at stk
    have hl : s.stack.getLast? = some j := by rw [stk, show d :: (((j, "if") :: st).map (·.1)).reverse = (d :: (st.map (·.1)).reverse) ++ [j] by simp, List.getLast?_concat]
    have hh : s.stack.head? = some d := by rw [stk]; rfl
    have e : stepS k (Str.ofString "else") s = some { s with heads := s.heads.set k (some j), homes := s.homes.set k (some d), elses := s.elses.set j (some k) } := by simp [stepS, topS, hl, hh, defS, elseS, footS, pushS]
    obtain ⟨h1, h2, h3, h4⟩ := homes_in hk hw (by simp) I
    have hne : ∀ i < k, (s.heads.set k (some j))[i]? = s.heads[i]? := fun i hi => List.getElem?_set_ne (by omega)
    obtain ⟨⟨lt, kd, q⟩, lv⟩ := I.lv d _ rfl
    obtain ⟨b1, b2, b3, b4⟩ := I.ba d _ rfl
    have wj : wA rows j = some (Str.ofString "if") := by
      rcases kd with ⟨h, _⟩ | ⟨_, h⟩
      · exact absurd h (by decide)
      · exact h
    obtain ⟨q1, q2⟩ : s.elses[j]? = some none ∧ ∀ p, PW rows k 0 p → PW rows (j + 1) 0 p := by
      rcases q with ⟨h, _⟩ | ⟨_, h1, h2⟩
      · exact absurd h (by decide)
      · exact ⟨h1, h2⟩
    have ene : ∀ i, i ≠ j → (s.elses.set j (some k))[i]? = s.elses[i]? := fun i hi => List.getElem?_set_ne (by omega)
    have ej : (s.elses.set j (some k))[j]? = some (some k) := List.getElem?_set_self (by omega)
    refine ⟨_, e, I.ok.step e, by simp [stk], by rintro d' st' ⟨⟩; exact I.dl d _ rfl, ?_, ?_, next_of (fun i hi h z => (I.cl i hi h fun d' st' q hm => ?_).to rfl (ene i ?_)) (by rw [hw]; simp), next_of I.op (by rw [hw]; simp), next_of (fun i hi h => ?_) (fun _ => ⟨j, List.getElem?_set_self (by omega), ej, wj, lt⟩), next_of (fun i hi h => ?_) (by rw [hw]; simp), fun i g1 g2 => ⟨?_, ?_⟩, h1, by simp [h2]⟩
    · rintro d' st' ⟨⟩
      refine ⟨⟨by omega, .inr ⟨.inr rfl, wj⟩, .inl ⟨rfl, k, ej, lt, hw, q2 _ (.stop hw (.inl rfl)), fun p hp => hp⟩⟩, lv.to fun n i z hm h => h.to (ene i ?_) fun p hp => .same hw (by simp) (by simp) (fun _ => by omega) hp⟩
      have := b4.lt i (List.mem_map.mpr ⟨_, hm, rfl⟩); omega
    · rintro d' st' ⟨⟩
      refine ⟨by omega, b2, fun d p h => ?_, b4⟩
      have := b3 d p h
      obtain ⟨k, rfl⟩ : ∃ k', k = k' + 1 := ⟨k - 1, by omega⟩
      exact .same hw (by simp) (by simp) this
    · cases q
      exact z d _ rfl hm
    · rintro rfl
      exact z d _ rfl List.mem_cons_self
    · show ∃ j', (s.heads.set k (some j))[i]? = _ ∧ (s.elses.set j (some k))[j']? = _ ∧ _
      rw [hne i hi]
      obtain ⟨j', a1, a2, a3, a4⟩ := I.el i hi h
      refine ⟨j', a1, ?_, a3, a4⟩
      rw [ene j' ?_]; exact a2
      rintro rfl
      rw [q1] at a2; cases a2
    · show ∃ j' w, (s.heads.set k (some j))[i]? = _ ∧ _
      rw [hne i hi]; exact I.en i hi h
    · show (s.elses.set j (some k))[i]? = _
      rw [ene i (by omega)]; exact (I.fe i (by omega) g2).1
    · show (s.homes.set k (some d))[i]? = _
      rw [List.getElem?_set_ne (by omega)]; exact (I.fe i (by omega) g2).2
  | @cls d j z st =>
    simp only at stk
    have hl : s.stack.getLast? = some j := by rw [stk, show d :: (((j, z) :: st).map (·.1)).reverse = (d :: (st.map (·.1)).reverse) ++ [j] by simp, List.getLast?_concat]
    have hh : s.stack.head? = some d := by rw [stk]; rfl
    have hd : s.stack.dropLast = d :: (st.map (·.1)).reverse := by
      rw [stk, show d :: (((j, z) :: st).map (·.1)).reverse = (d :: (st.map (·.1)).reverse) ++ [j] by simp, List.dropLast_concat]
    have e : stepS k (Str.ofString "end") s = some { s with heads := s.heads.set k (some j), homes := s.homes.set k (some d), ends := s.ends.set j (some k), stack := d :: (st.map (·.1)).reverse } := by
      simp [stepS, topS, hl, hh, defS, elseS, footS, pushS, hd]
    obtain ⟨h1, h2, h3, h4⟩ := homes_in hk hw (by simp) I
    have hne : ∀ i < k, (s.heads.set k (some j))[i]? = s.heads[i]? := fun i hi => List.getElem?_set_ne (by omega)
    obtain ⟨⟨lt, kd, q⟩, lv⟩ := I.lv d _ rfl
    obtain ⟨b1, b2, b3, b4⟩ := I.ba d _ rfl
    have ene : ∀ i, i ≠ j → (s.ends.set j (some k))[i]? = s.ends[i]? := fun i hi => List.getElem?_set_ne (by omega)
    have ej : (s.ends.set j (some k))[j]? = some (some k) := List.getElem?_set_self (by omega)
    obtain ⟨wj, b5, b6⟩ := b2
    refine ⟨_, e, I.ok.step e, by simp, by rintro d' st' ⟨⟩; exact I.dl d _ rfl, ?_, ?_, next_of (fun i hi h z' => ?_) (by rw [hw]; simp), next_of I.op (fun _ => by rw [h4]; simp), next_of (fun i hi h => ?_) (by rw [hw]; simp), next_of (fun i hi h => ?_) (fun _ => ⟨j, wj, List.getElem?_set_self (by omega), b5, b3 _ _ (.stop b5 b6), lt⟩), fun i g1 g2 => ⟨(I.fe i (by omega) g2).1, ?_⟩, h1, by simp [h2]⟩
    · rintro d' st' ⟨⟩
      exact lv.to fun n i z hm h => h.to rfl fun p hp => by
        rw [show 0 + 1 + n = (0 + n) + 1 by omega]; exact .down hw hp
    · rintro d' st' ⟨⟩
      cases st with
      | nil => trivial
      | cons a st =>
        obtain ⟨i, z2⟩ := a
        obtain ⟨c1, c2, c3, c4⟩ := b4
        refine ⟨by omega, c2, fun d p h => ?_, c4⟩
        have h5 := c3 d p h
        obtain ⟨j, rfl⟩ : ∃ j', j = j' + 1 := ⟨j - 1, by omega⟩
        have h6 := b3 (d + 1) p (.down b5 b6 h5)
        obtain ⟨k, rfl⟩ : ∃ k', k = k' + 1 := ⟨k - 1, by omega⟩
        exact .up hw h6
    · by_cases c : i = j
      · subst c
        refine ⟨k, ej, lt, hw, ?_⟩
        rcases q with ⟨_, n, a1, a2, a3, a4, a5⟩ | ⟨_, a1, a2⟩
        · refine .inr ⟨n, ?_, a1, a2, a3, a4, a5 _ (.stop hw (.inr rfl))⟩
          rcases kd with ⟨h, _⟩ | ⟨_, h⟩
          · subst h; rename_i hz; exact absurd hz (by decide)
          · exact h
        · exact .inl ⟨a1, a2 _ (.stop hw (.inr rfl))⟩
      · refine (I.cl i hi h fun d' st' q hm => ?_).to (ene i c) rfl
        cases q
        rcases List.mem_cons.mp hm with hm | hm
        · exact c hm
        · exact z' d _ rfl hm
    · show ∃ j', (s.heads.set k (some j))[i]? = _ ∧ _
      rw [hne i hi]; exact I.el i hi h
    · show ∃ j' w, (s.heads.set k (some j))[i]? = _ ∧ _
      rw [hne i hi]; exact I.en i hi h
    · show (s.homes.set k (some d))[i]? = _
      rw [List.getElem?_set_ne (by omega)]; exact (I.fe i (by omega) g2).2
  | @giv d =>
    simp only [List.map_nil, List.reverse_nil] at stk
    have e : stepS k (Str.ofString "give") s = some { s with heads := s.heads.set k (some d), homes := s.homes.set k (some d), ends := s.ends.set d (some k), stack := [] } := by
      simp only [stepS, topS, stk, List.getLast?_singleton, List.head?_cons]; simp [defS, elseS, footS, pushS, stk]
    obtain ⟨h1, h2, h3, h4⟩ := homes_in hk hw (by simp) I
    have hne : ∀ i < k, (s.heads.set k (some d))[i]? = s.heads[i]? := fun i hi => List.getElem?_set_ne (by omega)
    have dk := I.ok.st d (by rw [stk]; simp)
    refine ⟨_, e, I.ok.step e, by simp, by simp, by simp, by simp, next_of (fun i hi h z' => (I.cl i hi h fun d' st' q => by cases q; simp).to (List.getElem?_set_ne ?_) rfl) (by rw [hw]; simp), next_of I.op (by rw [hw]; simp), next_of (fun i hi h => ?_) (by rw [hw]; simp), next_of (fun i hi h => ?_) (by rw [hw]; simp), fun i g1 g2 => ⟨(I.fe i (by omega) g2).1, ?_⟩, h1, by simp [h3]⟩
    · rintro rfl
      rw [I.dl d _ rfl] at h
      simp at h
    · show ∃ j', (s.heads.set k (some d))[i]? = _ ∧ _
      rw [hne i hi]; exact I.el i hi h
    · show ∃ j' w, (s.heads.set k (some d))[i]? = _ ∧ _
      rw [hne i hi]; exact I.en i hi h
    · show (s.homes.set k (some d))[i]? = _
      rw [List.getElem?_set_ne (by omega)]; exact (I.fe i (by omega) g2).2
theorem run_inv {rs : List D} {m : Mode} (n : RunM rs m) : ∀ {rows rest : List D}, rows = rs ++ rest → ∃ s, runS 0 rs (.start rows.length) = some s ∧ Inv31 rows rs.length m s := by
  induction n with
  | nil => exact fun _ => ⟨_, rfl, inv_start _⟩
  | @snoc rs r w m m' _ hw t ih =>
    intro rows rest e
    obtain ⟨s, h1, h2⟩ := ih (rows := rows) (rest := r :: rest) (by rw [e]; simp)
    have e1 : rows[rs.length]? = some r := by rw [e]; simp
    obtain ⟨s', h3, h4⟩ := step_to (by rw [e]; simp) (by unfold wA; rw [e1]; exact hw) t h2
    refine ⟨s', ?_, by simpa using h4⟩
    rw [runS_app rs r 0 _ s w h1 hw, Nat.zero_add]; exact h3
theorem run_words {rs : List D} {m : Mode} (n : RunM rs m) : ∀ r ∈ rs, ∃ w, wordR r = some w := by
  induction n with
  | nil => intro r hr; cases hr
  | snoc _ hw _ ih =>
    intro r hr
    rcases List.mem_append.mp hr with hr | hr
    · exact ih r hr
    · rw [List.mem_singleton.mp hr]; exact ⟨_, hw⟩
theorem wA_some {rows : List D} {k : Nat} {w : Str} (h : wA rows k = some w) : ∃ rest, rows[k]? = some (.tup (.str w :: rest)) := by
  unfold wA at h
  cases q : rows[k]? with
  | none => rw [q] at h; cases h
  | some r =>
    rw [q] at h
    obtain ⟨rest, rfl⟩ := wordR_tup (by simpa using h)
    exact ⟨rest, rfl⟩
theorem wA_lt {rows : List D} {k : Nat} {w : Str} (h : wA rows k = some w) : k < rows.length := by
  obtain ⟨_, h⟩ := wA_some h
  exact (List.getElem?_eq_some_iff.mp h).1
theorem PW.lt {rows : List D} {h d p : Nat} (x : PW rows h d p) : p < rows.length ∧ h ≤ p := by
  induction x with
  | stop h _ => exact ⟨wA_lt h, Nat.le_refl _⟩
  | up _ _ _ ih => exact ⟨ih.1, by omega⟩
  | down _ _ ih => exact ⟨ih.1, by omega⟩
  | same _ _ _ _ _ ih => exact ⟨ih.1, by omega⟩
theorem BW.le {rows : List D} {h d p : Nat} (x : BW rows h d p) : p ≤ h ∧ h < rows.length := by
  induction x with
  | stop h _ => exact ⟨Nat.le_refl _, wA_lt h⟩
  | up h _ ih => exact ⟨by omega, wA_lt h⟩
  | down h _ _ ih => exact ⟨by omega, wA_lt h⟩
  | same h _ _ _ ih => exact ⟨by omega, wA_lt h⟩
/-- the rows that may come next behind row k -/
def nextD (rows : List D) (s : ShS) (k : Nat) : List Int := match wA rows k with
  | none => []
  | some w =>
    if homeV rows k = none ∨ w = Str.ofString "give" then []
    else if w = Str.ofString "if" then (match s.elses[k]? with
      | some (some e) => setI [(k : Int) + 1, (e : Int) + 1]
      | _ => match s.ends[k]? with
        | some (some n) => setI [(k : Int) + 1, (n : Int)]
        | _ => [])
    else if w = Str.ofString "else" then (match s.heads[k]? with
      | some (some j) => (match s.ends[j]? with
        | some (some n) => [(n : Int)]
        | _ => [])
      | _ => [])
    else if w = Str.ofString "while" then (match s.ends[k]? with
      | some (some n) => [(k : Int) + 1, (n : Int) + 1]
      | _ => [])
    else if w = Str.ofString "end" then (match s.heads[k]? with
      | some (some j) => if wA rows j = some (Str.ofString "while") then [(j : Int)] else [(k : Int) + 1]
      | _ => [])
    else [(k : Int) + 1]
end VL
namespace VL
open PySem PySem.Spec PyProof.Rows L2 RZ
theorem optD_at {xs : List (Option Nat)} {k : Nat} {x : Option Nat} (h : xs[k]? = some x) : atI (xs.map optD) (k : Int) = some (optD x) := by
  have hl := (List.getElem?_eq_some_iff.mp h).1
  rw [at_nat (by omega) (by simp; omega)]; simp [h]
theorem nextD_len (rows : List D) (s : ShS) (k : Nat) : (nextD rows s k).length ≤ 2 := by
  have h2 : ∀ a b : Int, (setI [a, b]).length ≤ 2 := fun a b => setI_len _
  unfold nextD
  repeat' split
  all_goals first | exact h2 _ _ | simp
end VL
namespace VL
open PySem PySem.Spec PyProof.Rows L2 RZ
/-! ### going along, until the name is made -/
theorem int_bitI (b h : Nat) : (b : Int) / 2 ^ h % 2 = if b.testBit h = true then 1 else 0 := by
  have e : ((2 : Int) ^ h) = ((2 ^ h : Nat) : Int) := by simp
  have q := Nat.testBit_eq_decide_div_mod_eq (x := b) (i := h)
  have e2 : (b : Int) / ((2 ^ h : Nat) : Int) % 2 = ((b / 2 ^ h % 2 : Nat) : Int) := by rw [Int.natCast_emod, Int.natCast_ediv]; rfl
  rw [e, e2]
  by_cases c : b / 2 ^ h % 2 = 1
  · rw [c] at q; rw [q, c]; rfl
  · have : b / 2 ^ h % 2 = 0 := by omega
    rw [this] at q; rw [q, this]; rfl
inductive Come (nx : Nat → List Nat) (md : Nat → Bool) : Nat → List Nat → Nat → Nat → Prop
  | done {b : Nat} : Come nx md 0 [] b b
  | old {n h b r : Nat} {w : List Nat} : b.testBit h = true → Come nx md n w b r → Come nx md (n + 1) (w ++ [h]) b r
  | stop {n h b r : Nat} {w : List Nat} : b.testBit h = false → md h = true → Come nx md n w (b ||| 2 ^ h) r → Come nx md (n + 1) (w ++ [h]) b r
  | on {n h b r : Nat} {w : List Nat} : b.testBit h = false → md h = false → Come nx md n (w ++ nx h) (b ||| 2 ^ h) r → Come nx md (n + 1) (w ++ [h]) b r
theorem Come.len {nx : Nat → List Nat} {md : Nat → Bool} {n b r : Nat} {w : List Nat} (c : Come nx md n w b r) : w.length ≤ n := by
  induction c with
  | done => simp
  | old _ _ ih => simp; omega
  | stop _ _ _ ih => simp; omega
  | on _ _ _ ih => simp at ih ⊢; omega
def unset (b : Nat) : Nat := ((List.range 60).filter fun i => !b.testBit i).length
theorem unset_le (b : Nat) : unset b ≤ 60 := by
  have := List.length_filter_le (fun i => !b.testBit i) (List.range 60)
  unfold unset; simpa using this
theorem unset_lt {b h : Nat} (hb : b.testBit h = false) (hh : h < 60) : unset (b ||| 2 ^ h) < unset b := by
  have e : (List.range 60).filter (fun i => !(b ||| 2 ^ h).testBit i) = ((List.range 60).filter fun i => !b.testBit i).filter fun i => decide (h ≠ i) := by
    rw [List.filter_filter]
    refine List.filter_congr fun i _ => ?_
    rw [Nat.testBit_or, Nat.testBit_two_pow]
    by_cases c : h = i <;> simp [c]
  unfold unset
  rw [e]
  refine List.length_filter_lt_length_iff_exists.mpr ⟨h, ?_, by simp⟩
  simp [hh, hb]
theorem come_ex {nx : Nat → List Nat} {md : Nat → Bool} {N : Nat} (hN : N ≤ 60) (h1 : ∀ h < N, ∀ x ∈ nx h, x < N) (h2 : ∀ h, (nx h).length ≤ 2) : ∀ (m : Nat) (w : List Nat) (b : Nat), (∀ x ∈ w, x < N) → 3 * unset b + w.length ≤ m → ∃ n r, n ≤ m ∧ Come nx md n w b r := by
  intro m
  induction m with
  | zero =>
    intro w b _ h
    have : w = [] := List.length_eq_zero_iff.mp (by omega)
    subst this
    exact ⟨0, b, by omega, .done⟩
  | succ m ih =>
    intro w b hw h
    rcases List.eq_nil_or_concat w with rfl | ⟨w0, x, e⟩
    · exact ⟨0, b, by omega, .done⟩
    · rw [List.concat_eq_append] at e
      subst e
      have hx := hw x (by simp)
      have hw0 : ∀ y ∈ w0, y < N := fun y hy => hw y (by simp [hy])
      simp at h
      cases q : b.testBit x with
      | true =>
        obtain ⟨n, r, a, c⟩ := ih w0 b hw0 (by omega)
        exact ⟨n + 1, r, by omega, .old q c⟩
      | false =>
        have ul := unset_lt q (by omega)
        cases d : md x with
        | true =>
          obtain ⟨n, r, a, c⟩ := ih w0 (b ||| 2 ^ x) hw0 (by omega)
          exact ⟨n + 1, r, by omega, .stop q d c⟩
        | false =>
          have := h2 x
          obtain ⟨n, r, a, c⟩ := ih (w0 ++ nx x) (b ||| 2 ^ x) (fun y hy => by
            rcases List.mem_append.mp hy with hy | hy
            · exact hw0 y hy
            · exact h1 x hx y hy) (by simp; omega)
          exact ⟨n + 1, r, by omega, .on q d c⟩
/-! ### the next rows lie in the program -/
theorem next_in {rows : List D} {s : ShS} (I : Inv31 rows rows.length none s) {k : Nat} {w : Str} (hw : wA rows k = some w) (hh : homeV rows k ≠ none) (hg : w ≠ Str.ofString "give") : k + 1 < rows.length := by
  have hk := wA_lt hw
  by_cases c : k + 1 = rows.length
  · exfalso
    have hs := I.hs
    rw [← c] at hs
    simp only [Option.map_none] at hs
    unfold homeS at hs
    unfold homeV at hh
    rw [hw] at hs hh
    rw [if_neg (by simpa using hg)] at hs
    exact hh hs
  · omega
theorem nextD_in {rows : List D} {s : ShS} (I : Inv31 rows rows.length none s) {k : Nat} (hk : k < rows.length) : ∀ x ∈ nextD rows s k, 0 ≤ x ∧ x < rows.length := by
  have hend : ∀ j, (wA rows j = some (Str.ofString "if") ∨ wA rows j = some (Str.ofString "while")) → FactB rows s j := fun j hj => I.cl j (by rcases hj with h | h <;> exact wA_lt h) hj (by simp)
  have two : ∀ {a b : Int}, (0 ≤ a ∧ a < rows.length) → (0 ≤ b ∧ b < rows.length) → ∀ x ∈ setI [a, b], 0 ≤ x ∧ x < rows.length := fun ha hb x hx => by
    have := setI_mem.mp hx
    simp at this
    rcases this with rfl | rfl
    · exact ha
    · exact hb
  unfold nextD
  cases hw : wA rows k with
  | none => simp
  | some w =>
    simp only
    split
    · simp
    · rename_i c
      rw [not_or] at c
      have k1 := next_in I hw c.1 c.2
      split
      · rename_i c1
        subst c1
        obtain ⟨n, e1, e2, e3, e4⟩ := hend k (.inl hw)
        have nl := wA_lt e3
        rcases e4 with ⟨e4, _⟩ | ⟨e, _, e4, e5, e6, e7, e8⟩
        · rw [e4, e1]
          exact two ⟨by omega, by omega⟩ ⟨by omega, by omega⟩
        · rw [e4]
          have := e8.lt
          exact two ⟨by omega, by omega⟩ ⟨by omega, by omega⟩
      · split
        · rename_i c2
          subst c2
          obtain ⟨j, f1, f2, f3, f4⟩ := I.el k hk hw
          obtain ⟨n, e1, e2, e3, e4⟩ := hend j (.inl f3)
          have nl := wA_lt e3
          rw [f1]
          simp only [e1]
          simp; omega
        · split
          · rename_i c3
            subst c3
            obtain ⟨n, e1, e2, e3, e4⟩ := hend k (.inr hw)
            have n1 := next_in I e3 (I.op n (wA_lt e3) (.inr (.inr e3))) (by simp)
            rw [e1]
            simp; omega
          · split
            · rename_i c4
              subst c4
              obtain ⟨j, v, f1, f2, f3, f4⟩ := I.en k hk hw
              rw [f1]
              simp only
              split <;> simp <;> omega
            · simp; omega
def nxF (rows : List D) (s : ShS) (k : Nat) : List Nat := (nextD rows s k).map Int.toNat
theorem nxF_in {rows : List D} {s : ShS} (I : Inv31 rows rows.length none s) {k : Nat} (hk : k < rows.length) : ∀ x ∈ nxF rows s k, x < rows.length := fun x hx => by
  obtain ⟨y, hy, rfl⟩ := List.mem_map.mp hx
  have := nextD_in I hk y hy
  omega
end VL
namespace VL
open PySem PySem.Spec PyProof.Rows L2 RZ
/-! ### rows, by their shape -/
def OpK (x : D) : Prop := (∃ s, x = .str s ∧ nameOk s = true) ∨ ∃ n, x = .int n
def KeyK (x : D) : Prop := (∃ s, x = .str (Str.ofString "." ++ s) ∧ nameOk s = true) ∨ OpK x
inductive RowK : D → Prop
  | bare {z : String} : (z = "else" ∨ z = "end" ∨ z = "skip") → RowK (.tup [.str (Str.ofString z)])
  | op {z : String} {x : D} : (z = "give" ∨ z = "if" ∨ z = "while") → OpK x → RowK (.tup [.str (Str.ofString z), x])
  | put {n : Str} {x : D} : OpK x → RowK (.tup [.str (Str.ofString "put"), .str n, x])
  | doo {n : Str} {a b : D} {o : Str} : OpK a → OpK b → RowK (.tup [.str (Str.ofString "do"), .str n, a, .str o, b])
  | new {n : Str} : RowK (.tup [.str (Str.ofString "new"), .str n])
  | fail {n : Str} : RowK (.tup [.str (Str.ofString "fail"), .str n])
  | get {n r : Str} {k : D} : nameOk r = true → KeyK k → RowK (.tup [.str (Str.ofString "get"), .str n, .str r, k])
  | set {r : Str} {k x : D} : nameOk r = true → KeyK k → OpK x → RowK (.tup [.str (Str.ofString "set"), .str r, k, x])
  | call {n f : Str} {ops : List D} : (∀ o ∈ ops, OpK o) → ops.length ≤ 4 → RowK (.tup [.str (Str.ofString "call"), .str n, .str f, .tup ops])
  | deff {n : Str} {ps : List Str} : ps.length ≤ 4 → RowK (.tup [.str (Str.ofString "def"), .str n, .tup (ps.map D.str)])
section
variable {ws : List Str} {pl : List (Str × List Str)}
theorem oper_K (g : ∀ w ∈ ws, goodW w) {d : D} (h : OperD ws d) : OpK d := by
  rcases h with ⟨x, hx, rfl⟩ | ⟨n, _, _, rfl⟩
  · exact .inl ⟨x, rfl, name4 g hx⟩
  · exact .inr ⟨n, rfl⟩
theorem key_K (g : ∀ w ∈ ws, goodW w) {d : D} (h : KeyD ws d) : KeyK d := by
  rcases h with ⟨x, hx, rfl⟩ | h
  · exact .inl ⟨x, rfl, good_name (g x hx)⟩
  · exact .inr (oper_K g h)
theorem simple_K (g : ∀ w ∈ ws, goodW w) (few : ∀ p ∈ pl, p.2.length ≤ 4) {r : D} (s : Simple ws pl r) : RowK r := by
  cases s with
  | put _ h => exact .put (oper_K g h)
  | doo _ h1 _ h2 => exact .doo (oper_K g h1) (oper_K g h2)
  | new _ => exact .new
  | get _ h1 h2 => exact .get (name4 g h1) (key_K g h2)
  | set h0 h1 h2 => exact .set (name4 g h0) (key_K g h1) (oper_K g h2)
  | call _ hp hl h => exact .call (fun o ho => oper_K g (h o ho)) (by have := few _ hp; omega)
  | fail _ => exact .fail
  | skip => exact .bare (.inr (.inr rfl))
theorem one_all {Q : D → Prop} {r : D} (h : Q r) : ∀ x ∈ [r], Q x := fun x hx => by rw [List.mem_singleton.mp hx]; exact h
theorem part_K (g : ∀ w ∈ ws, goodW w) (few : ∀ p ∈ pl, p.2.length ≤ 4) {st : List String} {body : List D} (p : Part ws pl st body) : ∀ r ∈ body, RowK r := by
  induction p with
  | nil => intro r hr; cases hr
  | row _ s ih => exact app_all ih (one_all (simple_K g few s))
  | opIf _ h ih => exact app_all ih (one_all (.op (.inr (.inl rfl)) (oper_K g h)))
  | opWhile _ h ih => exact app_all ih (one_all (.op (.inr (.inr rfl)) (oper_K g h)))
  | els _ ih => exact app_all ih (one_all (.bare (.inl rfl)))
  | cls _ ih => exact app_all ih (one_all (.bare (.inr (.inl rfl))))
theorem fun_K (g : ∀ w ∈ ws, goodW w) (few : ∀ p ∈ pl, p.2.length ≤ 4) {p : Str × List Str} (hp : p.2.length ≤ 4) {fr : List D} (f : FunRows ws p pl fr) : ∀ r ∈ fr, RowK r := by
  induction f with
  | mk hb ho => exact app_all (app_all (one_all (.deff hp)) (part_K g few hb)) (one_all (.op (.inl rfl) (oper_K g ho)))
  | sk _ ih => exact app_all ih (one_all (.bare (.inr (.inr rfl))))
theorem funs_K (g : ∀ w ∈ ws, goodW w) (P : PlanGood ws pl) {k : Nat} {rs : List D} (f : Funs ws pl k rs) : ∀ r ∈ rs, RowK r := by
  induction f with
  | nil => intro r hr; cases hr
  | next _ hp hfr ih => exact app_all ih (fun_K g (fun p hp => (P.ps p (List.mem_of_mem_drop hp)).1) (P.ps _ (List.mem_of_getElem? hp)).1 hfr)
end
end VL
namespace VL
open PySem PySem.Spec PyProof.Rows L2 RZ
/-- rows that all may be asked -/
structure GoodR (rows : List D) (s : ShS) : Prop where
  len : rows.length ≤ 60
  run : runS 0 rows (.start rows.length) = some s
  inv : Inv31 rows rows.length none s
  wrd : ∀ r ∈ rows, ∃ w, wordR r = some w
  rk : ∀ r ∈ rows, RightR r ∧ RowK r ∧ FlatR r
theorem GoodR.wa {rows : List D} {s : ShS} (g : GoodR rows s) {k : Nat} (hk : k < rows.length) : ∃ w, wA rows k = some w := by
  obtain ⟨w, e⟩ := g.wrd rows[k] (List.getElem_mem hk)
  exact ⟨w, by unfold wA; rw [List.getElem?_eq_getElem hk]; exact e⟩
/-- whether the row at k makes the name -/
def mdF (rows : List D) (nm : Str) (k : Nat) : Bool := match rows[k]? with
  | some (.tup xs) => inD (.str nm) (madeF xs)
  | _ => false
theorem shl_ok {k : Nat} (h : k ≤ 63) : CShl 1 (k : Int) := by
  refine ⟨by omega, ?_⟩
  have : Builtin.Int.intBits 1 = 1 := by decide
  omega
theorem come_of {rows : List D} {s : ShS} (g : GoodR rows s) (nm : Str) {k : Nat} (hk : k < rows.length) : ∃ n r, n ≤ 1000 ∧ Come (nxF rows s) (mdF rows nm) n (nxF rows s k) 0 r := by
  have l2 : ∀ h, (nxF rows s h).length ≤ 2 := fun h => by have := nextD_len rows s h; simpa [nxF] using this
  obtain ⟨n, r, h1, h2⟩ := come_ex (md := mdF rows nm) g.len (fun h hh => nxF_in g.inv hh) l2 182 (nxF rows s k) 0 (nxF_in g.inv hk) (by have := unset_le 0; have := l2 k; omega)
  exact ⟨n, r, by omega, h2⟩
end VL
namespace VL
open PySem PySem.Spec PyProof.Rows L2 RZ
/-! ### rows, typed -/
inductive Rw where
  | skip | els | endd
  | deff (n : Str) (ps : List Str)
  | give (o : Key) | iff (o : Key) | whil (o : Key)
  | put (n : Str) (o : Key) | doo (n : Str) (a : Key) (w : Str) (b : Key) | new (n : Str)
  | get (n o : Str) (k : Key) | set (o : Str) (k v : Key) | call (n f : Str) (ops : List Key) | fail (w : Str)
@[simp] def rwW : Rw → String
  | .skip => "skip" | .els => "else" | .endd => "end" | .deff _ _ => "def" | .give _ => "give" | .iff _ => "if" | .whil _ => "while"
  | .put _ _ => "put" | .doo _ _ _ _ => "do" | .new _ => "new" | .get _ _ _ => "get" | .set _ _ _ => "set" | .call _ _ _ => "call" | .fail _ => "fail"
@[simp] def rwP : Rw → List D
  | .skip => [] | .els => [] | .endd => []
  | .deff n ps => [.str n, .tup (ps.map D.str)]
  | .give o => [kD o] | .iff o => [kD o] | .whil o => [kD o]
  | .put n o => [.str n, kD o] | .doo n a w b => [.str n, kD a, .str w, kD b] | .new n => [.str n]
  | .get n o k => [.str n, .str o, kD k] | .set o k v => [.str o, kD k, kD v] | .call n f ops => [.str n, .str f, .tup (ops.map kD)] | .fail w => [.str w]
def rwL (r : Rw) : List D := .str (Str.ofString (rwW r)) :: rwP r
def rwD (r : Rw) : D := .tup (rwL r)
abbrev prgD (P : List Rw) : D := .lst (P.map rwD)
/-! what is right of them -/
def okO : Key → Bool
  | .inl n => numOk n
  | .inr s => nameOk s
def fldS (s : Str) : Bool := Txt.startswith s (Str.ofString ".") && nameOk (cutS s (some 1) none)
def fldK : Key → Bool
  | .inl _ => false
  | .inr s => fldS s
def okKy (k : Key) : Bool := fldK k || okO k
def opsW : List Str := [Str.ofString "plus", Str.ofString "minus", Str.ofString "times", Str.ofString "over", Str.ofString "rest", Str.ofString "less", Str.ofString "same"]
def wfR : Rw → Prop
  | .skip => True | .els => True | .endd => True
  | .deff n ps => nameOk n = true ∧ ps.length ≤ 4 ∧ (∀ p ∈ ps, nameOk p = true) ∧ ps.Nodup
  | .give o => okO o = true | .iff o => okO o = true | .whil o => okO o = true
  | .put n o => nameOk n = true ∧ okO o = true
  | .doo n a w b => nameOk n = true ∧ okO a = true ∧ w ∈ opsW ∧ okO b = true
  | .new n => nameOk n = true
  | .get n o k => nameOk n = true ∧ nameOk o = true ∧ okKy k = true
  | .set o k v => nameOk o = true ∧ okKy k = true ∧ okO v = true
  | .call n f ops => nameOk n = true ∧ nameOk f = true ∧ ops.length ≤ 4 ∧ ∀ o ∈ ops, okO o = true
  | .fail w => nameOk w = true
theorem nameD_str {d : D} (h : nameD d = true) : ∃ s, d = .str s ∧ nameOk s = true := by
  cases d <;> simp [nameD] at h
  exact ⟨_, rfl, h⟩
theorem operD_key {d : D} (h : operD d = true) : ∃ k, d = kD k ∧ okO k = true := by
  cases d <;> simp [operD, nameD, numD] at h
  · exact ⟨.inl _, rfl, h⟩
  · exact ⟨.inr _, rfl, h⟩
theorem keyD_key {d : D} (h : (fieldD d || operD d) = true) : ∃ k, d = kD k ∧ okKy k = true := by
  cases c : operD d with
  | true => obtain ⟨k, rfl, hk⟩ := operD_key c; exact ⟨k, rfl, by simp [okKy, hk]⟩
  | false =>
    rw [c, Bool.or_false] at h
    cases d <;> simp [fieldD] at h
    exact ⟨.inr _, rfl, by simp [okKy, fldK, fldS, h]⟩
theorem opers_keys : ∀ {ds : List D}, (∀ d ∈ ds, operD d = true) → ∃ ks : List Key, ds = ks.map kD ∧ ∀ k ∈ ks, okO k = true
  | [], _ => ⟨[], rfl, by simp⟩
  | d :: ds, h => by
    obtain ⟨k, rfl, hk⟩ := operD_key (h d (by simp))
    obtain ⟨ks, rfl, hks⟩ := opers_keys (ds := ds) fun x hx => h x (by simp [hx])
    exact ⟨k :: ks, rfl, fun x hx => by rcases List.mem_cons.mp hx with rfl | hx; exact hk; exact hks x hx⟩
theorem operD_kD (k : Key) : operD (kD k) = okO k := by cases k <;> simp [operD, nameD, numD, okO]
theorem fieldD_kD (k : Key) : fieldD (kD k) = fldK k := by cases k <;> simp [fieldD, fldK, fldS]
theorem plainD_kD (k : Key) : plainD (kD k) := by cases k <;> trivial
theorem plainDs_kD (ks : List Key) : plainDs (ks.map kD) := fun x hx => by obtain ⟨k, _, rfl⟩ := List.mem_map.mp hx; exact plainD_kD k
theorem plainDs_str (ks : List Str) : plainDs (ks.map D.str) := fun x hx => by obtain ⟨k, _, rfl⟩ := List.mem_map.mp hx; trivial
theorem reck_ops {o : D} (h : reckW o = true) : ∃ s, o = .str s ∧ s ∈ opsW := by
  obtain ⟨s, rfl⟩ := reck_str h
  refine ⟨s, rfl, ?_⟩
  simp [reckW] at h
  simpa [opsW, eq_comm] using h
theorem dedup_full : ∀ (l L : List Str), (dedup L l).length = L.length + l.length → l.Nodup ∧ ∀ x ∈ l, x ∉ L
  | [], L, _ => by simp
  | x :: l, L, h => by
    rw [dedup] at h
    by_cases c : x ∈ L
    · rw [if_pos c] at h
      have := dedup_len l L
      simp at h; omega
    · rw [if_neg c] at h
      obtain ⟨h1, h2⟩ := dedup_full l (x :: L) (by simp at h ⊢; omega)
      refine ⟨List.nodup_cons.mpr ⟨fun z => ?_, h1⟩, fun y hy => ?_⟩
      · exact h2 x z (by simp)
      · rcases List.mem_cons.mp hy with rfl | hy
        · exact c
        · exact fun z => h2 y hy (by simp [z])
theorem setS_full {l : List Str} (h : (setS l).length = l.length) : l.Nodup := by
  unfold setS at h
  rw [(srtS_perm _).length_eq] at h
  exact (dedup_full l [] (by simpa using h)).1
theorem namesOf_strs0 : ∀ {ps : List Str}, (∀ p ∈ ps, nameOk p = true) → namesOf (ps.map D.str) = ps
  | [], _ => rfl
  | p :: ps, h => by rw [List.map_cons, namesOf, if_pos (h p (by simp)), namesOf_strs0 fun x hx => h x (by simp [hx])]
theorem namesOf_le : ∀ (xs : List D), (namesOf xs).length = xs.length → ∃ ps : List Str, xs = ps.map D.str ∧ ∀ p ∈ ps, nameOk p = true
  | [], _ => ⟨[], rfl, by simp⟩
  | x :: r, h => by
    have hl := namesOf_len r
    cases x with
    | str s =>
      rw [namesOf] at h
      split at h
      · rename_i c
        obtain ⟨ps, rfl, hps⟩ := namesOf_le r (by simpa using h)
        exact ⟨s :: ps, rfl, fun p hp => by rcases List.mem_cons.mp hp with rfl | hp; exact c; exact hps p hp⟩
      · simp at h; omega
    | _ => simp [namesOf] at h; omega
/-- a right row is a typed one -/
theorem typed_of {w : Str} {ps : List D} (h : rowOk (.str w :: ps) = true) : ∃ r, D.tup (.str w :: ps) = rwD r ∧ wfR r := by
  have hc := clsOf_in w
  unfold rowOk at h
  simp only at h
  unfold clsOf at h
  by_cases c1 : w = Str.ofString "def"
  · subst c1
    simp at h
    unfold okDef at h
    split at h
    · rename_i x n ys e
      cases e
      simp only [Bool.and_eq_true] at h
      obtain ⟨h1, h2, h3⟩ := h
      obtain ⟨s, rfl, hs⟩ := nameD_str h1
      have l1 := namesOf_len ys
      have l2 := setS_len (namesOf ys)
      have e3 : (setS (namesOf ys)).length = ys.length := by simp at h3; omega
      obtain ⟨ps, rfl, hps⟩ := namesOf_le ys (by omega)
      rw [namesOf_strs0 hps] at e3
      simp [allOpD] at h2
      exact ⟨.deff s ps, rfl, hs, h2.1, hps, setS_full (by simpa using e3)⟩
    · cases h
  by_cases c2 : w = Str.ofString "give"
  · subst c2
    simp at h
    unfold okGive at h
    split at h
    · rename_i e; cases e
      obtain ⟨k, rfl, hk⟩ := operD_key h
      exact ⟨.give k, rfl, hk⟩
    · cases h
  by_cases c3 : w = Str.ofString "if"
  · subst c3
    simp at h
    unfold okGive at h
    split at h
    · rename_i e; cases e
      obtain ⟨k, rfl, hk⟩ := operD_key h
      exact ⟨.iff k, rfl, hk⟩
    · cases h
  by_cases c4 : w = Str.ofString "while"
  · subst c4
    simp at h
    unfold okGive at h
    split at h
    · rename_i e; cases e
      obtain ⟨k, rfl, hk⟩ := operD_key h
      exact ⟨.whil k, rfl, hk⟩
    · cases h
  by_cases c5 : w = Str.ofString "put"
  · subst c5
    simp at h
    unfold okPut at h
    split at h
    · rename_i e; cases e
      simp only [Bool.and_eq_true] at h
      obtain ⟨s, rfl, hs⟩ := nameD_str h.1
      obtain ⟨k, rfl, hk⟩ := operD_key h.2
      exact ⟨.put s k, rfl, hs, hk⟩
    · cases h
  by_cases c6 : w = Str.ofString "do"
  · subst c6
    simp at h
    unfold okDo at h
    split at h
    · rename_i e; cases e
      simp only [Bool.and_eq_true] at h
      obtain ⟨h1, h2, h3, h4⟩ := h
      obtain ⟨s, rfl, hs⟩ := nameD_str h1
      obtain ⟨o, rfl, ho⟩ := reck_ops h2
      obtain ⟨k, rfl, hk⟩ := operD_key h3
      obtain ⟨k', rfl, hk'⟩ := operD_key h4
      exact ⟨.doo s k o k', rfl, hs, hk, ho, hk'⟩
    · cases h
  by_cases c7 : w = Str.ofString "new"
  · subst c7
    simp at h
    unfold okName at h
    split at h
    · rename_i e; cases e
      obtain ⟨s, rfl, hs⟩ := nameD_str h
      exact ⟨.new s, rfl, hs⟩
    · cases h
  by_cases c8 : w = Str.ofString "get"
  · subst c8
    simp at h
    unfold okGet at h
    split at h
    · rename_i e; cases e
      rw [Bool.and_eq_true, Bool.and_eq_true] at h
      obtain ⟨h1, h2, h3⟩ := h
      obtain ⟨s, rfl, hs⟩ := nameD_str h1
      obtain ⟨o, rfl, ho⟩ := nameD_str h2
      obtain ⟨k, rfl, hk⟩ := keyD_key h3
      exact ⟨.get s o k, rfl, hs, ho, hk⟩
    · cases h
  by_cases c9 : w = Str.ofString "set"
  · subst c9
    simp at h
    unfold okSet at h
    split at h
    · rename_i e; cases e
      rw [Bool.and_eq_true, Bool.and_eq_true] at h
      obtain ⟨h1, h2, h3⟩ := h
      obtain ⟨o, rfl, ho⟩ := nameD_str h1
      obtain ⟨k, rfl, hk⟩ := keyD_key h2
      obtain ⟨v, rfl, hv⟩ := operD_key h3
      exact ⟨.set o k v, rfl, ho, hk, hv⟩
    · cases h
  by_cases c10 : w = Str.ofString "call"
  · subst c10
    simp at h
    unfold okCall at h
    split at h
    · rename_i e; cases e
      simp only [Bool.and_eq_true] at h
      obtain ⟨h1, h2, h3⟩ := h
      obtain ⟨s, rfl, hs⟩ := nameD_str h1
      obtain ⟨f, rfl, hf⟩ := nameD_str h2
      unfold allOpD at h3
      split at h3
      · rw [Bool.and_eq_true, decide_eq_true_eq, List.all_eq_true] at h3
        obtain ⟨ks, rfl, hks⟩ := opers_keys h3.2
        exact ⟨.call s f ks, rfl, hs, hf, by simpa using h3.1, hks⟩
      · cases h3
    · cases h
  by_cases c11 : w = Str.ofString "fail"
  · subst c11
    simp at h
    unfold okName at h
    split at h
    · rename_i e; cases e
      obtain ⟨s, rfl, hs⟩ := nameD_str h
      exact ⟨.fail s, rfl, hs⟩
    · cases h
  have bare : ∀ r : Rw, rwP r = [] → wfR r → w = Str.ofString (rwW r) → okBare (.str w :: ps) = true → ∃ r, D.tup (.str w :: ps) = rwD r ∧ wfR r := fun r e1 e2 e3 e4 => by
    simp [okBare] at e4
    refine ⟨r, ?_, e2⟩
    have e4 : ps = [] := List.length_eq_zero_iff.mp (by omega)
    rw [rwD, rwL, e1, e3, e4]
  by_cases c12 : w = Str.ofString "else"
  · refine bare .els rfl trivial c12 ?_
    rw [c12] at h ⊢; simpa using h
  by_cases c13 : w = Str.ofString "end"
  · refine bare .endd rfl trivial c13 ?_
    rw [c13] at h ⊢; simpa using h
  by_cases c14 : w = Str.ofString "skip"
  · refine bare .skip rfl trivial c14 ?_
    rw [c14] at h ⊢; simpa using h
  simp [c1, c2, c3, c4, c5, c6, c7, c8, c9, c10, c11, c12, c13, c14] at h
/-! the other way: typed rows are right -/
theorem rowR_of {r : Rw} (h : wfR r) : RowR (Str.ofString (rwW r)) (rwP r) := by
  have str_all : ∀ {ks : List Key}, (∀ o ∈ ks, okO o = true) → (ks.map kD).all operD = true := fun {ks} h => by
    rw [List.all_eq_true]; intro x hx; obtain ⟨k, hk, rfl⟩ := List.mem_map.mp hx; rw [operD_kD]; exact h k hk
  have pl2 : ∀ {x y : D}, plainD x → plainD y → plainDs [x, y] := fun a b z hz => by simp at hz; rcases hz with rfl | rfl <;> assumption
  have nt : ∀ (k : Key) (ys : List D), kD k ≠ .tup ys := fun k ys e => by cases k <;> simp at e
  constructor
  · constructor
    · cases r <;> simp [plainDs, plainD_kD] <;> simp [plainD]
    · cases r <;> simp
    · intro x hx ys e
      subst e
      cases r <;> simp at hx <;> try (exact absurd hx.symm (nt _ _))
      · subst hx; exact ⟨plainDs_str _, by have := h.2.1; simp; omega⟩
      · rcases hx with hx | hx <;> exact absurd hx.symm (nt _ _)
      · rcases hx with hx | hx <;> exact absurd hx.symm (nt _ _)
      · subst hx; exact ⟨plainDs_kD _, by have := h.2.2.1; simp; omega⟩
    · intro o e1 e2
      cases r <;> simp at e1 e2
      subst e2; rfl
  · cases r with
    | skip => simp [rowOk, clsOf, okBare]
    | els => simp [rowOk, clsOf, okBare]
    | endd => simp [rowOk, clsOf, okBare]
    | deff n ps =>
      have e : namesOf (ps.map D.str) = ps := namesOf_strs0 h.2.2.1
      have e2 : (setS ps).length = ps.length := (setS_nd h.2.2.2).length_eq
      have e3 : (ps.map D.str).all operD = true := by
        rw [List.all_eq_true]; intro x hx; obtain ⟨p, hp, rfl⟩ := List.mem_map.mp hx; simp [operD, nameD, h.2.2.1 p hp]
      have := h.2.1
      simp only [List.all_map] at e3
      simp [rowOk, clsOf, okDef, nameD, h.1, e, e2, allOpD, this]
      simpa using e3
    | give o => unfold wfR at h; simpa [rowOk, clsOf, okGive, operD_kD] using h
    | iff o => unfold wfR at h; simpa [rowOk, clsOf, okGive, operD_kD] using h
    | whil o => unfold wfR at h; simpa [rowOk, clsOf, okGive, operD_kD] using h
    | put n o => unfold wfR at h; simpa [rowOk, clsOf, okPut, operD_kD, nameD] using h
    | doo n a w b =>
      obtain ⟨h1, h2, h3, h4⟩ := h
      have : reckW (.str w) = true := by simp [opsW] at h3; rcases h3 with rfl | rfl | rfl | rfl | rfl | rfl | rfl <;> simp [reckW]
      simp [rowOk, clsOf, okDo, operD_kD, nameD, *]
    | new n => unfold wfR at h; simpa [rowOk, clsOf, okName, nameD] using h
    | get n o k =>
      obtain ⟨h1, h2, h3⟩ := h
      unfold okKy at h3
      simp [rowOk, clsOf, okGet, operD_kD, fieldD_kD, nameD, h1, h2]
      simpa using h3
    | set o k v =>
      obtain ⟨h1, h2, h3⟩ := h
      unfold okKy at h2
      simp [rowOk, clsOf, okSet, operD_kD, fieldD_kD, nameD, h1, h3]
      simpa using h2
    | call n f ops =>
      obtain ⟨h1, h2, h3, h4⟩ := h
      have e3 := str_all h4
      simp only [List.all_map] at e3
      simp [rowOk, clsOf, okCall, nameD, h1, h2, allOpD, h3]
      simpa using e3
    | fail w => unfold wfR at h; simpa [rowOk, clsOf, okName, nameD] using h
/-! what they use, what they make -/
def kNames : List Key → List Str
  | [] => []
  | .inl _ :: r => kNames r
  | .inr s :: r => if nameOk s then s :: kNames r else kNames r
def opsR : Rw → List Key
  | .give o => [o] | .iff o => [o] | .whil o => [o]
  | .put _ o => [o] | .doo _ a _ b => [a, b]
  | .get _ o k => [.inr o, k] | .set o k v => [.inr o, k, v] | .call _ _ ops => ops
  | _ => []
/-- the names that a row uses, sorted -/
def usesR (r : Rw) : List Str := setS (kNames (opsR r))
def makesR : Rw → List Str
  | .deff _ ps => ps
  | .put n _ => [n] | .doo n _ _ _ => [n] | .new n => [n] | .get n _ _ => [n] | .call n _ _ => [n]
  | _ => []
def riskR : Rw → Bool
  | .whil _ => true | .fail _ => true
  | .doo _ _ w b => (w == Str.ofString "over" || w == Str.ofString "rest") && (match b with
    | .inr s => nameOk s
    | .inl n => n == 0)
  | _ => false
/-! words -/
theorem wordR_rw (r : Rw) : wordR (rwD r) = some (Str.ofString (rwW r)) := rfl
end VL
namespace VL
open PySem PySem.Spec PyProof.Rows L2 RZ
/-! ### what is handed on, and the least table -/
def bitsL (n : Nat) : List Nat := (List.range 64).filter n.testBit
theorem bitsL_mem {n k : Nat} (h : n < 2 ^ 64) : k ∈ bitsL n ↔ n.testBit k = true := by
  unfold bitsL
  rw [List.mem_filter, List.mem_range]
  refine ⟨fun q => q.2, fun q => ⟨?_, q⟩⟩
  refine Nat.lt_of_not_le fun c => ?_
  have : n.testBit k = false := Nat.testBit_lt_two_pow (Nat.lt_of_lt_of_le h (Nat.pow_le_pow_right (by decide) c))
  rw [this] at q; cases q
theorem bitsL_lt {n k : Nat} (h : k ∈ bitsL n) : k < 64 := by
  unfold bitsL at h
  rw [List.mem_filter, List.mem_range] at h
  exact h.1
inductive Pl where
  | row (k : Nat) | name (h : Nat) (n : Str) | cells (h : Nat) (n c : Str)
deriving DecidableEq
abbrev Flow := Pl × Pl
/-- who holds what: false, home, name, row; true, row, class, row -/
abbrev Rel := Bool → Nat → Str → Nat → Prop
def Src (X : Rel) : Pl → Nat → Prop
  | .row k, b => b = k
  | .name h n, b => X false h n b
  | .cells h n c, b => ∃ r, X false h n r ∧ X true r c b
def Goal (X : Rel) : Pl → Bool → Nat → Str → Prop
  | .row _, _, _, _ => False
  | .name h n, k, h', w => k = false ∧ h' = h ∧ w = n
  | .cells h n c, k, r, w => k = true ∧ w = c ∧ X false h n r
def ClosedF (fl : List Flow) (X : Rel) : Prop := ∀ f ∈ fl, ∀ b, Src X f.2 b → ∀ k h w, Goal X f.1 k h w → X k h w b
def Has (fl : List Flow) : Rel := fun k h w b => ∀ X, ClosedF fl X → X k h w b
theorem Src.mono {X X' : Rel} (m : ∀ k h w b, X k h w b → X' k h w b) {p : Pl} {b : Nat} (h : Src X p b) : Src X' p b := by
  cases p with
  | row k => exact h
  | name a n => exact m _ _ _ _ h
  | cells a n c => obtain ⟨r, h1, h2⟩ := h; exact ⟨r, m _ _ _ _ h1, m _ _ _ _ h2⟩
theorem Goal.mono {X X' : Rel} (m : ∀ k h w b, X k h w b → X' k h w b) {p : Pl} {k : Bool} {h : Nat} {w : Str} (g : Goal X p k h w) : Goal X' p k h w := by
  cases p with
  | row k => exact g
  | name a n => exact g
  | cells a n c => exact ⟨g.1, g.2.1, m _ _ _ _ g.2.2⟩
theorem has_closed (fl : List Flow) : ClosedF fl (Has fl) := fun f hf b hs k h w hg X hX => by
  have m : ∀ k h w b, Has fl k h w b → X k h w b := fun k h w b q => q X hX
  exact hX f hf b (hs.mono m) k h w (hg.mono m)
/-- the tables' relation -/
def XT (N C : Tab) : Rel := fun k h w b => match k with
  | false => (tOf N h w).testBit b = true
  | true => (tOf C h w).testBit b = true
structure TabOk (T : Tab) : Prop where
  nd : (tKeys T).Nodup
  lt : ∀ r ∈ T, r.2.2 < 2 ^ 64
  nz : ∀ r ∈ T, r.2.2 ≠ 0
theorem TabOk.nil : TabOk [] := ⟨by simp [tKeys], by simp, by simp⟩
theorem TabOk.of_lt {T : Tab} (t : TabOk T) (h : Nat) (w : Str) : tOf T h w < 2 ^ 64 := by
  unfold tOf
  cases e : tGet T h w with
  | none => decide
  | some v => exact t.lt _ (tGet_mem e)
theorem TabOk.put {T : Tab} (t : TabOk T) {h : Nat} {w : Str} {v : Nat} (h1 : v < 2 ^ 64) (h2 : v ≠ 0) : TabOk (tPut T h w v) where
  nd := tPut_nodup t.nd _ _ _
  lt := fun r hr => by rcases tPut_mem hr with q | rfl; exact t.lt r q; exact h1
  nz := fun r hr => by rcases tPut_mem hr with q | rfl; exact t.nz r q; exact h2
theorem or_lt64 {a b : Nat} (h1 : a < 2 ^ 64) (h2 : b < 2 ^ 64) : a ||| b < 2 ^ 64 := Nat.or_lt_two_pow h1 h2
theorem or_ne0 {a b : Nat} (h : b ≠ 0) : a ||| b ≠ 0 := fun e => h (by
  have : b ≤ a ||| b := Nat.right_le_or

  omega)
def hadT (N C : Tab) : Pl → Nat
  | .row k => 2 ^ k
  | .name h n => tOf N h n
  | .cells h n c => (bitsL (tOf N h n)).foldl (fun t r => t ||| tOf C r c) 0
theorem fold_or_bit (C : Tab) (c : Str) (b : Nat) : ∀ (rs : List Nat) (t : Nat), (rs.foldl (fun t r => t ||| tOf C r c) t).testBit b = true ↔ t.testBit b = true ∨ ∃ r ∈ rs, (tOf C r c).testBit b = true
  | [], t => by simp
  | r :: rs, t => by
    rw [List.foldl_cons, fold_or_bit C c b rs]
    simp only [Nat.testBit_or, Bool.or_eq_true, List.mem_cons, exists_eq_or_imp]
    constructor
    · rintro ((h | h) | h)
      · exact .inl h
      · exact .inr (.inl h)
      · exact .inr (.inr h)
    · rintro (h | h | h)
      · exact .inl (.inl h)
      · exact .inl (.inr h)
      · exact .inr h
theorem fold_or_lt {C : Tab} (t : TabOk C) (c : Str) : ∀ (rs : List Nat) (a : Nat), a < 2 ^ 64 → rs.foldl (fun t r => t ||| tOf C r c) a < 2 ^ 64
  | [], a, h => h
  | r :: rs, a, h => fold_or_lt t c rs _ (or_lt64 h (t.of_lt _ _))
theorem had_bit {N C : Tab} (tn : TabOk N) (p : Pl) (b : Nat) : (hadT N C p).testBit b = true ↔ Src (XT N C) p b := by
  cases p with
  | row k => simp [hadT, Src, Nat.testBit_two_pow, eq_comm]
  | name h n => exact Iff.rfl
  | cells h n c =>
    simp only [hadT, fold_or_bit, Src]
    simp only [Nat.zero_testBit, Bool.false_eq_true, false_or]
    constructor
    · rintro ⟨r, h1, h2⟩; exact ⟨r, (bitsL_mem (tn.of_lt _ _)).mp h1, h2⟩
    · rintro ⟨r, h1, h2⟩; exact ⟨r, (bitsL_mem (tn.of_lt _ _)).mpr h1, h2⟩
def plOk : Pl → Prop
  | .row k => k < 64
  | _ => True
theorem had_lt {N C : Tab} (tn : TabOk N) (tc : TabOk C) {p : Pl} (h : plOk p) : hadT N C p < 2 ^ 64 := by
  cases p with
  | row k => exact Nat.pow_lt_pow_right (by decide) h
  | name a n => exact tn.of_lt _ _
  | cells a n c => exact fold_or_lt tc c _ 0 (by decide)
def cellsPut : List Nat → Str → Nat → Tab → Bool → Tab × Bool
  | [], _, _, C, f => (C, f)
  | r :: rs, c, s, C, f => cellsPut rs c s (tPut C r c (tOf C r c ||| s)) (f || decide (tOf C r c ||| s ≠ tOf C r c))
def grownT (g : Pl) (s : Nat) (N C : Tab) : Tab × Tab × Bool :=
  if s = 0 then (N, C, false) else match g with
  | .name h n => (tPut N h n (tOf N h n ||| s), C, decide (tOf N h n ||| s ≠ tOf N h n))
  | .cells h n c => (N, (cellsPut (bitsL (tOf N h n)) c s C false).1, (cellsPut (bitsL (tOf N h n)) c s C false).2)
  | .row _ => (N, C, false)
theorem tOf_put (T : Tab) (h : Nat) (w : Str) (v : Nat) (h' : Nat) (w' : Str) : tOf (tPut T h w v) h' w' = if h = h' ∧ w = w' then v else tOf T h' w' := by
  unfold tOf
  rw [tGet_put]
  split <;> rfl
theorem or_new {a s : Nat} : (a ||| s ≠ a) ↔ ∃ b, s.testBit b = true ∧ a.testBit b = false := by
  constructor
  · intro h
    refine Classical.byContradiction fun c => h (nat_bits fun j => ?_)
    rw [Nat.testBit_or, Bool.or_eq_true]
    refine ⟨fun q => ?_, .inl⟩
    rcases q with q | q
    · exact q
    · cases e : a.testBit j with
      | true => rfl
      | false => exact absurd ⟨j, q, e⟩ c
  · rintro ⟨b, h1, h2⟩ e
    have := congrArg (fun z : Nat => z.testBit b) e
    simp [h1, h2] at this
theorem cellsPut_sem (c : Str) (s : Nat) : ∀ (rs : List Nat) (C : Tab) (f : Bool), (∀ h w b, (tOf (cellsPut rs c s C f).1 h w).testBit b = true ↔ (tOf C h w).testBit b = true ∨ (w = c ∧ h ∈ rs ∧ s.testBit b = true)) ∧
    ((cellsPut rs c s C f).2 = true ↔ f = true ∨ ∃ r ∈ rs, ∃ b, s.testBit b = true ∧ (tOf C r c).testBit b = false)
  | [], C, f => by simp [cellsPut]
  | r :: rs, C, f => by
    obtain ⟨h1, h2⟩ := cellsPut_sem c s rs (tPut C r c (tOf C r c ||| s)) (f || decide (tOf C r c ||| s ≠ tOf C r c))
    have key : ∀ h w b, (tOf (tPut C r c (tOf C r c ||| s)) h w).testBit b = true ↔ (tOf C h w).testBit b = true ∨ (w = c ∧ h = r ∧ s.testBit b = true) := fun h w b => by
      rw [tOf_put]
      by_cases q : r = h ∧ c = w
      · rw [if_pos q]
        obtain ⟨rfl, rfl⟩ := q
        simp
      · rw [if_neg q]
        refine ⟨.inl, fun z => ?_⟩
        rcases z with z | ⟨rfl, rfl, _⟩
        · exact z
        · exact absurd ⟨rfl, rfl⟩ q
    constructor
    · intro h w b
      rw [cellsPut, h1, key]
      simp only [List.mem_cons]
      constructor
      · rintro ((h | ⟨h, h', h''⟩) | ⟨h, h', h''⟩)
        · exact .inl h
        · exact .inr ⟨h, .inl h', h''⟩
        · exact .inr ⟨h, .inr h', h''⟩
      · rintro (h | ⟨h, h' | h', h''⟩)
        · exact .inl (.inl h)
        · exact .inl (.inr ⟨h, h', h''⟩)
        · exact .inr ⟨h, h', h''⟩
    · rw [cellsPut, h2]
      simp only [Bool.or_eq_true, decide_eq_true_eq, or_new, List.mem_cons, exists_eq_or_imp]
      constructor
      · rintro ((h | ⟨b, h3, h4⟩) | ⟨q, hq, b, h3, h4⟩)
        · exact .inl h
        · exact .inr (.inl ⟨b, h3, h4⟩)
        · refine .inr (.inr ⟨q, hq, b, h3, ?_⟩)
          cases e : (tOf C q c).testBit b with
          | false => rfl
          | true => rw [(key q c b).mpr (.inl e)] at h4; cases h4
      · rintro (h | ⟨b, h3, h4⟩ | ⟨q, hq, b, h3, h4⟩)
        · exact .inl (.inl h)
        · exact .inl (.inr ⟨b, h3, h4⟩)
        · by_cases z : q = r
          · subst z; exact .inl (.inr ⟨b, h3, h4⟩)
          · refine .inr ⟨q, hq, b, h3, ?_⟩
            cases e : (tOf (tPut C r c (tOf C r c ||| s)) q c).testBit b with
            | false => rfl
            | true =>
              rcases (key q c b).mp e with e | ⟨_, e, _⟩
              · rw [h4] at e; cases e
              · exact absurd e z
theorem cellsPut_ok {c : Str} {s : Nat} (h1 : s < 2 ^ 64) (h2 : s ≠ 0) : ∀ (rs : List Nat) (C : Tab) (f : Bool), TabOk C → TabOk (cellsPut rs c s C f).1
  | [], C, f, t => t
  | r :: rs, C, f, t => cellsPut_ok h1 h2 rs _ _ (t.put (or_lt64 (t.of_lt _ _) h1) (or_ne0 h2))
theorem cellsPut_keys (c : Str) (s : Nat) : ∀ (rs : List Nat) (C : Tab) (f : Bool), ∀ k ∈ tKeys (cellsPut rs c s C f).1, k ∈ tKeys C ∨ (k.1 ∈ rs ∧ k.2 = c)
  | [], C, f, k, h => .inl h
  | r :: rs, C, f, k, h => by
    rcases cellsPut_keys c s rs _ _ k h with h | ⟨h, h'⟩
    · rw [tPut_keys] at h
      split at h
      · exact .inl h
      · rcases List.mem_append.mp h with h | h
        · exact .inl h
        · rw [List.mem_singleton] at h; subst h; exact .inr ⟨by simp, rfl⟩
    · exact .inr ⟨by simp [h], h'⟩
theorem grown_ok {g : Pl} {s : Nat} {N C : Tab} (tn : TabOk N) (tc : TabOk C) (h1 : s < 2 ^ 64) : TabOk (grownT g s N C).1 ∧ TabOk (grownT g s N C).2.1 := by
  unfold grownT
  by_cases c : s = 0
  · rw [if_pos c]; exact ⟨tn, tc⟩
  · rw [if_neg c]
    cases g with
    | row k => exact ⟨tn, tc⟩
    | name h n => exact ⟨tn.put (or_lt64 (tn.of_lt _ _) h1) (or_ne0 c), tc⟩
    | cells h n k => exact ⟨tn, cellsPut_ok h1 c _ _ _ tc⟩
/-- what a goal gets, and whether that is new -/
theorem grown_sem {g : Pl} {s : Nat} {N C : Tab} (tn : TabOk N) : (∀ k h w b, XT (grownT g s N C).1 (grownT g s N C).2.1 k h w b ↔ XT N C k h w b ∨ (Goal (XT N C) g k h w ∧ s.testBit b = true)) ∧
    ((grownT g s N C).2.2 = true ↔ ∃ k h w b, Goal (XT N C) g k h w ∧ s.testBit b = true ∧ ¬ XT N C k h w b) := by
  unfold grownT
  by_cases c : s = 0
  · rw [if_pos c]; subst c; simp
  · rw [if_neg c]
    cases g with
    | row k => simp [Goal]
    | name h n =>
      constructor
      · intro k h' w b
        cases k with
        | true => simp [XT, Goal]
        | false =>
          simp only [XT, Goal, true_and]
          rw [tOf_put]
          by_cases q : h = h' ∧ n = w
          · rw [if_pos q]
            obtain ⟨rfl, rfl⟩ := q
            simp
          · rw [if_neg q]
            refine ⟨.inl, fun z => ?_⟩
            rcases z with z | ⟨⟨rfl, rfl⟩, _⟩
            · exact z
            · exact absurd ⟨rfl, rfl⟩ q
      · simp only [decide_eq_true_eq, or_new]
        constructor
        · rintro ⟨b, h1, h2⟩; exact ⟨false, h, n, b, ⟨rfl, rfl, rfl⟩, h1, by simp [XT, h2]⟩
        · rintro ⟨k, h', w, b, ⟨rfl, rfl, rfl⟩, h1, h2⟩; exact ⟨b, h1, by simpa [XT] using h2⟩
    | cells h n cl =>
      obtain ⟨h1, h2⟩ := cellsPut_sem cl s (bitsL (tOf N h n)) C false
      constructor
      · intro k r w b
        cases k with
        | false => simp [XT, Goal]
        | true =>
          simp only [XT, Goal, true_and]
          rw [h1, bitsL_mem (tn.of_lt _ _), and_assoc]
      · rw [h2]
        simp only [Bool.false_eq_true, false_or]
        constructor
        · rintro ⟨r, hr, b, q1, q2⟩
          exact ⟨true, r, cl, b, ⟨rfl, rfl, (bitsL_mem (tn.of_lt _ _)).mp hr⟩, q1, by simp [XT, q2]⟩
        · rintro ⟨k, r, w, b, ⟨rfl, rfl, q⟩, q1, q2⟩
          exact ⟨r, (bitsL_mem (tn.of_lt _ _)).mpr q, b, q1, by simpa [XT] using q2⟩
/-! two tables that hold the same are told the same -/
theorem tab_same {T T' : Tab} (t : TabOk T) (t' : TabOk T') (h : ∀ a w, tOf T a w = tOf T' a w) : T.Perm T' := by
  have nd : ∀ {T : Tab}, TabOk T → T.Nodup := fun {T} t => by
    have := t.nd
    unfold tKeys at this
    exact (List.pairwise_map.mp this).imp fun h e => h (by rw [e])
  have half : ∀ {T T' : Tab}, TabOk T → TabOk T' → (∀ a w, tOf T a w = tOf T' a w) → ∀ r, r ∈ T → r ∈ T' := fun {T T'} t t' h r hr => by
    obtain ⟨a, w, v⟩ := r
    have e := h a w
    have e1 := tGet_of t.nd hr
    have nz : v ≠ 0 := t.nz _ hr
    unfold tOf at e
    rw [e1] at e
    cases q : tGet T' a w with
    | none => rw [q] at e; exact absurd e nz
    | some v' =>
      rw [q] at e
      simp at e
      subst e
      exact tGet_mem q
  exact (List.perm_ext_iff_of_nodup (nd t) (nd t')).mpr fun r => ⟨half t t' h r, half t' t (fun a w => (h a w).symm) r⟩
theorem srtT_same {T T' : Tab} (p : T.Perm T') : srtT T = srtT T' := by
  unfold srtT
  rw [srtL_congr (p.map _)]
theorem tabL_same {T T' : Tab} (p : T.Perm T') : tabL T = tabL T' := by unfold tabL; rw [srtT_same p]
theorem tOf_bits {T T' : Tab} {h : Nat} {w : Str} (q : ∀ b, (tOf T h w).testBit b = true ↔ (tOf T' h w).testBit b = true) : tOf T h w = tOf T' h w := nat_bits q
/-! ### growing -/
def gN (fl : List Flow) : List (Nat × Str) := fl.filterMap fun f => match f.1 with
  | .name h n => some (h, n)
  | _ => none
def gC1 (f : Flow) : List (Nat × Str) := match f.1 with
  | .cells _ _ c => (List.range 64).map fun r => (r, c)
  | _ => []
def gC (fl : List Flow) : List (Nat × Str) := fl.flatMap gC1
structure GInv (fl : List Flow) (N C : Tab) : Prop where
  n : TabOk N
  c : TabOk C
  hb : ∀ k h w b, XT N C k h w b → Has fl k h w b
  kn : ∀ k ∈ tKeys N, k ∈ gN fl
  kc : ∀ k ∈ tKeys C, k ∈ gC fl
theorem GInv.nil (fl : List Flow) : GInv fl [] [] := ⟨.nil, .nil, fun k h w b q => by cases k <;> (unfold XT tOf tGet at q; simp at q), by simp [tKeys], by simp [tKeys]⟩
theorem GInv.step {fl : List Flow} {N C : Tab} (g : GInv fl N C) {f : Flow} (hf : f ∈ fl) (ok : plOk f.2) : GInv fl (grownT f.1 (hadT N C f.2) N C).1 (grownT f.1 (hadT N C f.2) N C).2.1 := by
  have hl := had_lt g.n g.c ok
  obtain ⟨o1, o2⟩ := grown_ok (g := f.1) g.n g.c hl
  refine ⟨o1, o2, fun k h w b q => ?_, ?_, ?_⟩
  · rcases ((grown_sem (g := f.1) (s := hadT N C f.2) (C := C) g.n).1 k h w b).mp q with q | ⟨q1, q2⟩
    · exact g.hb _ _ _ _ q
    · exact has_closed fl f hf b (((had_bit g.n f.2 b).mp q2).mono g.hb) k h w (q1.mono g.hb)
  · unfold grownT
    split
    · exact g.kn
    · cases e : f.1 with
      | row k => exact g.kn
      | cells h n c => exact g.kn
      | name h n =>
        intro k hk
        simp only [tPut_keys] at hk
        split at hk
        · exact g.kn k hk
        · rcases List.mem_append.mp hk with hk | hk
          · exact g.kn k hk
          · rw [List.mem_singleton] at hk
            subst hk
            unfold gN
            rw [List.mem_filterMap]
            exact ⟨f, hf, by rw [e]⟩
  · unfold grownT
    split
    · exact g.kc
    · cases e : f.1 with
      | row k => exact g.kc
      | name h n => exact g.kc
      | cells h n c =>
        intro k hk
        rcases cellsPut_keys _ _ _ _ _ k hk with hk | ⟨h1, h2⟩
        · exact g.kc k hk
        · unfold gC
          rw [List.mem_flatMap]
          refine ⟨f, hf, ?_⟩
          unfold gC1
          rw [e]
          exact List.mem_map.mpr ⟨k.1, List.mem_range.mpr (bitsL_lt h1), by rw [← h2]⟩
def XTb (N C : Tab) (x : Bool × Nat × Str × Nat) : Bool := match x with
  | (false, h, w, b) => (tOf N h w).testBit b
  | (true, h, w, b) => (tOf C h w).testBit b
theorem XTb_iff (N C : Tab) (k : Bool) (h : Nat) (w : Str) (b : Nat) : XTb N C (k, h, w, b) = true ↔ XT N C k h w b := by cases k <;> exact Iff.rfl
def univ (fl : List Flow) : List (Bool × Nat × Str × Nat) := (gN fl).flatMap (fun k => (List.range 64).map fun b => (false, k.1, k.2, b)) ++ (gC fl).flatMap (fun k => (List.range 64).map fun b => (true, k.1, k.2, b))
theorem tOf_key {T : Tab} {h : Nat} {w : Str} {b : Nat} (q : (tOf T h w).testBit b = true) : (h, w) ∈ tKeys T := by
  unfold tOf at q
  cases e : tGet T h w with
  | none => rw [e] at q; simp at q
  | some v => exact List.mem_map.mpr ⟨_, tGet_mem e, rfl⟩
theorem TabOk.bit_lt {T : Tab} (t : TabOk T) {h : Nat} {w : Str} {b : Nat} (q : (tOf T h w).testBit b = true) : b < 64 := by
  refine Nat.lt_of_not_le fun c => ?_
  have : (tOf T h w).testBit b = false := Nat.testBit_lt_two_pow (Nat.lt_of_lt_of_le (t.of_lt h w) (Nat.pow_le_pow_right (by decide) c))
  rw [this] at q; cases q
theorem GInv.univ {fl : List Flow} {N C : Tab} (g : GInv fl N C) {k : Bool} {h : Nat} {w : Str} {b : Nat} (q : XT N C k h w b) : (k, h, w, b) ∈ univ fl := by
  unfold VL.univ
  rw [List.mem_append]
  cases k with
  | false =>
    refine .inl (List.mem_flatMap.mpr ⟨_, g.kn _ (tOf_key q), ?_⟩)
    exact List.mem_map.mpr ⟨b, List.mem_range.mpr (g.n.bit_lt q), rfl⟩
  | true =>
    refine .inr (List.mem_flatMap.mpr ⟨_, g.kc _ (tOf_key q), ?_⟩)
    exact List.mem_map.mpr ⟨b, List.mem_range.mpr (g.c.bit_lt q), rfl⟩
def mis (fl : List Flow) (N C : Tab) : Nat := (univ fl).countP fun x => !XTb N C x
theorem countP_lt {A1 : Type} {p q : A1 → Bool} : ∀ {l : List A1}, (∀ x ∈ l, p x = true → q x = true) → (∃ x ∈ l, q x = true ∧ p x = false) → l.countP p < l.countP q
  | [], _, h => by simp at h
  | x :: l, hm, h => by
    have ml : l.countP p ≤ l.countP q := List.countP_mono_left fun y hy => hm y (by simp [hy])
    rw [List.countP_cons, List.countP_cons]
    obtain ⟨y, hy, h1, h2⟩ := h
    rcases List.mem_cons.mp hy with rfl | hy
    · rw [h1, h2]; simp; omega
    · have := countP_lt (p := p) (q := q) (fun z hz => hm z (by simp [hz])) ⟨y, hy, h1, h2⟩
      have mx := hm x (by simp)
      cases e : p x with
      | false => simp; split <;> omega
      | true => rw [mx e]; simp; omega
/-- within a round: what is done -/
structure RInv (fl : List Flow) (m : Nat) (done : List Flow) (N C : Tab) (f : Bool) : Prop where
  inv : GInv fl N C
  le : mis fl N C ≤ m
  fr : f = true → mis fl N C < m
  no : f = false → ClosedF done (XT N C)
theorem RInv.step {fl : List Flow} {m : Nat} {done : List Flow} {N C : Tab} {f : Bool} (r : RInv fl m done N C f) {g : Flow} (hg : g ∈ fl) (ok : plOk g.2) :
    RInv fl m (done ++ [g]) (grownT g.1 (hadT N C g.2) N C).1 (grownT g.1 (hadT N C g.2) N C).2.1 (f || (grownT g.1 (hadT N C g.2) N C).2.2) := by
  have i2 := r.inv.step hg ok
  obtain ⟨s1, s2⟩ := grown_sem (g := g.1) (s := hadT N C g.2) (C := C) r.inv.n
  have mono : ∀ x ∈ VL.univ fl, (!XTb (grownT g.1 (hadT N C g.2) N C).1 (grownT g.1 (hadT N C g.2) N C).2.1 x) = true → (!XTb N C x) = true := fun x _ h => by
    obtain ⟨k, a, w, b⟩ := x
    simp only [Bool.not_eq_true', ← Bool.not_eq_true] at h ⊢
    exact fun z => h ((XTb_iff _ _ _ _ _ _).mpr ((s1 _ _ _ _).mpr (.inl ((XTb_iff _ _ _ _ _ _).mp z))))
  have le2 : mis fl (grownT g.1 (hadT N C g.2) N C).1 (grownT g.1 (hadT N C g.2) N C).2.1 ≤ mis fl N C := List.countP_mono_left mono
  refine ⟨i2, Nat.le_trans le2 r.le, fun h => ?_, fun h => ?_⟩
  · rw [Bool.or_eq_true] at h
    rcases h with h | h
    · exact Nat.lt_of_le_of_lt le2 (r.fr h)
    · obtain ⟨k, a, w, b, h1, h2, h3⟩ := s2.mp h
      refine Nat.lt_of_lt_of_le (countP_lt mono ⟨(k, a, w, b), i2.univ ((s1 _ _ _ _).mpr (.inr ⟨h1, h2⟩)), ?_, ?_⟩) r.le
      · simp only [Bool.not_eq_true', ← Bool.not_eq_true]
        exact fun z => h3 ((XTb_iff _ _ _ _ _ _).mp z)
      · simp only [Bool.not_eq_false']
        exact (XTb_iff _ _ _ _ _ _).mpr ((s1 _ _ _ _).mpr (.inr ⟨h1, h2⟩))
  · rw [Bool.or_eq_false_iff] at h
    have nn : ∀ k a w b, Goal (XT N C) g.1 k a w → (hadT N C g.2).testBit b = true → XT N C k a w b := fun k a w b h1 h2 => by
      refine Classical.byContradiction fun h3 => ?_
      have := s2.mpr ⟨k, a, w, b, h1, h2, h3⟩
      rw [h.2] at this; cases this
    have same : XT (grownT g.1 (hadT N C g.2) N C).1 (grownT g.1 (hadT N C g.2) N C).2.1 = XT N C := by
      funext k a w b
      refine propext ⟨fun q => ?_, fun q => (s1 _ _ _ _).mpr (.inl q)⟩
      rcases (s1 _ _ _ _).mp q with q | ⟨q1, q2⟩
      · exact q
      · exact nn _ _ _ _ q1 q2
    rw [same]
    intro x hx b hs k a w hgl
    rcases List.mem_append.mp hx with hx | hx
    · exact r.no h.1 x hx b hs k a w hgl
    · rw [List.mem_singleton] at hx
      subst hx
      exact nn _ _ _ _ hgl ((had_bit r.inv.n _ _).mpr hs)
theorem RInv.start {fl : List Flow} {N C : Tab} (g : GInv fl N C) : RInv fl (mis fl N C) [] N C false := ⟨g, Nat.le_refl _, (fun h => nomatch h), (fun _ x hx => nomatch hx)⟩
/-- the least table -/
structure Least (fl : List Flow) (N C : Tab) : Prop where
  n : TabOk N
  c : TabOk C
  eq : ∀ k h w b, XT N C k h w b ↔ Has fl k h w b
theorem RInv.least {fl : List Flow} {m : Nat} {N C : Tab} (r : RInv fl m fl N C false) : Least fl N C := ⟨r.inv.n, r.inv.c, fun k h w b => ⟨r.inv.hb k h w b, fun q => q _ (r.no rfl)⟩⟩
theorem Least.same {fl fl' : List Flow} {N C N' C' : Tab} (l : Least fl N C) (l' : Least fl' N' C') (h : ∀ k a w b, Has fl k a w b ↔ Has fl' k a w b) : tabL N = tabL N' ∧ tabL C = tabL C' :=
  ⟨tabL_same (tab_same l.n l'.n fun a w => tOf_bits fun b => ((l.eq false a w b).trans (h _ _ _ _)).trans (l'.eq false a w b).symm),
   tabL_same (tab_same l.c l'.c fun a w => tOf_bits fun b => ((l.eq true a w b).trans (h _ _ _ _)).trans (l'.eq true a w b).symm)⟩
end VL
namespace VL
open PySem PySem.Spec PyProof.Rows L2 RZ
/-! the class -/
theorem int_is {rh : Ev} {mu : Sto} (d : D) : Is (wC d) rh mu (.d d) := fun K hK => by simpa using hK
theorem var_is {rh : Ev} {mu : Sto} {i : Nat} {w : W} (e : rh[i]? = some (some w)) : Is (wVar i) rh mu w := fun K hK => by simp [e]; exact hK
end VL
namespace VL
open PySem PySem.Spec PyProof.Rows L2 RZ
def classK : Key → Str
  | .inr s => if fldS s = true then s else Str.ofString "#"
  | .inl _ => Str.ofString "#"
/-! ### what rows hand on -/
def argF (t home : Nat) (ps : List Str) (ops : List Key) : List Flow := (ps.zip ops).filterMap fun x => match x.2 with
  | .inr m => some (.name t x.1, .name home m)
  | .inl _ => none
def givF (home : Nat) (n : Str) (t : Nat) : Key → List Flow
  | .inr m => [(.name home n, .name t m)]
  | .inl _ => []
def isDefR (f : Str) : Rw → Bool
  | .deff n _ => decide (n = f)
  | _ => false
def defI (P : List Rw) (f : Str) : Nat := P.findIdx (isDefR f)
def parsAt (P : List Rw) (t : Nat) : List Str := match P[t]? with
  | some (.deff _ ps) => ps
  | _ => []
def giveOf (P : List Rw) (ends : List (Option Nat)) (t : Nat) : Key := match ends[t]? with
  | some (some g) => (match P[g]? with
    | some (.give o) => o
    | _ => .inl 0)
  | _ => .inl 0
def callF (P : List Rw) (ends : List (Option Nat)) (home : Nat) (n f : Str) (ops : List Key) : List Flow :=
  argF (defI P f) home (parsAt P (defI P f)) ops ++ givF home n (defI P f) (giveOf P ends (defI P f))
def rowF (P : List Rw) (ends : List (Option Nat)) (home k : Nat) : Rw → List Flow
  | .new n => [(.name home n, .row k)]
  | .put n (.inr m) => [(.name home n, .name home m)]
  | .get n o key => [(.name home n, .cells home o (classK key))]
  | .set o key (.inr m) => [(.cells home o (classK key), .name home m)]
  | .call n f ops => callF P ends home n f ops
  | _ => []
def CallOk (P : List Rw) (ends : List (Option Nat)) : Prop := ∀ n f ops, Rw.call n f ops ∈ P → ∃ t ps g o, defI P f = t ∧ P[t]? = some (.deff f ps) ∧ ends[t]? = some (some g) ∧ P[g]? = some (.give o) ∧ ps.length = ops.length
/-! reading rows -/
theorem ix_tup {a b : WE} {rh : Ev} {mu : Sto} {ds : List D} {i : Int} {d : D} (ha : Is a rh mu (.d (.tup ds))) (hb : Is b rh mu (.d (.int i))) (h : atI ds i = some d) : Is (wOp fIx a b) rh mu (.d d) := op_to _ _ _ ha hb fun K hK => ⟨d, h, hK⟩
theorem part_is {a : WE} {rh : Ev} {mu : Sto} {r : Rw} {i : Nat} {d : D} (ha : Is a rh mu (.d (rwD r))) (h : (rwL r)[i]? = some d) : Is (wOp fIx a (wC (.int (i : Nat)))) rh mu (.d d) := ix_tup ha (int_is _) (by
  have := (List.getElem?_eq_some_iff.mp h).1
  rw [at_nat (by omega) (by omega)]; simpa using h)
theorem eqC_is {a : WE} {rh : Ev} {mu : Sto} {s : Str} {z : String} (b : Bool) (ha : Is a rh mu (.d (.str s))) (hb : (s == Str.ofString z) = b) : IsB (wTest (wOp (fEq false) a (wC (.str (Str.ofString z))))) rh mu b := fun K hK => ha _ (by
  simp [wTest, fEq, wC]; rw [hb]; exact hK)
theorem word_is {a : WE} {rh : Ev} {mu : Sto} {r : Rw} {z : String} (b : Bool) (ha : Is a rh mu (.d (rwD r))) (hb : (Str.ofString (rwW r) == Str.ofString z) = b) : IsB (wTest (wOp (fEq false) (wOp fIx a (wC (.int 0))) (wC (.str (Str.ofString z))))) rh mu b := eqC_is b (part_is (i := 0) ha rfl) hb
theorem and_isF {f g : WT} {rh : Ev} {mu : Sto} (h : IsB f rh mu false) : IsB (wAnd f g) rh mu false := fun K hK => h _ (by simpa using hK)
theorem and_isT {f g : WT} {rh : Ev} {mu : Sto} {b : Bool} (h : IsB f rh mu true) (h2 : IsB g rh mu b) : IsB (wAnd f g) rh mu b := fun K hK => h _ (by simpa using h2 _ hK)
theorem or_isT {f g : WT} {rh : Ev} {mu : Sto} (h : IsB f rh mu true) : IsB (wOr f g) rh mu true := fun K hK => h _ (by simpa using hK)
theorem or_isF {f g : WT} {rh : Ev} {mu : Sto} {b : Bool} (h : IsB f rh mu false) (h2 : IsB g rh mu b) : IsB (wOr f g) rh mu b := fun K hK => h _ (by simpa using h2 _ hK)
theorem app_to {o e : WE} {V : EV} {rh : Ev} {mu : Sto} {l : Nat} {xs : List D} (d : D) (ho : Is o rh mu (.loc l)) (he : Is e rh mu (.d d)) (h1 : mu[l]? = some (.lst xs)) (hl : xs.length < sizeLine) (q : V.nx rh (mu.set l (.lst (xs ++ [d])))) : wDrop (wBM fApp o (wCons e wNil)) V rh mu := ho _ ⟨by simp [h1], he _ (by
  simp [h1]; exact ⟨hl, q⟩)⟩
/-! calls -/
abbrev Iss (g : WA) (rh : Ev) (mu : Sto) (ws : List W) : Prop := ∀ K : List W → Sto → Prop, K ws mu → g rh mu K
theorem iss0 {rh : Ev} {mu : Sto} : Iss wNil rh mu [] := fun K hK => hK
theorem iss1 {e : WE} {g : WA} {rh : Ev} {mu : Sto} {w : W} {ws : List W} (h : Is e rh mu w) (h2 : Iss g rh mu ws) : Iss (wCons e g) rh mu (w :: ws) := fun K hK => h _ (h2 _ hK)
def flowsAt (P : List Rw) (s : ShS) (k : Nat) : List Flow := match s.homes[k]?, P[k]? with
  | some (some h), some r => rowF P s.ends h k r
  | _, _ => []
def flowsP (P : List Rw) (s : ShS) : List Flow := (List.range P.length).flatMap (flowsAt P s)
/-- a program, its shape -/
structure GoodPr (P : List Rw) (s : ShS) : Prop where
  len : P.length ≤ 60
  wf : ∀ r ∈ P, wfR r
  run : runS 0 (P.map rwD) (.start P.length) = some s
  calls : CallOk P s.ends
theorem run_ok {n : Nat} : ∀ {rows : List D} {k : Nat} {s s' : ShS}, ShOk n k s → runS k rows s = some s' → ShOk n (k + rows.length) s'
  | [], k, s, s', h, e => by simp only [runS] at e; cases e; exact h
  | r :: rows, k, s, s', h, e => by
    simp only [runS] at e
    split at e
    · rename_i w ew
      split at e
      · rename_i s2 es
        unfold stepS at es
        cases q : elseS k w (defS k w (topS k s)) with
        | none => rw [q] at es; cases es
        | some sC =>
          rw [q] at es
          simp only [Option.bind_some] at es
          cases q2 : footS k w sC with
          | none => rw [q2] at es; cases es
          | some sD =>
            rw [q2] at es
            simp only [Option.map_some, Option.some.injEq] at es
            subst es
            have h1 := ((h.top.deff (w := w)).els q).foot q2
            have := run_ok (h1.push (w := w)) e
            simpa [Nat.add_comm, Nat.add_left_comm, Nat.add_assoc] using this
      · cases e
    · cases e
theorem GoodPr.sh {P : List Rw} {s : ShS} (g : GoodPr P s) : ShOk P.length P.length s := by
  have := run_ok (n := P.length) (s := .start P.length) ⟨by simp [ShS.start], by simp [ShS.start], by simp [ShS.start], by simp [ShS.start], by simp [ShS.start], by simp [ShS.start]⟩ g.run
  simpa using this
theorem rng1_is {a : WE} {g : WG} {b : WS} {V : EV} {rh : Ev} {mu : Sto} {n : Nat} (hn : n ≤ 1000000) (h : Is a rh mu (.d (.int (n : Nat)))) (h2 : ∀ chk : Sto → Prop, (∀ mu, chk mu) → forL chk g b V (rngW 0 n) rh mu) : wFor (wRng1 (wCons a wNil)) g b V rh mu := h _ (by
  simp; exact ⟨by omega, h2 _ fun _ => trivial⟩)
theorem len_is {a : WE} {rh : Ev} {mu : Sto} {ds : List D} (h : Is a rh mu (.d (.lst ds))) : Is (wCall fLen (wCons a wNil)) rh mu (.d (.int (ds.length : Nat))) := fun K hK => h _ (by simpa using hK)
/-! ### the makers -/
end VL
namespace VL
open PySem PySem.Spec PyProof.Rows L2 RZ
/-! ### the pool's programs, typed -/
/-- rows of functions, with skips alone outside -/
inductive RunO : List D → Mode → Prop
  | nil : RunO [] none
  | snoc {rs : List D} {r : D} {w : Str} {m m' : Mode} : RunO rs m → wordR r = some w → StepM rs.length w m m' → (m = none → m' = none → w = Str.ofString "skip") → RunO (rs ++ [r]) m'
theorem RunO.m {rs : List D} {m : Mode} (h : RunO rs m) : RunM rs m := by
  induction h with
  | nil => exact .nil
  | snoc _ a b _ ih => exact .snoc ih a b
section
variable {ws : List Str} {pl : List (Str × List Str)}
theorem part_runO {d : Nat} {pre : List D} (n : RunO pre (some (d, []))) : ∀ {st : List String} {body : List D}, Part ws pl st body → ∃ ps : List (Nat × String), RunO (pre ++ body) (some (d, ps)) ∧ (ps.map (·.2)).reverse = st := by
  intro st body p
  induction p with
  | nil => exact ⟨[], by simpa using n, rfl⟩
  | row _ s ih =>
    obtain ⟨ps, h1, h2⟩ := ih
    obtain ⟨w, hw, hp⟩ := simple_plainW s
    exact ⟨ps, by rw [← List.append_assoc]; exact .snoc h1 hw (.ins hp) (fun h => by cases h), h2⟩
  | opIf _ _ ih =>
    obtain ⟨ps, h1, h2⟩ := ih
    exact ⟨_, by rw [← List.append_assoc]; exact .snoc h1 rfl (.opn (.inl rfl)) (fun h => by cases h), by simp [h2]⟩
  | opWhile _ _ ih =>
    obtain ⟨ps, h1, h2⟩ := ih
    exact ⟨_, by rw [← List.append_assoc]; exact .snoc h1 rfl (.opn (.inr rfl)) (fun h => by cases h), by simp [h2]⟩
  | els _ ih =>
    obtain ⟨ps, h1, h2⟩ := ih
    cases ps with
    | nil => simp at h2
    | cons p ps =>
      obtain ⟨j, z⟩ := p
      simp at h2
      obtain ⟨h2, rfl⟩ := h2
      exact ⟨_, by rw [← List.append_assoc]; exact .snoc h1 rfl .els (fun h => by cases h), by simp [h2]⟩
  | cls _ ih =>
    obtain ⟨ps, h1, h2⟩ := ih
    cases ps with
    | nil => simp at h2
    | cons p ps =>
      obtain ⟨j, z⟩ := p
      simp at h2
      obtain ⟨h2, rfl⟩ := h2
      exact ⟨_, by rw [← List.append_assoc]; exact .snoc h1 rfl .cls (fun h => by cases h), by simp [h2]⟩
theorem fun_runO {p : Str × List Str} {later : List (Str × List Str)} {pre fr : List D} (n : RunO pre none) (f : FunRows ws p later fr) : RunO (pre ++ fr) none := by
  induction f with
  | mk hb ho =>
    have n1 := RunO.snoc (r := .tup [.str (Str.ofString "def"), .str p.1, .tup (p.2.map D.str)]) n rfl .dfn (fun _ h => by cases h)
    obtain ⟨ps, h1, h2⟩ := part_runO n1 hb
    have : ps = [] := by simpa using h2
    subst this
    rw [← List.append_assoc, ← List.append_assoc]
    exact .snoc h1 rfl .giv (fun h => by cases h)
  | sk _ ih => rw [← List.append_assoc]; exact .snoc ih rfl (.out (plain_of (by decide))) (fun _ _ => rfl)
theorem funs_runO {k : Nat} {rs : List D} (f : Funs ws pl k rs) : RunO rs none := by
  induction f with
  | nil => exact .nil
  | next _ _ hf ih => exact fun_runO ih hf
end
theorem skips_runO (n : Nat) : RunO (List.replicate n (.tup [.str (Str.ofString "skip")])) none := by
  induction n with
  | zero => exact .nil
  | succ n ih => rw [List.replicate_succ']; exact .snoc ih rfl (.out (plain_of (by decide))) (fun _ _ => rfl)
/-! defs and calls -/
def defD : D → Option (Str × List D)
  | .tup [.str w, .str n, .tup ps] => if w = Str.ofString "def" then some (n, ps) else none
  | _ => none
def CallT (pl : List (Str × List Str)) (r : D) : Prop := ∀ n f ops, r = .tup [.str (Str.ofString "call"), .str n, .str f, .tup ops] → ∃ p ∈ pl, p.1 = f ∧ p.2.length = ops.length
theorem callT_of {pl : List (Str × List Str)} {z : String} {rest : List D} (h : z ≠ "call") : CallT pl (.tup (.str (Str.ofString z) :: rest)) := fun n f ops e => by
  simp at e
  exact absurd e.1 (by simpa using h)
theorem defD_ne {z : String} {rest : List D} (h : z ≠ "def") : defD (.tup (.str (Str.ofString z) :: rest)) = none := by
  unfold defD
  split
  · rename_i e
    simp at e
    rw [if_neg]
    rw [← e.1]; simpa using h
  · rfl
section
variable {ws : List Str} {pl : List (Str × List Str)}
theorem simple_callT {r : D} (s : Simple ws pl r) : CallT pl r ∧ defD r = none := by
  cases s with
  | @call n p ops hn hp hl ho =>
    refine ⟨fun n' f' ops' e => ?_, rfl⟩
    simp at e
    obtain ⟨_, rfl, rfl⟩ := e
    exact ⟨p, hp, rfl, hl.symm⟩
  | put _ _ => exact ⟨callT_of (by decide), defD_ne (by decide)⟩
  | doo _ _ _ _ => exact ⟨callT_of (by decide), defD_ne (by decide)⟩
  | new _ => exact ⟨callT_of (by decide), defD_ne (by decide)⟩
  | get _ _ _ => exact ⟨callT_of (by decide), defD_ne (by decide)⟩
  | set _ _ _ => exact ⟨callT_of (by decide), defD_ne (by decide)⟩
  | fail _ => exact ⟨callT_of (by decide), defD_ne (by decide)⟩
  | skip => exact ⟨callT_of (by decide), defD_ne (by decide)⟩
theorem part_callT {st : List String} {body : List D} (p : Part ws pl st body) : (∀ r ∈ body, CallT pl r) ∧ body.filterMap defD = [] := by
  have app : ∀ {xs : List D} {r : D}, ((∀ x ∈ xs, CallT pl x) ∧ xs.filterMap defD = []) → CallT pl r → defD r = none → (∀ x ∈ xs ++ [r], CallT pl x) ∧ (xs ++ [r]).filterMap defD = [] := fun h1 h2 h3 => by
    refine ⟨fun x hx => ?_, by rw [List.filterMap_append, h1.2]; simp [h3]⟩
    rcases List.mem_append.mp hx with hx | hx
    · exact h1.1 x hx
    · rw [List.mem_singleton.mp hx]; exact h2
  induction p with
  | nil => simp
  | row _ s ih => exact app ih (simple_callT s).1 (simple_callT s).2
  | opIf _ _ ih => exact app ih (callT_of (by decide)) (defD_ne (by decide))
  | opWhile _ _ ih => exact app ih (callT_of (by decide)) (defD_ne (by decide))
  | els _ ih => exact app ih (callT_of (by decide)) (defD_ne (by decide))
  | cls _ ih => exact app ih (callT_of (by decide)) (defD_ne (by decide))
theorem fun_callT {p : Str × List Str} {fr : List D} (f : FunRows ws p pl fr) : (∀ r ∈ fr, CallT pl r) ∧ fr.filterMap defD = [(p.1, p.2.map D.str)] := by
  induction f with
  | mk hb ho =>
    obtain ⟨h1, h2⟩ := part_callT hb
    refine ⟨fun x hx => ?_, ?_⟩
    · rcases List.mem_append.mp hx with hx | hx
      · rcases List.mem_append.mp hx with hx | hx
        · rw [List.mem_singleton.mp hx]; exact callT_of (by decide)
        · exact h1 x hx
      · rw [List.mem_singleton.mp hx]; exact callT_of (by decide)
    · rw [List.filterMap_append, List.filterMap_append, h2]
      simp [defD]
  | sk _ ih =>
    refine ⟨fun x hx => ?_, by rw [List.filterMap_append, ih.2]; simp [defD]⟩
    rcases List.mem_append.mp hx with hx | hx
    · exact ih.1 x hx
    · rw [List.mem_singleton.mp hx]; exact callT_of (by decide)
theorem funs_callT {k : Nat} {rs : List D} (f : Funs ws pl k rs) : (∀ r ∈ rs, CallT pl r) ∧ rs.filterMap defD = (pl.take k).map fun p => (p.1, p.2.map D.str) := by
  induction f with
  | nil => simp
  | @next k rs fr p _ hp hfr ih =>
    obtain ⟨h1, h2⟩ := fun_callT hfr
    refine ⟨fun x hx => ?_, ?_⟩
    · rcases List.mem_append.mp hx with hx | hx
      · exact ih.1 x hx
      · exact fun n g ops e => by
          obtain ⟨q, hq, h⟩ := h1 x hx n g ops e
          exact ⟨q, List.mem_of_mem_drop hq, h⟩
    · rw [List.filterMap_append, ih.2, h2, List.take_add_one, hp]
      simp
end
/-! typed -/
theorem rights_typed : ∀ {rs : List D}, (∀ r ∈ rs, RightR r) → ∃ P : List Rw, rs = P.map rwD ∧ ∀ r ∈ P, wfR r
  | [], _ => ⟨[], rfl, by simp⟩
  | d :: rs, h => by
    obtain ⟨w, ps, rfl, _, ok⟩ := h d (by simp)
    obtain ⟨r, e, hr⟩ := typed_of ok
    obtain ⟨P, rfl, hP⟩ := rights_typed (rs := rs) fun x hx => h x (by simp [hx])
    exact ⟨r :: P, by rw [e]; rfl, fun x hx => by rcases List.mem_cons.mp hx with rfl | hx; exact hr; exact hP x hx⟩
/-- a program of the pool's kind -/
structure PrgT (P : List Rw) (pl : List (Str × List Str)) : Prop where
  len : P.length ≤ 60
  wf : ∀ r ∈ P, wfR r
  run : RunO (P.map rwD) none
  defs : (P.map rwD).filterMap defD = pl.map fun p => (p.1, p.2.map D.str)
  nd : (pl.map (·.1)).Nodup
  call : ∀ n f ops, Rw.call n f ops ∈ P → ∃ p ∈ pl, p.1 = f ∧ p.2.length = ops.length
theorem callT_typed {pl : List (Str × List Str)} {n f : Str} {ops : List Key} (h : CallT pl (rwD (.call n f ops))) : ∃ p ∈ pl, p.1 = f ∧ p.2.length = ops.length := by
  obtain ⟨p, hp, h1, h2⟩ := h n f (ops.map kD) rfl
  exact ⟨p, hp, h1, by simpa using h2⟩
theorem funs_typed {ws : List Str} {pl : List (Str × List Str)} {rs : List D} (nd : ws.Nodup) (g : ∀ w ∈ ws, goodW w) (hp : PlanIn ws pl) (f : Funs ws pl pl.length rs) (hl : rs.length ≤ 60) : ∃ P, rs = P.map rwD ∧ PrgT P pl := by
  have pg := hp.good nd g
  obtain ⟨P, rfl, wf⟩ := rights_typed (funs_right g pg f)
  obtain ⟨h1, h2⟩ := funs_callT f
  refine ⟨P, rfl, by simpa using hl, wf, funs_runO f, by rw [h2, List.take_length], pg.nd, fun n f ops hm => callT_typed (h1 _ (List.mem_map.mpr ⟨_, hm, rfl⟩))⟩
theorem skips_typed (n : Nat) (h : n ≤ 60) : PrgT (List.replicate n .skip) [] where
  len := by simpa using h
  wf := fun r hr => by rw [List.eq_of_mem_replicate hr]; trivial
  run := by
    rw [List.map_replicate]; exact skips_runO n
  defs := by
    rw [List.map_replicate]
    simp [List.filterMap_replicate, rwD, rwL, defD]
  nd := by simp
  call := fun n f ops hm => by have := List.eq_of_mem_replicate hm; cases this
end VL
namespace VL
open PySem PySem.Spec PyProof.Rows L2 RZ
/-! ### what shape tells of the pool's programs -/
theorem topS_e (k : Nat) (s : ShS) : (topS k s).ends = s.ends ∧ (topS k s).stack = s.stack := by unfold topS; split <;> exact ⟨rfl, rfl⟩
theorem defS_e (k : Nat) (w : Str) (s : ShS) : (defS k w s).ends = s.ends ∧ (defS k w s).stack = s.stack := by unfold defS; split <;> exact ⟨rfl, rfl⟩
theorem elseS_e {k : Nat} {w : Str} {s s' : ShS} (h : elseS k w s = some s') : s'.ends = s.ends ∧ s'.stack = s.stack := by
  unfold elseS at h
  split at h
  · split at h
    · cases h; exact ⟨rfl, rfl⟩
    · cases h
  · cases h; exact ⟨rfl, rfl⟩
theorem pushS_e (k : Nat) (w : Str) (s : ShS) : (pushS k w s).ends = s.ends := by unfold pushS; split <;> rfl
theorem step_ends {k : Nat} {w : Str} {s s' : ShS} (e : stepS k w s = some s') :
    (¬ (w = Str.ofString "give" ∨ w = Str.ofString "end") → s'.ends = s.ends) ∧ ((w = Str.ofString "give" ∨ w = Str.ofString "end") → ∀ j, s.stack.getLast? = some j → s'.ends = s.ends.set j (some k)) := by
  unfold stepS at e
  have t1 := topS_e k s
  have t2 := defS_e k w (topS k s)
  cases q : elseS k w (defS k w (topS k s)) with
  | none => rw [q] at e; cases e
  | some a =>
    rw [q] at e
    have t3 := elseS_e q
    simp only [Option.bind_some] at e
    cases q2 : footS k w a with
    | none => rw [q2] at e; cases e
    | some b =>
      rw [q2] at e
      simp only [Option.map_some, Option.some.injEq] at e
      subst e
      rw [pushS_e]
      unfold footS at q2
      have ee : a.ends = s.ends := by rw [t3.1, t2.1, t1.1]
      have es : a.stack = s.stack := by rw [t3.2, t2.2, t1.2]
      constructor
      · intro c
        rw [if_neg c] at q2
        cases q2
        exact ee
      · intro c j hj
        rw [if_pos c, es, hj] at q2
        simp only [Option.some.injEq] at q2
        subst q2
        show a.ends.set j (some k) = _
        rw [ee]
def giveW (rows : List D) (j : Nat) : Prop := wA rows j = some (Str.ofString "give")
/-- the give of a def -/
def GiveOf (rows : List D) (s : ShS) (t : Nat) : Prop := ∃ g, s.ends[t]? = some (some g) ∧ t < g ∧ g < rows.length ∧ giveW rows g ∧ ∀ j, t ≤ j → j < g → ¬ giveW rows j
structure InvD (rows : List D) (k : Nat) (m : Mode) (s : ShS) : Prop where
  cl : ∀ t < k, wA rows t = some (Str.ofString "def") → (∀ d st, m = some (d, st) → d ≠ t) → GiveOf rows s t
  op : ∀ d st, m = some (d, st) → d < k ∧ ∀ j, d ≤ j → j < k → ¬ giveW rows j
  sk : ∀ j < k, homeV rows j = none → wA rows j = some (Str.ofString "skip")
theorem GiveOf.to {rows : List D} {s s' : ShS} {t : Nat} (h : GiveOf rows s t) (e : s'.ends[t]? = s.ends[t]?) : GiveOf rows s' t := by
  unfold GiveOf; rw [e]; exact h
theorem invD_step {rows : List D} {k : Nat} {w : Str} {m m' : Mode} {s s' : ShS} (hk : k < rows.length) (hw : wA rows k = some w) (t : StepM k w m m') (so : m = none → m' = none → w = Str.ofString "skip") (I : Inv31 rows k m s) (J : InvD rows k m s) (e : stepS k w s = some s') : InvD rows (k + 1) m' s' := by
  obtain ⟨e1, e2⟩ := step_ends e
  have stk := I.stk
  have hs := I.hs
  have sk : homeV rows k = none → wA rows k = some (Str.ofString "skip") := fun h => by
    unfold homeV at h
    split at h
    · cases h
    · rename_i nd
      rw [hs] at h
      cases m with
      | some p => cases h
      | none =>
        cases t with
        | dfn => exact absurd hw nd
        | out _ => rw [hw, so rfl rfl]
  have ends_same : ¬ (w = Str.ofString "give" ∨ w = Str.ofString "end") → ∀ t : Nat, s'.ends[t]? = s.ends[t]? := fun c t => by rw [e1 c]
  cases t with
  | dfn =>
    refine ⟨fun t ht hd nt => ?_, fun d st h => ?_, next_of J.sk sk⟩
    · have : t ≠ k := fun z => nt k [] rfl z.symm
      exact (J.cl t (by omega) hd (fun d st h => by cases h)).to (ends_same (by simp) t)
    · cases h
      refine ⟨by omega, fun j h1 h2 => ?_⟩
      have : j = k := by omega
      subst this
      unfold giveW
      rw [hw]; simp
  | out hp =>
    obtain ⟨p1, p2, p3, p4, p5, p6⟩ := plain_ne hp
    refine ⟨fun t ht hd nt => ?_, (fun d st h => by cases h), next_of J.sk sk⟩
    have : t ≠ k := fun z => by subst z; rw [hw] at hd; exact p1 (by simpa using hd)
    exact (J.cl t (by omega) hd (fun d st h => by cases h)).to (ends_same (by simp [p4, p5]) t)
  | ins hp =>
    obtain ⟨p1, p2, p3, p4, p5, p6⟩ := plain_ne hp
    refine ⟨fun t ht hd nt => ?_, fun d st h => ?_, next_of J.sk sk⟩
    · have : t ≠ k := fun z => by subst z; rw [hw] at hd; exact p1 (by simpa using hd)
      exact (J.cl t (by omega) hd nt).to (ends_same (by simp [p4, p5]) t)
    · obtain ⟨h1, h2⟩ := J.op d st h
      refine ⟨by omega, fun j g1 g2 => ?_⟩
      rcases Nat.lt_succ_iff_lt_or_eq.mp g2 with g2 | rfl
      · exact h2 j g1 g2
      · unfold giveW; rw [hw]; simpa using p4
  | @opn d0 st0 z hz =>
    have w1 : Str.ofString z ≠ Str.ofString "def" := by rcases hz with rfl | rfl <;> simp
    have w2 : Str.ofString z ≠ Str.ofString "give" := by rcases hz with rfl | rfl <;> simp
    have w3 : Str.ofString z ≠ Str.ofString "end" := by rcases hz with rfl | rfl <;> simp
    refine ⟨fun t ht hd nt => ?_, fun d st h => ?_, next_of J.sk sk⟩
    · have : t ≠ k := fun q => by subst q; rw [hw] at hd; exact w1 (by simpa using hd)
      exact (J.cl t (by omega) hd (fun d st h => by cases h; exact nt _ _ rfl)).to (ends_same (by simpa using ⟨by simpa using w2, by simpa using w3⟩) t)
    · cases h
      obtain ⟨h1, h2⟩ := J.op _ _ rfl
      refine ⟨by omega, fun j g1 g2 => ?_⟩
      rcases Nat.lt_succ_iff_lt_or_eq.mp g2 with g2 | rfl
      · exact h2 j g1 g2
      · unfold giveW; rw [hw]; simpa using w2
  | els =>
    refine ⟨fun t ht hd nt => ?_, fun d st h => ?_, next_of J.sk sk⟩
    · have : t ≠ k := fun q => by subst q; rw [hw] at hd; simp at hd
      exact (J.cl t (by omega) hd (fun d st h => by cases h; exact nt _ _ rfl)).to (ends_same (by simp) t)
    · cases h
      obtain ⟨h1, h2⟩ := J.op _ _ rfl
      refine ⟨by omega, fun j g1 g2 => ?_⟩
      rcases Nat.lt_succ_iff_lt_or_eq.mp g2 with g2 | rfl
      · exact h2 j g1 g2
      · unfold giveW; rw [hw]; simp
  | @cls d0 j0 z st0 =>
    have lv := I.lv _ _ rfl
    have jw : wA rows j0 = some (Str.ofString "while") ∨ wA rows j0 = some (Str.ofString "if") := by
      rcases lv.1.2.1 with h | h
      · exact .inl h.2
      · exact .inr h.2
    have en : s'.ends = s.ends.set j0 (some k) := e2 (.inr rfl) j0 (by rw [stk]; simp only [List.map_cons, List.reverse_cons]; rw [← List.cons_append, List.getLast?_concat])
    refine ⟨fun t ht hd nt => ?_, fun d st h => ?_, next_of J.sk sk⟩
    · have : t ≠ k := fun q => by subst q; rw [hw] at hd; simp at hd
      have tj : j0 ≠ t := fun q => by subst q; rcases jw with jw | jw <;> (rw [jw] at hd; simp at hd)
      exact (J.cl t (by omega) hd (fun d st h => by cases h; exact nt _ _ rfl)).to (by rw [en, List.getElem?_set_ne tj])
    · cases h
      obtain ⟨h1, h2⟩ := J.op _ _ rfl
      refine ⟨by omega, fun j g1 g2 => ?_⟩
      rcases Nat.lt_succ_iff_lt_or_eq.mp g2 with g2 | rfl
      · exact h2 j g1 g2
      · unfold giveW; rw [hw]; simp
  | @giv d0 =>
    have en : s'.ends = s.ends.set d0 (some k) := e2 (.inl rfl) d0 (by rw [stk]; simp)
    obtain ⟨h1, h2⟩ := J.op _ _ rfl
    refine ⟨fun t ht hd nt => ?_, (fun d st h => by cases h), next_of J.sk sk⟩
    have : t ≠ k := fun q => by subst q; rw [hw] at hd; simp at hd
    by_cases tj : d0 = t
    · subst tj
      refine ⟨k, ?_, by omega, hk, hw, fun j g1 g2 => h2 j g1 g2⟩
      rw [en, List.getElem?_set_self (by rw [I.ok.l2]; omega)]
    · exact (J.cl t (by omega) hd (fun d st h => by cases h; exact tj)).to (by rw [en, List.getElem?_set_ne tj])
theorem run_invD {rs : List D} {m : Mode} (n : RunO rs m) : ∀ {rows rest : List D}, rows = rs ++ rest → ∃ s, runS 0 rs (.start rows.length) = some s ∧ Inv31 rows rs.length m s ∧ InvD rows rs.length m s := by
  induction n with
  | nil =>
    intro rows rest e
    exact ⟨_, rfl, inv_start rows, by simp, by simp, by simp⟩
  | @snoc rs r w m m' h hw t so ih =>
    intro rows rest e
    obtain ⟨s, h1, h2, h3⟩ := ih (rows := rows) (rest := r :: rest) (by simpa using e)
    have hk : rs.length < rows.length := by rw [e]; simp
    have wk : wA rows rs.length = some w := by unfold wA; rw [e]; simp [hw]
    obtain ⟨s', e1, e2⟩ := step_to hk wk t h2
    refine ⟨s', ?_, by simpa using e2, by simpa using invD_step hk wk t so h2 h3 e1⟩
    rw [runS_app _ _ _ _ _ _ h1 hw]
    simpa using e1
/-- a program of the pool, and its shape -/
structure Prg (P : List Rw) (pl : List (Str × List Str)) (s : ShS) : Prop where
  t : PrgT P pl
  g : GoodPr P s
  i : Inv31 (P.map rwD) P.length none s
  d : InvD (P.map rwD) P.length none s
theorem wA_rw {P : List Rw} {k : Nat} {r : Rw} (h : P[k]? = some r) : wA (P.map rwD) k = some (Str.ofString (rwW r)) := by
  unfold wA; simp [h, wordR_rw]
theorem wA_inv {P : List Rw} {k : Nat} {w : Str} (h : wA (P.map rwD) k = some w) : ∃ r, P[k]? = some r ∧ w = Str.ofString (rwW r) := by
  unfold wA at h
  cases e : P[k]? with
  | none => simp [e] at h
  | some r => simp [e, wordR_rw] at h; exact ⟨r, rfl, h.symm⟩
theorem defs_def {P : List Rw} {n : Str} {ps : List Str} (h : Rw.deff n ps ∈ P) : (n, ps.map D.str) ∈ (P.map rwD).filterMap defD := List.mem_filterMap.mpr ⟨_, List.mem_map.mpr ⟨_, h, rfl⟩, by simp [rwD, rwL, defD]⟩
theorem defD_rw {r : Rw} {n : Str} {ds : List D} (h : defD (rwD r) = some (n, ds)) : ∃ ps, r = .deff n ps ∧ ds = ps.map D.str := by
  cases r with
  | deff m ps => simp [rwD, rwL, defD] at h; exact ⟨ps, by rw [h.1], h.2.symm⟩
  | _ => rw [rwD, rwL, defD_ne (by simp)] at h; cases h
theorem nodup_fst {pl : List (Str × List Str)} (nd : (pl.map (·.1)).Nodup) {p q : Str × List Str} (hp : p ∈ pl) (hq : q ∈ pl) (e : p.1 = q.1) : p = q := by
  induction pl with
  | nil => cases hp
  | cons x xs ih =>
    rw [List.map_cons, List.nodup_cons] at nd
    rcases List.mem_cons.mp hp with rfl | hp2
    · rcases List.mem_cons.mp hq with rfl | hq2
      · rfl
      · exact absurd (List.mem_map.mpr ⟨q, hq2, e.symm⟩) nd.1
    · rcases List.mem_cons.mp hq with rfl | hq2
      · exact absurd (List.mem_map.mpr ⟨p, hp2, e⟩ : q.1 ∈ xs.map (·.1)) nd.1
      · exact ih nd.2 hp2 hq2
theorem strs_inj2 {a b : List Str} (h : a.map D.str = b.map D.str) : a = b := List.map_inj_right (f := D.str) (fun _ _ e => by injection e) |>.mp h
theorem PrgT.prg {P : List Rw} {pl : List (Str × List Str)} (t : PrgT P pl) : ∃ s, Prg P pl s := by
  obtain ⟨s, h1, h2, h3⟩ := run_invD t.run (rows := P.map rwD) (rest := []) (by simp)
  simp only [List.length_map] at h1 h2 h3
  refine ⟨s, t, ⟨t.len, t.wf, h1, ?_⟩, h2, h3⟩
  intro n f ops hm
  obtain ⟨p, hp, rfl, hl⟩ := t.call n f ops hm
  have hm2 : (p.1, p.2.map D.str) ∈ (P.map rwD).filterMap defD := by rw [t.defs]; exact List.mem_map.mpr ⟨p, hp, rfl⟩
  obtain ⟨d, hd, e⟩ := List.mem_filterMap.mp hm2
  obtain ⟨r, hr, rfl⟩ := List.mem_map.mp hd
  obtain ⟨ps, rfl, e2⟩ := defD_rw e
  have fx : ∃ x ∈ P, isDefR p.1 x = true := ⟨_, hr, by simp [isDefR]⟩
  have lt : defI P p.1 < P.length := List.findIdx_lt_length_of_exists fx
  have hx := List.findIdx_getElem (p := isDefR p.1) (xs := P) (w := lt)
  obtain ⟨ps', e3⟩ : ∃ ps', P[defI P p.1] = .deff p.1 ps' := by
    have hx : isDefR p.1 P[defI P p.1] = true := hx
    generalize P[defI P p.1] = x at hx
    cases x <;> simp [isDefR] at hx
    exact ⟨_, by rw [hx]⟩
  have e4 : P[defI P p.1]? = some (.deff p.1 ps') := by rw [List.getElem?_eq_getElem lt, e3]
  have hm3 := defs_def (List.mem_of_getElem? e4)
  rw [t.defs] at hm3
  obtain ⟨q, hq, e5⟩ := List.mem_map.mp hm3
  simp only [Prod.mk.injEq] at e5
  have := nodup_fst t.nd hq hp e5.1
  subst this
  have e6 := strs_inj2 e5.2
  obtain ⟨g, g1, g2, g3, g4, g5⟩ := h3.cl (defI P q.1) lt (by rw [wA_rw e4]; rfl) (fun d st h => by cases h)
  obtain ⟨rg, hrg, ew⟩ := wA_inv g4
  obtain ⟨o, rfl⟩ : ∃ o, rg = .give o := by cases rg <;> simp at ew; exact ⟨_, rfl⟩
  exact ⟨_, ps', g, o, rfl, e4, g1, hrg, by rw [← e6]; exact hl⟩
end VL
namespace VL
open PySem PySem.Spec PyProof.Rows L2 RZ
/-! ### calls, lists, loops: what the laws' texts want again and again -/
theorem callQ_is {sp : PSp} {g : WA} {rh : Ev} {mu : Sto} {ws : List W} {ds dds : List D} {d : D} (hg : Iss g rh mu ws) (hs : snaps mu ws = some ds) (hp : ∀ Q : W → Sto → Prop, (∀ w mu', (if allD ws = true then snap mu' w else snapF mu' w) = some d → Q w mu') → sp (ds ++ dds) Q) : Is (wCallP false sp dds g) rh mu (.d d) := fun K hK => hg _ (by
  simp only [hs]
  exact hp _ fun w mu' e => by simp only [Bool.false_eq_true, if_false, backF, e]; exact hK)
theorem callQ_own {sp : PSp} {g : WA} {rh : Ev} {mu : Sto} {ws : List W} {ds dds : List D} {K : W → Sto → Prop} (hg : Iss g rh mu ws) (hs : snaps mu ws = some ds) (hp : ∀ Q : W → Sto → Prop, (∀ w mu', (allD ws || (wflat w && mu'.all cflat)) = true → K (shiftW mu.length w) (mu ++ mu'.map (shiftC mu.length)) → Q w mu') → sp (ds ++ dds) Q) : wCallP true sp dds g rh mu K := hg _ (by
  simp only [hs]
  exact hp _ fun w mu' e k => by simp only [if_true, backO]; exact ⟨e, k⟩)
theorem asDs_comp {A1 : Type} (f : A1 → D) (xs : List A1) : asDs (xs.map (W.d ∘ f)) = some (xs.map f) := asDs_mapf f xs
theorem listF_is {a : WE} {rh : Ev} {mu : Sto} {ds : List D} (ha : Is a rh mu (.d (.lst ds))) : Is (wCall (fList false) (wCons a wNil)) rh mu (.d (.lst ds)) := fun K hK => ha _ (by
  simp
  exact hK)
theorem rwD_dep (r : Rw) : ddep (rwD r) ≤ 20 := by
  have s0 : ∀ l : List Str, ddeps (l.map D.str) = 0 := fun l => by induction l with | nil => rfl | cons x xs ih => simp [ih]
  have k0 : ∀ k : Key, ddep (kD k) = 0 := fun k => by cases k <;> rfl
  have k1 : ∀ l : List Key, ddeps (l.map kD) = 0 := fun l => by induction l with | nil => rfl | cons x xs ih => simp [ih, k0]
  cases r <;> simp [rwD, rwL, s0, k0, k1]
theorem prg_dep (P : List Rw) : ddeps (P.map rwD) ≤ 20 := by
  induction P with
  | nil => simp
  | cons r P ih => have := rwD_dep r; simp; omega
end VL
namespace VL
open PySem PySem.Spec PyProof.Rows L2 RZ
@[simp] def k_BARE : D := .tup [.str "else", .str "end", .str "skip"]
/-! ### ties, as values -/
/-! ### what is known of a program -/
structure Gg (P : List Rw) (pl : List (Str × List Str)) (s : ShS) : Prop where
  p : Prg P pl s
  r : GoodR (P.map rwD) s
abbrev ComeN (P : List Rw) (s : ShS) (nm : Str) (k r : Nat) : Prop := ∃ n, n ≤ 1000 ∧ Come (nxF (P.map rwD) s) (mdF (P.map rwD) nm) n (nxF (P.map rwD) s k) 0 r
noncomputable def comeV (P : List Rw) (s : ShS) (nm : Str) (k : Nat) : Nat := open Classical in if h : ∃ r, ComeN P s nm k r then h.choose else 0
theorem Gg.come {P : List Rw} {pl : List (Str × List Str)} {s : ShS} (g : Gg P pl s) (nm : Str) {k : Nat} (hk : k < P.length) : ComeN P s nm k (comeV P s nm k) := by
  obtain ⟨n, r, h1, h2⟩ := come_of g.r nm (k := k) (by simpa using hk)
  have h : ∃ r, ComeN P s nm k r := ⟨r, n, h1, h2⟩
  unfold comeV
  rw [dif_pos h]
  exact h.choose_spec
/-- the table of a program -/
noncomputable def tabN (P : List Rw) (s : ShS) : Tab := open Classical in if h : ∃ N C, Least (flowsP P s) N C then h.choose else []
noncomputable def tabC (P : List Rw) (s : ShS) : Tab := open Classical in if h : ∃ N C, Least (flowsP P s) N C then h.choose_spec.choose else []
theorem tab_least {P : List Rw} {s : ShS} {N C : Tab} (l : Least (flowsP P s) N C) : Least (flowsP P s) (tabN P s) (tabC P s) := by
  have h : ∃ N C, Least (flowsP P s) N C := ⟨N, C, l⟩
  unfold tabN tabC
  rw [dif_pos h, dif_pos h]
  exact h.choose_spec.choose_spec
def mkIn (P : List Rw) (o : Nat) (nm : Str) : Bool := match P[o]? with
  | some r => (makesR r).contains nm
  | none => false
structure ComeT (P : List Rw) (s : ShS) (T : Tab) : Prop where
  eq : ∀ o nm, tOf T o nm = if mkIn P o nm = true then comeV P s nm o else 0
/-! the store of a Ground -/
noncomputable def grF (P : List Rw) (s : ShS) : List (Str × W) := [(Str.ofString "rows", .d (prgD P)), (Str.ofString "heads", .loc 1), (Str.ofString "ends", .loc 2), (Str.ofString "elses", .loc 3), (Str.ofString "homes", .loc 4),
  (Str.ofString "table", .d (.tup [.lst (tabL (tabN P s)), .lst (tabL (tabC P s))])), (Str.ofString "come", .loc 6)]
noncomputable def grM (P : List Rw) (s : ShS) (T : Tab) : Sto := [.ins (Str.ofString "Ground") (grF P s), .lst (s.heads.map optD), .lst (s.ends.map optD), .lst (s.elses.map optD), .lst (s.homes.map optD), .lst (natsL s.stack), .dn none (tN T)]
/-- the store of a Ground, and more behind it -/
def GrIn (P : List Rw) (s : ShS) (T : Tab) (mu : Sto) : Prop := ∃ xs, mu = grM P s T ++ xs
theorem GrIn.app {P : List Rw} {s : ShS} {T : Tab} {mu : Sto} (h : GrIn P s T mu) (ys : Sto) : GrIn P s T (mu ++ ys) := by
  obtain ⟨xs, rfl⟩ := h
  exact ⟨xs ++ ys, by rw [List.append_assoc]⟩
theorem atI_map2' {A1 B1 : Type} (f : A1 → B1) {xs : List A1} {k : Int} {x : A1} (h : atI xs k = some x) : atI (xs.map f) k = some (f x) := by
  unfold atI at h ⊢
  simp only [List.length_map]
  revert h
  cases ixN xs.length k with
  | none => simp
  | some j => simp; intro h; exact ⟨_, h, rfl⟩
section
variable {P : List Rw} {s : ShS} {T : Tab} {rh : Ev} {i : Nat} {mu : Sto}
/-- an item of a list in the store -/
theorem ix_loc {a b : WE} {mu : Sto} {l : Nat} {ds : List D} {j : Int} {d : D} (ha : Is a rh mu (.loc l)) (hb : Is b rh mu (.d (.int j))) (e : mu[l]? = some (.lst ds)) (h : atI ds j = some d) : Is (wOp fIx a b) rh mu (.d d) := op_to _ _ _ ha hb fun K hK => by
  have h2 := atI_map2' W.d h
  simp [e]; exact ⟨_, h2, hK⟩
end
/-! uses, makes, risky of typed rows -/
theorem rowR_rw {r : Rw} {rows : List D} {s : ShS} (g : GoodR rows s) (h : rwD r ∈ rows) : RowR (Str.ofString (rwW r)) (rwP r) := by
  obtain ⟨⟨w, ps, e, h1, h2⟩, _, _⟩ := g.rk _ h
  unfold rwD rwL at e
  simp only [D.tup.injEq, List.cons.injEq, D.str.injEq] at e
  obtain ⟨rfl, rfl⟩ := e
  exact ⟨h1, h2⟩
theorem Gg.row {P : List Rw} {pl : List (Str × List Str)} {s : ShS} (g : Gg P pl s) {r : Rw} (h : r ∈ P) : RowR (Str.ofString (rwW r)) (rwP r) := rowR_rw g.r (List.mem_map.mpr ⟨r, h, rfl⟩)
/-! a loop that puts to a list -/
theorem rngW_map (n : Nat) : rngW 0 n = (List.range n).map fun k : Nat => W.d (.int (k : Nat)) := by
  refine List.ext_getElem? fun i => ?_
  by_cases h : i < n
  · rw [rngW_get 0 n i h]; simp [h]
  · rw [List.getElem?_eq_none (by rw [rngW_len]; omega), List.getElem?_eq_none (by simp; omega)]
def rowAt (P : List Rw) (k : Nat) : Rw := P[k]?.getD .skip
theorem rowAt_eq {P : List Rw} {k : Nat} {r : Rw} (h : P[k]? = some r) : rowAt P k = r := by simp [rowAt, h]
theorem rowAt_get {P : List Rw} {k : Nat} (h : k < P.length) : P[k]? = some (rowAt P k) := by simp [rowAt, h]
theorem rngN_is {a : WE} {g : WG} {b : WS} {V : EV} {rh : Ev} {mu : Sto} {n : Nat} (hn : n ≤ 1000000) (h : Is a rh mu (.d (.int (n : Nat)))) (h2 : ∀ chk : Sto → Prop, (∀ mu, chk mu) → forL chk g b V ((List.range n).map fun k : Nat => W.d (.int (k : Nat))) rh mu) : wFor (wRng1 (wCons a wNil)) g b V rh mu := by
  refine rng1_is hn h ?_
  rw [rngW_map]; exact h2
end VL
namespace VL
open PySem PySem.Spec PyProof.Rows L2 RZ
/-! ### the head of a row: the walk up to it -/
def opW (w : Str) : Prop := w = Str.ofString "if" ∨ w = Str.ofString "while" ∨ w = Str.ofString "def"
inductive HW (rows : List D) : Nat → Nat → Nat → Prop
  | stop {h : Nat} {w : Str} : wA rows h = some w → opW w → HW rows h 0 h
  | up {h d p : Nat} : wA rows (h + 1) = some (Str.ofString "end") → HW rows h (d + 1) p → HW rows (h + 1) d p
  | down {h d p : Nat} {w : Str} : wA rows (h + 1) = some w → opW w → HW rows h d p → HW rows (h + 1) (d + 1) p
  | same {h d p : Nat} {w : Str} : wA rows (h + 1) = some w → ¬ opW w → w ≠ Str.ofString "end" → HW rows h d p → HW rows (h + 1) d p
/-- the rows that are open, the innermost one first -/
def HS (rows : List D) : Nat → List Nat → Prop
  | _, [] => True
  | k, j :: l => j < k ∧ (∃ w, wA rows j = some w ∧ opW w) ∧ (∀ d p, HW rows j d p → HW rows (k - 1) d p) ∧ HS rows j l
def HeadR (rows : List D) (s : ShS) (j : Nat) : Prop :=
  (s.heads[j]? = some none ∧ (wA rows j = some (Str.ofString "def") ∨ homeV rows j = none)) ∨
  ∃ h, s.heads[j]? = some (some h) ∧ h < j ∧ HW rows (j - 1) 0 h ∧ wA rows j ≠ some (Str.ofString "def") ∧ homeV rows j ≠ none ∧ ∃ w, wA rows h = some w ∧ opW w
def openL : Mode → List Nat
  | none => []
  | some (d, st) => st.map (·.1) ++ [d]
structure InvH (rows : List D) (k : Nat) (m : Mode) (s : ShS) : Prop where
  hs : HS rows k (openL m)
  hd : ∀ j < k, HeadR rows s j
  fh : ∀ j, k ≤ j → j < rows.length → s.heads[j]? = some none
  hl : s.heads.length = rows.length
theorem step_heads {k : Nat} {w : Str} {s s' : ShS} (e : stepS k w s = some s') : s'.heads = match s.stack.getLast? with
    | some j => s.heads.set k (some j)
    | none => s.heads := by
  have ht : (topS k s).heads = match s.stack.getLast? with
    | some j => s.heads.set k (some j)
    | none => s.heads := by
    unfold topS
    cases q : s.stack.getLast? with
    | none => rfl
    | some j =>
      cases q2 : s.stack.head? with
      | none => rw [List.head?_eq_none_iff] at q2; rw [q2] at q; cases q
      | some i => rfl
  have hdef : (defS k w (topS k s)).heads = (topS k s).heads := by unfold defS; split <;> rfl
  unfold stepS at e
  cases q : elseS k w (defS k w (topS k s)) with
  | none => rw [q] at e; cases e
  | some a =>
    rw [q] at e
    have h3 : a.heads = (defS k w (topS k s)).heads := by
      unfold elseS at q
      split at q
      · split at q
        · cases q; rfl
        · cases q
      · cases q; rfl
    simp only [Option.bind_some] at e
    cases q2 : footS k w a with
    | none => rw [q2] at e; cases e
    | some b =>
      rw [q2] at e
      simp only [Option.map_some, Option.some.injEq] at e
      subst e
      have h4 : b.heads = a.heads := by
        unfold footS at q2
        split at q2
        · split at q2
          · cases q2; rfl
          · cases q2
        · cases q2; rfl
      have h5 : (pushS k w b).heads = b.heads := by unfold pushS; split <;> rfl
      rw [h5, h4, h3, hdef, ht]
theorem HeadR.to {rows : List D} {s s' : ShS} {j : Nat} (h : HeadR rows s j) (e : s'.heads[j]? = s.heads[j]?) : HeadR rows s' j := by
  unfold HeadR; rw [e]; exact h
theorem openL_stk {m : Mode} {xs : List Nat} (h : xs = match m with | none => [] | some (d, st) => d :: (st.map (·.1)).reverse) : xs.getLast? = (openL m).head? := by
  subst h
  cases m with
  | none => rfl
  | some p =>
    obtain ⟨d, st⟩ := p
    simp only [openL]
    have : d :: (st.map (·.1)).reverse = (st.map (·.1) ++ [d]).reverse := by simp
    rw [this, List.getLast?_reverse]
theorem HS.plain {rows : List D} {k : Nat} {w : Str} (hw : wA rows k = some w) (h1 : ¬ opW w) (h2 : w ≠ Str.ofString "end") : ∀ {l : List Nat}, HS rows k l → HS rows (k + 1) l
  | [], _ => trivial
  | j :: l, ⟨a, b, c, d⟩ => ⟨by omega, b, fun dd p hp => by
    have := c dd p hp
    obtain ⟨k', rfl⟩ : ∃ k', k = k' + 1 := ⟨k - 1, by omega⟩
    exact .same hw h1 h2 this, d⟩
theorem HS.close {rows : List D} {k j : Nat} (hw : wA rows k = some (Str.ofString "end")) : ∀ {l : List Nat}, HS rows k (j :: l) → HS rows (k + 1) l
  | [], _ => trivial
  | i :: l, ⟨a, ⟨w, b1, b2⟩, c, d1, d2, d3, d4⟩ => ⟨by omega, d2, fun dd p hp => by
    have h1 := d3 dd p hp
    obtain ⟨j', rfl⟩ : ∃ j', j = j' + 1 := ⟨j - 1, by omega⟩
    have h2 := c _ _ (HW.down b1 b2 h1)
    obtain ⟨k', rfl⟩ : ∃ k', k = k' + 1 := ⟨k - 1, by omega⟩
    exact .up hw h2, d4⟩
theorem not_opW {z : String} (h : z ∉ ["if", "while", "def"]) : ¬ opW (Str.ofString z) := by
  simp at h
  unfold opW
  simpa using h
theorem plain_opW {w : Str} (h : plainW w) : ¬ opW w ∧ w ≠ Str.ofString "end" := by
  obtain ⟨p1, p2, p3, p4, p5, p6⟩ := plain_ne h
  refine ⟨fun q => ?_, p5⟩
  rcases q with q | q | q
  · exact p2 q
  · exact p3 q
  · exact p1 q
theorem invH_step {rows : List D} {k : Nat} {w : Str} {m m' : Mode} {s s' : ShS} (hk : k < rows.length) (hw : wA rows k = some w) (t : StepM k w m m') (I : Inv31 rows k m s) (J : InvH rows k m s) (e : stepS k w s = some s') : InvH rows (k + 1) m' s' := by
  have hh := step_heads e
  rw [openL_stk I.stk] at hh
  have old : ∀ j, j ≠ k → s'.heads[j]? = s.heads[j]? := fun j hj => by
    rw [hh]
    split
    · rw [List.getElem?_set_ne (Ne.symm hj)]
    · rfl
  have here : s'.heads[k]? = some (openL m).head? := by
    rw [hh]
    cases (openL m).head? with
    | none => exact J.fh k (Nat.le_refl _) hk
    | some j => exact List.getElem?_set_self (by rw [J.hl]; exact hk)
  have hl' : s'.heads.length = rows.length := by
    rw [hh]
    split
    · rw [List.length_set]; exact J.hl
    · exact J.hl
  have fin : HS rows (k + 1) (openL m') → HeadR rows s' k → InvH rows (k + 1) m' s' := fun h1 h2 => ⟨h1, fun j hj => by
    by_cases c : j = k
    · subst c; exact h2
    · exact (J.hd j (by omega)).to (old j c), fun j h3 h4 => by rw [old j (by omega)]; exact J.fh j (by omega) h4, hl'⟩
  -- a row within a function
  have inn : ∀ d st, m = some (d, st) → w ≠ Str.ofString "def" → HeadR rows s' k := fun d st em wd => by
    subst em
    have hv : homeV rows k ≠ none := by
      unfold homeV
      rw [if_neg (by rw [hw]; simpa using wd), I.hs]
      simp
    have J1 := J.hs
    cases st with
    | nil =>
      obtain ⟨a, b, c, _⟩ := J1
      obtain ⟨w1, b1, b2⟩ := b
      exact .inr ⟨d, here, a, c _ _ (.stop b1 b2), by rw [hw]; simpa using wd, hv, w1, b1, b2⟩
    | cons p st =>
      obtain ⟨a, b, c, _⟩ := J1
      obtain ⟨w1, b1, b2⟩ := b
      exact .inr ⟨p.1, here, a, c _ _ (.stop b1 b2), by rw [hw]; simpa using wd, hv, w1, b1, b2⟩
  cases t with
  | dfn => exact fin ⟨by omega, ⟨_, hw, .inr (.inr rfl)⟩, fun _ _ h => h, trivial⟩ (.inl ⟨here, .inl hw⟩)
  | out hp =>
    obtain ⟨p1, p2, p3, p4, p5, p6⟩ := plain_ne hp
    refine fin trivial (.inl ⟨here, .inr ?_⟩)
    unfold homeV
    rw [if_neg (by rw [hw]; simpa using p1), I.hs]; rfl
  | ins hp =>
    obtain ⟨q1, q2⟩ := plain_opW hp
    obtain ⟨p1, _⟩ := plain_ne hp
    exact fin (J.hs.plain hw q1 q2) (inn _ _ rfl p1)
  | @opn d st z hz =>
    have w1 : Str.ofString z ≠ Str.ofString "def" := by rcases hz with rfl | rfl <;> simp
    refine fin ⟨Nat.lt_succ_self _, ⟨_, hw, ?_⟩, fun _ _ h => h, J.hs⟩ (inn _ _ rfl w1)
    rcases hz with rfl | rfl
    · exact .inl rfl
    · exact .inr (.inl rfl)
  | els => exact fin (HS.plain (l := openL _) hw (not_opW (by decide)) (by simp) J.hs) (inn _ _ rfl (by simp))
  | cls => exact fin (HS.close hw J.hs) (inn _ _ rfl (by simp))
  | giv => exact fin trivial (inn _ _ rfl (by simp))
theorem run_invH {rs : List D} {m : Mode} (n : RunO rs m) : ∀ {rows rest : List D}, rows = rs ++ rest → ∃ s, runS 0 rs (.start rows.length) = some s ∧ Inv31 rows rs.length m s ∧ InvH rows rs.length m s := by
  induction n with
  | nil =>
    intro rows rest e
    exact ⟨_, rfl, inv_start rows, trivial, by simp, fun j _ hj => by simp [ShS.start, hj], by simp [ShS.start]⟩
  | @snoc rs r w m m' h hw t so ih =>
    intro rows rest e
    obtain ⟨s, h1, h2, h3⟩ := ih (rows := rows) (rest := r :: rest) (by simpa using e)
    have hk : rs.length < rows.length := by rw [e]; simp
    have wk : wA rows rs.length = some w := by unfold wA; rw [e]; simp [hw]
    obtain ⟨s', e1, e2⟩ := step_to hk wk t h2
    refine ⟨s', ?_, by simpa using e2, by simpa using invH_step hk wk t h2 h3 e1⟩
    rw [runS_app _ _ _ _ _ _ h1 hw]
    simpa using e1
theorem Prg.heads {P : List Rw} {pl : List (Str × List Str)} {s : ShS} (p : Prg P pl s) : InvH (P.map rwD) P.length none s := by
  obtain ⟨s', h1, _, h3⟩ := run_invH p.t.run (rows := P.map rwD) (rest := []) (by simp)
  have h2 := p.g.run
  simp only [List.length_map] at h1 h3
  rw [h2] at h1
  injection h1 with h1
  subst h1
  exact h3
end VL
namespace VL
open PySem PySem.Spec PyProof.Rows L2 RZ
/-! ### Ground: what it knows, its methods -/
structure GrOk (P : List Rw) (s : ShS) (T : Tab) : Prop where
  ct : ComeT P s T
  ln : T.length ≤ 300
  lst : Least (flowsP P s) (tabN P s) (tabC P s)
/-! main -/
def mainR (P : List Rw) : Option Nat := P.findIdx? fun r => decide (rwW r = "def")
theorem optD_inj {a b : Option Nat} : deqv (optD a) (optD b) = decide (a = b) := by
  cases a <;> cases b <;> simp [optD]
  rename_i x y
  by_cases c : x = y
  · simp [c]
  · have : ¬ (x : Int) = (y : Int) := by omega
    simp [c, this]
theorem ofStr_ne {a b : String} (h : a ≠ b) : (Str.ofString a == Str.ofString b) = false := by simpa using h
/-! the whiles round a row -/
def whF (P : List Rw) (s : ShS) : Nat → Nat → List Nat
  | 0, _ => []
  | f + 1, k => (if rwW (rowAt P k) = "while" then [k] else []) ++ (match s.heads[k]? with
    | some (some h) => whF P s f h
    | _ => [])
def whL (P : List Rw) (s : ShS) (k : Nat) : List Nat := whF P s (k + 1) k
structure HdLt (P : List Rw) (s : ShS) : Prop where
  lt : ∀ k, k < P.length → ∃ o, s.heads[k]? = some o ∧ ∀ h, o = some h → h < k
/-! what a name of a row's function may hold -/
end VL
namespace VL
open PySem PySem.Spec PyProof.Rows L2 RZ
/-! ### the ties of a row -/
abbrev hmR (P : List Rw) (k : Nat) : Option Nat := homeV (P.map rwD) k
noncomputable def comeF (P : List Rw) (s : ShS) (o : Nat) (nm : Str) : Nat := if mkIn P o nm = true then comeV P s nm o else 0
theorem ComeT.fn {P : List Rw} {s : ShS} {T : Tab} (c : ComeT P s T) : tOf T = comeF P s := by
  funext o nm
  exact c.eq o nm
theorem and_is {f g : WT} {rh : Ev} {mu : Sto} {a b : Bool} (h : IsB f rh mu a) (h2 : a = true → IsB g rh mu b) : IsB (wAnd f g) rh mu (a && b) := by
  cases a with
  | false => exact and_isF h
  | true => rw [Bool.true_and]; exact and_isT h (h2 rfl)
theorem or_is' {f g : WT} {rh : Ev} {mu : Sto} {a b : Bool} (h : IsB f rh mu a) (h2 : a = false → IsB g rh mu b) : IsB (wOr f g) rh mu (a || b) := by
  cases a with
  | true => exact or_isT h
  | false => rw [Bool.false_or]; exact or_isF h (h2 rfl)
/-! by cells -/
end VL
namespace VL
open PySem PySem.Spec PyProof.Rows L2 RZ
/-! by the frame -/
/-! by stops -/
def stopB (P : List Rw) (s : ShS) (o k : Nat) : Bool :=
  if (decide (o = k) || !riskR (rowAt P o)) = true then false
  else if ((!decide (hmR P o = mainR P)) || ((!decide (hmR P k = mainR P)) || decide (o < k))) = true then true
  else (whL P s o).any fun x => (whL P s k).contains x
end VL
namespace VL
open PySem PySem.Spec PyProof.Rows L2 RZ
/-! all ties of a row -/
def bareR : Rw → Bool
  | .els => true | .endd => true | .skip => true
  | _ => false
/-! the net -/
end VL
namespace VL
open PySem PySem.Spec PyProof.Rows L2 RZ
/-! ### the pool's programs: all that is known of them; skips ahead -/
structure PrgQ (P : List Rw) (pl : List (Str × List Str)) : Prop where
  t : PrgT P pl
  k : ∀ r ∈ P.map rwD, RightR r ∧ RowK r ∧ FlatR r
theorem runO_words {rs : List D} {m : Mode} (n : RunO rs m) : ∀ r ∈ rs, ∃ w, wordR r = some w := run_words n.m
theorem PrgQ.gg {P : List Rw} {pl : List (Str × List Str)} (q : PrgQ P pl) : ∃ s, Gg P pl s := by
  obtain ⟨s, p⟩ := q.t.prg
  exact ⟨s, p, ⟨by simpa using q.t.len, by simpa using p.g.run, by simpa using p.i, runO_words q.t.run, q.k⟩⟩
theorem funs_Q {ws : List Str} {pl : List (Str × List Str)} {rs : List D} (nd : ws.Nodup) (g : ∀ w ∈ ws, goodW w) (hp : PlanIn ws pl) (f : Funs ws pl pl.length rs) (hl : rs.length ≤ 60) : ∃ P, rs = P.map rwD ∧ PrgQ P pl := by
  obtain ⟨P, rfl, pt⟩ := funs_typed nd g hp f hl
  have pg := hp.good nd g
  exact ⟨P, rfl, pt, fun r hr => ⟨funs_right g pg f r hr, funs_K g pg f r hr, funs_flat f r hr⟩⟩
/-- a def, where there is a plan -/
theorem PrgT.hasDef {P : List Rw} {pl : List (Str × List Str)} (t : PrgT P pl) (h : 1 ≤ pl.length) : ∃ (k : Nat) (n : Str) (ps : List Str), P[k]? = some (.deff n ps) := by
  have : ((P.map rwD).filterMap defD).length = pl.length := by rw [t.defs]; simp
  cases e : (P.map rwD).filterMap defD with
  | nil => rw [e] at this; simp at this; omega
  | cons x xs =>
    have hx : x ∈ (P.map rwD).filterMap defD := by rw [e]; simp
    obtain ⟨d, hd, h2⟩ := List.mem_filterMap.mp hx
    obtain ⟨r, hr, rfl⟩ := List.mem_map.mp hd
    obtain ⟨x1, x2⟩ := x
    obtain ⟨ps, rfl, _⟩ := defD_rw h2
    obtain ⟨k, hk⟩ := List.getElem?_of_mem hr
    exact ⟨k, _, _, hk⟩
/-! skips ahead -/
def shM (n : Nat) : Mode → Mode
  | none => none
  | some (d, st) => some (n + d, st.map fun q => (n + q.1, q.2))
theorem stepM_sh (n : Nat) {k : Nat} {w : Str} {m m' : Mode} (t : StepM k w m m') : StepM (n + k) w (shM n m) (shM n m') := by
  cases t with
  | dfn => exact .dfn
  | out h => exact .out h
  | ins h => exact .ins h
  | opn h => exact .opn h
  | els => exact .els
  | cls => exact .cls
  | giv => exact .giv
theorem runO_app {a b : List D} {m : Mode} (ha : RunO a none) (hb : RunO b m) : RunO (a ++ b) (shM a.length m) := by
  induction hb with
  | nil => simpa [shM] using ha
  | @snoc rs r w m m' h hw t so ih =>
    rw [← List.append_assoc]
    refine .snoc ih hw ?_ ?_
    · rw [List.length_append]; exact stepM_sh _ t
    · intro e1 e2
      refine so ?_ ?_
      · cases m with
        | none => rfl
        | some p => obtain ⟨d, st⟩ := p; cases e1
      · cases m' with
        | none => rfl
        | some p => obtain ⟨d, st⟩ := p; cases e2
theorem skip_right : RightR (rwD .skip) := bare_right (z := "skip") (.inr (.inr rfl))
theorem skip_K : RowK (rwD .skip) := RowK.bare (z := "skip") (.inr (.inr rfl))
theorem PrgQ.skips {P : List Rw} {pl : List (Str × List Str)} (q : PrgQ P pl) (n : Nat) (hl : n + P.length ≤ 60) : PrgQ (List.replicate n .skip ++ P) pl where
  t := {
    len := by simpa using hl
    wf := fun r hr => by
      rcases List.mem_append.mp hr with hr | hr
      · rw [List.eq_of_mem_replicate hr]; trivial
      · exact q.t.wf r hr
    run := by
      have h1 : RunO ((List.replicate n Rw.skip).map rwD) none := by rw [List.map_replicate]; exact skips_runO n
      have := runO_app h1 q.t.run
      rw [List.map_append]; exact this
    defs := by
      rw [List.map_append, List.filterMap_append, q.t.defs, List.map_replicate]
      simp [List.filterMap_replicate, rwD, rwL, defD]
    nd := q.t.nd
    call := fun m f ops hm => by
      rcases List.mem_append.mp hm with hm | hm
      · have := List.eq_of_mem_replicate hm; cases this
      · exact q.t.call m f ops hm }
  k := fun r hr => by
    rw [List.map_append] at hr
    rcases List.mem_append.mp hr with hr | hr
    · rw [List.map_replicate] at hr
      rw [List.eq_of_mem_replicate hr]
      exact ⟨skip_right, skip_K, skip_flat⟩
    · exact q.k r hr
end VL
namespace VL
open PySem PySem.Spec PyProof.Rows L2 RZ
end VL
namespace VL
open PySem PySem.Spec PyProof.Rows L2 RZ
/-- those that come to r -/
def IsForth (xs : List Nat) (r w : Nat) : Prop := ∀ i, w.testBit i = true ↔ ∃ j, r.testBit j = true ∧ Path xs i j
theorem IsForth.uniq {xs : List Nat} {r w w' : Nat} (h : IsForth xs r w) (h' : IsForth xs r w') : w = w' :=
  Nat.eq_of_testBit_eq fun j => by rw [Bool.eq_iff_iff, h j, h' j]
end VL
namespace VL
open PySem PySem.Spec PyProof.Rows L2 RZ
/-! ### the rows that do something; sets of them -/
theorem tst_is {f : F2} {a b : WE} {rh : Ev} {mu : Sto} {x y : W} (b0 : Bool) (ha : Is a rh mu x) (hb : Is b rh mu y) (h : ∀ K : W → Sto → Prop, K (.d (.bl b0)) mu → f mu x y K) : IsB (wTest (wOp f a b)) rh mu b0 := fun K hK => ha _ (hb _ (h _ (by simpa using hK)))
/-! slices -/
end VL
namespace VL
open PySem PySem.Spec PyProof.Rows L2 RZ
/-! ### values -/
def fitZ (n : Int) : Int := (n + 1000000000000000000000000000000) % 2000000000000000000000000000000 - 1000000000000000000000000000000
def numIn : D → Int
  | .int n => n
  | _ => 0
/-- a value -/
def isV : D → Prop
  | .int n => -1000000000000000000000000000000 ≤ n ∧ n < 1000000000000000000000000000000
  | .tup [.int _, .int _] => True
  | _ => False
def recD (a : D) (w : Str) (b : D) : D :=
  if w = "same" then .int (if deqv a b then 1 else 0)
  else if w = "less" then .int (if numIn a < numIn b then 1 else 0)
  else if w = "plus" then .int (fitZ (numIn a + numIn b))
  else if w = "minus" then .int (fitZ (numIn a - numIn b))
  else if w = "times" then .int (fitZ (numIn a * numIn b))
  else if numIn b = 0 then .non else .int (fitZ (if w = "over" then gDiv (numIn a) (numIn b) else gMod (numIn a) (numIn b)))
theorem fit_lo (n : Int) : -1000000000000000000000000000000 ≤ fitZ n := by unfold fitZ; omega
theorem fit_hi (n : Int) : fitZ n < 1000000000000000000000000000000 := by unfold fitZ; omega
/-! ### the machine -/
abbrev NM := List (Str × D)
def nmD (m : NM) : List (Key × D) := m.map fun p => (.inr p.1, p.2)
def nGet : NM → Str → Option D
  | [], _ => none
  | (j, d) :: r, k => if j = k then some d else nGet r k
def nPut : NM → Str → D → NM
  | [], k, d => [(k, d)]
  | (j, e) :: r, k, d => if j = k then (k, d) :: r else (j, e) :: nPut r k d
theorem nPut_len (m : NM) (k : Str) (v : D) : (nPut m k v).length ≤ m.length + 1 := by
  induction m with
  | nil => simp [nPut]
  | cons p r ih => obtain ⟨j, e⟩ := p; rw [nPut]; split <;> simp; exact ih
theorem nPut_mem {k : Str} {v : D} : ∀ {m : NM} {p : Str × D}, p ∈ nPut m k v → p ∈ m ∨ p = (k, v)
  | [], p, h => by simp [nPut] at h; exact .inr h
  | (j, e) :: r, p, h => by
    rw [nPut] at h
    split at h
    · rcases List.mem_cons.mp h with h | h
      · exact .inr h
      · exact .inl (List.mem_cons_of_mem _ h)
    · rcases List.mem_cons.mp h with h | h
      · exact .inl (h ▸ List.mem_cons_self)
      · rcases nPut_mem h with h | h
        · exact .inl (List.mem_cons_of_mem _ h)
        · exact .inr h
theorem nPut_nd {k : Str} {v : D} : ∀ {m : NM}, (m.map (·.1)).Nodup → ((nPut m k v).map (·.1)).Nodup
  | [], _ => by simp [nPut]
  | (j, e) :: r, h => by
    rw [List.map_cons, List.nodup_cons] at h
    rw [nPut]
    split
    · rename_i c
      subst c
      rw [List.map_cons, List.nodup_cons]; exact h
    · rename_i c
      rw [List.map_cons, List.nodup_cons]
      refine ⟨fun hm => ?_, nPut_nd h.2⟩
      obtain ⟨p, hp, e2⟩ := List.mem_map.mp hm
      rcases nPut_mem hp with hp | rfl
      · exact h.1 (List.mem_map.mpr ⟨p, hp, e2⟩)
      · exact c e2.symm
structure NmOk (m : NM) (b : Nat) : Prop where
  nd : (m.map (·.1)).Nodup
  v : ∀ p ∈ m, isV p.2
  len : m.length ≤ b
theorem NmOk.get {m : NM} {b : Nat} (h : NmOk m b) {k : Str} {d : D} (e : nGet m k = some d) : isV d := by
  have : ∀ m : NM, nGet m k = some d → ∃ p ∈ m, p.2 = d := by
    intro m
    induction m with
    | nil => intro h; cases h
    | cons p r ih =>
      obtain ⟨j, x⟩ := p
      intro h
      unfold nGet at h
      split at h
      · cases h; exact ⟨_, List.mem_cons_self, rfl⟩
      · obtain ⟨p, hp, e⟩ := ih h
        exact ⟨p, List.mem_cons_of_mem _ hp, e⟩
  obtain ⟨p, hp, rfl⟩ := this m e
  exact h.v p hp
theorem NmOk.put {m : NM} {b : Nat} (h : NmOk m b) (k : Str) {d : D} (hd : isV d) : NmOk (nPut m k d) (b + 1) :=
  ⟨nPut_nd h.nd, fun p hp => (nPut_mem hp).elim (h.v p) fun e => by rw [e]; exact hd, Nat.le_trans (nPut_len _ _ _) (Nat.succ_le_succ h.len)⟩
theorem NmOk.mono {m : NM} {b c : Nat} (h : NmOk m b) (hc : b ≤ c) : NmOk m c := ⟨h.nd, h.v, Nat.le_trans h.len hc⟩
/-- the value of an operand -/
def lookV (m : NM) : Key → D
  | .inl n => .int n
  | .inr s => (nGet m s).getD (.int 0)
theorem isV_0 : isV (.int 0) := ⟨by omega, by omega⟩
theorem lookV_ok {m : NM} {b : Nat} (h : NmOk m b) {k : Key} (ok : okO k = true) : isV (lookV m k) := by
  cases k with
  | inl n =>
    unfold okO at ok
    unfold lookV isV
    simp [numOk] at ok
    exact ok
  | inr s =>
    show isV ((nGet m s).getD (.int 0))
    cases e : nGet m s with
    | none => exact isV_0
    | some d => exact h.get e
/-- what a run is, doing by doing -/
structure Mc where
  pc : Nat
  nm : NM
  cs : List (Nat × NM)
  ce : List (D × D)
  co : List (Nat × Nat)
  ps : List D
  ds : List D
  en : Option D
def enD : Option D → D
  | none => .non
  | some d => d
def mF (P : List Rw) (most : Nat) (m : Mc) (nl : Nat) : List (Str × W) := [(Str.ofString "rows", .d (prgD P)), (Str.ofString "heads", .loc 1), (Str.ofString "tails", .loc 2), (Str.ofString "others", .loc 3), (Str.ofString "most", .d (.int (most : Nat))), (Str.ofString "doings", .loc 6), (Str.ofString "names", .loc nl), (Str.ofString "callers", .loc 8), (Str.ofString "cells", .loc 9), (Str.ofString "counts", .loc 10), (Str.ofString "starts", .loc 11), (Str.ofString "passed", .d (.tup m.ps)), (Str.ofString "at", .d (.int (m.pc : Nat))), (Str.ofString "ending", .d (enD m.en))]
def callW (cs : List (Nat × NM)) (fl : List Nat) : List W := List.zipWith (fun p l => .tup [.d (.int (p.1 : Nat)), .loc l]) cs fl
def ceN (c : List (D × D)) : List (D × W) := c.map fun p => (p.1, .d p.2)
def coD (c : List (Nat × Nat)) : List (Key × D) := c.map fun p => (.inl (p.1 : Nat), .int (p.2 : Nat))
def stD2 (c : List (Str × Nat)) : List (Key × D) := c.map fun p => (.inr p.1, .int (p.2 : Nat))
/-- the store is that of a machine -/
structure MS (P : List Rw) (s : ShS) (most : Nat) (st : List (Str × Nat)) (m : Mc) (nl : Nat) (fl : List Nat) (mu : Sto) : Prop where
  i : mu[0]? = some (.ins (Str.ofString "Machine") (mF P most m nl))
  h1 : mu[1]? = some (.lst (s.heads.map optD))
  h2 : mu[2]? = some (.lst (s.ends.map optD))
  h3 : mu[3]? = some (.lst (s.elses.map optD))
  ds : mu[6]? = some (.lst m.ds)
  cs : ∃ c, mu[8]? = some c ∧ itsC c = some (callW m.cs fl)
  ce : mu[9]? = some (.dn none (ceN m.ce))
  co : mu[10]? = some (.dk (coD m.co))
  st : mu[11]? = some (.dk (stD2 st))
  nm : mu[nl]? = some (.dk (nmD m.nm))
  fr : fl.length = m.cs.length ∧ ∀ (i l : Nat) (p : Nat × NM), fl[i]? = some l → m.cs[i]? = some p → mu[l]? = some (.dk (nmD p.2))
  nd : fl.Nodup
  lo : ∀ x ∈ nl :: fl, x = 7 ∨ 12 ≤ x
/-! fields -/
section
variable {P : List Rw} {s : ShS} {most : Nat} {st : List (Str × Nat)} {m : Mc} {nl : Nat} {fl : List Nat} {mu : Sto} {rh : Ev}
theorem MS.ne0 (h : MS P s most st m nl fl mu) : ∀ x ∈ nl :: fl, x ≠ 0 ∧ x ≠ 1 ∧ x ≠ 2 ∧ x ≠ 3 ∧ x ≠ 6 ∧ x ≠ 8 ∧ x ≠ 9 ∧ x ≠ 10 ∧ x ≠ 11 := fun x hx => by
  have := h.lo x hx
  omega
theorem MS.frame (h : MS P s most st m nl fl mu) {k : Nat} {c : C} {m' : Mc} (hk : ∀ x ∈ nl :: fl, x ≠ k)
    (i : (mu.set k c)[0]? = some (.ins (Str.ofString "Machine") (mF P most m' nl))) (h1 : 1 ≠ k) (h2 : 2 ≠ k) (h3 : 3 ≠ k) (ds : (mu.set k c)[6]? = some (.lst m'.ds))
    (cs : ∃ c', (mu.set k c)[8]? = some c' ∧ itsC c' = some (callW m'.cs fl)) (ce : (mu.set k c)[9]? = some (.dn none (ceN m'.ce))) (co : (mu.set k c)[10]? = some (.dk (coD m'.co))) (st' : 11 ≠ k) (en : m'.nm = m.nm) (ec : m'.cs = m.cs) : MS P s most st m' nl fl (mu.set k c) where
  i := i
  h1 := by rw [List.getElem?_set_ne (Ne.symm h1)]; exact h.h1
  h2 := by rw [List.getElem?_set_ne (Ne.symm h2)]; exact h.h2
  h3 := by rw [List.getElem?_set_ne (Ne.symm h3)]; exact h.h3
  ds := ds
  cs := cs
  ce := ce
  co := co
  st := by rw [List.getElem?_set_ne (Ne.symm st')]; exact h.st
  nm := by rw [List.getElem?_set_ne (Ne.symm (hk nl (by simp))), en]; exact h.nm
  fr := ⟨by rw [ec]; exact h.fr.1, fun i l p e1 e2 => by
    rw [List.getElem?_set_ne (Ne.symm (hk l (List.mem_cons_of_mem _ (List.mem_of_getElem? e1))))]
    rw [ec] at e2
    exact h.fr.2 i l p e1 e2⟩
  nd := h.nd
  lo := h.lo
theorem MS.setI (h : MS P s most st m nl fl mu) {m' : Mc} (e1 : m'.nm = m.nm) (e2 : m'.cs = m.cs) (e3 : m'.ce = m.ce) (e4 : m'.co = m.co) (e5 : m'.ds = m.ds) : MS P s most st m' nl fl (mu.set 0 (.ins (Str.ofString "Machine") (mF P most m' nl))) := by
  have hl : 0 < mu.length := (List.getElem?_eq_some_iff.mp h.i).1
  have hn : ∀ k, k ≠ 0 → (mu.set 0 (.ins (Str.ofString "Machine") (mF P most m' nl)))[k]? = mu[k]? := fun k hk => List.getElem?_set_ne (Ne.symm hk)
  refine h.frame (fun x hx => (h.ne0 x hx).1) (by simp [hl]) (by omega) (by omega) (by omega) ?_ ?_ ?_ ?_ (by omega) e1 e2
  · rw [hn 6 (by omega), e5]; exact h.ds
  · rw [hn 8 (by omega), e2]; exact h.cs
  · rw [hn 9 (by omega), e3]; exact h.ce
  · rw [hn 10 (by omega), e4]; exact h.co
theorem MS.setCe (h : MS P s most st m nl fl mu) (ce : List (D × D)) : MS P s most st { m with ce := ce } nl fl (mu.set 9 (.dn none (ceN ce))) := by
  have hl : 9 < mu.length := (List.getElem?_eq_some_iff.mp h.ce).1
  have hn : ∀ k, k ≠ 9 → (mu.set 9 (.dn none (ceN ce)))[k]? = mu[k]? := fun k hk => List.getElem?_set_ne (Ne.symm hk)
  refine h.frame (fun x hx => (h.ne0 x hx).2.2.2.2.2.2.1) ?_ (by omega) (by omega) (by omega) ?_ ?_ (by simp [hl]) ?_ (by omega) rfl rfl
  · rw [hn 0 (by omega)]; exact h.i
  · rw [hn 6 (by omega)]; exact h.ds
  · rw [hn 8 (by omega)]; exact h.cs
  · rw [hn 10 (by omega)]; exact h.co
end
theorem tup1_is {a : WE} {rh : Ev} {mu : Sto} {x : D} (ha : Is a rh mu (.d x)) : Is (wTup (wCons a wNil)) rh mu (.d (.tup [x])) := fun K hK => ha _ ⟨by simp [sizeLine_eq], hK⟩
/-! the small methods -/
def doD (pc : Nat) (vs : List D) (v : D) : D := .tup [.int (pc : Nat), .tup vs, v]
def keyU (m : NM) (k : Key) : List D := if fldK k = true then [] else [lookV m k]
def keyI (m : NM) (k : Key) : D := if fldK k = true then kD k else .int (numIn (lookV m k))
/-! cells, and what a row makes -/
def ceGet : List (D × D) → D → Option D
  | [], _ => none
  | (j, d) :: r, k => if keq j k then some d else ceGet r k
def cePut : List (D × D) → D → D → List (D × D)
  | [], k, d => [(k, d)]
  | (j, e) :: r, k, d => if keq j k then (j, d) :: r else (j, e) :: cePut r k d
theorem cePut_len (c : List (D × D)) (k v : D) : (cePut c k v).length ≤ c.length + 1 := by
  induction c with
  | nil => simp [cePut]
  | cons p r ih => obtain ⟨j, e⟩ := p; rw [cePut]; split <;> simp; exact ih
theorem cePut_mem {k v : D} : ∀ {c : List (D × D)} {p : D × D}, p ∈ cePut c k v → (∃ q ∈ c, q.1 = p.1 ∧ (q = p ∨ p.2 = v)) ∨ p = (k, v)
  | [], p, h => by simp [cePut] at h; exact .inr h
  | (j, e) :: r, p, h => by
    rw [cePut] at h
    split at h
    · rcases List.mem_cons.mp h with h | h
      · exact .inl ⟨(j, e), List.mem_cons_self, by rw [h], .inr (by rw [h])⟩
      · exact .inl ⟨p, List.mem_cons_of_mem _ h, rfl, .inl rfl⟩
    · rcases List.mem_cons.mp h with h | h
      · exact .inl ⟨(j, e), List.mem_cons_self, by rw [h], .inl h.symm⟩
      · rcases cePut_mem h with ⟨q, hq, h1, h2⟩ | h
        · exact .inl ⟨q, List.mem_cons_of_mem _ hq, h1, h2⟩
        · exact .inr h
structure CeOk (c : List (D × D)) (b : Nat) : Prop where
  v : ∀ p ∈ c, isV p.2
  len : c.length ≤ b
theorem ceGet_mem {c : List (D × D)} {k d : D} (e : ceGet c k = some d) : ∃ p ∈ c, p.2 = d := by
  induction c with
  | nil => cases e
  | cons p r ih =>
    obtain ⟨j, x⟩ := p
    rw [ceGet] at e
    split at e
    · cases e; exact ⟨_, List.mem_cons_self, rfl⟩
    · obtain ⟨p, hp, e⟩ := ih e
      exact ⟨p, List.mem_cons_of_mem _ hp, e⟩
def loadV (c : List (D × D)) (r k : D) : D := (ceGet c (.tup [r, k])).getD (.int 0)
theorem loadV_ok {c : List (D × D)} {b : Nat} (h : CeOk c b) (r k : D) : isV (loadV c r k) := by
  unfold loadV
  cases e : ceGet c (.tup [r, k]) with
  | none => exact isV_0
  | some d =>
    obtain ⟨p, hp, rfl⟩ := ceGet_mem e
    exact h.v p hp
theorem CeOk.put {c : List (D × D)} {b : Nat} (h : CeOk c b) {k v : D} (hv : isV v) : CeOk (cePut c k v) (b + 1) :=
  ⟨fun p hp => by
    rcases cePut_mem hp with ⟨q, hq, _, h2⟩ | rfl
    · rcases h2 with rfl | h2
      · exact h.v _ hq
      · rw [h2]; exact hv
    · exact hv, Nat.le_trans (cePut_len _ _ _) (Nat.succ_le_succ h.len)⟩
def isR : D → Bool
  | .tup _ => true
  | _ => false
def kyD (k : D) : Prop := (∃ n, k = .int n) ∨ ∃ z, k = .str z
def coGet : List (Nat × Nat) → Nat → Option Nat
  | [], _ => none
  | (j, d) :: r, k => if j = k then some d else coGet r k
def coPut : List (Nat × Nat) → Nat → Nat → List (Nat × Nat)
  | [], k, d => [(k, d)]
  | (j, e) :: r, k, d => if j = k then (k, d) :: r else (j, e) :: coPut r k d
theorem coPut_len (c : List (Nat × Nat)) (k n : Nat) : (coPut c k n).length ≤ c.length + 1 := by
  induction c with
  | nil => simp [coPut]
  | cons p r ih => obtain ⟨j, e⟩ := p; rw [coPut]; split <;> simp; exact ih
theorem coPut_mem {k n : Nat} : ∀ {c : List (Nat × Nat)} {p : Nat × Nat}, p ∈ coPut c k n → p ∈ c ∨ p.1 = k
  | [], p, h => by simp [coPut] at h; exact .inr (by rw [h])
  | (j, e) :: r, p, h => by
    rw [coPut] at h
    split at h
    · rcases List.mem_cons.mp h with h | h
      · exact .inr (by rw [h])
      · exact .inl (List.mem_cons_of_mem _ h)
    · rcases List.mem_cons.mp h with h | h
      · exact .inl (h ▸ List.mem_cons_self)
      · rcases coPut_mem h with h | h
        · exact .inl (List.mem_cons_of_mem _ h)
        · exact .inr h
theorem coPut_nd {k n : Nat} : ∀ {c : List (Nat × Nat)}, (c.map (·.1)).Nodup → ((coPut c k n).map (·.1)).Nodup
  | [], _ => by simp [coPut]
  | (j, e) :: r, h => by
    rw [List.map_cons, List.nodup_cons] at h
    rw [coPut]
    split
    · rename_i c
      subst c
      rw [List.map_cons, List.nodup_cons]; exact h
    · rename_i c
      rw [List.map_cons, List.nodup_cons]
      refine ⟨fun hm => ?_, coPut_nd h.2⟩
      obtain ⟨p, hp, e2⟩ := List.mem_map.mp hm
      rcases coPut_mem hp with hp | hp
      · exact h.1 (List.mem_map.mpr ⟨p, hp, e2⟩)
      · exact c (by rw [← hp]; exact e2.symm)
structure CoOk (c : List (Nat × Nat)) (b : Nat) : Prop where
  nd : (c.map (·.1)).Nodup
  len : c.length ≤ b
theorem CoOk.put {c : List (Nat × Nat)} {b : Nat} (h : CoOk c b) (k n : Nat) : CoOk (coPut c k n) (b + 1) := ⟨coPut_nd h.nd, Nat.le_trans (coPut_len _ _ _) (Nat.succ_le_succ h.len)⟩
/-- the row does something on values -/
def wkRow : Rw → Bool
  | .put _ _ => true | .doo _ _ _ _ => true | .new _ => true | .get _ _ _ => true | .set _ _ _ => true
  | _ => false
def wkVals (nm : NM) : Rw → List D
  | .put _ o => [lookV nm o]
  | .doo _ a _ b => [lookV nm a, lookV nm b]
  | .get _ o k => lookV nm (.inr o) :: keyU nm k
  | .set o k v => lookV nm (.inr o) :: keyU nm k ++ [lookV nm v]
  | _ => []
def cntV (m : Mc) : Nat := (coGet m.co m.pc).getD 0
def wkMade (m : Mc) : Rw → D
  | .put _ o => lookV m.nm o
  | .doo _ a w b => recD (lookV m.nm a) w (lookV m.nm b)
  | .new _ => .tup [.int (m.pc : Nat), .int (cntV m : Nat)]
  | .get _ o k => loadV m.ce (lookV m.nm (.inr o)) (keyI m.nm k)
  | .set _ _ v => lookV m.nm v
  | _ => .non
def wkCo (m : Mc) : Rw → List (Nat × Nat)
  | .new _ => coPut m.co m.pc (cntV m + 1)
  | _ => m.co
structure MO (m : Mc) (b : Nat) : Prop where
  nm : NmOk m.nm b
  ce : CeOk m.ce b
  co : CoOk m.co b
  sm : b ≤ 900000
/-! calls -/
def entNm (ps : List Str) (vs : List D) : NM := (ps.zip vs).foldl (fun nm p => nPut nm p.1 p.2) []
/-! out to a function, and back -/
def stGet : List (Str × Nat) → Str → Option Nat
  | [], _ => none
  | (j, d) :: r, k => if j = k then some d else stGet r k
/-! a give -/
def doneD (v : D) : D := .tup [.str (Str.ofString "done"), v]
/-! a choice -/
def sideV : D → Nat
  | .int n => if n = 0 then 0 else 1
  | _ => 1
def isWh : Rw → Bool
  | .whil _ => true
  | _ => false
def choP (s : ShS) (k : Nat) (wh : Bool) (side : Nat) : Nat :=
  if side = 1 then k + 1 else
  match s.ends[k]? with
  | some (some n) => if wh = true then n + 1 else (match s.elses[k]? with
    | some (some e) => e + 1
    | _ => n)
  | _ => k
/-! a row of work -/
def isNon : D → Bool
  | .non => true
  | _ => false
def wkName : Rw → Str
  | .put n _ => n | .doo n _ _ _ => n | .new n => n | .get n _ _ => n
  | _ => Str.ofString ""
def faultD (w : Str) : D := .tup [.str (Str.ofString "fault"), .str w]
def isSet : Rw → Bool
  | .set _ _ _ => true
  | _ => false
def setCe (m : Mc) : Rw → List (D × D)
  | .set o k v => if isR (lookV m.nm (.inr o)) = true then cePut m.ce (.tup [lookV m.nm (.inr o), keyI m.nm k]) (lookV m.nm v) else m.ce
  | _ => m.ce
def workM (m : Mc) (r : Rw) : Mc :=
  if isNon (wkMade m r) = true then { m with co := wkCo m r, ds := m.ds ++ [doD m.pc (wkVals m.nm r) .non], en := some (faultD (Str.ofString "zero")) }
  else if isSet r = true then { m with co := wkCo m r, ds := m.ds ++ [doD m.pc (wkVals m.nm r) (wkMade m r)], ce := setCe m r, pc := m.pc + 1 }
  else { m with co := wkCo m r, ds := m.ds ++ [doD m.pc (wkVals m.nm r) (wkMade m r)], nm := nPut m.nm (wkName r) (wkMade m r), pc := m.pc + 1 }
/-! one step -/
def backM (P : List Rw) (m : Mc) (o : Key) : Mc := match m.cs.getLast? with
  | none => { m with ds := m.ds ++ [doD m.pc [lookV m.nm o] (lookV m.nm o)], en := some (doneD (lookV m.nm o)) }
  | some (place, nm0) => { m with ds := m.ds ++ [doD m.pc [lookV m.nm o] (lookV m.nm o)], nm := nPut nm0 (match rowAt P place with | .call n _ _ => n | _ => Str.ofString "") (lookV m.nm o), cs := m.cs.dropLast, pc := place + 1 }
def doM (P : List Rw) (s : ShS) (st : List (Str × Nat)) (m : Mc) (r : Rw) : Mc := match r with
  | .deff _ ps => { m with nm := entNm ps m.ps, ds := m.ds ++ [doD m.pc m.ps .non], pc := m.pc + 1 }
  | .call _ f ops => { m with ps := ops.map (lookV m.nm), ds := m.ds ++ [doD m.pc (ops.map (lookV m.nm)) .non], cs := m.cs ++ [(m.pc, m.nm)], pc := (stGet st f).getD 0 }
  | .give o => backM P m o
  | .iff o => { m with ds := m.ds ++ [doD m.pc [lookV m.nm o] (.int (sideV (lookV m.nm o) : Nat))], pc := choP s m.pc false (sideV (lookV m.nm o)) }
  | .whil o => { m with ds := m.ds ++ [doD m.pc [lookV m.nm o] (.int (sideV (lookV m.nm o) : Nat))], pc := choP s m.pc true (sideV (lookV m.nm o)) }
  | .fail w => { m with ds := m.ds ++ [doD m.pc [] .non], en := some (faultD w) }
  | r => workM m r
def headOf (s : ShS) (k : Nat) : Nat := match s.heads[k]? with
  | some (some j) => j
  | _ => 0
def endsOf (s : ShS) (k : Nat) : Nat := match s.ends[k]? with
  | some (some j) => j
  | _ => 0
def cutD : D := .tup [.str (Str.ofString "cut"), .int 0]
def quiet : Rw → Bool
  | .skip => true | .els => true | .endd => true
  | _ => false
def stepM (P : List Rw) (s : ShS) (most : Nat) (st : List (Str × Nat)) (m : Mc) : Mc := match rowAt P m.pc with
  | .skip => { m with pc := m.pc + 1 }
  | .els => { m with pc := endsOf s (headOf s m.pc) }
  | .endd => if isWh (rowAt P (headOf s m.pc)) = true then { m with pc := headOf s m.pc } else { m with pc := m.pc + 1 }
  | r => if m.ds.length = most then { m with en := some cutD } else doM P s st m r
/-- what is known of the run's place -/
structure Lv (P : List Rw) (s : ShS) (st : List (Str × Nat)) (m : Mc) (bd : Nat) : Prop where
  pc : m.pc < P.length
  wf : wfR (rowAt P m.pc)
  mo : MO m bd
  cs : ∀ p ∈ m.cs, (∃ n f ops, P[p.1]? = some (.call n f ops)) ∧ NmOk p.2 bd
  cl : m.cs.length ≤ bd
  ds : m.ds.length ≤ bd
  tg : ∀ n f ops, rowAt P m.pc = .call n f ops → ∃ h, stGet st f = some h ∧ ∃ n ps, rowAt P h = .deff n ps
  en : ∀ o, rowAt P m.pc = .iff o ∨ rowAt P m.pc = .whil o → (∃ n, s.ends[m.pc]? = some (some n)) ∧ ∃ x, s.elses[m.pc]? = some x
  el : rowAt P m.pc = .els ∨ rowAt P m.pc = .endd → ∃ j n, s.heads[m.pc]? = some (some j) ∧ j < P.length ∧ s.ends[j]? = some (some n)
/-! the step -/
end VL
namespace VL
open PySem PySem.Spec PyProof.Rows L2 RZ
/-! ### runs: they go on, they end -/
def Hm (P : List Rw) (k : Nat) : Prop := k < P.length ∧ homeV (P.map rwD) k ≠ none
structure StP (P : List Rw) (s : ShS) (st : List (Str × Nat)) : Prop where
  wf : ∀ k, wfR (rowAt P k)
  len : P.length ≤ 60
  tg : ∀ k n f ops, rowAt P k = .call n f ops → ∃ h, stGet st f = some h ∧ Hm P h ∧ ∃ n' ps, rowAt P h = .deff n' ps
  en : ∀ k o, k < P.length → (rowAt P k = .iff o ∨ rowAt P k = .whil o) → (∃ n, s.ends[k]? = some (some n) ∧ Hm P n ∧ rowAt P n = .endd) ∧ ∃ x, s.elses[k]? = some x ∧ ∀ e, x = some e → Hm P e ∧ rowAt P e = .els
  el : ∀ k, k < P.length → (rowAt P k = .els ∨ rowAt P k = .endd) → ∃ j n, s.heads[k]? = some (some j) ∧ Hm P j ∧ s.ends[j]? = some (some n) ∧ Hm P n ∧ (rowAt P k = .els → k < n)
  nx : ∀ k, Hm P k → (∀ o, rowAt P k ≠ .give o) → Hm P (k + 1)
def bdM (m : Mc) : Nat := 5 * m.ds.length + 5
structure Dy (P : List Rw) (m : Mc) (b : Nat) : Prop where
  hm : Hm P m.pc
  nm : NmOk m.nm b
  ce : CeOk m.ce b
  co : CoOk m.co b
  cs : ∀ p ∈ m.cs, Hm P p.1 ∧ (∃ n f ops, P[p.1]? = some (.call n f ops)) ∧ NmOk p.2 b
  cl : m.cs.length ≤ b
  ps : ∀ v ∈ m.ps, isV v
theorem Dy.lv {P : List Rw} {s : ShS} {st : List (Str × Nat)} {m : Mc} {b : Nat} (S : StP P s st) (d : Dy P m b) (hb : b ≤ 900000) (hd : m.ds.length ≤ b) : Lv P s st m b where
  pc := d.hm.1
  wf := S.wf _
  mo := ⟨d.nm, d.ce, d.co, hb⟩
  cs := fun p hp => ⟨(d.cs p hp).2.1, (d.cs p hp).2.2⟩
  cl := d.cl
  ds := hd
  tg := fun n f ops e => by
    obtain ⟨h, h1, _, h3⟩ := S.tg _ n f ops e
    exact ⟨h, h1, h3⟩
  en := fun o e => by
    obtain ⟨⟨n, h1, _⟩, x, h2, _⟩ := S.en _ o d.hm.1 e
    exact ⟨⟨n, h1⟩, x, h2⟩
  el := fun e => by
    obtain ⟨j, n, h1, h2, h3, _⟩ := S.el _ d.hm.1 e
    exact ⟨j, n, h1, h2.1, h3⟩
theorem CeOk.mono {c : List (D × D)} {b b' : Nat} (h : CeOk c b) (hb : b ≤ b') : CeOk c b' := ⟨h.v, Nat.le_trans h.len hb⟩
theorem CoOk.mono {c : List (Nat × Nat)} {b b' : Nat} (h : CoOk c b) (hb : b ≤ b') : CoOk c b' := ⟨h.nd, Nat.le_trans h.len hb⟩
theorem recD_ok {x y : D} {w : Str} : isNon (recD x w y) = true ∨ isV (recD x w y) := by
  unfold recD
  split
  · right; split <;> exact ⟨by omega, by omega⟩
  · split
    · right; split <;> exact ⟨by omega, by omega⟩
    · split
      · exact .inr ⟨fit_lo _, fit_hi _⟩
      · split
        · exact .inr ⟨fit_lo _, fit_hi _⟩
        · split
          · exact .inr ⟨fit_lo _, fit_hi _⟩
          · split
            · exact .inl rfl
            · exact .inr ⟨fit_lo _, fit_hi _⟩
theorem wkMade_ok {m : Mc} {b : Nat} (nm : NmOk m.nm b) (ce : CeOk m.ce b) {r : Rw} (wf : wfR r) (hw : wkRow r = true) : isNon (wkMade m r) = true ∨ isV (wkMade m r) := by
  cases r with
  | put n o => exact .inr (lookV_ok nm wf.2)
  | doo n a w c => exact recD_ok
  | new n => exact .inr trivial
  | get n o k => exact .inr (loadV_ok ce _ _)
  | set o k v => exact .inr (lookV_ok nm wf.2.2)
  | _ => simp [wkRow] at hw
theorem entNm_ok {ps : List Str} {vs : List D} (hv : ∀ v ∈ vs, isV v) (hp : ps.length ≤ 4) : NmOk (entNm ps vs) 4 := by
  have key : ∀ (xs : List (Str × D)) (nm : NM) (b : Nat), NmOk nm b → (∀ x ∈ xs, isV x.2) → NmOk (xs.foldl (fun nm p => nPut nm p.1 p.2) nm) (b + xs.length) := by
    intro xs
    induction xs with
    | nil => intro nm b h _; exact h
    | cons x xs ih =>
      intro nm b h hx
      have := ih (nPut nm x.1 x.2) (b + 1) (h.put x.1 (hx x (by simp))) fun y hy => hx y (by simp [hy])
      rw [List.foldl_cons]
      exact this.mono (by simp; omega)
  have := key (ps.zip vs) [] 0 ⟨by simp, by simp, by simp⟩ fun x hx => hv _ (List.of_mem_zip hx).2
  exact this.mono (by rw [List.length_zip]; omega)
theorem choP_hm {P : List Rw} {s : ShS} {st : List (Str × Nat)} (S : StP P s st) {k : Nat} {o : Key} (hk : Hm P k) (hr : rowAt P k = .iff o ∨ rowAt P k = .whil o) (wh : Bool) (side : Nat) : Hm P (choP s k wh side) := by
  obtain ⟨⟨n, h1, h2, h3⟩, x, h4, h5⟩ := S.en k o hk.1 hr
  unfold choP
  split
  · exact S.nx k hk fun o' e => by rcases hr with q | q <;> rw [q] at e <;> cases e
  · simp only [h1]
    split
    · exact S.nx n h2 fun o' e => by rw [h3] at e; cases e
    · simp only [h4]
      cases x with
      | none => exact h2
      | some e =>
        obtain ⟨q1, q2⟩ := h5 e rfl
        exact S.nx e q1 fun o' z => by rw [q2] at z; cases z
/-- a doing keeps what is known, but it ends -/
theorem doM_dy {P : List Rw} {s : ShS} {st : List (Str × Nat)} (S : StP P s st) {m : Mc} {b : Nat} (d : Dy P m b) (hen : m.en = none) (hq : quiet (rowAt P m.pc) = false) : (doM P s st m (rowAt P m.pc)).ds.length = m.ds.length + 1 ∧ ((doM P s st m (rowAt P m.pc)).en = none → Dy P (doM P s st m (rowAt P m.pc)) (b + 5)) := by
  have wf := S.wf m.pc
  have hm := d.hm
  have cs' : ∀ p ∈ m.cs, Hm P p.1 ∧ (∃ n f ops, P[p.1]? = some (.call n f ops)) ∧ NmOk p.2 (b + 5) := fun p hp => ⟨(d.cs p hp).1, (d.cs p hp).2.1, (d.cs p hp).2.2.mono (by omega)⟩
  have cl := d.cl
  have wk : ∀ r, rowAt P m.pc = r → wkRow r = true → (workM m r).ds.length = m.ds.length + 1 ∧ ((workM m r).en = none → Dy P (workM m r) (b + 5)) := fun r e hw => by
    rw [e] at wf
    have nx : Hm P (m.pc + 1) := S.nx _ hm fun o z => by rw [e] at z; subst z; simp [wkRow] at hw
    have co : CoOk (wkCo m r) (b + 5) := by
      unfold wkCo
      split
      · exact (d.co.put _ _).mono (by omega)
      · exact d.co.mono (by omega)
    unfold workM
    split
    · exact ⟨by simp, fun z => by cases z⟩
    · rename_i hn
      have hv : isV (wkMade m r) := (wkMade_ok d.nm d.ce wf hw).resolve_left hn
      split
      · refine ⟨by simp, fun _ => ⟨nx, d.nm.mono (by omega), ?_, co, cs', by show m.cs.length ≤ b + 5; omega, d.ps⟩⟩
        show CeOk (setCe m r) (b + 5)
        unfold setCe
        split
        · split
          · exact (d.ce.put (lookV_ok d.nm wf.2.2)).mono (by omega)
          · exact d.ce.mono (by omega)
        · exact d.ce.mono (by omega)
      · exact ⟨by simp, fun _ => ⟨nx, (d.nm.put _ hv).mono (by omega), d.ce.mono (by omega), co, cs', by show m.cs.length ≤ b + 5; omega, d.ps⟩⟩
  cases e : rowAt P m.pc with
  | deff n ps =>
    rw [e] at wf
    exact ⟨by simp [doM], fun _ => ⟨S.nx _ hm (fun o z => by rw [e] at z; cases z), (entNm_ok d.ps wf.2.1).mono (by omega), d.ce.mono (by omega), d.co.mono (by omega), cs', by show m.cs.length ≤ b + 5; omega, d.ps⟩⟩
  | call n f ops =>
    rw [e] at wf
    obtain ⟨h, h1, h2, _⟩ := S.tg _ n f ops e
    refine ⟨by simp [doM], fun _ => ⟨?_, d.nm.mono (by omega), d.ce.mono (by omega), d.co.mono (by omega), fun p hp => ?_, ?_, fun v hv => ?_⟩⟩
    · show Hm P ((stGet st f).getD 0)
      rw [h1]; exact h2
    · have hp : p ∈ m.cs ++ [(m.pc, m.nm)] := hp
      rcases List.mem_append.mp hp with hp | hp
      · exact cs' p hp
      · rw [List.mem_singleton] at hp
        subst hp
        exact ⟨hm, ⟨n, f, ops, by rw [rowAt_get hm.1, e]⟩, d.nm.mono (by omega)⟩
    · show (m.cs ++ [(m.pc, m.nm)]).length ≤ b + 5
      simp; omega
    · have hv : v ∈ ops.map (lookV m.nm) := hv
      obtain ⟨k, hk, rfl⟩ := List.mem_map.mp hv
      exact lookV_ok d.nm (wf.2.2.2 k hk)
  | give o =>
    rw [e] at wf
    have vo : isV (lookV m.nm o) := lookV_ok d.nm wf
    show (backM P m o).ds.length = _ ∧ ((backM P m o).en = none → Dy P (backM P m o) (b + 5))
    unfold backM
    cases ec : m.cs.getLast? with
    | none => exact ⟨by simp, fun z => by cases z⟩
    | some p =>
      obtain ⟨place, nm0⟩ := p
      have hcs : (place, nm0) ∈ m.cs := List.mem_of_getLast? ec
      obtain ⟨q1, ⟨n, f, ops, q2⟩, q3⟩ := d.cs _ hcs
      refine ⟨by simp, fun _ => ⟨S.nx _ q1 (fun o' z => by rw [rowAt_eq q2] at z; cases z), (q3.put _ vo).mono (by omega), d.ce.mono (by omega), d.co.mono (by omega), fun p hp => cs' p (List.dropLast_subset _ hp), ?_, d.ps⟩⟩
      show m.cs.dropLast.length ≤ b + 5
      rw [List.length_dropLast]; omega
  | iff o => exact ⟨by simp [doM], fun _ => ⟨choP_hm S hm (.inl e) _ _, d.nm.mono (by omega), d.ce.mono (by omega), d.co.mono (by omega), cs', by show m.cs.length ≤ b + 5; omega, d.ps⟩⟩
  | whil o => exact ⟨by simp [doM], fun _ => ⟨choP_hm S hm (.inr e) _ _, d.nm.mono (by omega), d.ce.mono (by omega), d.co.mono (by omega), cs', by show m.cs.length ≤ b + 5; omega, d.ps⟩⟩
  | fail w => exact ⟨by simp [doM], fun z => by cases z⟩
  | skip => rw [e] at hq; cases hq
  | els => rw [e] at hq; cases hq
  | endd => rw [e] at hq; cases hq
  | _ => exact wk _ e rfl
def rankM (P : List Rw) (k : Nat) : Nat := if quiet (rowAt P k) = true then P.length - k + 1 else 0
theorem rankM_le (P : List Rw) (k : Nat) : rankM P k ≤ P.length + 1 := by unfold rankM; split <;> omega
def measM (P : List Rw) (most : Nat) (m : Mc) : Nat := match m.en with
  | some _ => 0
  | none => 1 + (most - m.ds.length) * (P.length + 2) + rankM P m.pc
/-- of a run that goes on -/
structure Good (P : List Rw) (most : Nat) (m : Mc) : Prop where
  on : m.en = none → Dy P m (bdM m) ∧ m.ds.length ≤ most
theorem isWh_row {r : Rw} (h : isWh r = true) : quiet r = false := by cases r <;> simp [isWh] at h; rfl
theorem step_good {P : List Rw} {s : ShS} {st : List (Str × Nat)} (S : StP P s st) {most : Nat} {m : Mc} (g : Good P most m) (hen : m.en = none) : Good P most (stepM P s most st m) ∧ measM P most (stepM P s most st m) < measM P most m := by
  obtain ⟨d, hd⟩ := g.on hen
  have hm := d.hm
  have l60 := S.len
  have move : ∀ k, Hm P k → rankM P k < rankM P m.pc → Good P most { m with pc := k } ∧ measM P most { m with pc := k } < measM P most m := fun k hk hr => by
    refine ⟨⟨fun _ => ⟨⟨hk, d.nm, d.ce, d.co, d.cs, d.cl, d.ps⟩, hd⟩⟩, ?_⟩
    unfold measM
    simp only [hen]
    omega
  have rk : ∀ k, m.pc < k → quiet (rowAt P m.pc) = true → rankM P k < rankM P m.pc := fun k h1 h2 => by
    unfold rankM
    rw [if_pos h2]
    have := hm.1
    split <;> omega
  have doing : quiet (rowAt P m.pc) = false → Good P most (if m.ds.length = most then { m with en := some cutD } else doM P s st m (rowAt P m.pc)) ∧ measM P most (if m.ds.length = most then { m with en := some cutD } else doM P s st m (rowAt P m.pc)) < measM P most m := fun hq => by
    by_cases c : m.ds.length = most
    · rw [if_pos c]
      refine ⟨⟨fun z => by cases z⟩, ?_⟩
      unfold measM
      simp only [hen]
      omega
    · rw [if_neg c]
      obtain ⟨e1, e2⟩ := doM_dy S d hen hq
      refine ⟨⟨fun z => ⟨?_, by omega⟩⟩, ?_⟩
      · have := e2 z
        unfold bdM at this ⊢
        rw [e1]
        have e3 : 5 * (m.ds.length + 1) + 5 = 5 * m.ds.length + 5 + 5 := by omega
        rw [e3]; exact this
      · have r1 := rankM_le P (doM P s st m (rowAt P m.pc)).pc
        have hx : (most - m.ds.length) * (P.length + 2) = (most - (m.ds.length + 1)) * (P.length + 2) + (P.length + 2) := by
          have : most - m.ds.length = (most - (m.ds.length + 1)) + 1 := by omega
          rw [this, Nat.succ_mul]
        unfold measM
        simp only [hen]
        split
        · omega
        · rw [e1]; omega
  unfold stepM
  cases e : rowAt P m.pc with
  | skip => exact move _ (S.nx _ hm fun o z => by rw [e] at z; cases z) (rk _ (by omega) (by rw [e]; rfl))
  | els =>
    obtain ⟨j, n, h1, h2, h3, h4, h5⟩ := S.el _ hm.1 (.inl e)
    have : endsOf s (headOf s m.pc) = n := by unfold headOf; rw [h1]; unfold endsOf; rw [h3]
    simp only [this]
    exact move _ h4 (rk _ (h5 e) (by rw [e]; rfl))
  | endd =>
    obtain ⟨j, n, h1, h2, h3, h4, h5⟩ := S.el _ hm.1 (.inr e)
    have ej : headOf s m.pc = j := by unfold headOf; rw [h1]
    simp only [ej]
    split
    · rename_i hw
      refine move _ h2 ?_
      have q := isWh_row hw
      unfold rankM
      rw [if_neg (by rw [q]; simp), if_pos (by rw [e]; rfl)]
      omega
    · exact move _ (S.nx _ hm fun o z => by rw [e] at z; cases z) (rk _ (by omega) (by rw [e]; rfl))
  | _ =>
    have := doing (by rw [e]; rfl)
    rw [e] at this
    exact this
/-- what a run comes to -/
inductive RunTo (P : List Rw) (s : ShS) (most : Nat) (st : List (Str × Nat)) : Mc → Mc → Prop
  | stop {m : Mc} : m.en ≠ none → RunTo P s most st m m
  | step {m mf : Mc} : m.en = none → RunTo P s most st (stepM P s most st m) mf → RunTo P s most st m mf
theorem RunTo.uniq {P : List Rw} {s : ShS} {most : Nat} {st : List (Str × Nat)} {m a b : Mc} (h1 : RunTo P s most st m a) (h2 : RunTo P s most st m b) : a = b := by
  induction h1 with
  | stop h =>
    cases h2 with
    | stop _ => rfl
    | step h' _ => exact absurd h' h
  | step h _ ih =>
    cases h2 with
    | stop h' => exact absurd h h'
    | step _ h2 => exact ih h2
theorem RunTo.ex {P : List Rw} {s : ShS} {st : List (Str × Nat)} (S : StP P s st) {most : Nat} : ∀ (n : Nat) (m : Mc), measM P most m ≤ n → Good P most m → ∃ mf, RunTo P s most st m mf ∧ mf.en ≠ none ∧ mf.ds.length ≤ max most m.ds.length + 1
  | 0, m, h, g => by
    cases e : m.en with
    | none => unfold measM at h; rw [e] at h; simp at h
    | some d => exact ⟨m, .stop (by rw [e]; simp), by rw [e]; simp, by omega⟩
  | n + 1, m, h, g => by
    cases e : m.en with
    | some d => exact ⟨m, .stop (by rw [e]; simp), by rw [e]; simp, by omega⟩
    | none =>
      obtain ⟨g', hl⟩ := step_good S g e
      obtain ⟨mf, h1, h2, h3⟩ := RunTo.ex S n _ (by omega) g'
      refine ⟨mf, .step e h1, h2, ?_⟩
      have hd := (g.on e).2
      have : (stepM P s most st m).ds.length ≤ most := by
        unfold stepM
        split
        · exact hd
        · exact hd
        · split <;> exact hd
        · rename_i h1 h2 h3
          split
          · exact hd
          · rename_i c
            have hq : quiet (rowAt P m.pc) = false := by
              cases q : rowAt P m.pc <;> first | rfl | (exfalso; first | exact h1 q | exact h2 q | exact h3 q)
            have := (doM_dy S (g.on e).1 e hq).1
            omega
      omega
end VL
namespace VL
open PySem PySem.Spec PyProof.Rows L2 RZ
/-! ### where functions begin -/
def stPut : List (Str × Nat) → Str → Nat → List (Str × Nat)
  | [], k, d => [(k, d)]
  | (j, e) :: r, k, d => if j = k then (k, d) :: r else (j, e) :: stPut r k d
theorem stPut_mem {k : Str} {n : Nat} : ∀ {c : List (Str × Nat)} {p : Str × Nat}, p ∈ stPut c k n ↔ (p ∈ c ∧ (p.1 ≠ k ∨ ∃ l r, c = l ++ p :: r ∧ ∃ q ∈ l, q.1 = k)) ∨ p = (k, n)
  | [], p => by simp [stPut]
  | (j, e) :: r, p => by
    rw [stPut]
    split
    · rename_i c
      subst c
      constructor
      · intro h
        rcases List.mem_cons.mp h with h | h
        · exact .inr h
        · refine .inl ⟨List.mem_cons_of_mem _ h, .inr ?_⟩
          obtain ⟨l, r', e⟩ := List.append_of_mem h
          exact ⟨(j, _) :: l, r', by rw [e]; rfl, _, List.mem_cons_self, rfl⟩
      · rintro (⟨h, h2⟩ | h)
        · rcases List.mem_cons.mp h with rfl | h
          · rcases h2 with h2 | ⟨l, r', h2, q, hq, h3⟩
            · exact absurd rfl h2
            · cases l with
              | nil => cases hq
              | cons x l =>
                simp at h2
                exact List.mem_cons_of_mem _ (by rw [h2.2]; simp)
          · exact List.mem_cons_of_mem _ h
        · exact List.mem_cons.mpr (.inl h)
    · rename_i c
      have ih := stPut_mem (k := k) (n := n) (c := r) (p := p)
      constructor
      · intro h
        rcases List.mem_cons.mp h with rfl | h
        · exact .inl ⟨List.mem_cons_self, .inl c⟩
        · rcases ih.mp h with ⟨h1, h2⟩ | h
          · refine .inl ⟨List.mem_cons_of_mem _ h1, ?_⟩
            rcases h2 with h2 | ⟨l, r', h2, q, hq, h3⟩
            · exact .inl h2
            · exact .inr ⟨(j, e) :: l, r', by rw [h2]; rfl, q, List.mem_cons_of_mem _ hq, h3⟩
          · exact .inr h
      · rintro (⟨h, h2⟩ | h)
        · rcases List.mem_cons.mp h with rfl | h
          · exact List.mem_cons_self
          · refine List.mem_cons_of_mem _ ?_
            by_cases cp : p.1 = k
            · rcases h2 with h2 | ⟨l, r', h2, q, hq, h3⟩
              · exact absurd cp h2
              · cases l with
                | nil => cases hq
                | cons x l =>
                  simp at h2
                  rcases List.mem_cons.mp hq with rfl | hq
                  · rw [← h2.1] at h3; exact absurd h3 c
                  · exact ih.mpr (.inl ⟨h, .inr ⟨l, r', h2.2, q, hq, h3⟩⟩)
            · exact ih.mpr (.inl ⟨h, .inl cp⟩)
        · exact List.mem_cons_of_mem _ (ih.mpr (.inr h))
theorem stPut_nd {k : Str} {n : Nat} : ∀ {c : List (Str × Nat)}, (c.map (·.1)).Nodup → ((stPut c k n).map (·.1)).Nodup
  | [], _ => by simp [stPut]
  | (j, e) :: r, h => by
    rw [List.map_cons, List.nodup_cons] at h
    rw [stPut]
    split
    · rename_i c
      subst c
      rw [List.map_cons, List.nodup_cons]; exact h
    · rename_i c
      rw [List.map_cons, List.nodup_cons]
      refine ⟨fun hm => ?_, stPut_nd h.2⟩
      obtain ⟨p, hp, e2⟩ := List.mem_map.mp hm
      rcases stPut_mem.mp hp with ⟨hp, _⟩ | rfl
      · exact h.1 (List.mem_map.mpr ⟨p, hp, e2⟩)
      · exact c e2.symm
def stOf (P : List Rw) : Nat → List (Str × Nat)
  | 0 => []
  | k + 1 => match rowAt P k with
    | .deff n _ => stPut (stOf P k) n k
    | _ => stOf P k
theorem stOf_nd (P : List Rw) : ∀ k, ((stOf P k).map (·.1)).Nodup
  | 0 => by simp [stOf]
  | k + 1 => by
    unfold stOf
    split
    · exact stPut_nd (stOf_nd P k)
    · exact stOf_nd P k
/-- the defs have names of their own -/
def DefNd (P : List Rw) : Prop := ∀ i j n ps ps', rowAt P i = .deff n ps → rowAt P j = .deff n ps' → i = j
theorem stOf_iff {P : List Rw} (nd : DefNd P) : ∀ k (p : Str × Nat), p ∈ stOf P k ↔ p.2 < k ∧ ∃ ps, rowAt P p.2 = .deff p.1 ps
  | 0, p => by simp [stOf]
  | k + 1, p => by
    have ih := stOf_iff nd k
    cases e : rowAt P k with
    | deff n ps =>
      have e1 : stOf P (k + 1) = stPut (stOf P k) n k := by rw [stOf]; simp only [e]
      rw [e1, stPut_mem]
      constructor
      · rintro (⟨h, _⟩ | rfl)
        · obtain ⟨a, b⟩ := (ih p).mp h
          exact ⟨by omega, b⟩
        · exact ⟨by simp, ps, e⟩
      · rintro ⟨h1, ps', h2⟩
        by_cases c : p.2 = k
        · right
          rw [c, e] at h2
          cases h2
          exact Prod.ext rfl c
        · refine .inl ⟨(ih p).mpr ⟨by omega, ps', h2⟩, .inl fun q => c ?_⟩
          exact nd p.2 k p.1 ps' ps h2 (by rw [e, q])
    | _ =>
      have e1 : stOf P (k + 1) = stOf P k := by rw [stOf]; simp only [e]
      rw [e1, ih]
      constructor
      · rintro ⟨h1, h2⟩; exact ⟨by omega, h2⟩
      · rintro ⟨h1, ps', h2⟩
        refine ⟨?_, ps', h2⟩
        by_cases c : p.2 = k
        · rw [c, e] at h2; cases h2
        · omega
theorem stGet_mem {c : List (Str × Nat)} (h : (c.map (·.1)).Nodup) {k : Str} {n : Nat} (hm : (k, n) ∈ c) : stGet c k = some n := by
  induction c with
  | nil => cases hm
  | cons x r ih =>
    obtain ⟨j, d⟩ := x
    rw [List.map_cons, List.nodup_cons] at h
    rw [stGet]
    rcases List.mem_cons.mp hm with e | hm
    · cases e; simp
    · rw [if_neg fun e => h.1 (List.mem_map.mpr ⟨(k, n), hm, e.symm⟩)]
      exact ih h.2 hm
def isDfR : Rw → Bool
  | .deff _ _ => true
  | _ => false
def inV (ins : List Int) (many : Nat) : List D := ((ins.take many).map fun n => .int (fitZ n)) ++ List.replicate (many - (ins.take many).length) (.int 0)
theorem MS.setS {P : List Rw} {s : ShS} {most : Nat} {st st' : List (Str × Nat)} {m : Mc} {nl : Nat} {fl : List Nat} {mu : Sto} (h : MS P s most st m nl fl mu) : MS P s most st' m nl fl (mu.set 11 (.dk (stD2 st'))) := by
  have hl : 11 < mu.length := (List.getElem?_eq_some_iff.mp h.st).1
  have hn : ∀ k, k ≠ 11 → (mu.set 11 (.dk (stD2 st')))[k]? = mu[k]? := fun k hk => List.getElem?_set_ne (Ne.symm hk)
  have h0 := h.ne0
  exact {
    i := by rw [hn 0 (by omega)]; exact h.i
    h1 := by rw [hn 1 (by omega)]; exact h.h1
    h2 := by rw [hn 2 (by omega)]; exact h.h2
    h3 := by rw [hn 3 (by omega)]; exact h.h3
    ds := by rw [hn 6 (by omega)]; exact h.ds
    cs := by rw [hn 8 (by omega)]; exact h.cs
    ce := by rw [hn 9 (by omega)]; exact h.ce
    co := by rw [hn 10 (by omega)]; exact h.co
    st := by simp [hl]
    nm := by rw [hn nl (h0 nl (by simp)).2.2.2.2.2.2.2.2]; exact h.nm
    fr := ⟨h.fr.1, fun i l p e1 e2 => by
      rw [hn l (h0 l (List.mem_cons_of_mem _ (List.mem_of_getElem? e1))).2.2.2.2.2.2.2.2]
      exact h.fr.2 i l p e1 e2⟩
    nd := h.nd
    lo := h.lo }
theorem MS.app {P : List Rw} {s : ShS} {most : Nat} {st : List (Str × Nat)} {m : Mc} {nl : Nat} {fl : List Nat} {mu : Sto} (h : MS P s most st m nl fl mu) (ex : Sto) : MS P s most st m nl fl (mu ++ ex) := by
  have hg : ∀ {k : Nat} {c : C}, mu[k]? = some c → (mu ++ ex)[k]? = some c := fun {k c} e => by
    rw [List.getElem?_append_left (List.getElem?_eq_some_iff.mp e).1]; exact e
  obtain ⟨c, e1, e2⟩ := h.cs
  exact ⟨hg h.i, hg h.h1, hg h.h2, hg h.h3, hg h.ds, ⟨c, hg e1, e2⟩, hg h.ce, hg h.co, hg h.st, hg h.nm, ⟨h.fr.1, fun i l p a b => hg (h.fr.2 i l p a b)⟩, h.nd, h.lo⟩
end VL
namespace VL
open PySem PySem.Spec PyProof.Rows L2 RZ
/-! ### a machine is made, and goes to its end -/
/-- all that a run needs of its program -/
structure RunP (P : List Rw) (s : ShS) : Prop where
  st : StP P s (stOf P P.length)
  ps : ∀ k n ps, rowAt P k = .deff n ps → ps.length ≤ 4
  nd : DefNd P
  sh : runS 0 (P.map rwD) (.start (P.map rwD).length) = some s
  hm : ∀ k n ps, rowAt P k = .deff n ps → Hm P k
/-! ### the drawn programs -/
theorem BW.ow {rows : List D} {h d p : Nat} (x : BW rows h d p) : wA rows p = some (Str.ofString "if") ∨ wA rows p = some (Str.ofString "while") := by
  induction x with
  | stop e h => rcases h with rfl | rfl <;> simp [e]
  | up _ _ ih => exact ih
  | down _ _ _ ih => exact ih
  | same _ _ _ _ ih => exact ih
theorem fm_inj {A1 : Type} {f : D → Option (Str × A1)} : ∀ {L : List D}, ((L.filterMap f).map (·.1)).Nodup → ∀ (i j : Nat) (a b : D) (n : Str) (x y : A1), L[i]? = some a → L[j]? = some b → f a = some (n, x) → f b = some (n, y) → i = j
  | [], _, i, _, a, _, _, _, _, h, _, _, _ => by simp at h
  | c :: L, nd, i, j, a, b, n, x, y, h1, h2, h3, h4 => by
    have mem : ∀ {k : Nat} {d : D} {z : A1}, L[k]? = some d → f d = some (n, z) → n ∈ (L.filterMap f).map (·.1) := fun {k d z} e1 e2 => List.mem_map.mpr ⟨(n, z), List.mem_filterMap.mpr ⟨d, List.mem_of_getElem? e1, e2⟩, rfl⟩
    have tl : ((L.filterMap f).map (·.1)).Nodup := by
      rw [List.filterMap_cons] at nd
      split at nd
      · exact nd
      · rw [List.map_cons, List.nodup_cons] at nd; exact nd.2
    cases i with
    | zero =>
      simp at h1; subst h1
      cases j with
      | zero => rfl
      | succ j =>
        simp at h2
        rw [List.filterMap_cons, h3, List.map_cons, List.nodup_cons] at nd
        exact absurd (mem h2 h4) nd.1
    | succ i =>
      simp at h1
      cases j with
      | zero =>
        simp at h2; subst h2
        rw [List.filterMap_cons, h4, List.map_cons, List.nodup_cons] at nd
        exact absurd (mem h1 h3) nd.1
      | succ j =>
        simp at h2
        rw [fm_inj tl i j a b n x y h1 h2 h3 h4]
theorem rowAt_lt {P : List Rw} {k : Nat} {r : Rw} (h : rowAt P k = r) (hr : r ≠ .skip) : k < P.length ∧ P[k]? = some r := by
  by_cases c : k < P.length
  · exact ⟨c, by rw [rowAt_get c, h]⟩
  · rw [← h] at hr
    exact absurd (by simp [rowAt, List.getElem?_eq_none (Nat.le_of_not_lt c)]) hr
theorem Prg.nd {P : List Rw} {pl : List (Str × List Str)} {s : ShS} (p : Prg P pl s) : DefNd P := fun i j n ps ps' h1 h2 => by
  obtain ⟨_, e1⟩ := rowAt_lt h1 (by simp)
  obtain ⟨_, e2⟩ := rowAt_lt h2 (by simp)
  refine fm_inj (f := defD) (L := P.map rwD) ?_ i j (rwD (.deff n ps)) (rwD (.deff n ps')) n (ps.map D.str) (ps'.map D.str) (by simp [e1]) (by simp [e2]) (by simp [rwD, rwL, defD]) (by simp [rwD, rwL, defD])
  rw [p.t.defs, List.map_map]
  exact p.t.nd
theorem wA_ne {P : List Rw} {k : Nat} {r : Rw} (h : P[k]? = some r) {z : String} (e : wA (P.map rwD) k = some (Str.ofString z)) : rwW r = z := by
  rw [wA_rw h] at e
  exact ofString_inj (by injection e)
theorem Prg.hm {P : List Rw} {pl : List (Str × List Str)} {s : ShS} (p : Prg P pl s) {k : Nat} (hk : k < P.length) (h : rowAt P k ≠ .skip) : Hm P k := ⟨hk, fun z => h (by
  have := p.d.sk k hk z
  have e := rowAt_get hk
  have := wA_ne e this
  cases q : rowAt P k <;> rw [q] at this <;> simp [rwW] at this ⊢)⟩
end VL
namespace VL
open PySem PySem.Spec PyProof.Rows L2 RZ
/-! ### homes, and which rows come next in a run -/
theorem RunTo.inv {P : List Rw} {s : ShS} {most : Nat} {st : List (Str × Nat)} {I : Mc → Prop} (hs : ∀ m, m.en = none → I m → I (stepM P s most st m)) {m mf : Mc} (h : RunTo P s most st m mf) (h0 : I m) : I mf := by
  induction h with
  | stop _ => exact h0
  | step e _ ih => exact ih (hs _ e h0)
abbrev hmV (P : List Rw) (k : Nat) : Option Nat := homeV (P.map rwD) k
theorem dS_def {rows : List D} {h : Nat} : ∀ {k : Nat}, homeS rows k = some h → wA rows h = some (Str.ofString "def") ∧ h < k
  | 0, e => by simp [homeS] at e
  | k + 1, e => by
    unfold homeS at e
    split at e
    · cases e
    · split at e
      · rename_i c; cases e; exact ⟨c, by omega⟩
      · obtain ⟨h1, h2⟩ := dS_def e; exact ⟨h1, by omega⟩
theorem d_split {rs : List D} {m : Mode} (n : RunM rs m) : ∀ x, x < rs.length → ∃ m' m'' w, RunM (rs.take x) m' ∧ wA rs x = some w ∧ StepM x w m' m'' := by
  induction n with
  | nil => exact fun x hx => by simp at hx
  | @snoc rs r w m m' h1 h2 h3 ih =>
    intro x hx
    by_cases c : x < rs.length
    · obtain ⟨a, b, w', q1, q2, q3⟩ := ih x c
      refine ⟨a, b, w', ?_, ?_, q3⟩
      · rw [List.take_append_of_le_length (by omega)]; exact q1
      · unfold wA at q2 ⊢
        rw [List.getElem?_append_left c]; exact q2
    · have e : x = rs.length := by simp at hx; omega
      subst e
      refine ⟨m, m', w, ?_, ?_, h3⟩
      · rw [List.take_append_of_le_length (Nat.le_refl _), List.take_length]; exact h1
      · unfold wA
        simp [h2]
theorem d_none {P : List Rw} {pl : List (Str × List Str)} {s : ShS} (p : Prg P pl s) {x : Nat} (hx : x < P.length) (hd : wA (P.map rwD) x = some (Str.ofString "def")) : homeS (P.map rwD) x = none := by
  obtain ⟨m, m', w, h1, h2, h3⟩ := d_split p.t.run.m x (by simpa using hx)
  rw [hd] at h2
  cases h2
  have mn : m = none := by
    have e1 : ∀ z : String, Str.ofString "def" = Str.ofString z → z = "def" := fun z h => (ofString_inj h).symm
    have no : ¬ plainW (Str.ofString "def") := fun p => p.1 (by unfold opensW; simp)
    generalize hw : Str.ofString "def" = w at h3 no
    cases h3 with
    | dfn => rfl
    | out q => rfl
    | ins q => exact absurd q no
    | opn q => rcases q with rfl | rfl <;> exact absurd (e1 _ hw) (by decide)
    | els => exact absurd (e1 _ hw) (by decide)
    | cls => exact absurd (e1 _ hw) (by decide)
    | giv => exact absurd (e1 _ hw) (by decide)
  subst mn
  obtain ⟨s', _, i⟩ := run_inv h1 (rows := P.map rwD) (rest := (P.map rwD).drop x) (by rw [List.take_append_drop])
  have := i.hs
  rw [List.length_take, Nat.min_eq_left (by simpa using Nat.le_of_lt hx)] at this
  exact this
theorem wA_row {P : List Rw} {k : Nat} (hk : k < P.length) {r : Rw} (e : rowAt P k = r) : wA (P.map rwD) k = some (Str.ofString (rwW r)) := by
  have := wA_rw (rowAt_get hk)
  rw [e] at this; exact this
theorem row_of_w {P : List Rw} {k : Nat} {z : String} (h : wA (P.map rwD) k = some (Str.ofString z)) : k < P.length ∧ rwW (rowAt P k) = z := by
  obtain ⟨r, hr, hw⟩ := wA_inv h
  exact ⟨(List.getElem?_eq_some_iff.mp hr).1, by rw [rowAt_eq hr]; exact (ofString_inj hw).symm⟩
theorem isDef_of {P : List Rw} {k : Nat} (h : rwW (rowAt P k) = "def") : ∃ n ps, rowAt P k = .deff n ps := by
  cases q : rowAt P k <;> rw [q] at h <;> simp [rwW] at h
  exact ⟨_, _, rfl⟩
theorem isGive_of {P : List Rw} {k : Nat} (h : rwW (rowAt P k) = "give") : ∃ o, rowAt P k = .give o := by
  cases q : rowAt P k <;> rw [q] at h <;> simp [rwW] at h
  exact ⟨_, rfl⟩
/-- the next row, behind no give, is of the same function, and no def -/
theorem hm_succ {P : List Rw} {pl : List (Str × List Str)} {s : ShS} (p : Prg P pl s) {k h : Nat} (hk : k < P.length) (e : hmV P k = some h) (hg : ∀ o, rowAt P k ≠ .give o) : k + 1 < P.length ∧ hmV P (k + 1) = some h ∧ ∀ n ps, rowAt P (k + 1) ≠ .deff n ps := by
  have hS : homeS (P.map rwD) (k + 1) = some h := by
    rw [homeS, if_neg fun z => ?_]
    · exact e
    · obtain ⟨o, q⟩ := isGive_of (row_of_w z).2
      exact hg o q
  have hl : k + 1 < P.length := by
    rcases Nat.lt_or_ge (k + 1) P.length with q | q
    · exact q
    · have : k + 1 = P.length := by omega
      have h1 := p.i.hs
      rw [← this, hS] at h1
      cases h1
  have nd : ∀ n ps, rowAt P (k + 1) ≠ .deff n ps := fun n ps q => by
    have := d_none p hl (wA_row hl q)
    rw [hS] at this; cases this
  refine ⟨hl, ?_, nd⟩
  unfold hmV homeV
  rw [if_neg fun z => ?_, hS]
  obtain ⟨n, ps, q⟩ := isDef_of (row_of_w z).2
  exact nd n ps q
/-! blocks lie in one function -/
structure InvB (rows : List D) (k : Nat) (m : Mode) (s : ShS) : Prop where
  sk : ∀ j ∈ s.stack, j < k ∧ homeV rows j = m.map (·.1)
  hd : ∀ j h, s.heads[j]? = some (some h) → h < k ∧ j < k ∧ homeV rows h = homeV rows j
  en : ∀ j n, s.ends[j]? = some (some n) → n < k ∧ j < k ∧ homeV rows n = homeV rows j
  el : ∀ j n, s.elses[j]? = some (some n) → n < k ∧ j < k ∧ homeV rows n = homeV rows j
theorem set_some {A1 : Type} {xs : List (Option A1)} {i j : Nat} {x y : A1} (h : (xs.set i (some x))[j]? = some (some y)) : (i = j ∧ x = y) ∨ xs[j]? = some (some y) := by
  by_cases c : i = j
  · subst c
    have hl : i < xs.length := by
      have := (List.getElem?_eq_some_iff.mp h).1
      simpa using this
    rw [List.getElem?_set_self hl] at h
    cases h
    exact .inl ⟨rfl, rfl⟩
  · rw [List.getElem?_set_ne c] at h
    exact .inr h
theorem invB_step {rows : List D} {k : Nat} {w : Str} {m m' : Mode} {s s' : ShS} (hw : wA rows k = some w) (t : StepM k w m m') (I : Inv31 rows k m s) (J : InvB rows k m s) (e : stepS k w s = some s') : InvB rows (k + 1) m' s' := by
  have hk : homeV rows k = if w = Str.ofString "def" then some k else m.map (·.1) := by
    unfold homeV
    rw [hw, I.hs]
    by_cases c : w = Str.ofString "def"
    · rw [if_pos (by rw [c]), if_pos c]
    · rw [if_neg (by simpa using c), if_neg c]
  have stk := I.stk
  -- the word def comes where nothing is open alone
  have wd : w = Str.ofString "def" → s.stack = [] := fun c => by
    have : m = none := by
      have e1 : ∀ z : String, Str.ofString "def" = Str.ofString z → z = "def" := fun z h => (ofString_inj h).symm
      have no : ¬ plainW (Str.ofString "def") := fun p => p.1 (by unfold opensW; simp)
      subst c
      generalize hq : Str.ofString "def" = w at t no
      cases t with
      | dfn => rfl
      | out q => rfl
      | ins q => exact absurd q no
      | opn q => rcases q with rfl | rfl <;> exact absurd (e1 _ hq) (by decide)
      | els => exact absurd (e1 _ hq) (by decide)
      | cls => exact absurd (e1 _ hq) (by decide)
      | giv => exact absurd (e1 _ hq) (by decide)
    rw [stk, this]
  have top : ∀ j, s.stack.getLast? = some j → j < k ∧ homeV rows j = homeV rows k := fun j hj => by
    have hm := List.mem_of_getLast? hj
    obtain ⟨h1, h2⟩ := J.sk j hm
    refine ⟨h1, ?_⟩
    rw [hk, if_neg fun c => ?_, h2]
    rw [wd c] at hm; cases hm
  -- the five steps
  have J1 : (∀ j ∈ (topS k s).stack, j < k ∧ homeV rows j = m.map (·.1)) ∧ (topS k s).stack = s.stack ∧ (∀ j h, (topS k s).heads[j]? = some (some h) → h < k + 1 ∧ j < k + 1 ∧ homeV rows h = homeV rows j) ∧ (topS k s).ends = s.ends ∧ (topS k s).elses = s.elses := by
    unfold topS
    split
    · rename_i j i h1 h2
      refine ⟨J.sk, rfl, fun j' h' hh => ?_, rfl, rfl⟩
      rcases set_some hh with ⟨q1, q2⟩ | q
      · subst q1; subst q2
        obtain ⟨a, b⟩ := top _ h1
        exact ⟨by omega, by omega, b⟩
      · obtain ⟨a, b, c⟩ := J.hd _ _ q
        exact ⟨by omega, by omega, c⟩
    · exact ⟨J.sk, rfl, fun j' h' hh => by obtain ⟨a, b, c⟩ := J.hd _ _ hh; exact ⟨by omega, by omega, c⟩, rfl, rfl⟩
  obtain ⟨a1, a2, a3, a4, a5⟩ := J1
  have J2 : (defS k w (topS k s)).stack = s.stack ∧ (defS k w (topS k s)).heads = (topS k s).heads ∧ (defS k w (topS k s)).ends = s.ends ∧ (defS k w (topS k s)).elses = s.elses := by
    unfold defS
    split <;> exact ⟨a2, rfl, a4, a5⟩
  unfold stepS at e
  generalize defS k w (topS k s) = s2 at e J2
  obtain ⟨b1, b2, b3, b4⟩ := J2
  cases e3 : elseS k w s2 with
  | none => rw [show elseS k w s2 = none from e3] at e; cases e
  | some s3 =>
    rw [e3] at e
    simp only [Option.bind_some] at e
    have J3 : s3.stack = s.stack ∧ s3.heads = (topS k s).heads ∧ s3.ends = s.ends ∧ ∀ j n, s3.elses[j]? = some (some n) → n < k + 1 ∧ j < k + 1 ∧ homeV rows n = homeV rows j := by
      have old : ∀ j n, s.elses[j]? = some (some n) → n < k + 1 ∧ j < k + 1 ∧ homeV rows n = homeV rows j := fun j n h => by
        obtain ⟨a, b, c⟩ := J.el _ _ h; exact ⟨by omega, by omega, c⟩
      unfold elseS at e3
      split at e3
      · split at e3
        · rename_i j hj
          cases e3
          rw [b1] at hj
          refine ⟨b1, b2, b3, fun j' n' h => ?_⟩
          rcases set_some h with ⟨q1, q2⟩ | q
          · subst q1; subst q2
            obtain ⟨a, b⟩ := top _ hj
            exact ⟨by omega, by omega, b.symm⟩
          · rw [b4] at q; exact old _ _ q
        · cases e3
      · cases e3
        exact ⟨b1, b2, b3, fun j n h => old j n (by rw [← b4]; exact h)⟩
    obtain ⟨c1, c2, c3, c4⟩ := J3
    cases e4 : footS k w s3 with
    | none => rw [e4] at e; cases e
    | some s4 =>
      rw [e4] at e
      simp only [Option.map_some, Option.some.injEq] at e
      have J4 : (∀ j ∈ s4.stack, j < k ∧ homeV rows j = m.map (·.1)) ∧ s4.heads = (topS k s).heads ∧ s4.elses = s3.elses ∧ ∀ j n, s4.ends[j]? = some (some n) → n < k + 1 ∧ j < k + 1 ∧ homeV rows n = homeV rows j := by
        have old : ∀ j n, s.ends[j]? = some (some n) → n < k + 1 ∧ j < k + 1 ∧ homeV rows n = homeV rows j := fun j n h => by
          obtain ⟨a, b, c⟩ := J.en _ _ h; exact ⟨by omega, by omega, c⟩
        unfold footS at e4
        split at e4
        · split at e4
          · rename_i j hj
            cases e4
            rw [c1] at hj
            refine ⟨fun j' hj' => J.sk j' (by
              have : j' ∈ s3.stack.dropLast := hj'
              rw [c1] at this
              exact List.dropLast_subset _ this), c2, rfl, fun j' n' h => ?_⟩
            rcases set_some h with ⟨q1, q2⟩ | q
            · subst q1; subst q2
              obtain ⟨a, b⟩ := top _ hj
              exact ⟨by omega, by omega, b.symm⟩
            · rw [c3] at q; exact old _ _ q
          · cases e4
        · cases e4
          exact ⟨fun j hj => J.sk j (by rw [c1] at hj; exact hj), c2, rfl, fun j n h => old j n (by rw [← c3]; exact h)⟩
      obtain ⟨d1, d2, d3, d4⟩ := J4
      have sk5 : ∀ j ∈ s'.stack, j < k + 1 ∧ homeV rows j = m'.map (·.1) := by
        have i' : ∀ j ∈ s4.stack, j < k + 1 ∧ homeV rows j = m.map (·.1) := fun j hj => ⟨by have := (d1 j hj).1; omega, (d1 j hj).2⟩
        have e1 : ∀ {y z : String}, Str.ofString y = Str.ofString z → y = z := fun h => ofString_inj h
        cases t with
        | dfn =>
          have : s'.stack = s4.stack ++ [k] := by rw [← e]; simp [pushS]
          rw [this]
          intro j hj
          have h0 : s4.stack = [] := by
            cases q : s4.stack with
            | nil => rfl
            | cons x xs =>
              have := (d1 x (by rw [q]; simp)).2
              exfalso
              have hs := wd rfl
              unfold footS at e4
              rw [if_neg (by simp)] at e4
              cases e4
              rw [c1, hs] at q; cases q
          rw [h0] at hj
          have : j = k := by simpa using hj
          subst this
          exact ⟨by omega, by rw [hk, if_pos rfl]; rfl⟩
        | out h =>
          have := plain_ne h
          have : s'.stack = s4.stack := by rw [← e]; unfold pushS; rw [if_neg (by simp [this])]
          rw [this]; exact i'
        | ins h =>
          have := plain_ne h
          have : s'.stack = s4.stack := by rw [← e]; unfold pushS; rw [if_neg (by simp [this])]
          rw [this]; exact i'
        | @opn d st z h =>
          have : s'.stack = s4.stack ++ [k] := by rw [← e]; unfold pushS; rw [if_pos (by rcases h with rfl | rfl <;> simp)]
          rw [this]
          intro j hj
          rcases List.mem_append.mp hj with hj | hj
          · exact i' j hj
          · have : j = k := by simpa using hj
            subst this
            refine ⟨by omega, ?_⟩
            rw [hk, if_neg fun c => by rcases h with rfl | rfl <;> exact absurd (e1 c) (by decide)]
            rfl
        | els =>
          have : s'.stack = s4.stack := by rw [← e]; unfold pushS; rw [if_neg (by simp)]
          rw [this]; exact i'
        | cls =>
          have : s'.stack = s4.stack := by rw [← e]; unfold pushS; rw [if_neg (by simp)]
          rw [this]; exact i'
        | @giv d =>
          have : s'.stack = s4.stack := by rw [← e]; unfold pushS; rw [if_neg (by simp)]
          rw [this]
          intro j hj
          exfalso
          unfold footS at e4
          rw [if_pos (by simp), c1, stk] at e4
          simp at e4
          rw [← e4] at hj
          simp [c1, stk] at hj
      have hh : s'.heads = s4.heads ∧ s'.ends = s4.ends ∧ s'.elses = s4.elses := by rw [← e]; unfold pushS; split <;> exact ⟨rfl, rfl, rfl⟩
      exact ⟨sk5, fun j h q => a3 j h (by rw [← d2, ← hh.1]; exact q), fun j n q => d4 j n (by rw [← hh.2.1]; exact q), fun j n q => c4 j n (by rw [← d3, ← hh.2.2]; exact q)⟩
theorem run_invB {rs : List D} {m : Mode} (n : RunM rs m) : ∀ {rows rest : List D}, rows = rs ++ rest → ∃ s, runS 0 rs (.start rows.length) = some s ∧ Inv31 rows rs.length m s ∧ InvB rows rs.length m s := by
  induction n with
  | nil => exact fun {rows rest} e => ⟨_, rfl, inv_start rows, ⟨by simp [ShS.start], by simp [ShS.start, List.getElem?_replicate], by simp [ShS.start, List.getElem?_replicate], by simp [ShS.start, List.getElem?_replicate]⟩⟩
  | @snoc rs r w m m' h1 h2 h3 ih =>
    intro rows rest e
    obtain ⟨s, r1, I, J⟩ := ih (rows := rows) (rest := r :: rest) (by rw [e]; simp)
    have hl : rs.length < rows.length := by rw [e]; simp
    have hw : wA rows rs.length = some w := by unfold wA; rw [e]; simp [h2]
    obtain ⟨s', e1, I'⟩ := step_to hl hw h3 I
    refine ⟨s', ?_, ?_, ?_⟩
    · rw [runS_app rs r 0 _ s w r1 h2, Nat.zero_add]; exact e1
    · simpa using I'
    · simpa using invB_step hw h3 I J e1
theorem Prg.blocks {P : List Rw} {pl : List (Str × List Str)} {s : ShS} (p : Prg P pl s) : InvB (P.map rwD) P.length none s := by
  obtain ⟨s', h1, _, h3⟩ := run_invB p.t.run.m (rows := P.map rwD) (rest := []) (by simp)
  have h2 := p.g.run
  simp only [List.length_map] at h1 h3
  rw [h2] at h1
  cases h1
  exact h3
/-! the rows that come next -/
abbrev nxP (P : List Rw) (s : ShS) (k : Nat) : List Nat := nxF (P.map rwD) s k
theorem two_mem {a b : Nat} {x : Nat} : x ∈ (setI [(a : Int), (b : Int)]).map Int.toNat ↔ x = a ∨ x = b := by
  rw [List.mem_map]
  constructor
  · rintro ⟨y, hy, rfl⟩
    have := setI_mem.mp hy
    simp at this
    rcases this with rfl | rfl
    · exact .inl (by simp)
    · exact .inr (by simp)
  · rintro (rfl | rfl)
    · exact ⟨x, setI_mem.mpr (by simp), by simp⟩
    · exact ⟨x, setI_mem.mpr (by simp), by simp⟩
theorem ofS_dec (a b : String) : (Str.ofString a = Str.ofString b) = (a = b) := by
  simp
/-- what comes next behind a row, by its kind -/
theorem nx_is {P : List Rw} {pl : List (Str × List Str)} {s : ShS} (p : Prg P pl s) {k h : Nat} (hk : k < P.length) (e : hmV P k = some h) (x : Nat) : x ∈ nxP P s k ↔ match rowAt P k with
    | .give _ => False
    | .iff _ => x = k + 1 ∨ (match s.elses[k]? with | some (some e) => x = e + 1 | _ => ∃ n, s.ends[k]? = some (some n) ∧ x = n)
    | .els => ∃ j n, s.heads[k]? = some (some j) ∧ s.ends[j]? = some (some n) ∧ x = n
    | .whil _ => x = k + 1 ∨ ∃ n, s.ends[k]? = some (some n) ∧ x = n + 1
    | .endd => ∃ j, s.heads[k]? = some (some j) ∧ if isWh (rowAt P j) = true then x = j else x = k + 1
    | _ => x = k + 1 := by
  have hw := wA_row hk (r := rowAt P k) rfl
  unfold nxP nxF nextD
  rw [hw, show homeV (P.map rwD) k = some h from e]
  simp only [reduceCtorEq, false_or]
  cases er : rowAt P k with
  | give o => simp [rwW]
  | iff o =>
    obtain ⟨n, h1, h2, h3, h4⟩ := p.i.cl k hk (.inl (by rw [hw, er]; rfl)) (fun d st h => by cases h)
    simp only [rwW, ofS_dec, reduceCtorEq, if_false, if_true, String.reduceEq]
    rcases h4 with ⟨h5, _⟩ | ⟨e', _, h5, _⟩
    · rw [h5, h1]
      have := two_mem (a := k + 1) (b := n) (x := x)
      simp only [Int.natCast_add, Int.cast_ofNat_Int] at this
      simp only [Option.some.injEq, exists_eq_left']
      simpa using this
    · rw [h5]
      have := two_mem (a := k + 1) (b := e' + 1) (x := x)
      simp only [Int.natCast_add, Int.cast_ofNat_Int] at this
      simpa using this
  | els =>
    obtain ⟨j, h1, h2, h3, h4⟩ := p.i.el k hk (by rw [hw, er]; rfl)
    obtain ⟨n, h5, _⟩ := p.i.cl j (by omega) (.inl h3) (fun d st h => by cases h)
    simp only [rwW, ofS_dec, reduceCtorEq, if_false, if_true, String.reduceEq]
    rw [h1]
    simp only [h5]
    simp [h5, eq_comm]
  | whil o =>
    obtain ⟨n, h1, h2, h3, h4⟩ := p.i.cl k hk (.inr (by rw [hw, er]; rfl)) (fun d st h => by cases h)
    simp only [rwW, ofS_dec, reduceCtorEq, if_false, if_true, String.reduceEq]
    rw [h1]
    simp
  | endd =>
    obtain ⟨j, w, h1, h2, h3, h4⟩ := p.i.en k hk (by rw [hw, er]; rfl)
    simp only [rwW, ofS_dec, reduceCtorEq, if_false, if_true, String.reduceEq]
    rw [h1]
    have hj : j < P.length := by omega
    have e2 : (wA (P.map rwD) j = some (Str.ofString "while")) ↔ isWh (rowAt P j) = true := by
      rw [wA_row hj (r := rowAt P j) rfl]
      simp only [Option.some.injEq, ofS_dec]
      cases rowAt P j <;> simp [rwW, isWh]
    by_cases c : isWh (rowAt P j) = true
    · simp [e2.mpr c, c]
    · have : ¬ wA (P.map rwD) j = some (Str.ofString "while") := fun z => c (e2.mp z)
      simp [this, c]
  | _ =>
    simp only [rwW, ofS_dec, reduceCtorEq, if_false, if_true, String.reduceEq]
    simp
/-- the ends and elses of blocks -/
theorem endB_of {P : List Rw} {pl : List (Str × List Str)} {s : ShS} (p : Prg P pl s) {k : Nat} {o : Key} (e : rowAt P k = .iff o ∨ rowAt P k = .whil o) : ∃ n, s.ends[k]? = some (some n) ∧ k < n ∧ rowAt P n = .endd ∧ n < P.length ∧ hmV P n = hmV P k := by
  obtain ⟨hk, _⟩ : k < P.length ∧ True := ⟨by rcases e with e | e <;> exact (rowAt_lt e (by simp)).1, trivial⟩
  obtain ⟨n, h1, h2, h3, h4⟩ := p.i.cl k hk (by rcases e with e | e <;> rw [wA_row hk e] <;> simp [rwW]) (fun d st h => by cases h)
  obtain ⟨hn, hw⟩ := row_of_w h3
  refine ⟨n, h1, h2, ?_, hn, (p.blocks.en k n h1).2.2⟩
  cases q : rowAt P n <;> rw [q] at hw <;> simp [rwW] at hw ⊢
theorem elseB_of {P : List Rw} {pl : List (Str × List Str)} {s : ShS} (p : Prg P pl s) {k : Nat} {o : Key} (e : rowAt P k = .iff o ∨ rowAt P k = .whil o) : s.elses[k]? = some none ∨ ∃ n, s.elses[k]? = some (some n) ∧ k < n ∧ rowAt P n = .els ∧ n < P.length ∧ hmV P n = hmV P k := by
  obtain ⟨hk, _⟩ : k < P.length ∧ True := ⟨by rcases e with e | e <;> exact (rowAt_lt e (by simp)).1, trivial⟩
  obtain ⟨n, h1, h2, h3, h4⟩ := p.i.cl k hk (by rcases e with e | e <;> rw [wA_row hk e] <;> simp [rwW]) (fun d st h => by cases h)
  rcases h4 with ⟨h4, _⟩ | ⟨n', h5, h6, h7, h8, _⟩
  · exact .inl h4
  · obtain ⟨hn, hw⟩ := row_of_w h8
    refine .inr ⟨n', h6, h7, ?_, hn, (p.blocks.el k n' h6).2.2⟩
    cases q : rowAt P n' <;> rw [q] at hw <;> simp [rwW] at hw ⊢
theorem nx_home {P : List Rw} {pl : List (Str × List Str)} {s : ShS} (p : Prg P pl s) {k h : Nat} (hk : k < P.length) (e : hmV P k = some h) {x : Nat} (hx : x ∈ nxP P s k) : x < P.length ∧ hmV P x = some h := by
  have su : (∀ o, rowAt P k ≠ .give o) → k + 1 < P.length ∧ hmV P (k + 1) = some h := fun q => by
    obtain ⟨a, b, _⟩ := hm_succ p hk e q
    exact ⟨a, b⟩
  have hx := (nx_is p hk e x).mp hx
  cases er : rowAt P k with
  | give o => rw [er] at hx; exact hx.elim
  | iff o =>
    rw [er] at hx su
    rcases hx with rfl | hx
    · exact su (by simp)
    · rcases elseB_of p (.inl er) with q | ⟨n, q1, q2, q3, q4, q5⟩
      · rw [q] at hx
        obtain ⟨n, h1, rfl⟩ := hx
        obtain ⟨n', h2, _, _, h3, h4⟩ := endB_of p (.inl er)
        rw [h1] at h2; cases h2
        exact ⟨h3, by rw [h4, e]⟩
      · rw [q1] at hx
        subst hx
        rw [e] at q5
        obtain ⟨a, b, _⟩ := hm_succ p q4 q5 (by rw [q3]; simp)
        exact ⟨a, b⟩
  | whil o =>
    rw [er] at hx su
    rcases hx with rfl | ⟨n, h1, rfl⟩
    · exact su (by simp)
    · obtain ⟨n', h2, _, h5, h3, h4⟩ := endB_of p (.inr er)
      rw [h1] at h2; cases h2
      rw [e] at h4
      obtain ⟨a, b, _⟩ := hm_succ p h3 h4 (by rw [h5]; simp)
      exact ⟨a, b⟩
  | els =>
    rw [er] at hx
    obtain ⟨j, n, h1, h2, rfl⟩ := hx
    have hb := p.blocks
    obtain ⟨b1, b2, b3⟩ := hb.hd _ _ h1
    obtain ⟨b4, b5, b6⟩ := hb.en _ _ h2
    exact ⟨b4, b6.trans (b3.trans e)⟩
  | endd =>
    rw [er] at hx su
    obtain ⟨j, h1, hx⟩ := hx
    split at hx
    · subst hx
      obtain ⟨b1, b2, b3⟩ := p.blocks.hd _ _ h1
      exact ⟨b1, b3.trans e⟩
    · subst hx
      exact su (by simp)
  | _ => rw [er] at hx su; subst hx; exact su (by simp)
end VL
namespace VL
open PySem PySem.Spec PyProof.Rows L2 RZ
/-! ### what names and cells hold in a run -/
def vRow : D → Option Nat
  | .tup [.int r, .int _] => some r.toNat
  | _ => none
def VH (X : Rel) (h : Nat) (n : Str) (v : D) : Prop := ∀ r, vRow v = some r → X false h n r
def NewOk (P : List Rw) (v : D) : Prop := (∃ n, v = .int n) ∨ ∃ (r c : Nat) (n : Str), v = .tup [.int (r : Nat), .int (c : Nat)] ∧ r < P.length ∧ rowAt P r = .new n
def clsV : D → Str
  | .str s => s
  | _ => Str.ofString "#"
/-- the callers, the last one first -/
def Chain (P : List Rw) (X : Rel) : List (Nat × NM) → Nat → Prop
  | [], _ => True
  | q :: r, h => (∃ n f ops, rowAt P q.1 = .call n f ops ∧ defI P f = h) ∧ ∃ h', hmV P q.1 = some h' ∧ (∀ p ∈ q.2, VH X h' p.1 p.2 ∧ NewOk P p.2) ∧ Chain P X r h'
/-! cells -/
def KeysC (c : List (D × D)) : Prop := ∀ p ∈ c, ∃ r k, p.1 = .tup [r, k] ∧ isV r ∧ kyD k
theorem KeysC.put {c : List (D × D)} (h : KeysC c) {r k v : D} (hr : isV r) (hk : kyD k) : KeysC (cePut c (.tup [r, k]) v) := fun p hp => by
  rcases cePut_mem hp with ⟨q, hq, e, _⟩ | rfl
  · obtain ⟨r', k', h1, h2⟩ := h q hq
    exact ⟨r', k', by rw [← e]; exact h1, h2⟩
  · exact ⟨r, k, rfl, hr, hk⟩
structure Typed (P : List Rw) (X : Rel) (m : Mc) : Prop where
  ck : KeysC m.ce
  cv : ∀ r k v, isV r → kyD k → ceGet m.ce (.tup [r, k]) = some v → ∃ a, vRow r = some a ∧ NewOk P v ∧ ∀ b, vRow v = some b → X true a (clsV k) b
  ps : ∀ v ∈ m.ps, NewOk P v
  cu : ∃ h, hmV P m.pc = some h ∧ Chain P X m.cs.reverse h ∧ ((∀ n ps, rowAt P m.pc ≠ .deff n ps) → ∀ p ∈ m.nm, VH X h p.1 p.2 ∧ NewOk P p.2) ∧
    ∀ n ps, rowAt P m.pc = .deff n ps → m.ps.length = ps.length ∧ ∀ (i : Nat) (p : Str) (v : D), ps[i]? = some p → m.ps[i]? = some v → VH X h p v
theorem Prg.stGet {P : List Rw} {pl : List (Str × List Str)} {s : ShS} (p : Prg P pl s) {k : Nat} {n f : Str} {ops : List Key} (e : rowAt P k = .call n f ops) : stGet (stOf P P.length) f = some (defI P f) ∧ defI P f < P.length ∧ ∃ ps, rowAt P (defI P f) = .deff f ps ∧ ps.length = ops.length ∧ ∃ g o, s.ends[defI P f]? = some (some g) ∧ rowAt P g = .give o := by
  obtain ⟨_, e1⟩ := rowAt_lt e (by simp)
  obtain ⟨h, ps, g, o, e0, e2, e3, e4, e5⟩ := p.g.calls n f ops (List.mem_of_getElem? e1)
  subst e0
  have hl := (List.getElem?_eq_some_iff.mp e2).1
  have er := rowAt_eq e2
  exact ⟨stGet_mem (stOf_nd P _) ((stOf_iff p.nd P.length (f, defI P f)).mpr ⟨hl, _, er⟩), hl, ps, er, e5, g, o, e3, rowAt_eq e4⟩
/-- a silent row, and a row of the same function -/
theorem Typed.move {P : List Rw} {X : Rel} {m : Mc} (t : Typed P X m) {k : Nat} (h1 : hmV P k = hmV P m.pc) (h2 : ∀ n ps, rowAt P k ≠ .deff n ps) (h3 : ∀ n ps, rowAt P m.pc ≠ .deff n ps) : Typed P X { m with pc := k } := by
  obtain ⟨h, a, b, c, d⟩ := t.cu
  exact ⟨t.ck, t.cv, t.ps, h, by rw [← a]; exact h1, b, fun _ => c h3, fun n ps e => absurd e (h2 n ps)⟩
theorem getLast_rev {A1 : Type} {xs : List A1} {x : A1} (h : xs.getLast? = some x) : xs.reverse = x :: xs.dropLast.reverse := by
  have : xs = xs.dropLast ++ [x] := by
    cases xs with
    | nil => simp at h
    | cons a l =>
      rw [List.getLast?_eq_some_getLast (by simp)] at h
      cases h
      exact (List.dropLast_concat_getLast (by simp)).symm
  rw [this, List.reverse_append]
  simp
end VL
namespace VL
open PySem PySem.Spec PyProof.Rows L2 RZ
/-! ### what a run tells: its doings, its end -/
structure DocK (P : List Rw) (d : D) : Prop where
  ex : ∃ (k : Nat) (vs : List D) (v : D), d = doD k vs v ∧ k < P.length ∧ quiet (rowAt P k) = false ∧ (∀ u ∈ vs, isV u) ∧ (v = .non ∨ isV v)
/-- how a run ends -/
def EndK (d : D) : Prop := d = cutD ∨ (∃ v, d = doneD v ∧ isV v) ∨ ∃ w, d = faultD w
theorem isV_shape {u : D} (h : isV u) : ddep u ≤ 1 ∧ dflat u = true := by
  unfold isV at h
  split at h
  · exact ⟨by simp, rfl⟩
  · exact ⟨by simp, rfl⟩
  · exact h.elim
theorem DocK.shape {P : List Rw} {d : D} (h : DocK P d) : ddep d ≤ 8 ∧ dflat d = true := by
  obtain ⟨k, vs, v, rfl, _, _, h1, h2⟩ := h.ex
  have e1 : ddeps vs ≤ 1 := ddeps_le fun u hu => (isV_shape (h1 u hu)).1
  have e2 : dflats vs = true := dflats_of fun u hu => (isV_shape (h1 u hu)).2
  have e3 : ddep v ≤ 1 ∧ dflat v = true := by
    rcases h2 with rfl | h2
    · exact ⟨by simp, rfl⟩
    · exact isV_shape h2
  refine ⟨?_, ?_⟩
  · simp [doD]
    omega
  · simp [doD, e2, e3.2]
theorem EndK.shape {d : D} (h : EndK d) : ddep d ≤ 8 ∧ dflat d = true := by
  rcases h with rfl | ⟨v, rfl, h⟩ | ⟨w, rfl⟩
  · exact ⟨by simp [cutD], rfl⟩
  · have := isV_shape h
    exact ⟨by simp [doneD]; omega, by simp [doneD, this.2]⟩
  · exact ⟨by simp [faultD], rfl⟩
end VL
namespace VL
open PySem PySem.Spec PyProof.Rows L2 RZ
/-! ### which row leans on which, as rules -/
/-! names that come as they are -/
/-- the name, as it is behind o, comes to x -/
inductive Go (P : List Rw) (s : ShS) (nm : Str) (o : Nat) : Nat → Prop
  | first {u : Nat} : u ∈ nxP P s o → Go P s nm o u
  | on {t u : Nat} : Go P s nm o t → nm ∉ makesR (rowAt P t) → u ∈ nxP P s t → Go P s nm o u
theorem Go.lt {P : List Rw} {pl : List (Str × List Str)} {s : ShS} (p : Prg P pl s) {nm : Str} {o x h : Nat} (ho : o < P.length) (e : hmV P o = some h) (g : Go P s nm o x) : x < P.length ∧ hmV P x = some h := by
  induction g with
  | first h1 => exact nx_home p ho e h1
  | on _ _ h1 ih => exact nx_home p ih.1 ih.2 h1
end VL
namespace VL
open PySem PySem.Spec PyProof.Rows L2 RZ
/-! ### programs of which only some rows are left -/
theorem step_more {k : Nat} {w : Str} {s s' : ShS} (e : stepS k w s = some s') :
    s'.stack = (if w = Str.ofString "give" ∨ w = Str.ofString "end" then s.stack.dropLast else s.stack) ++ (if w = Str.ofString "def" ∨ w = Str.ofString "if" ∨ w = Str.ofString "while" then [k] else []) ∧
    (w ≠ Str.ofString "else" → s'.elses = s.elses) ∧ (w = Str.ofString "else" → ∀ j, s.stack.getLast? = some j → s'.elses = s.elses.set j (some k)) := by
  unfold stepS at e
  have t1 : (topS k s).stack = s.stack ∧ (topS k s).elses = s.elses := by unfold topS; split <;> exact ⟨rfl, rfl⟩
  have t2 : (defS k w (topS k s)).stack = s.stack ∧ (defS k w (topS k s)).elses = s.elses := by unfold defS; split <;> exact t1
  generalize defS k w (topS k s) = s2 at e t2
  cases q : elseS k w s2 with
  | none => rw [q] at e; cases e
  | some a =>
    rw [q] at e
    simp only [Option.bind_some] at e
    have t3 : a.stack = s.stack ∧ (w ≠ Str.ofString "else" → a.elses = s.elses) ∧ (w = Str.ofString "else" → ∀ j, s.stack.getLast? = some j → a.elses = s.elses.set j (some k)) := by
      unfold elseS at q
      split at q
      · rename_i c
        split at q
        · rename_i j hj
          cases q
          rw [t2.1] at hj
          exact ⟨t2.1, fun z => absurd c z, fun _ j' hj' => by rw [hj] at hj'; cases hj'; show s2.elses.set j (some k) = _; rw [t2.2]⟩
        · cases q
      · rename_i c
        cases q
        exact ⟨t2.1, fun _ => t2.2, fun z => absurd z c⟩
    cases q2 : footS k w a with
    | none => rw [q2] at e; cases e
    | some b =>
      rw [q2] at e
      simp only [Option.map_some, Option.some.injEq] at e
      have t4 : b.stack = (if w = Str.ofString "give" ∨ w = Str.ofString "end" then s.stack.dropLast else s.stack) ∧ b.elses = a.elses := by
        unfold footS at q2
        split at q2
        · rename_i c
          split at q2
          · cases q2
            exact ⟨by rw [if_pos c]; show a.stack.dropLast = _; rw [t3.1], rfl⟩
          · cases q2
        · rename_i c
          cases q2
          exact ⟨by rw [if_neg c]; exact t3.1, rfl⟩
      have t5 : s'.elses = b.elses ∧ s'.stack = b.stack ++ (if w = Str.ofString "def" ∨ w = Str.ofString "if" ∨ w = Str.ofString "while" then [k] else []) := by
        rw [← e]
        unfold pushS
        split
        · rename_i c; exact ⟨rfl, rfl⟩
        · exact ⟨rfl, by simp⟩
      rw [t5.2, t4.1, t5.1, t4.2]
      exact ⟨rfl, t3.2⟩
structure InvE (rows : List D) (k : Nat) (s : ShS) : Prop where
  e1 : ∀ j n, s.ends[j]? = some (some n) → s.heads[n]? = some (some j) ∧ (wA rows n = some (Str.ofString "give") ∨ wA rows n = some (Str.ofString "end"))
  e2 : ∀ n j, s.heads[n]? = some (some j) → (wA rows n = some (Str.ofString "give") ∨ wA rows n = some (Str.ofString "end")) → s.ends[j]? = some (some n) ∧ j ∉ s.stack
  e3 : ∀ j n, s.elses[j]? = some (some n) → s.heads[n]? = some (some j) ∧ wA rows n = some (Str.ofString "else")
  nd : s.stack.Nodup
theorem set_other {A1 : Type} {xs : List A1} {i j : Nat} {x : A1} (h : i ≠ j) : (xs.set i x)[j]? = xs[j]? := List.getElem?_set_ne h
theorem invE_step {rows : List D} {k : Nat} {w : Str} {m m' : Mode} {s s' : ShS} (hk : k < rows.length) (hw : wA rows k = some w) (t : StepM k w m m') (I : Inv31 rows k m s) (B : InvB rows k m s) (J : InvE rows k s) (e : stepS k w s = some s') : InvE rows (k + 1) s' := by
  obtain ⟨a1, a2, a3⟩ := step_more e
  obtain ⟨b1, b2⟩ := step_ends e
  have c1 := step_heads e
  have hl := I.ok.l1
  have el := I.ok.l2
  have ll := I.ok.l3
  have lt : ∀ j ∈ s.stack, j < k := fun j hj => (B.sk j hj).1
  -- the heads ahead stay
  have hold : ∀ n, n < k → s'.heads[n]? = s.heads[n]? := fun n hn => by
    rw [c1]
    split
    · exact set_other (by omega)
    · rfl
  have htop : ∀ j, s.stack.getLast? = some j → s'.heads[k]? = some (some j) := fun j hj => by
    rw [c1, hj]
    exact List.getElem?_set_self (by omega)
  have hnone : s.stack.getLast? = none → s'.heads[k]? = s.heads[k]? := fun hj => by rw [c1, hj]
  have hle : ∀ n j, s'.heads[n]? = some (some j) → n < k + 1 := fun n j h => by
    rcases Nat.lt_or_ge n (k + 1) with q | q
    · exact q
    · exfalso
      have : s.heads[n]? = some (some j) := by
        rw [c1] at h
        split at h
        · rwa [set_other (by omega)] at h
        · exact h
      have := (B.hd _ _ this).2.1
      omega
  have ofS : ∀ {y z : String}, Str.ofString y = Str.ofString z → y = z := fun h => ofString_inj h
  have ndS : s'.stack.Nodup := by
    rw [a1]
    have nd1 : (if w = Str.ofString "give" ∨ w = Str.ofString "end" then s.stack.dropLast else s.stack).Nodup := by
      split
      · exact J.nd.sublist (List.dropLast_sublist _)
      · exact J.nd
    refine List.nodup_append.mpr ⟨nd1, by split <;> simp, fun a ha b hb => ?_⟩
    have : a < k := by
      split at ha
      · exact lt a (List.dropLast_subset _ ha)
      · exact lt a ha
    split at hb
    · have : b = k := by simpa using hb
      omega
    · cases hb
  -- what stands on the stack then: what stood there, or k
  have stk : ∀ j, j ∈ s'.stack → j ∈ s.stack ∨ j = k := fun j hj => by
    rw [a1] at hj
    rcases List.mem_append.mp hj with hj | hj
    · left
      split at hj
      · exact List.dropLast_subset _ hj
      · exact hj
    · right
      split at hj
      · simpa using hj
      · cases hj
  refine ⟨fun j n h => ?_, fun n j h hw' => ?_, fun j n h => ?_, ndS⟩
  · by_cases c : w = Str.ofString "give" ∨ w = Str.ofString "end"
    · cases hj : s.stack.getLast? with
      | none =>
        -- nothing is open: no give, no end comes
        exfalso
        have hs := I.stk
        cases t with
        | dfn => rcases c with c | c <;> exact absurd (ofS c) (by decide)
        | out h => have := plain_ne h; rcases c with c | c <;> simp [this] at c
        | ins h => have := plain_ne h; rcases c with c | c <;> simp [this] at c
        | opn h => rcases h with rfl | rfl <;> rcases c with c | c <;> exact absurd (ofS c) (by decide)
        | els => rcases c with c | c <;> exact absurd (ofS c) (by decide)
        | cls => rw [hs] at hj; simp at hj
        | giv => rw [hs] at hj; simp at hj
      | some j0 =>
        rw [b2 c j0 hj] at h
        rcases set_some h with ⟨q1, q2⟩ | q
        · subst q1; subst q2
          refine ⟨htop _ hj, ?_⟩
          rw [hw]; rcases c with c | c <;> simp [c]
        · have := (B.en _ _ q).1
          obtain ⟨r1, r2⟩ := J.e1 _ _ q
          exact ⟨by rw [hold _ this]; exact r1, r2⟩
    · rw [b1 c] at h
      have := (B.en _ _ h).1
      obtain ⟨r1, r2⟩ := J.e1 _ _ h
      exact ⟨by rw [hold _ this]; exact r1, r2⟩
  · by_cases cn : n = k
    · subst cn
      have c : w = Str.ofString "give" ∨ w = Str.ofString "end" := by
        rw [hw] at hw'
        rcases hw' with q | q
        · exact .inl (by injection q)
        · exact .inr (by injection q)
      cases hj : s.stack.getLast? with
      | none =>
        rw [hnone hj] at h
        exact absurd (B.hd _ _ h).2.1 (by omega)
      | some j0 =>
        rw [htop _ hj] at h
        cases h
        have jl := lt j (List.mem_of_getLast? hj)
        refine ⟨?_, fun hm => ?_⟩
        · rw [b2 c j hj]
          exact List.getElem?_set_self (by rw [el]; omega)
        · rw [a1, if_pos c, if_neg (by
            rintro (z | z | z) <;> rcases c with c | c <;> rw [c] at z <;> exact absurd (ofS z) (by decide)), List.append_nil] at hm
          have hs : s.stack = s.stack.dropLast ++ [j] := by
            have := getLast_rev hj
            have := congrArg List.reverse this
            simpa using this
          have nd := J.nd
          rw [hs] at nd
          have := (List.nodup_append.mp nd).2.2 j hm j (by simp)
          exact this rfl
    · have hn : n < k := by have := hle n j h; omega
      rw [hold n hn] at h
      obtain ⟨r1, r2⟩ := J.e2 n j h hw'
      have jk : j < k := (B.hd _ _ h).1
      refine ⟨?_, fun hm => ?_⟩
      · by_cases c : w = Str.ofString "give" ∨ w = Str.ofString "end"
        · cases hj : s.stack.getLast? with
          | none =>
            have hs := step_ends e
            have : s'.ends = s.ends := by
              unfold stepS at e
              have t1 : (defS k w (topS k s)).stack = s.stack := by
                have := topS_e k s
                have := defS_e k w (topS k s)
                simp_all
              cases q : elseS k w (defS k w (topS k s)) with
              | none => rw [q] at e; cases e
              | some a =>
                rw [q] at e
                have t3 := elseS_e q
                simp only [Option.bind_some] at e
                unfold footS at e
                rw [if_pos c, t3.2, t1, hj] at e
                cases e
            rw [this]; exact r1
          | some j0 =>
            rw [b2 c j0 hj]
            have : j0 ≠ j := fun z => r2 (by rw [← z]; exact List.mem_of_getLast? hj)
            rw [set_other this]; exact r1
        · rw [b1 c]; exact r1
      · rcases stk j hm with q | q
        · exact r2 q
        · omega
  · by_cases c : w = Str.ofString "else"
    · cases hj : s.stack.getLast? with
      | none =>
        exfalso
        have hs := I.stk
        cases t with
        | dfn => exact absurd (ofS c) (by decide)
        | out h => have := plain_ne h; simp [this] at c
        | ins h => have := plain_ne h; simp [this] at c
        | opn h => rcases h with rfl | rfl <;> exact absurd (ofS c) (by decide)
        | els => rw [hs] at hj; simp at hj
        | cls => exact absurd (ofS c) (by decide)
        | giv => exact absurd (ofS c) (by decide)
      | some j0 =>
        rw [a3 c j0 hj] at h
        rcases set_some h with ⟨q1, q2⟩ | q
        · subst q1; subst q2
          exact ⟨htop _ hj, by rw [hw, c]⟩
        · have := (B.el _ _ q).1
          obtain ⟨r1, r2⟩ := J.e3 _ _ q
          exact ⟨by rw [hold _ this]; exact r1, r2⟩
    · rw [a2 c] at h
      have := (B.el _ _ h).1
      obtain ⟨r1, r2⟩ := J.e3 _ _ h
      exact ⟨by rw [hold _ this]; exact r1, r2⟩
theorem run_invE {rs : List D} {m : Mode} (n : RunM rs m) : ∀ {rows rest : List D}, rows = rs ++ rest → ∃ s, runS 0 rs (.start rows.length) = some s ∧ Inv31 rows rs.length m s ∧ InvB rows rs.length m s ∧ InvE rows rs.length s := by
  induction n with
  | nil => exact fun {rows rest} e => ⟨_, rfl, inv_start rows, ⟨by simp [ShS.start], by simp [ShS.start, List.getElem?_replicate], by simp [ShS.start, List.getElem?_replicate], by simp [ShS.start, List.getElem?_replicate]⟩, ⟨by simp [ShS.start, List.getElem?_replicate], by simp [ShS.start, List.getElem?_replicate], by simp [ShS.start, List.getElem?_replicate], by simp [ShS.start]⟩⟩
  | @snoc rs r w m m' h1 h2 h3 ih =>
    intro rows rest e
    obtain ⟨s, r1, I, J, E⟩ := ih (rows := rows) (rest := r :: rest) (by rw [e]; simp)
    have hl : rs.length < rows.length := by rw [e]; simp
    have hw : wA rows rs.length = some w := by unfold wA; rw [e]; simp [h2]
    obtain ⟨s', e1, I'⟩ := step_to hl hw h3 I
    refine ⟨s', ?_, ?_, ?_, ?_⟩
    · rw [runS_app rs r 0 _ s w r1 h2, Nat.zero_add]; exact e1
    · simpa using I'
    · simpa using invB_step hw h3 I J e1
    · simpa using invE_step hl hw h3 I J E e1
theorem Prg.pairs {P : List Rw} {pl : List (Str × List Str)} {s : ShS} (p : Prg P pl s) : InvE (P.map rwD) P.length s := by
  obtain ⟨s', h1, _, _, h3⟩ := run_invE p.t.run.m (rows := P.map rwD) (rest := []) (by simp)
  have h2 := p.g.run
  simp only [List.length_map] at h1 h3
  rw [h2] at h1
  cases h1
  exact h3
/-! heads, by what is open -/
/-! which rows stay -/
def isFirstD (P : List Rw) (k : Nat) : Bool := !((P.take k).any isDfR)
def stay1 (P : List Rw) (s : ShS) (S : Nat → Bool) (l : List Bool) (k : Nat) : Bool := match rowAt P k with
  | .deff _ _ => S k || isFirstD P k
  | r => match s.heads[k]? with
    | some (some h) => (match r with
      | .els => l.getD h false | .endd => l.getD h false | .give _ => l.getD h false
      | .call _ f _ => (S k && l.getD h false) && S (defI P f)
      | _ => S k && l.getD h false)
    | _ => false
def stayL (P : List Rw) (s : ShS) (S : Nat → Bool) : Nat → List Bool
  | 0 => []
  | k + 1 => stayL P s S k ++ [stay1 P s S (stayL P s S k) k]
def stB0 (P : List Rw) (s : ShS) (S : Nat → Bool) (k : Nat) : Bool := stay1 P s S (stayL P s S k) k
/-! the program of the rows that stay -/
def onlyR (P : List Rw) (s : ShS) (S : Nat → Bool) (k : Nat) : Rw := if stB0 P s S k = true then (match rowAt P k with
    | .give o => if S k = true then .give o else .give (.inl 0)
    | r => r) else .skip
def onlyP (P : List Rw) (s : ShS) (S : Nat → Bool) : List Rw := (List.range P.length).map (onlyR P s S)
/-! it is a program, of the same shape -/
def defR : Rw → Option (Str × List Str)
  | .deff n ps => some (n, ps)
  | _ => none
def plO (P : List Rw) (s : ShS) (S : Nat → Bool) : List (Str × List Str) := (onlyP P s S).filterMap defR
/-- of the rows that stay the shape is the same -/
structure OnlyOk (P : List Rw) (s : ShS) (S : Nat → Bool) (s' : ShS) : Prop where
  hd : ∀ k, k < P.length → stB0 P s S k = true → (∀ n ps, rowAt P k ≠ .deff n ps) → s'.heads[k]? = s.heads[k]?
  en : ∀ j n, stB0 P s S j = true → s.ends[j]? = some (some n) → s'.ends[j]? = some (some n)
  el : ∀ j, stB0 P s S j = true → (∃ o, rowAt P j = .iff o ∨ rowAt P j = .whil o) → s'.elses[j]? = s.elses[j]?
end VL
namespace VL
open PySem PySem.Spec PyProof.Rows L2 RZ
/-! ### what stands within a block -/
structure InvN (rows : List D) (k : Nat) (s : ShS) : Prop where
  st : s.stack.Pairwise fun a b : Nat => a < b
  op : ∀ j ∈ s.stack, ∀ r : Nat, j < r → r < k → ∃ h, s.heads[r]? = some (some h) ∧ j ≤ h
  cl : ∀ j n : Nat, s.ends[j]? = some (some n) → j < n ∧ ∀ r : Nat, j < r → r ≤ n → ∃ h, s.heads[r]? = some (some h) ∧ j ≤ h
theorem last_max {xs : List Nat} {x j : Nat} (h : xs.Pairwise fun a b : Nat => a < b) (hl : xs.getLast? = some x) (hj : j ∈ xs) : j ≤ x := by
  have := getLast_rev hl
  have e : xs = xs.dropLast ++ [x] := by simpa using congrArg List.reverse this
  rw [e] at h hj
  rcases List.mem_append.mp hj with q | q
  · exact Nat.le_of_lt ((List.pairwise_append.mp h).2.2 j q x (by simp))
  · have : j = x := by simpa using q
    omega
theorem invN_step {rows : List D} {k : Nat} {w : Str} {m m' : Mode} {s s' : ShS} (hk : k < rows.length) (hw : wA rows k = some w) (t : StepM k w m m') (I : Inv31 rows k m s) (B : InvB rows k m s) (J : InvN rows k s) (e : stepS k w s = some s') : InvN rows (k + 1) s' := by
  obtain ⟨a1, _, _⟩ := step_more e
  obtain ⟨b1, b2⟩ := step_ends e
  have c1 := step_heads e
  have lt : ∀ j ∈ s.stack, j < k := fun j hj => (B.sk j hj).1
  have hold : ∀ n, n < k → s'.heads[n]? = s.heads[n]? := fun n hn => by
    rw [c1]
    split
    · exact set_other (by omega)
    · rfl
  have htop : ∀ j, s.stack.getLast? = some j → s'.heads[k]? = some (some j) := fun j hj => by
    rw [c1, hj]
    exact List.getElem?_set_self (by have := I.ok.l1; omega)
  have opn : ∀ j ∈ s.stack, ∀ r : Nat, j < r → r < k + 1 → ∃ h, s'.heads[r]? = some (some h) ∧ j ≤ h := fun j hj r h1 h2 => by
    by_cases c : r = k
    · subst c
      cases q : s.stack.getLast? with
      | none =>
        rw [List.getLast?_eq_none_iff] at q
        rw [q] at hj; cases hj
      | some x => exact ⟨x, htop x q, last_max J.st q hj⟩
    · obtain ⟨h, h3, h4⟩ := J.op j hj r h1 (by omega)
      exact ⟨h, by rw [hold r (by omega)]; exact h3, h4⟩
  have stk : ∀ j, j ∈ s'.stack → j ∈ s.stack ∨ j = k := fun j hj => by
    rw [a1] at hj
    rcases List.mem_append.mp hj with hj | hj
    · left
      split at hj
      · exact List.dropLast_subset _ hj
      · exact hj
    · right
      split at hj
      · simpa using hj
      · cases hj
  refine ⟨?_, fun j hj r h1 h2 => ?_, fun j n h => ?_⟩
  · rw [a1]
    have p1 : (if w = Str.ofString "give" ∨ w = Str.ofString "end" then s.stack.dropLast else s.stack).Pairwise (fun a b : Nat => a < b) := by
      split
      · exact J.st.sublist (List.dropLast_sublist _)
      · exact J.st
    refine List.pairwise_append.mpr ⟨p1, by split <;> simp, fun a ha b hb => ?_⟩
    have : a < k := by
      split at ha
      · exact lt a (List.dropLast_subset _ ha)
      · exact lt a ha
    split at hb
    · have : b = k := by simpa using hb
      omega
    · cases hb
  · rcases stk j hj with q | q
    · exact opn j q r h1 h2
    · omega
  · have old : s.ends[j]? = some (some n) → j < n ∧ ∀ r : Nat, j < r → r ≤ n → ∃ h, s'.heads[r]? = some (some h) ∧ j ≤ h := fun h => by
      obtain ⟨h1, h2⟩ := J.cl j n h
      have hn := (B.en _ _ h).1
      refine ⟨h1, fun r r1 r2 => ?_⟩
      obtain ⟨hh, h3, h4⟩ := h2 r r1 r2
      exact ⟨hh, by rw [hold r (by omega)]; exact h3, h4⟩
    by_cases c : w = Str.ofString "give" ∨ w = Str.ofString "end"
    · cases q : s.stack.getLast? with
      | none =>
        have : s'.ends = s.ends := by
          unfold stepS at e
          have t1 : (defS k w (topS k s)).stack = s.stack := by
            have := topS_e k s
            have := defS_e k w (topS k s)
            simp_all
          cases q3 : elseS k w (defS k w (topS k s)) with
          | none => rw [q3] at e; cases e
          | some a =>
            rw [q3] at e
            have t3 := elseS_e q3
            simp only [Option.bind_some] at e
            unfold footS at e
            rw [if_pos c, t3.2, t1, q] at e
            cases e
        rw [this] at h
        exact old h
      | some x =>
        rw [b2 c x q] at h
        rcases set_some h with ⟨q1, q2⟩ | q'
        · subst q1; subst q2
          have hm := List.mem_of_getLast? q
          exact ⟨lt _ hm, fun r r1 r2 => opn _ hm r r1 (by omega)⟩
        · exact old q'
    · rw [b1 c] at h
      exact old h
theorem run_invN {rs : List D} {m : Mode} (n : RunM rs m) : ∀ {rows rest : List D}, rows = rs ++ rest → ∃ s, runS 0 rs (.start rows.length) = some s ∧ Inv31 rows rs.length m s ∧ InvB rows rs.length m s ∧ InvN rows rs.length s := by
  induction n with
  | nil => exact fun {rows rest} e => ⟨_, rfl, inv_start rows, ⟨by simp [ShS.start], by simp [ShS.start, List.getElem?_replicate], by simp [ShS.start, List.getElem?_replicate], by simp [ShS.start, List.getElem?_replicate]⟩, ⟨by simp [ShS.start], by simp [ShS.start], by simp [ShS.start, List.getElem?_replicate]⟩⟩
  | @snoc rs r w m m' h1 h2 h3 ih =>
    intro rows rest e
    obtain ⟨s, r1, I, J, E⟩ := ih (rows := rows) (rest := r :: rest) (by rw [e]; simp)
    have hl : rs.length < rows.length := by rw [e]; simp
    have hw : wA rows rs.length = some w := by unfold wA; rw [e]; simp [h2]
    obtain ⟨s', e1, I'⟩ := step_to hl hw h3 I
    refine ⟨s', ?_, ?_, ?_, ?_⟩
    · rw [runS_app rs r 0 _ s w r1 h2, Nat.zero_add]; exact e1
    · simpa using I'
    · simpa using invB_step hw h3 I J e1
    · simpa using invN_step hl hw h3 I J E e1
theorem Prg.within {P : List Rw} {pl : List (Str × List Str)} {s : ShS} (p : Prg P pl s) : InvN (P.map rwD) P.length s := by
  obtain ⟨s', h1, _, _, h3⟩ := run_invN p.t.run.m (rows := P.map rwD) (rest := []) (by simp)
  have h2 := p.g.run
  simp only [List.length_map] at h1 h3
  rw [h2] at h1
  cases h1
  exact h3
/-! a set that has what its rows lean on -/
structure ClosedS (P : List Rw) (s : ShS) (X : Rel) (S : Nat → Bool) : Prop where
  hd : ∀ x h, S x = true → bareR (rowAt P x) = false → s.heads[x]? = some (some h) → S h = true
  ca : ∀ x y n ps m ops, S x = true → rowAt P x = .deff n ps → rowAt P y = .call m n ops → S y = true
  gi : ∀ x m f ops g, S x = true → rowAt P x = .call m f ops → s.ends[defI P f]? = some (some g) → S g = true
  nm : ∀ x o h nm, S x = true → nm ∈ usesR (rowAt P x) → nm ∈ makesR (rowAt P o) → o < P.length → hmV P o = some h → Go P s nm o x → S o = true
  ce : ∀ x y n o o' key key' v hx hy r, S x = true → rowAt P x = .get n o key → rowAt P y = .set o' key' v → classK key' = classK key → hmV P x = some hx → hmV P y = some hy → X false hx o r → X false hy o' r → S y = true
/-- all that is known: the program, the table, the set, the program left -/
structure Sx (P : List Rw) (pl : List (Str × List Str)) (s : ShS) (X : Rel) (S : Nat → Bool) (s' : ShS) : Prop where
  p : Prg P pl s
  x : ClosedF (flowsP P s) X
  c : ClosedS P s X S
  q : Prg (onlyP P s S) (plO P s S) s'
  ok : OnlyOk P s S s'
section
variable {P : List Rw} {pl : List (Str × List Str)} {s s' : ShS} {X : Rel} {S : Nat → Bool}
/-- the head of a row is a row that is no else, no end -/
theorem head_kind (p : Prg P pl s) {k h : Nat} (e : s.heads[k]? = some (some h)) : h < k ∧ hmV P h = hmV P k ∧ bareR (rowAt P h) = false ∧ h < P.length ∧ k < P.length := by
  obtain ⟨b1, b2, b3⟩ := p.blocks.hd _ _ e
  rcases p.heads.hd k b2 with ⟨z, _⟩ | ⟨h', z1, z2, _, _, _, w, z3, z4⟩
  · rw [e] at z; cases z
  · rw [e] at z1; cases z1
    refine ⟨z2, b3, ?_, b1, b2⟩
    rcases z4 with rfl | rfl | rfl <;> (have := (row_of_w z3).2; cases q : rowAt P h <;> rw [q] at this <;> simp [rwW] at this <;> rfl)
/-! live names -/
inductive Live (P : List Rw) (s : ShS) (S : Nat → Bool) (nm : Str) : Nat → Prop
  | use {k : Nat} : S k = true → nm ∈ usesR (rowAt P k) → Live P s S nm k
  | on {k u : Nat} : nm ∉ makesR (rowAt P k) → u ∈ nxP P s k → Live P s S nm u → Live P s S nm k
theorem Live.go {nm : Str} {t : Nat} (h : Live P s S nm t) : ∀ {o : Nat}, Go P s nm o t → ∃ x, S x = true ∧ nm ∈ usesR (rowAt P x) ∧ Go P s nm o x := by
  induction h with
  | use h1 h2 => exact fun g => ⟨_, h1, h2, g⟩
  | on h1 h2 _ ih => exact fun g => ih (.on g h1 h2)
end
end VL
namespace VL
open PySem PySem.Spec PyProof.Rows L2 RZ
/-! ### the run of only some rows beside the program's own -/
def dRow : D → Nat
  | .tup (.int i :: _) => i.toNat
  | _ => 0
def kept (S : Nat → Bool) (ds : List D) : List D := ds.filter fun d => S (dRow d)
inductive StepsQ (Q : List Rw) (s : ShS) (most : Nat) (st : List (Str × Nat)) : Mc → Mc → Prop
  | refl {m : Mc} : StepsQ Q s most st m m
  | step {m m' : Mc} : m.en = none → StepsQ Q s most st (stepM Q s most st m) m' → StepsQ Q s most st m m'
section
variable {Q : List Rw} {s : ShS} {most : Nat} {st : List (Str × Nat)}
theorem StepsQ.trans {a b c : Mc} (h : StepsQ Q s most st a b) (g : StepsQ Q s most st b c) : StepsQ Q s most st a c := by
  induction h with
  | refl => exact g
  | step e _ ih => exact .step e (ih g)
theorem StepsQ.one {a : Mc} (e : a.en = none) : StepsQ Q s most st a (stepM Q s most st a) := .step e .refl
theorem StepsQ.run {a b f : Mc} (h : StepsQ Q s most st a b) (r : RunTo Q s most st a f) : RunTo Q s most st b f := by
  induction h with
  | refl => exact r
  | step e _ ih =>
    cases r with
    | stop z => exact absurd e z
    | step _ r => exact ih r
def isSkp : Rw → Bool
  | .skip => true
  | _ => false
/-- the first row from here on that is no skip -/
def nf (Q : List Rw) (k : Nat) : Nat := ((List.range Q.length).find? fun j => decide (k ≤ j) && !isSkp (rowAt Q j)).getD Q.length
end
section
variable (P : List Rw) (s : ShS) (X : Rel) (S : Nat → Bool)
def DeadC (r k : D) : Prop := ∀ x n o key h a, S x = true → rowAt P x = .get n o key → classK key = clsV k → hmV P x = some h → vRow r = some a → ¬ X false h o a
structure SimC (a b : Mc) : Prop where
  kb : KeysC b.ce
  cr : ∀ r k v, isV r → kyD k → ceGet b.ce (.tup [r, k]) = some v → ∃ x, vRow r = some x
  ce : ∀ r k, isV r → kyD k → ceGet a.ce (.tup [r, k]) = ceGet b.ce (.tup [r, k]) ∨ DeadC P X S r k
  co : ∀ k, S k = true → coGet a.co k = coGet b.co k
  ds : kept S a.ds = kept S b.ds
  len : b.ds.length ≤ a.ds.length
  en : b.en = none
def Agr (na nb : NM) (k : Nat) : Prop := ∀ nm, Live P s S nm k → lookV na (.inr nm) = lookV nb (.inr nm)
def AgrC (na nb : NM) (k : Nat) : Prop := ∀ nm, nm ∉ makesR (rowAt P k) → Live P s S nm (k + 1) → lookV na (.inr nm) = lookV nb (.inr nm)
inductive FR : List (Nat × NM) → List (Nat × NM) → Prop
  | nil : FR [] []
  | cons {k : Nat} {na nb : NM} {ra rb : List (Nat × NM)} : S k = true → AgrC P s S na nb k → FR ra rb → FR ((k, na) :: ra) ((k, nb) :: rb)
/-- the program's run stands where the other one stands, or is about to -/
structure SimV (a b : Mc) : Prop where
  c : SimC P X S a b
  pc : b.pc = nf (onlyP P s S) a.pc
  st : ∃ h, hmV P a.pc = some h ∧ stB0 P s S h = true
  fr : FR P s S a.cs.reverse b.cs.reverse
  nm : (∀ n ps, rowAt P a.pc ≠ .deff n ps) → Agr P s S a.nm b.nm a.pc
  ps : (∃ n ps, rowAt P a.pc = .deff n ps) → a.ps = b.ps
/-- it is within a call that is not of the set -/
structure SimH (a b : Mc) : Prop where
  c : SimC P X S a b
  hm : ∃ h, hmV P a.pc = some h ∧ S h = false
  fr : ∃ ex place na rest, a.cs.reverse = ex ++ (place, na) :: rest ∧ S place = false ∧ (∃ n f ops, rowAt P place = .call n f ops) ∧ (∃ h, hmV P place = some h ∧ stB0 P s S h = true) ∧
    b.pc = nf (onlyP P s S) (place + 1) ∧ FR P s S rest b.cs.reverse ∧ AgrC P s S na b.nm place ∧ ∀ q ∈ ex, ∃ h, hmV P q.1 = some h ∧ S h = false
end
section
variable {P : List Rw} {pl : List (Str × List Str)} {s s' : ShS} {X : Rel} {S : Nat → Bool}
end
end VL
namespace VL
open PySem PySem.Spec PyProof.Rows L2 RZ
/-! ### a doing where both stand alike -/
section
variable {P : List Rw} {pl : List (Str × List Str)} {s s' : ShS} {X : Rel} {S : Nat → Bool}
/-! what the other run does -/
end
end VL
namespace VL
open PySem PySem.Spec PyProof.Rows L2 RZ
/-! ### the steps side by side -/
section
variable {P : List Rw} {pl : List (Str × List Str)} {s s' : ShS} {X : Rel} {S : Nat → Bool}
/-- what is told of the end of a run beside the other -/
structure EndR (S : Nat → Bool) (k : Nat) (r : Rw) (a b b' : Mc) : Prop where
  ds : kept S a.ds = kept S b'.ds
  len : b'.ds.length ≤ a.ds.length
  inS : S k = true → b'.en = a.en
  done : (∃ o, r = .give o) → ∃ x, b'.en = some (doneD x)
  out : S k = false → (∀ o, r ≠ .give o) → b' = b
end
end VL
namespace VL
open PySem PySem.Spec PyProof.Rows L2 RZ
/-! ### within a call that is not of the set; silent rows; the whole run -/
section
variable {P : List Rw} {pl : List (Str × List Str)} {s s' : ShS} {X : Rel} {S : Nat → Bool}
/-- how the two runs end -/
structure FinR (P : List Rw) (S : Nat → Bool) (most : Nat) (mf b' : Mc) : Prop where
  ds : kept S mf.ds = kept S b'.ds
  len : b'.ds.length ≤ mf.ds.length
  /-- cut, or done, or in a fault -/
  how : (mf.en = some cutD ∧ mf.ds.length = most) ∨ ∃ (k : Nat) (ds0 : List D) (vs : List D) (v : D), mf.ds = ds0 ++ [doD k vs v] ∧ (S k = true → b'.en = mf.en) ∧ ((∃ w, mf.en = some (doneD w)) → ∃ x, b'.en = some (doneD x))
end
end VL
namespace VL
open PySem PySem.Spec PyProof.Rows L2 RZ
/-! ### runs of the rows left: as the program's own -/
section
variable {P : List Rw} {pl : List (Str × List Str)} {s s' : ShS} {X : Rel} {S : Nat → Bool}
theorem RunTo.done {Q : List Rw} {s : ShS} {most : Nat} {st : List (Str × Nat)} {m mf : Mc} (h : m.en ≠ none) (r : RunTo Q s most st m mf) : mf = m := by
  cases r with
  | stop _ => rfl
  | step e _ => exact absurd e h
/-! ### strict ties -/
structure StrictS (P : List Rw) (s : ShS) (S : Nat → Bool) : Prop where
  st : ∀ x y, S x = true → bareR (rowAt P x) = false → x < P.length → y < P.length → stopB P s y x = true → S y = true
  down : ∀ k n f ops, rowAt P k = .call n f ops → k < defI P f
end
end VL
namespace VL
open PySem PySem.Spec PyProof.Rows L2 RZ
/-! ### there is a least table -/
noncomputable def bitsP (p : Nat → Prop) : Nat := open Classical in (List.range 64).foldl (fun a b => if p b then a ||| 2 ^ b else a) 0
theorem bitsP_go (p : Nat → Prop) (j : Nat) : ∀ (l : List Nat) (a : Nat), (open Classical in (l.foldl (fun a b => if p b then a ||| 2 ^ b else a) a).testBit j = true) ↔ a.testBit j = true ∨ (j ∈ l ∧ p j)
  | [], a => by simp
  | b :: l, a => by
    classical
    rw [List.foldl_cons, bitsP_go p j l]
    by_cases c : p b
    · rw [if_pos c, Nat.testBit_or, Bool.or_eq_true, Nat.testBit_two_pow]
      simp only [decide_eq_true_eq, List.mem_cons]
      constructor
      · rintro ((h | h) | h)
        · exact .inl h
        · subst h; exact .inr ⟨.inl rfl, c⟩
        · exact .inr ⟨.inr h.1, h.2⟩
      · rintro (h | ⟨h | h, h2⟩)
        · exact .inl (.inl h)
        · exact .inl (.inr h.symm)
        · exact .inr ⟨h, h2⟩
    · rw [if_neg c]
      simp only [List.mem_cons]
      constructor
      · rintro (h | h)
        · exact .inl h
        · exact .inr ⟨.inr h.1, h.2⟩
      · rintro (h | ⟨h | h, h2⟩)
        · exact .inl h
        · subst h; exact absurd h2 c
        · exact .inr ⟨h, h2⟩
theorem bitsP_bit {p : Nat → Prop} {j : Nat} : (bitsP p).testBit j = true ↔ j < 64 ∧ p j := by
  unfold bitsP
  rw [bitsP_go]
  simp
theorem bitsP_lt (p : Nat → Prop) : bitsP p < 2 ^ 64 := Nat.lt_of_not_le fun h => by
  obtain ⟨i, h1, h2⟩ : ∃ i, 64 ≤ i ∧ (bitsP p).testBit i = true := Nat.exists_ge_and_testBit_of_ge_two_pow h
  have := (bitsP_bit.mp h2).1
  omega
/-- a table of keys -/
noncomputable def keyT (p : Nat → Str → Nat → Prop) (ks : List (Nat × Str)) : Tab := (dedup [] ks).filterMap fun k => if bitsP (p k.1 k.2) = 0 then none else some (k.1, k.2, bitsP (p k.1 k.2))
theorem keyT_ok (p : Nat → Str → Nat → Prop) (ks : List (Nat × Str)) : TabOk (keyT p ks) where
  nd := by
    have nd := dedup_nodup ks ([] : List (Nat × Str)) List.nodup_nil
    unfold tKeys keyT
    generalize dedup [] ks = l at nd
    induction l with
    | nil => simp
    | cons k l ih =>
      rw [List.nodup_cons] at nd
      rw [List.filterMap_cons]
      split
      · exact ih nd.2
      · rename_i x e
        split at e
        · cases e
        · cases e
          rw [List.map_cons, List.nodup_cons]
          refine ⟨fun hm => ?_, ih nd.2⟩
          obtain ⟨r, hr, e2⟩ := List.mem_map.mp hm
          obtain ⟨k', hk', e3⟩ := List.mem_filterMap.mp hr
          split at e3
          · cases e3
          · cases e3
            simp only [Prod.mk.injEq] at e2
            have : k' = k := Prod.ext e2.1 e2.2
            exact nd.1 (this ▸ hk')
  lt := fun r hr => by
    obtain ⟨k, _, e⟩ := List.mem_filterMap.mp hr
    split at e
    · cases e
    · cases e; exact bitsP_lt _
  nz := fun r hr => by
    obtain ⟨k, _, e⟩ := List.mem_filterMap.mp hr
    split at e
    · cases e
    · rename_i c; cases e; exact c
theorem keyT_of (p : Nat → Str → Nat → Prop) (ks : List (Nat × Str)) (h : Nat) (w : Str) (b : Nat) : (tOf (keyT p ks) h w).testBit b = true ↔ (h, w) ∈ ks ∧ b < 64 ∧ p h w b := by
  have hm : (h, w) ∈ ks ↔ (h, w) ∈ dedup [] ks := by rw [dedup_mem]; simp
  rw [hm]
  have nd := dedup_nodup ks ([] : List (Nat × Str)) List.nodup_nil
  unfold keyT tOf
  generalize dedup [] ks = l at nd
  induction l with
  | nil => simp [tGet]
  | cons k l ih =>
    rw [List.nodup_cons] at nd
    have ih := ih nd.2
    obtain ⟨a, c⟩ := k
    rw [List.filterMap_cons]
    by_cases z : bitsP (p a c) = 0
    · simp only [z, if_true]
      refine Iff.trans ih ?_
      constructor
      · rintro ⟨h1, h2⟩; exact ⟨List.mem_cons_of_mem _ h1, h2⟩
      · rintro ⟨h1, h2, h3⟩
        rcases List.mem_cons.mp h1 with e | h1
        · cases e
          have : (bitsP (p h w)).testBit b = true := bitsP_bit.mpr ⟨h2, h3⟩
          rw [z] at this; simp at this
        · exact ⟨h1, h2, h3⟩
    · simp only [z, if_false]
      rw [tGet]
      by_cases e : a = h ∧ c = w
      · obtain ⟨rfl, rfl⟩ := e
        rw [if_pos ⟨rfl, rfl⟩]
        simp only [Option.getD_some, bitsP_bit]
        simp
      · rw [if_neg e]
        refine Iff.trans ih ?_
        constructor
        · rintro ⟨h1, h2⟩; exact ⟨List.mem_cons_of_mem _ h1, h2⟩
        · rintro ⟨h1, h2⟩
          rcases List.mem_cons.mp h1 with q | h1
          · cases q; exact absurd ⟨rfl, rfl⟩ e
          · exact ⟨h1, h2⟩
def goalN : Flow → Option (Nat × Str)
  | (.name h n, _) => some (h, n)
  | _ => none
def goalC : Flow → List (Nat × Str)
  | (.cells _ _ c, _) => (List.range 64).map fun r => (r, c)
  | _ => []
theorem least_ex {fl : List Flow} (ok : ∀ f ∈ fl, ∀ j, f.2 = .row j → j < 64) : ∃ N C, Least fl N C := by
  let X : Rel := fun k h w b => b < 64 ∧ (k = false → (h, w) ∈ fl.filterMap goalN) ∧ (k = true → (h, w) ∈ fl.flatMap goalC)
  have hX : ClosedF fl X := fun f hf b hs k h w hg => by
    have b64 : b < 64 := by
      cases e : f.2 with
      | row j => rw [e] at hs; have : b = j := hs; rw [this]; exact ok f hf j e
      | name a n => rw [e] at hs; exact hs.1
      | cells a n c => rw [e] at hs; obtain ⟨r, _, h2⟩ := hs; exact h2.1
    obtain ⟨g, o⟩ := f
    cases g with
    | row j => exact hg.elim
    | name a n =>
      obtain ⟨rfl, rfl, rfl⟩ := hg
      exact ⟨b64, fun _ => List.mem_filterMap.mpr ⟨_, hf, rfl⟩, fun z => (by cases z)⟩
    | cells a n c =>
      obtain ⟨rfl, rfl, h3⟩ := hg
      exact ⟨b64, fun z => (by cases z), fun _ => List.mem_flatMap.mpr ⟨_, hf, List.mem_map.mpr ⟨h, List.mem_range.mpr h3.1, rfl⟩⟩⟩
  refine ⟨keyT (fun h w b => Has fl false h w b) (fl.filterMap goalN), keyT (fun h w b => Has fl true h w b) (fl.flatMap goalC), keyT_ok _ _, keyT_ok _ _, fun k h w b => ?_⟩
  cases k with
  | false =>
    show (tOf _ h w).testBit b = true ↔ _
    rw [keyT_of]
    exact ⟨fun q => q.2.2, fun q => ⟨(q X hX).2.1 rfl, (q X hX).1, q⟩⟩
  | true =>
    show (tOf _ h w).testBit b = true ↔ _
    rw [keyT_of]
    exact ⟨fun q => q.2.2, fun q => ⟨(q X hX).2.2 rfl, (q X hX).1, q⟩⟩
theorem flows_row {P : List Rw} {s : ShS} (hl : P.length ≤ 60) : ∀ f ∈ flowsP P s, ∀ j, f.2 = .row j → j < 64 := fun f hf j e => by
  unfold flowsP at hf
  obtain ⟨k, hk, hf⟩ := List.mem_flatMap.mp hf
  rw [List.mem_range] at hk
  unfold flowsAt at hf
  split at hf
  · rename_i h r _ _
    have : j = k := by
      cases r with
      | call n g ops =>
        rcases List.mem_append.mp hf with hf | hf
        · unfold argF at hf
          obtain ⟨⟨p, o⟩, _, e2⟩ := List.mem_filterMap.mp hf
          cases o <;> simp at e2
          subst e2; cases e
        · cases q : giveOf P s.ends (defI P g) with
          | inl i => rw [q] at hf; simp [givF] at hf
          | inr m => rw [q] at hf; simp [givF] at hf; subst hf; cases e
      | put n o => cases o <;> simp [rowF] at hf; subst hf; cases e
      | set o k' v => cases v <;> simp [rowF] at hf; subst hf; cases e
      | new n => simp [rowF] at hf; subst hf; simp at e; exact e.symm
      | get n o k' => simp [rowF] at hf; subst hf; cases e
      | _ => simp [rowF] at hf
    omega
  · cases hf
theorem Prg.least {P : List Rw} {pl : List (Str × List Str)} {s : ShS} (p : Prg P pl s) : Least (flowsP P s) (tabN P s) (tabC P s) := by
  obtain ⟨N, C, h⟩ := least_ex (flows_row (P := P) (s := s) p.t.len)
  exact tab_least h
/-- the table's relation -/
noncomputable abbrev XP (P : List Rw) (s : ShS) : Rel := XT (tabN P s) (tabC P s)
/-! ### what is closed by the net -/
section
variable {P : List Rw} {pl : List (Str × List Str)} {s : ShS} {S : Nat → Bool}
end
end VL
namespace VL
open PySem PySem.Spec PyProof.Rows L2 RZ
/-! ### the net of the rows left -/
section
variable {P : List Rw} {pl : List (Str × List Str)} {s s' : ShS} {X : Rel} {S : Nat → Bool}
theorem isDef_R (f : Str) (r : Rw) : isDef f (rwD r) = isDefR f r := by
  have no : ∀ (z : String) (rest : List D), z ≠ "def" → isDef f (.tup (.str (Str.ofString z) :: rest)) = false := fun z rest hz => by
    unfold isDef
    split
    · rename_i w m _ e
      simp only [D.tup.injEq, List.cons.injEq, D.str.injEq] at e
      have : (w == Str.ofString "def") = false := beq_eq_false_iff_ne.mpr fun q => hz (ofString_inj (by rw [e.1, q]))
      rw [this]; rfl
    · rfl
  cases r with
  | deff n ps =>
    show ((Str.ofString "def" == Str.ofString "def") && n == f) = decide (n = f)
    simp only [beq_self_eq_true, Bool.true_and]
    by_cases c : n = f <;> simp [c]
  | _ => exact no _ _ (by simp [rwW])
/-- calls go down -/
theorem down_of {P : List Rw} (h : ∀ k r, (P.map rwD)[k]? = some r → callOk (P.map rwD) k r) : ∀ k n f ops, rowAt P k = .call n f ops → k < defI P f := fun k n f ops e => by
  obtain ⟨hk, e1⟩ := rowAt_lt e (by simp)
  obtain ⟨w, ps, h1, _, h2⟩ := h k (rwD (.call n f ops)) (by rw [List.getElem?_map, e1]; rfl)
  have h1 : D.tup (.str (Str.ofString "call") :: [.str n, .str f, .tup (ops.map kD)]) = .tup (.str w :: ps) := h1
  injection h1 with h1
  injection h1 with h1a h1b
  injection h1a with h1a
  subst h1a; subst h1b
  obtain ⟨x, f', ops', qs, h3, j, m, ys, rs, h4, h5, h6, _⟩ := h2 rfl
  simp only [List.cons.injEq, D.str.injEq] at h3
  obtain ⟨_, rfl, _⟩ := h3
  unfold defOf at h4
  rw [List.findIdx?_map] at h4
  have : (isDef f ∘ rwD) = isDefR f := funext fun r => isDef_R f r
  rw [this, List.findIdx?_eq_some_iff_findIdx_eq] at h4
  have : defI P f = j := h4.2
  rw [this]
  rcases Nat.lt_or_ge k j with c | c
  · exact c
  · exfalso
    have : j = k := by omega
    subst this
    rw [List.getElem?_map, e1] at h6
    simp [rwD, rwL] at h6
end
end VL
namespace VL
open PySem PySem.Spec PyProof.Rows L2 RZ
/-! ### only, as a value -/
theorem dfl_map {A1 : Type} (f : A1 → D) (h : ∀ a, dflat (f a) = true) : ∀ l : List A1, dflats (l.map f) = true
  | [] => rfl
  | a :: l => by rw [List.map_cons]; simp [h a, dfl_map f h l]
theorem rwD_flat (r : Rw) : dflat (rwD r) = true := by
  have k0 : ∀ k : Key, dflat (kD k) = true := fun k => by cases k <;> rfl
  have s0 : ∀ l : List Str, dflats (l.map D.str) = true := dfl_map _ fun _ => rfl
  have k1 : ∀ l : List Key, dflats (l.map kD) = true := dfl_map _ k0
  cases r <;> simp [rwD, rwL, s0, k0, k1]
end VL
namespace VL
open PySem PySem.Spec PyProof.Rows L2 RZ
/-! ### heads of heads -/
inductive Anc (s : ShS) : Nat → Nat → Prop
  | one {k h : Nat} : s.heads[k]? = some (some h) → Anc s k h
  | up {k j h : Nat} : s.heads[k]? = some (some j) → Anc s j h → Anc s k h
theorem Anc.trans {s : ShS} {a b c : Nat} (h : Anc s a b) (h2 : Anc s b c) : Anc s a c := by
  induction h with
  | one h => exact .up h h2
  | up h _ ih => exact .up h (ih h2)
structure InvU (s : ShS) : Prop where
  nc : ∀ j ∈ s.stack, ∀ n, s.ends[j]? ≠ some (some n)
  up : ∀ x h n : Nat, s.heads[x]? = some (some h) → s.ends[h]? = some (some n) → x ≤ n
theorem invU_step {rows : List D} {k : Nat} {w : Str} {m m' : Mode} {s s' : ShS} (hk : k < rows.length) (hw : wA rows k = some w) (t : StepM k w m m') (I : Inv31 rows k m s) (B : InvB rows k m s) (J : InvN rows k s) (U : InvU s) (e : stepS k w s = some s') : InvU s' := by
  obtain ⟨a1, _, _⟩ := step_more e
  obtain ⟨b1, b2⟩ := step_ends e
  have c1 := step_heads e
  have lt : ∀ j ∈ s.stack, j < k := fun j hj => (B.sk j hj).1
  have hold : ∀ n, n ≠ k → s'.heads[n]? = s.heads[n]? := fun n hn => by
    rw [c1]
    split
    · exact List.getElem?_set_ne (Ne.symm hn)
    · rfl
  -- a new end is k
  have en : ∀ j n : Nat, s'.ends[j]? = some (some n) → (n = k ∧ (w = Str.ofString "give" ∨ w = Str.ofString "end") ∧ s.stack.getLast? = some j) ∨ s.ends[j]? = some (some n) := fun j n h => by
    by_cases c : w = Str.ofString "give" ∨ w = Str.ofString "end"
    · cases q : s.stack.getLast? with
      | none =>
        right
        have : s'.ends = s.ends := by
          unfold stepS at e
          have t1 : (defS k w (topS k s)).stack = s.stack := by
            have := topS_e k s
            have := defS_e k w (topS k s)
            simp_all
          cases q3 : elseS k w (defS k w (topS k s)) with
          | none => rw [q3] at e; cases e
          | some a =>
            rw [q3] at e
            have t3 := elseS_e q3
            simp only [Option.bind_some] at e
            unfold footS at e
            rw [if_pos c, t3.2, t1, q] at e
            cases e
        rw [this] at h; exact h
      | some x =>
        rw [b2 c x q] at h
        rcases set_some h with ⟨q1, q2⟩ | q'
        · exact .inl ⟨q2.symm, c, by rw [← q1]⟩
        · exact .inr q'
    · rw [b1 c] at h; exact .inr h
  refine ⟨fun j hj n h => ?_, fun x h n h1 h2 => ?_⟩
  · rw [a1] at hj
    rcases List.mem_append.mp hj with hj | hj
    · rcases en j n h with ⟨_, c, q⟩ | q
      · rw [if_pos c] at hj
        have hs := getLast_rev q
        have e5 : s.stack = s.stack.dropLast ++ [j] := by simpa using congrArg List.reverse hs
        have st := J.st
        rw [e5] at st
        have := (List.pairwise_append.mp st).2.2 j hj j (by simp)
        omega
      · refine U.nc j ?_ n q
        split at hj
        · exact List.dropLast_subset _ hj
        · exact hj
    · have ek : j = k := by
        split at hj
        · simpa using hj
        · cases hj
      subst ek
      rcases en j n h with ⟨_, _, q⟩ | q
      · have := lt j (List.mem_of_getLast? q); omega
      · have := (B.en _ _ q).2.1; omega
  · by_cases c : x = k
    · subst c
      rcases en h n h2 with ⟨rfl, _⟩ | q
      · exact Nat.le_refl _
      · exfalso
        rw [c1] at h1
        cases q2 : s.stack.getLast? with
        | none => rw [q2] at h1; have := (B.hd _ _ h1).2.1; omega
        | some y =>
          rw [q2] at h1
          rcases set_some h1 with ⟨_, q3⟩ | q3
          · subst q3; exact U.nc y (List.mem_of_getLast? q2) n q
          · have := (B.hd _ _ q3).2.1; omega
    · rw [hold x c] at h1
      have := (B.hd _ _ h1).2.1
      rcases en h n h2 with ⟨rfl, _⟩ | q
      · omega
      · exact U.up x h n h1 q
theorem run_invU {rs : List D} {m : Mode} (n : RunM rs m) : ∀ {rows rest : List D}, rows = rs ++ rest → ∃ s, runS 0 rs (.start rows.length) = some s ∧ Inv31 rows rs.length m s ∧ InvB rows rs.length m s ∧ InvN rows rs.length s ∧ InvU s := by
  induction n with
  | nil => exact fun {rows rest} e => ⟨_, rfl, inv_start rows, ⟨by simp [ShS.start], by simp [ShS.start, List.getElem?_replicate], by simp [ShS.start, List.getElem?_replicate], by simp [ShS.start, List.getElem?_replicate]⟩, ⟨by simp [ShS.start], by simp [ShS.start], by simp [ShS.start, List.getElem?_replicate]⟩, ⟨by simp [ShS.start], by simp [ShS.start, List.getElem?_replicate]⟩⟩
  | @snoc rs r w m m' h1 h2 h3 ih =>
    intro rows rest e
    obtain ⟨s, r1, I, J, E, U⟩ := ih (rows := rows) (rest := r :: rest) (by rw [e]; simp)
    have hl : rs.length < rows.length := by rw [e]; simp
    have hw : wA rows rs.length = some w := by unfold wA; rw [e]; simp [h2]
    obtain ⟨s', e1, I'⟩ := step_to hl hw h3 I
    refine ⟨s', ?_, ?_, ?_, ?_, ?_⟩
    · rw [runS_app rs r 0 _ s w r1 h2, Nat.zero_add]; exact e1
    · simpa using I'
    · simpa using invB_step hw h3 I J e1
    · simpa using invN_step hl hw h3 I J E e1
    · exact invU_step hl hw h3 I J E U e1
theorem Prg.under {P : List Rw} {pl : List (Str × List Str)} {s : ShS} (p : Prg P pl s) : InvU s := by
  obtain ⟨s', h1, _, _, _, h3⟩ := run_invU p.t.run.m (rows := P.map rwD) (rest := []) (by simp)
  have h2 := p.g.run
  simp only [List.length_map] at h1 h3
  rw [h2] at h1
  cases h1
  exact h3
section
variable {P : List Rw} {pl : List (Str × List Str)} {s : ShS}
end
end VL
namespace VL
open PySem PySem.Spec PyProof.Rows L2 RZ
/-! ### the sides of ifs and whiles -/
def isOp (r : Rw) : Prop := ∃ o, r = .iff o ∨ r = .whil o
section
variable {P : List Rw} {pl : List (Str × List Str)} {s : ShS}
theorem els_row (p : Prg P pl s) {h e : Nat} (q : s.elses[h]? = some (some e)) : rowAt P e = .els := by
  obtain ⟨_, w⟩ := p.pairs.e3 h e q
  have := (row_of_w w).2
  cases r : rowAt P e <;> rw [r] at this <;> simp [rwW] at this
theorem end_nop {w : Str} (h : opW w) : w ≠ Str.ofString "end" := fun z => by
  subst z
  rcases h with h | h | h <;> exact absurd (ofString_inj h) (by decide)
theorem hw_det {rows : List D} {k d a : Nat} (x : HW rows k d a) : ∀ {b : Nat}, HW rows k d b → a = b := by
  induction x with
  | @stop h w e o =>
    intro b y
    cases y with
    | stop => rfl
    | up e2 _ => rw [e] at e2; cases e2; exact absurd rfl (end_nop o)
    | same e2 n _ _ => rw [e] at e2; cases e2; exact absurd o n
  | @up j d h e a ih =>
    intro b y
    cases y with
    | stop e2 o => rw [e] at e2; cases e2; exact absurd rfl (end_nop o)
    | up _ y => exact ih y
    | down e2 o _ => rw [e] at e2; cases e2; exact absurd rfl (end_nop o)
    | same e2 _ n _ => rw [e] at e2; cases e2; exact absurd rfl n
  | @down j d h w e o a ih =>
    intro b y
    cases y with
    | up e2 _ => rw [e] at e2; cases e2; exact absurd rfl (end_nop o)
    | down _ _ y => exact ih y
    | same e2 n _ _ => rw [e] at e2; cases e2; exact absurd o n
  | @same j d h w e n n2 a ih =>
    intro b y
    cases y with
    | stop e2 o => rw [e] at e2; cases e2; exact absurd o n
    | up e2 _ => rw [e] at e2; cases e2; exact absurd rfl n2
    | down e2 o _ => rw [e] at e2; cases e2; exact absurd o n
    | same _ _ _ y => exact ih y
end
end VL
namespace VL
open PySem PySem.Spec PyProof.Rows L2 RZ
/-! ### programs bent: what is open ahead of each row -/
def plR : Rw → Bool
  | .deff _ _ => false | .give _ => false | .iff _ => false | .whil _ => false | .els => false | .endd => false
  | _ => true
inductive StepR : Nat → Rw → Mode → Mode → Prop
  | dfn {k : Nat} {n : Str} {ps : List Str} : StepR k (.deff n ps) none (some (k, []))
  | out {k : Nat} : StepR k .skip none none
  | ins {k d : Nat} {r : Rw} {st : List (Nat × String)} : plR r = true → StepR k r (some (d, st)) (some (d, st))
  | opi {k d : Nat} {o : Key} {st : List (Nat × String)} : StepR k (.iff o) (some (d, st)) (some (d, (k, "if") :: st))
  | opw {k d : Nat} {o : Key} {st : List (Nat × String)} : StepR k (.whil o) (some (d, st)) (some (d, (k, "while") :: st))
  | els {k d j : Nat} {st : List (Nat × String)} : StepR k .els (some (d, (j, "if") :: st)) (some (d, (j, "else") :: st))
  | cls {k d j : Nat} {z : String} {st : List (Nat × String)} : StepR k .endd (some (d, (j, z) :: st)) (some (d, st))
  | giv {k d : Nat} {o : Key} : StepR k (.give o) (some (d, [])) none
theorem plR_word {r : Rw} (h : plainW (Str.ofString (rwW r))) : plR r = true := by
  have e : ∀ {x y : String}, Str.ofString x = Str.ofString y → x = y := fun h => ofString_inj h
  cases r <;> first | rfl | (exfalso; unfold plainW opensW closesW at h; simp [rwW] at h)
theorem word_plR {r : Rw} (h : plR r = true) : plainW (Str.ofString (rwW r)) := by
  cases r <;> first | (cases h; done) | exact plain_of (by simp [rwW])
theorem stepR_of {k : Nat} {r : Rw} {m m' : Mode} (t : StepM k (Str.ofString (rwW r)) m m') (hs : m = none → m' = none → Str.ofString (rwW r) = Str.ofString "skip") : StepR k r m m' := by
  have e1 : ∀ {x y : String}, Str.ofString x = Str.ofString y → x = y := fun h => ofString_inj h
  generalize hw : Str.ofString (rwW r) = w at t hs
  cases t with
  | dfn =>
    have := e1 hw
    cases r <;> simp [rwW] at this
    exact .dfn
  | out h =>
    have := hs rfl rfl
    rw [this] at hw
    have := e1 hw
    cases r <;> simp [rwW] at this
    exact .out
  | ins h => exact .ins (plR_word (by rw [hw]; exact h))
  | opn h =>
    have := e1 hw
    rcases h with rfl | rfl
    · cases r <;> simp [rwW] at this
      exact .opi
    · cases r <;> simp [rwW] at this
      exact .opw
  | els =>
    have := e1 hw
    cases r <;> simp [rwW] at this
    exact .els
  | cls =>
    have := e1 hw
    cases r <;> simp [rwW] at this
    exact .cls
  | giv =>
    have := e1 hw
    cases r <;> simp [rwW] at this
    exact .giv
theorem stepM_of {k : Nat} {r : Rw} {m m' : Mode} (t : StepR k r m m') : StepM k (Str.ofString (rwW r)) m m' ∧ (m = none → m' = none → Str.ofString (rwW r) = Str.ofString "skip") := by
  cases t with
  | dfn => exact ⟨.dfn, fun _ h => by cases h⟩
  | out => exact ⟨.out (word_plR rfl), fun _ _ => rfl⟩
  | ins h => exact ⟨.ins (word_plR h), fun h => by cases h⟩
  | opi => exact ⟨.opn (.inl rfl), fun h => by cases h⟩
  | opw => exact ⟨.opn (.inr rfl), fun h => by cases h⟩
  | els => exact ⟨.els, fun h => by cases h⟩
  | cls => exact ⟨.cls, fun h => by cases h⟩
  | giv => exact ⟨.giv, fun h => by cases h⟩
structure Cert (P : List Rw) (f : Nat → Mode) : Prop where
  z : f 0 = none
  e : f P.length = none
  st : ∀ k, k < P.length → StepR k (rowAt P k) (f k) (f (k + 1))
theorem cert_pre : ∀ {rs : List D} {m : Mode}, RunO rs m → ∀ {P : List Rw}, rs = P.map rwD → ∃ f : Nat → Mode, f 0 = none ∧ f P.length = m ∧ ∀ k, k < P.length → StepR k (rowAt P k) (f k) (f (k + 1)) := by
  intro rs m n
  induction n with
  | nil =>
    intro P e
    have : P = [] := by cases P with | nil => rfl | cons x xs => cases e
    subst this
    exact ⟨fun _ => none, rfl, rfl, fun k hk => by simp at hk⟩
  | @snoc rs r w m m' h1 h2 h3 h4 ih =>
    intro P e
    rcases List.eq_nil_or_concat P with e2 | ⟨Q, x, e2⟩
    · rw [e2] at e; simp at e
    · rw [List.concat_eq_append] at e2
      subst e2
      rw [List.map_append] at e
      obtain ⟨ea, eb⟩ := List.append_inj' e rfl
      have eb : r = rwD x := by simpa using eb
      subst ea eb
      obtain ⟨f, f0, f1, f2⟩ := ih rfl
      have ew : w = Str.ofString (rwW x) := by
        have : wordR (rwD x) = some (Str.ofString (rwW x)) := rfl
        rw [this] at h2
        exact (Option.some.inj h2).symm
      subst ew
      refine ⟨fun k => if k ≤ Q.length then f k else m', by simp [f0], if_neg (by simp), fun k hk => ?_⟩
      simp at hk
      by_cases c : k < Q.length
      · have r1 : rowAt (Q ++ [x]) k = rowAt Q k := by unfold rowAt; rw [List.getElem?_append_left c]
        rw [r1]
        simp only
        rw [if_pos (by omega), if_pos (by omega)]
        exact f2 k c
      · have : k = Q.length := by omega
        subst this
        have r1 : rowAt (Q ++ [x]) Q.length = x := by unfold rowAt; rw [List.getElem?_append_right (Nat.le_refl _)]; simp
        rw [r1]
        simp only
        rw [if_pos (Nat.le_refl _), if_neg (by omega), f1]
        have := stepR_of h3 h4
        simpa using this
theorem cert_of {P : List Rw} (h : RunO (P.map rwD) none) : ∃ f, Cert P f := by
  obtain ⟨f, a, b, c⟩ := cert_pre h rfl
  exact ⟨f, a, b, c⟩
theorem run_of {P : List Rw} {f : Nat → Mode} (c : Cert P f) : RunO (P.map rwD) none := by
  have h : ∀ k, k ≤ P.length → RunO ((P.take k).map rwD) (f k) := fun k => by
    induction k with
    | zero => intro _; rw [c.z]; exact .nil
    | succ k ih =>
      intro hk
      have h1 := ih (by omega)
      obtain ⟨h2, h3⟩ := stepM_of (c.st k (by omega))
      have e : P.take (k + 1) = P.take k ++ [rowAt P k] := by
        rw [List.take_add_one, rowAt_get (show k < P.length by omega)]
        rfl
      rw [e, List.map_append]
      have hl : ((P.take k).map rwD).length = k := by simp; omega
      exact .snoc (w := Str.ofString (rwW (rowAt P k))) h1 rfl (by rw [hl]; exact h2) h3
  have := h P.length (Nat.le_refl _)
  rw [List.take_length, c.e] at this
  exact this
/-! the order of what is open -/
def OrdM (k : Nat) : Mode → Prop
  | none => True
  | some (d, st) => d < k ∧ (st.map (·.1)).Pairwise (fun a b => b < a) ∧ ∀ x ∈ st, x.1 < k ∧ d < x.1
theorem ord_step {k : Nat} {r : Rw} {m m' : Mode} (t : StepR k r m m') (h : OrdM k m) : OrdM (k + 1) m' := by
  have mono : ∀ {m : Mode}, OrdM k m → OrdM (k + 1) m := fun {m} h => by
    cases m with
    | none => trivial
    | some p =>
      obtain ⟨d, st⟩ := p
      exact ⟨by have := h.1; omega, h.2.1, fun x hx => by have := h.2.2 x hx; omega⟩
  have push : ∀ {d : Nat} {st : List (Nat × String)} {z : String}, OrdM k (some (d, st)) → OrdM (k + 1) (some (d, (k, z) :: st)) := fun {d st z} h => by
    refine ⟨by have := h.1; omega, ?_, fun x hx => ?_⟩
    · rw [List.map_cons, List.pairwise_cons]
      refine ⟨fun a ha => ?_, h.2.1⟩
      obtain ⟨x, hx, rfl⟩ := List.mem_map.mp ha
      exact (h.2.2 x hx).1
    · rcases List.mem_cons.mp hx with rfl | hx
      · exact ⟨Nat.lt_succ_self _, h.1⟩
      · have := h.2.2 x hx; omega
  cases t with
  | dfn => exact ⟨Nat.lt_succ_self _, by simp, fun x hx => by cases hx⟩
  | out => trivial
  | ins _ => exact mono h
  | opi => exact push h
  | opw => exact push h
  | els =>
    have := mono h
    exact ⟨this.1, this.2.1, fun x hx => by
      rcases List.mem_cons.mp hx with rfl | hx
      · exact this.2.2 (_, "if") List.mem_cons_self
      · exact this.2.2 x (List.mem_cons_of_mem _ hx)⟩
  | cls =>
    have := mono h
    refine ⟨this.1, ?_, fun x hx => this.2.2 x (List.mem_cons_of_mem _ hx)⟩
    have h2 := this.2.1
    rw [List.map_cons, List.pairwise_cons] at h2
    exact h2.2
  | giv => trivial
theorem Cert.ord {P : List Rw} {f : Nat → Mode} (c : Cert P f) : ∀ k, k ≤ P.length → OrdM k (f k) := fun k => by
  induction k with
  | zero => intro _; rw [c.z]; trivial
  | succ k ih => exact fun hk => ord_step (c.st k (by omega)) (ih (by omega))
/-- the head, by what is open -/
def hdF : Mode → Option Nat
  | none => none
  | some (d, []) => some d
  | some (_, (j, _) :: _) => some j
def lsF : Mode → List Nat
  | none => []
  | some (d, st) => st.map (·.1) ++ [d]
theorem hw_step {P : List Rw} {k : Nat} (hk : k < P.length) {m m' : Mode} (t : StepR k (rowAt P k) m m') (hne : m ≠ none → 0 < k) (h : ∀ i j, (lsF m)[i]? = some j → HW (P.map rwD) (k - 1) i j) : ∀ i j, (lsF m')[i]? = some j → HW (P.map rwD) k i j := by
  have hw := wA_row hk (r := rowAt P k) rfl
  have ne : ∀ {z : String}, z ≠ "if" → z ≠ "while" → z ≠ "def" → ¬ opW (Str.ofString z) := fun {z} z1 z2 z3 q => by
    rcases q with q | q | q
    · exact z1 (ofString_inj q)
    · exact z2 (ofString_inj q)
    · exact z3 (ofString_inj q)
  have same : ∀ {z : String} {i j : Nat}, 0 < k → wA (P.map rwD) k = some (Str.ofString z) → z ≠ "if" → z ≠ "while" → z ≠ "def" → z ≠ "end" → HW (P.map rwD) (k - 1) i j → HW (P.map rwD) k i j := fun {z i j} h0 e z1 z2 z3 z4 a => by
    obtain ⟨k', rfl⟩ := Nat.exists_eq_succ_of_ne_zero (show k ≠ 0 by omega)
    exact .same e (ne z1 z2 z3) (fun q => z4 (ofString_inj q)) a
  have down : ∀ {z : String} {i j : Nat}, 0 < k → wA (P.map rwD) k = some (Str.ofString z) → opW (Str.ofString z) → HW (P.map rwD) (k - 1) i j → HW (P.map rwD) k (i + 1) j := fun {z i j} h0 e z1 a => by
    obtain ⟨k', rfl⟩ := Nat.exists_eq_succ_of_ne_zero (show k ≠ 0 by omega)
    exact .down e z1 a
  have up : ∀ {i j : Nat}, 0 < k → wA (P.map rwD) k = some (Str.ofString "end") → HW (P.map rwD) (k - 1) (i + 1) j → HW (P.map rwD) k i j := fun {i j} h0 e a => by
    obtain ⟨k', rfl⟩ := Nat.exists_eq_succ_of_ne_zero (show k ≠ 0 by omega)
    exact .up e a
  generalize er : rowAt P k = r at t hw
  cases t with
  | dfn =>
    intro i j e
    cases i with
    | zero => simp [lsF] at e; subst e; exact .stop hw (.inr (.inr rfl))
    | succ i => simp [lsF] at e
  | out => intro i j e; simp [lsF] at e
  | ins hp =>
    intro i j e
    have h0 := hne (by simp)
    refine same h0 hw ?_ ?_ ?_ ?_ (h i j e) <;> (cases r <;> simp [plR] at hp <;> simp [rwW])
  | opi =>
    intro i j e
    have h0 := hne (by simp)
    cases i with
    | zero => simp [lsF] at e; subst e; exact .stop hw (.inl rfl)
    | succ i => exact down h0 hw (.inl rfl) (h i j (by simpa [lsF] using e))
  | opw =>
    intro i j e
    have h0 := hne (by simp)
    cases i with
    | zero => simp [lsF] at e; subst e; exact .stop hw (.inr (.inl rfl))
    | succ i => exact down h0 hw (.inr (.inl rfl)) (h i j (by simpa [lsF] using e))
  | els =>
    intro i j e
    exact same (hne (by simp)) hw (by simp [rwW]) (by simp [rwW]) (by simp [rwW]) (by simp [rwW]) (h i j e)
  | cls =>
    intro i j e
    exact up (hne (by simp)) hw (h (i + 1) j (by simpa [lsF] using e))
  | giv => intro i j e; simp [lsF] at e
theorem Cert.hw {P : List Rw} {f : Nat → Mode} (c : Cert P f) : ∀ k, k ≤ P.length → ∀ i j, (lsF (f k))[i]? = some j → HW (P.map rwD) (k - 1) i j := fun k => by
  induction k with
  | zero => intro _ i j e; rw [c.z] at e; simp [lsF] at e
  | succ k ih =>
    intro hk
    refine hw_step (by omega) (c.st k (by omega)) (fun hn => ?_) (ih (by omega))
    cases k with
    | zero => exact absurd c.z hn
    | succ k => omega
theorem hd_ls (m : Mode) : hdF m = (lsF m)[0]? := by
  cases m with
  | none => rfl
  | some p =>
    obtain ⟨d, st⟩ := p
    cases st with
    | nil => rfl
    | cons x xs => rfl
theorem Cert.home {P : List Rw} {f : Nat → Mode} (c : Cert P f) : ∀ k, k ≤ P.length → homeS (P.map rwD) k = (f k).map (·.1) := fun k => by
  induction k with
  | zero => intro _; rw [c.z]; rfl
  | succ k ih =>
    intro hk
    have ih := ih (by omega)
    have t := c.st k (by omega)
    have hw := wA_row (show k < P.length by omega) (r := rowAt P k) rfl
    rw [homeS, hw]
    have e : ∀ z y : String, (some (Str.ofString z) = some (Str.ofString y)) = (z = y) := fun z y => by simp
    simp only [e]
    generalize rowAt P k = r at t
    generalize f k = m at t ih
    generalize f (k + 1) = m' at t
    cases t with
    | dfn => rfl
    | out => simpa [rwW] using ih
    | ins hp => cases r <;> simp [plR] at hp <;> simpa [rwW] using ih
    | opi => simpa [rwW] using ih
    | opw => simpa [rwW] using ih
    | els => simpa [rwW] using ih
    | cls => simpa [rwW] using ih
    | giv => rfl
section
variable {P : List Rw} {pl : List (Str × List Str)} {s : ShS}
/-- heads, by what is open -/
theorem Cert.hd {f : Nat → Mode} (c : Cert P f) (p : Prg P pl s) {k : Nat} (hk : k < P.length) : s.heads[k]? = some (hdF (f k)) := by
  rw [hd_ls]
  rcases p.heads.hd k hk with ⟨z, w⟩ | ⟨h, z1, z2, z3, z4, z5, _⟩
  · rw [z]
    have t := c.st k hk
    have hw := wA_row hk (r := rowAt P k) rfl
    cases e : f k with
    | none => rfl
    | some q =>
      exfalso
      rw [e] at t
      rcases w with w | w
      · rw [hw] at w
        generalize rowAt P k = r at t w
        generalize f (k + 1) = m' at t
        cases t with
        | ins hp => cases r <;> simp [plR] at hp <;> simp [rwW] at w
        | opi => simp [rwW] at w
        | opw => simp [rwW] at w
        | els => simp [rwW] at w
        | cls => simp [rwW] at w
        | giv => simp [rwW] at w
      · unfold homeV at w
        split at w
        · cases w
        · rw [c.home k (by omega), e] at w
          cases w
  · rw [z1]
    have hh : homeS (P.map rwD) k ≠ none := by
      unfold homeV at z5
      rw [if_neg z4] at z5
      exact z5
    rw [c.home k (by omega)] at hh
    cases e : f k with
    | none => rw [e] at hh; exact absurd rfl hh
    | some q =>
      cases e2 : (lsF (some q))[0]? with
      | none =>
        obtain ⟨d, st⟩ := q
        cases st <;> simp [lsF] at e2
      | some j =>
        have := c.hw k (by omega) 0 j (by rw [e]; exact e2)
        rw [hw_det z3 this]
/-- the top of what is open -/
theorem Cert.top {f : Nat → Mode} (c : Cert P f) (p : Prg P pl s) {k h : Nat} (hk : k < P.length) (hh : isOp (rowAt P h)) (e : s.heads[k]? = some (some h)) : ∃ d z st, f k = some (d, (h, z) :: st) := by
  rw [c.hd p hk] at e
  have e := Option.some.inj e
  cases q : f k with
  | none => rw [q] at e; cases e
  | some x =>
    obtain ⟨d, st⟩ := x
    rw [q] at e
    cases st with
    | nil =>
      have e : d = h := Option.some.inj e
      subst e
      exfalso
      obtain ⟨n, ps, er⟩ : ∃ n ps, rowAt P d = .deff n ps := by
        have := c.home k (by omega)
        rw [q] at this
        have := (dS_def (show homeS (P.map rwD) k = some d from this)).1
        exact isDef_of (row_of_w this).2
      rw [er] at hh
      obtain ⟨o, hh⟩ := hh
      rcases hh with hh | hh <;> cases hh
    | cons y st =>
      obtain ⟨j, z⟩ := y
      have e : j = h := Option.some.inj e
      subst e
      exact ⟨d, z, st, rfl⟩
end
end VL
namespace VL
open PySem PySem.Spec PyProof.Rows L2 RZ
/-! ### programs bent: their certificates -/
abbrev TopF (m : Mode) (h : Nat) : Prop := ∃ d z st, m = some (d, (h, z) :: st)
/-- h is open no more -/
def rmM (h : Nat) : Mode → Mode
  | none => none
  | some (d, st) => some (d, st.filter fun x => decide (x.1 ≠ h))
theorem rm_id {h : Nat} {st : List (Nat × String)} (e : ∀ x ∈ st, x.1 ≠ h) : st.filter (fun x => decide (x.1 ≠ h)) = st := by
  rw [List.filter_eq_self]
  intro x hx
  exact decide_eq_true (e x hx)
theorem below {k h d : Nat} {z : String} {st : List (Nat × String)} (o : OrdM k (some (d, (h, z) :: st))) : ∀ x ∈ st, x.1 < h := fun x hx => by
  have := o.2.1
  rw [List.map_cons, List.pairwise_cons] at this
  exact this.1 _ (List.mem_map.mpr ⟨x, hx, rfl⟩)
theorem rm_top {k h d : Nat} {z : String} {st : List (Nat × String)} (o : OrdM k (some (d, (h, z) :: st))) : rmM h (some (d, (h, z) :: st)) = some (d, st) := by
  show some (d, ((h, z) :: st).filter fun x => decide (x.1 ≠ h)) = _
  rw [List.filter_cons_of_neg (by simp), rm_id fun x hx => by have := below o x hx; omega]
theorem rm_step {k h : Nat} {r : Rw} {m m' : Mode} (t : StepR k r m m') (hk : k ≠ h) (ok : r = .els ∨ r = .endd → ¬ TopF m h) : StepR k r (rmM h m) (rmM h m') := by
  cases t with
  | dfn => exact .dfn
  | out => exact .out
  | ins q => exact .ins q
  | opi =>
    show StepR k _ _ (some (_, List.filter _ (_ :: _)))
    rw [List.filter_cons_of_pos (by simpa using hk)]
    exact .opi
  | opw =>
    show StepR k _ _ (some (_, List.filter _ (_ :: _)))
    rw [List.filter_cons_of_pos (by simpa using hk)]
    exact .opw
  | @els d j st =>
    have hj : j ≠ h := fun z => ok (.inl rfl) ⟨_, _, _, by rw [z]⟩
    show StepR k _ (some (_, List.filter _ (_ :: _))) (some (_, List.filter _ (_ :: _)))
    rw [List.filter_cons_of_pos (by simpa using hj), List.filter_cons_of_pos (by simpa using hj)]
    exact .els
  | @cls d j z st =>
    have hj : j ≠ h := fun z => ok (.inr rfl) ⟨_, _, _, by rw [z]⟩
    show StepR k _ (some (_, List.filter _ (_ :: _))) _
    rw [List.filter_cons_of_pos (by simpa using hj)]
    exact .cls
  | giv => exact .giv
theorem rmv_cert {P P' : List Rw} {f : Nat → Mode} (c : Cert P f) {h a n : Nat} (hl : P'.length = P.length) (ha : h ≤ a) (han : a < n) (hn : n < P.length)
    (same : ∀ k, (k < a ∨ n < k) → rowAt P' k = rowAt P k)
    (at_a : (rowAt P' a = .skip ∧ a = h ∧ isOp (rowAt P h)) ∨ (rowAt P a = .skip ∧ rowAt P' a = .endd ∧ TopF (f a) h))
    (at_n : rowAt P' n = .skip ∧ TopF (f n) h ∧ rowAt P n = .endd)
    (mid : ∀ k, a < k → k < n → (rowAt P' k = rowAt P k ∧ (rowAt P k = .els ∨ rowAt P k = .endd → ¬ TopF (f k) h)) ∨ (rowAt P k = .els ∧ rowAt P' k = .skip ∧ TopF (f k) h)) :
    Cert P' (fun k => if a < k ∧ k ≤ n then rmM h (f k) else f k) where
  z := by show (if a < 0 ∧ 0 ≤ n then rmM h (f 0) else f 0) = none; rw [if_neg (by omega)]; exact c.z
  e := by show (if a < P'.length ∧ P'.length ≤ n then rmM h (f P'.length) else f P'.length) = none; rw [if_neg (by omega), hl]; exact c.e
  st := fun k hk => by
    rw [hl] at hk
    have t := c.st k hk
    have o := c.ord k (by omega)
    have o' := c.ord (k + 1) (by omega)
    show StepR k _ (if a < k ∧ k ≤ n then rmM h (f k) else f k) (if a < k + 1 ∧ k + 1 ≤ n then rmM h (f (k + 1)) else f (k + 1))
    rcases Nat.lt_trichotomy k a with q | q | q
    · rw [if_neg (by omega), if_neg (by omega), same k (.inl q)]
      exact t
    · subst q
      rw [if_neg (by omega), if_pos (by omega)]
      rcases at_a with ⟨a1, rfl, x, a2⟩ | ⟨a1, a2, d, z, st, a3⟩
      · rw [a1]
        rcases a2 with a2 | a2
        · rw [a2] at t
          generalize f (k + 1) = m' at t o'
          generalize f k = m at t
          cases t with
          | ins q => cases q
          | opi => rw [rm_top o']; exact .ins rfl
        · rw [a2] at t
          generalize f (k + 1) = m' at t o'
          generalize f k = m at t
          cases t with
          | ins q => cases q
          | opw => rw [rm_top o']; exact .ins rfl
      · rw [a1, a3] at t
        rw [a2, a3]
        generalize f (k + 1) = m' at t o'
        cases t with
        | ins q => rw [rm_top o']; exact .cls
    · rcases Nat.lt_trichotomy k n with q2 | q2 | q2
      · rw [if_pos (by omega), if_pos (by omega)]
        rcases mid k q q2 with ⟨b1, b2⟩ | ⟨b1, b2, d, z, st, b3⟩
        · rw [b1]
          exact rm_step t (by omega) b2
        · rw [b1, b3] at t
          rw [b2, b3]
          rw [b3] at o
          generalize f (k + 1) = m' at t o'
          cases t with
          | ins q => cases q
          | els => rw [rm_top o, rm_top o']; exact .ins rfl
      · subst q2
        obtain ⟨n1, ⟨d, z, st, n2⟩, n3⟩ := at_n
        rw [if_pos (by omega), if_neg (by omega), n1]
        rw [n3, n2] at t
        rw [n2] at o
        rw [n2, rm_top o]
        generalize f (k + 1) = m' at t
        cases t with
        | ins q => cases q
        | cls => exact .ins rfl
      · rw [if_neg (by omega), if_neg (by omega), same k (.inr q2)]
        exact t
/-- the tag of h -/
def tgM (h : Nat) (z : String) : Mode → Mode
  | none => none
  | some (d, st) => some (d, st.map fun x => if x.1 = h then (x.1, z) else x)
theorem tg_id {h : Nat} {z : String} {st : List (Nat × String)} (e : ∀ x ∈ st, x.1 ≠ h) : (st.map fun x => if x.1 = h then (x.1, z) else x) = st := by
  have : st.map (fun x => if x.1 = h then (x.1, z) else x) = st.map id := List.map_congr_left fun x hx => by rw [if_neg (e x hx)]; rfl
  rw [this, List.map_id]
theorem tg_top {k h d : Nat} {z y : String} {st : List (Nat × String)} (o : OrdM k (some (d, (h, z) :: st))) : tgM h y (some (d, (h, z) :: st)) = some (d, (h, y) :: st) := by
  show some (d, ((h, z) :: st).map fun x => if x.1 = h then (x.1, y) else x) = _
  rw [List.map_cons, tg_id fun x hx => by have := below o x hx; omega]
  simp
theorem tg_step {k h : Nat} {z : String} {r : Rw} {m m' : Mode} (t : StepR k r m m') (hi : k = h → z = "if" ∧ ∃ o, r = .iff o) (ok : r = .els → ¬ TopF m h) : StepR k r (tgM h z m) (tgM h z m') := by
  cases t with
  | dfn => exact .dfn
  | out => exact .out
  | ins q => exact .ins q
  | opi =>
    show StepR k _ _ (some (_, List.map _ (_ :: _)))
    rw [List.map_cons]
    by_cases c : k = h
    · rw [if_pos c, (hi c).1]; exact .opi
    · rw [if_neg c]; exact .opi
  | opw =>
    show StepR k _ _ (some (_, List.map _ (_ :: _)))
    rw [List.map_cons]
    by_cases c : k = h
    · obtain ⟨_, o, e⟩ := hi c
      cases e
    · rw [if_neg c]; exact .opw
  | @els d j st =>
    have hj : j ≠ h := fun z => ok rfl ⟨_, _, _, by rw [z]⟩
    show StepR k _ (some (_, List.map _ (_ :: _))) (some (_, List.map _ (_ :: _)))
    rw [List.map_cons, List.map_cons, if_neg hj, if_neg hj]
    exact .els
  | @cls d j y st =>
    show StepR k _ (some (_, List.map _ (_ :: _))) _
    rw [List.map_cons]
    by_cases c : j = h
    · rw [if_pos c]; exact .cls
    · rw [if_neg c]; exact .cls
  | giv => exact .giv
theorem tag_cert {P P' : List Rw} {f : Nat → Mode} (c : Cert P f) {h p : Nat} (hl : P'.length = P.length) (hp : h < p) (hh : ∃ o, rowAt P h = .iff o)
    (at_p : p < P.length → rowAt P p = .skip ∧ rowAt P' p = .els ∧ TopF (f p) h)
    (oth : ∀ k, k < P.length → k ≠ p → (rowAt P' k = rowAt P k ∧ (rowAt P k = .els → ¬ TopF (f k) h)) ∨ (rowAt P k = .els ∧ rowAt P' k = .skip ∧ TopF (f k) h)) :
    Cert P' (fun k => tgM h (if p < k then "else" else "if") (f k)) where
  z := by show tgM h _ (f 0) = none; rw [c.z]; rfl
  e := by show tgM h _ (f P'.length) = none; rw [hl, c.e]; rfl
  st := fun k hk => by
    rw [hl] at hk
    have t := c.st k hk
    have o := c.ord k (by omega)
    have o' := c.ord (k + 1) (by omega)
    show StepR k _ (tgM h (if p < k then "else" else "if") (f k)) (tgM h (if p < k + 1 then "else" else "if") (f (k + 1)))
    by_cases q : k = p
    · subst q
      obtain ⟨a1, a2, d, z, st, a3⟩ := at_p hk
      rw [if_neg (Nat.lt_irrefl _), if_pos (Nat.lt_succ_self _), a2]
      rw [a1, a3] at t
      rw [a3] at o
      rw [a3, tg_top o]
      generalize f (k + 1) = m' at t o'
      cases t with
      | ins q => rw [tg_top o']; exact .els
    · have e : (p < k + 1) = (p < k) := by apply propext; omega
      simp only [e]
      rcases oth k hk q with ⟨b1, b2⟩ | ⟨b1, b2, d, z, st, b3⟩
      · rw [b1]
        refine tg_step t (fun z => ?_) b2
        subst z
        exact ⟨if_neg (by omega), hh⟩
      · rw [b1, b3] at t
        rw [b3] at o
        rw [b2, b3, tg_top o]
        generalize f (k + 1) = m' at t o'
        cases t with
        | ins q => cases q
        | els => rw [tg_top o']; exact .ins rfl
/-- rows of the same kind -/
def likeR : Rw → Rw → Prop
  | .deff _ _, .deff _ _ => True
  | .give _, .give _ => True
  | .iff _, .iff _ => True
  | .whil _, .whil _ => True
  | r, r' => plR r = true ∧ plR r' = true
theorem cls_cert {P P' : List Rw} {f : Nat → Mode} (c : Cert P f) (hl : P'.length = P.length) (h : ∀ k, k < P.length → rowAt P' k = rowAt P k ∨ (likeR (rowAt P k) (rowAt P' k) ∧ (f k ≠ none ∨ ∃ n ps, rowAt P k = .deff n ps))) : Cert P' f where
  z := c.z
  e := by rw [hl]; exact c.e
  st := fun k hk => by
    rw [hl] at hk
    have t := c.st k hk
    rcases h k hk with e | ⟨e, hf⟩
    · rw [e]; exact t
    · generalize rowAt P k = r at t e hf
      generalize rowAt P' k = r' at e
      generalize f k = m at t hf
      generalize f (k + 1) = m' at t
      cases t with
      | dfn => cases r' <;> first | exact .dfn | exact e.elim | (have := e.1; simp [plR] at this)
      | out =>
        rcases hf with hf | ⟨n, ps, hf⟩
        · exact absurd rfl hf
        · cases hf
      | ins q =>
        cases r <;> simp [plR] at q <;> exact .ins e.2
      | opi => cases r' <;> first | exact .opi | exact e.elim | (have := e.1; simp [plR] at this)
      | opw => cases r' <;> first | exact .opw | exact e.elim | (have := e.1; simp [plR] at this)
      | els => have := e.1; simp [plR] at this
      | cls => have := e.1; simp [plR] at this
      | giv => cases r' <;> first | exact .giv | exact e.elim | (have := e.1; simp [plR] at this)
/-- skips in the place of all rows ahead -/
theorem pre_cert {P P' : List Rw} {f : Nat → Mode} (c : Cert P f) {b : Nat} (hl : P'.length = P.length) (hb : f b = none) (h1 : ∀ k, k < b → rowAt P' k = .skip) (h2 : ∀ k, b ≤ k → rowAt P' k = rowAt P k) : Cert P' (fun k => if k ≤ b then none else f k) where
  z := by simp
  e := by
    show (if P'.length ≤ b then none else f P'.length) = none
    split
    · rfl
    · rw [hl]; exact c.e
  st := fun k hk => by
    rw [hl] at hk
    have t := c.st k hk
    show StepR k _ (if k ≤ b then none else f k) (if k + 1 ≤ b then none else f (k + 1))
    rcases Nat.lt_trichotomy k b with q | q | q
    · rw [if_pos (by omega), if_pos (by omega), h1 k q]; exact .out
    · subst q
      rw [if_pos (Nat.le_refl _), if_neg (by omega), h2 k (Nat.le_refl _)]
      rw [hb] at t
      exact t
    · rw [if_neg (by omega), if_neg (by omega), h2 k (by omega)]
      exact t
def shfM : Mode → Mode
  | none => none
  | some (d, st) => some (d + 1, st.map fun x => (x.1 + 1, x.2))
theorem sh_step {k : Nat} {r : Rw} {m m' : Mode} (t : StepR k r m m') : StepR (k + 1) r (shfM m) (shfM m') := by
  cases t with
  | dfn => exact .dfn
  | out => exact .out
  | ins q => exact .ins q
  | opi => exact .opi
  | opw => exact .opw
  | els => exact .els
  | cls => exact .cls
  | giv => exact .giv
/-- a row later -/
theorem sh_cert {P P' : List Rw} {f : Nat → Mode} (c : Cert P f) {n : Nat} (hn : P.length = n + 1) (hl : P'.length = P.length) (hs : rowAt P n = .skip) (h0 : rowAt P' 0 = .skip) (h1 : ∀ k, k < n → rowAt P' (k + 1) = rowAt P k) : Cert P' (fun k => match k with | 0 => none | k + 1 => shfM (f k)) where
  z := rfl
  e := by
    rw [hl, hn]
    show shfM (f n) = none
    have t := c.st n (by omega)
    rw [hs, ← hn, c.e] at t
    generalize f n = m at t
    cases t with
    | out => rfl
  st := fun k hk => by
    rw [hl] at hk
    cases k with
    | zero =>
      rw [h0]
      show StepR 0 _ none (shfM (f 0))
      rw [c.z]; exact .out
    | succ k =>
      rw [h1 k (by omega)]
      exact sh_step (c.st k (by omega))
end VL
namespace VL
open PySem PySem.Spec PyProof.Rows L2 RZ
/-! ### programs bent: they are programs -/
theorem rowAt_set (P : List Rw) (i k : Nat) (r : Rw) : rowAt (P.set i r) k = if i = k ∧ i < P.length then r else rowAt P k := by
  unfold rowAt
  by_cases c : i = k
  · subst c
    by_cases h : i < P.length
    · rw [if_pos ⟨rfl, h⟩, List.getElem?_set_self h]; rfl
    · rw [if_neg (by simp [h]), List.getElem?_eq_none (by simpa using h), List.getElem?_eq_none (by simpa using h)]
  · rw [if_neg (by simp [c]), List.getElem?_set_ne c]
def sigR : Rw → Option (Str × Nat)
  | .deff n ps => some (n, ps.length)
  | _ => none
def plR1 : Rw → Option (Str × List Str)
  | .deff n ps => some (n, ps)
  | _ => none
def plOf (P : List Rw) : List (Str × List Str) := P.filterMap plR1
theorem defs_of : ∀ P : List Rw, (P.map rwD).filterMap defD = (plOf P).map fun p => (p.1, p.2.map D.str)
  | [] => rfl
  | r :: P => by
    have ih := defs_of P
    rw [List.map_cons]
    unfold plOf at ih ⊢
    have hd : defD (rwD r) = (plR1 r).map fun p => (p.1, p.2.map D.str) := by
      cases r <;> first | rfl | (simp [rwD, rwL, defD, plR1]; done) | (rename_i n o; cases o <;> rfl)
    rw [List.filterMap_cons, List.filterMap_cons, hd]
    cases plR1 r with
    | none => exact ih
    | some p => simp only [Option.map_some, List.map_cons]; rw [ih]
theorem sigs_of : ∀ P : List Rw, P.filterMap sigR = (plOf P).map fun p => (p.1, p.2.length)
  | [] => rfl
  | r :: P => by
    have ih := sigs_of P
    unfold plOf at ih ⊢
    rw [List.filterMap_cons, List.filterMap_cons]
    cases r <;> first | exact ih | (simp only [sigR, plR1, List.map_cons]; rw [ih])
theorem fm_congr {A1 B1 : Type} {g : A1 → Option B1} : ∀ {xs ys : List A1}, xs.length = ys.length → (∀ (i : Nat) (x y : A1), xs[i]? = some x → ys[i]? = some y → g x = g y) → xs.filterMap g = ys.filterMap g
  | [], [], _, _ => rfl
  | x :: xs, y :: ys, hl, h => by
    have h0 := h 0 x y rfl rfl
    have ih := fm_congr (xs := xs) (ys := ys) (by simpa using hl) fun i a b ea eb => h (i + 1) a b ea eb
    rw [List.filterMap_cons, List.filterMap_cons, h0, ih]
  | [], y :: ys, hl, _ => by simp at hl
  | x :: xs, [], hl, _ => by simp at hl
theorem fi_congr {A1 : Type} {g : A1 → Bool} : ∀ {xs ys : List A1}, xs.length = ys.length → (∀ (i : Nat) (x y : A1), xs[i]? = some x → ys[i]? = some y → g x = g y) → xs.findIdx g = ys.findIdx g
  | [], [], _, _ => rfl
  | x :: xs, y :: ys, hl, h => by
    have h0 := h 0 x y rfl rfl
    have ih := fi_congr (xs := xs) (ys := ys) (by simpa using hl) fun i a b ea eb => h (i + 1) a b ea eb
    rw [List.findIdx_cons, List.findIdx_cons, h0, ih]
  | [], y :: ys, hl, _ => by simp at hl
  | x :: xs, [], hl, _ => by simp at hl
/-- a program as the laws of two makes want it -/
structure GdP (P : List Rw) : Prop where
  t : ∃ pl, PrgT P pl
  down : ∀ k n f ops, rowAt P k = .call n f ops → k < defI P f
theorem row_all {r : Rw} (h : wfR r) : RightR (rwD r) ∧ RowK (rwD r) ∧ FlatR (rwD r) := by
  have op : ∀ {k : Key}, okO k = true → OpK (kD k) := fun {k} hk => by
    cases k with
    | inl n => exact .inr ⟨n, rfl⟩
    | inr s => exact .inl ⟨s, rfl, hk⟩
  have ky : ∀ {k : Key}, okKy k = true → KeyK (kD k) := fun {k} hk => by
    unfold okKy at hk
    rw [Bool.or_eq_true] at hk
    rcases hk with hk | hk
    · cases k with
      | inl n => cases hk
      | inr s =>
        have hk : fldS s = true := hk
        unfold fldS at hk
        rw [Bool.and_eq_true] at hk
        refine .inl ⟨cutS s (some 1) none, ?_, hk.2⟩
        have hd : (Str.ofString ".").cps = #[46] := by decide +kernel
        have h1 := hk.1
        have e : s = Str.ofString "." ++ cutS s (some 1) none := by
          obtain ⟨⟨l⟩⟩ := s
          unfold Txt.startswith Builtin.Str.subAt at h1
          have hl : (Str.ofString ".").length = 1 := rfl
          rw [hl, hd] at h1
          cases l with
          | nil => simp [Str.length] at h1
          | cons c r =>
            rw [Bool.and_eq_true] at h1
            have h2 := eq_of_beq h1.2
            have h3 := congrArg Array.toList h2
            simp at h3
            subst h3
            have hc : cutS (⟨⟨46 :: r⟩⟩ : Str) (some 1) none = ⟨⟨r⟩⟩ := by
              unfold cutS HT.sIx
              simp [Str.length]
            rw [hc]
            show (⟨⟨46 :: r⟩⟩ : Str) = ⟨(Str.ofString ".").cps ++ ⟨r⟩⟩
            rw [hd]
            simp
        exact congrArg D.str e
    · exact .inr (op hk)
  refine ⟨⟨Str.ofString (rwW r), rwP r, rfl, (rowR_of h).1, (rowR_of h).2⟩, ?_, ⟨rwD_flat r, rwD_dep r, _, rfl⟩⟩
  cases r with
  | skip => exact .bare (z := "skip") (.inr (.inr rfl))
  | els => exact .bare (z := "else") (.inl rfl)
  | endd => exact .bare (z := "end") (.inr (.inl rfl))
  | deff n ps => exact .deff h.2.1
  | give o => exact .op (z := "give") (.inl rfl) (op h)
  | iff o => exact .op (z := "if") (.inr (.inl rfl)) (op h)
  | whil o => exact .op (z := "while") (.inr (.inr rfl)) (op h)
  | put n o => exact .put (op h.2)
  | doo n a w b => exact .doo (op h.2.1) (op h.2.2.2)
  | new n => exact .new
  | get n o k => exact .get h.2.1 (ky h.2.2)
  | set o k v => exact .set h.1 (ky h.2.1) (op h.2.2)
  | call n f ops =>
    refine .call (fun o ho => ?_) (by simpa using h.2.2.1)
    obtain ⟨k, hk, rfl⟩ := List.mem_map.mp ho
    exact op (h.2.2.2 k hk)
  | fail w => exact .fail
theorem GdP.gg {P : List Rw} (g : GdP P) : ∃ pl s, Gg P pl s := by
  obtain ⟨pl, t⟩ := g.t
  obtain ⟨s, h⟩ := PrgQ.gg (P := P) (pl := pl) ⟨t, fun r hr => by
    obtain ⟨x, hx, rfl⟩ := List.mem_map.mp hr
    exact row_all (t.wf x hx)⟩
  exact ⟨pl, s, h⟩
theorem GdP.wf {P : List Rw} (g : GdP P) : ∀ r ∈ P, wfR r := by
  obtain ⟨pl, t⟩ := g.t
  exact t.wf
theorem GdP.len {P : List Rw} (g : GdP P) : P.length ≤ 60 := by
  obtain ⟨pl, t⟩ := g.t
  exact t.len
theorem pl_of {P : List Rw} {pl : List (Str × List Str)} (t : PrgT P pl) : pl.map (·.1) = (plOf P).map (·.1) ∧ ∀ p ∈ pl, ∃ q ∈ plOf P, q.1 = p.1 ∧ q.2.length = p.2.length := by
  have e := t.defs
  rw [defs_of] at e
  have inj : ∀ {xs ys : List (Str × List Str)}, xs.map (fun p => (p.1, p.2.map D.str)) = ys.map (fun p => (p.1, p.2.map D.str)) → xs.map (·.1) = ys.map (·.1) ∧ xs.map (fun p => (p.1, p.2.length)) = ys.map fun p => (p.1, p.2.length) := by
    intro xs
    induction xs with
    | nil => intro ys h; cases ys with | nil => exact ⟨rfl, rfl⟩ | cons y ys => simp at h
    | cons x xs ih =>
      intro ys h
      cases ys with
      | nil => simp at h
      | cons y ys =>
        simp only [List.map_cons, List.cons.injEq, Prod.mk.injEq] at h ⊢
        obtain ⟨⟨h1, h2⟩, h3⟩ := h
        obtain ⟨a, b⟩ := ih h3
        have := congrArg List.length h2
        simp at this
        exact ⟨⟨h1, a⟩, ⟨h1, this⟩, b⟩
  obtain ⟨a, b⟩ := inj e
  refine ⟨a.symm, fun p hp => ?_⟩
  have : (p.1, p.2.length) ∈ pl.map fun p => (p.1, p.2.length) := List.mem_map.mpr ⟨p, hp, rfl⟩
  rw [← b] at this
  obtain ⟨q, hq, e⟩ := List.mem_map.mp this
  simp at e
  exact ⟨q, hq, e.1, e.2⟩
theorem isDef_sig (f : Str) (r r' : Rw) (h : sigR r = sigR r') : isDefR f r = isDefR f r' := by
  have e : ∀ r, isDefR f r = (match sigR r with | some p => decide (p.1 = f) | none => false) := fun r => by cases r <;> rfl
  rw [e, e, h]
theorem gd_bend {P P' : List Rw} (g : GdP P) {f' : Nat → Mode} (c : Cert P' f') (hl : P'.length = P.length) (sig : ∀ k, sigR (rowAt P' k) = sigR (rowAt P k)) (cal : ∀ k n f ops, rowAt P' k = .call n f ops → rowAt P k = .call n f ops) (wf : ∀ k, k < P'.length → wfR (rowAt P' k)) : GdP P' := by
  obtain ⟨pl, t⟩ := g.t
  have pt : ∀ (i : Nat) (x y : Rw), P'[i]? = some x → P[i]? = some y → sigR x = sigR y := fun i x y ex ey => by
    have := sig i
    rw [rowAt_eq ex, rowAt_eq ey] at this
    exact this
  have sg : P'.filterMap sigR = P.filterMap sigR := fm_congr hl pt
  rw [sigs_of, sigs_of] at sg
  have sn : (plOf P').map (·.1) = (plOf P).map (·.1) := by
    have := congrArg (List.map (·.1)) sg
    simpa [List.map_map, Function.comp_def] using this
  obtain ⟨e1, e2⟩ := pl_of t
  refine ⟨⟨plOf P', by rw [hl]; exact t.len, fun r hr => ?_, run_of c, defs_of P', by rw [sn, ← e1]; exact t.nd, fun n f ops hm => ?_⟩, fun k n f ops e => ?_⟩
  · obtain ⟨k, hk⟩ := List.mem_iff_getElem?.mp hr
    have := wf k (List.getElem?_eq_some_iff.mp hk).1
    rwa [rowAt_eq hk] at this
  · obtain ⟨k, hk⟩ := List.mem_iff_getElem?.mp hm
    have hc := cal k n f ops (rowAt_eq hk)
    obtain ⟨_, h2⟩ := rowAt_lt hc (by simp)
    obtain ⟨p, hp, rfl, hlen⟩ := t.call n f ops (List.mem_of_getElem? h2)
    obtain ⟨q, hq, q1, q2⟩ := e2 p hp
    have : (q.1, q.2.length) ∈ (plOf P).map fun p => (p.1, p.2.length) := List.mem_map.mpr ⟨q, hq, rfl⟩
    rw [← sg] at this
    obtain ⟨x, hx, ex⟩ := List.mem_map.mp this
    simp at ex
    exact ⟨x, hx, by rw [ex.1, q1], by rw [ex.2, q2, hlen]⟩
  · have h1 := g.down k n f ops (cal k n f ops e)
    have : defI P' f = defI P f := fi_congr hl fun i x y ex ey => isDef_sig f x y (pt i x y ex ey)
    rw [this]; exact h1
section
variable {P : List Rw} {pl : List (Str × List Str)} {s : ShS}
theorem GdP.cert (g : GdP P) : ∃ f, Cert P f := by
  obtain ⟨pl, t⟩ := g.t
  exact cert_of t.run
/-- rows of the same kind -/
theorem gd_like (g : GdP P) (p : Prg P pl s) {k : Nat} {r : Rw} (hk : k < P.length) (hr : likeR (rowAt P k) r) (wr : wfR r) (sg : sigR r = sigR (rowAt P k)) (nc : ∀ n f ops, r ≠ .call n f ops) (hh : (∃ h, s.heads[k]? = some (some h)) ∨ ∃ n ps, rowAt P k = .deff n ps) : GdP (P.set k r) := by
  obtain ⟨f, c⟩ := g.cert
  have ra := rowAt_set P k
  refine gd_bend g (f' := f) (cls_cert c (by simp) fun j hj => ?_) (by simp) (fun j => ?_) (fun j n f' ops e => ?_) fun j hj => ?_
  · rw [ra]
    split
    · rename_i e
      obtain ⟨rfl, _⟩ := e
      refine .inr ⟨hr, ?_⟩
      rcases hh with ⟨h, e⟩ | e
      · left
        intro z
        rw [c.hd p hk, z] at e
        cases e
      · exact .inr e
    · exact .inl rfl
  · rw [ra]
    split
    · rename_i e; rw [← e.1]; exact sg
    · rfl
  · rw [ra] at e
    split at e
    · exact absurd e (nc _ _ _)
    · exact e
  · rw [ra]
    split
    · exact wr
    · exact g.wf _ (List.mem_of_getElem? (rowAt_get (by simpa using hj)))
theorem end_top {f : Nat → Mode} (c : Cert P f) (p : Prg P pl s) {h n k : Nat} (en : s.ends[h]? = some (some n)) (hk : k < P.length) (er : rowAt P k = .endd) (t : TopF (f k) h) : k = n := by
  obtain ⟨d, z, st, e⟩ := t
  have h1 := c.hd p hk
  rw [e] at h1
  have := (p.pairs.e2 k h h1 (.inr (by rw [wA_row hk er]; rfl))).1
  rw [en] at this
  exact (Option.some.inj (Option.some.inj this)).symm
theorem els_top {f : Nat → Mode} (c : Cert P f) (p : Prg P pl s) {h k : Nat} (hk : k < P.length) (er : rowAt P k = .els) (t : TopF (f k) h) : s.elses[h]? = some (some k) := by
  obtain ⟨d, z, st, e⟩ := t
  have h1 := c.hd p hk
  rw [e] at h1
  obtain ⟨j, f1, f2, _⟩ := p.i.el k hk (by rw [wA_row hk er]; rfl)
  rw [h1] at f1
  have : h = j := Option.some.inj (Option.some.inj f1)
  rw [this]; exact f2
theorem elses_row (p : Prg P pl s) {h e : Nat} (q : s.elses[h]? = some (some e)) : rowAt P e = .els ∧ s.heads[e]? = some (some h) ∧ e < P.length ∧ ∃ o, rowAt P h = .iff o := by
  obtain ⟨h1, w⟩ := p.pairs.e3 h e q
  have hk := (row_of_w w).1
  have re := els_row p q
  obtain ⟨j, f1, f2, f3, f4⟩ := p.i.el e hk w
  rw [h1] at f1
  have : h = j := Option.some.inj (Option.some.inj f1)
  subst this
  refine ⟨re, h1, hk, ?_⟩
  have := (row_of_w f3).2
  cases r : rowAt P h <;> rw [r] at this <;> simp [rwW] at this
  exact ⟨_, rfl⟩
theorem ends_row (p : Prg P pl s) {h n : Nat} (ho : isOp (rowAt P h)) (en : s.ends[h]? = some (some n)) : rowAt P n = .endd ∧ h < n ∧ n < P.length ∧ s.heads[n]? = some (some h) := by
  obtain ⟨o, ho⟩ := ho
  obtain ⟨n', c1, c2, c3, c4, _⟩ := endB_of p ho
  rw [en] at c1; cases c1
  exact ⟨c3, c2, c4, (p.pairs.e1 h n en).1⟩
theorem wf_set (g : GdP P) {Q : List Rw} (h : ∀ k, rowAt Q k = rowAt P k ∨ rowAt Q k = .skip ∨ rowAt Q k = .els ∨ rowAt Q k = .endd) (hl : Q.length = P.length) : ∀ k, k < Q.length → wfR (rowAt Q k) := fun k hk => by
  rcases h k with e | e | e | e
  · rw [e]; exact g.wf _ (List.mem_of_getElem? (rowAt_get (by omega)))
  · rw [e]; trivial
  · rw [e]; trivial
  · rw [e]; trivial
/-- rows put for bare ones: sigs and calls -/
theorem gd_bare (g : GdP P) {Q : List Rw} {f' : Nat → Mode} (c : Cert Q f') (hl : Q.length = P.length) (h : ∀ k, rowAt Q k = rowAt P k ∨ ((rowAt Q k = .skip ∨ rowAt Q k = .els ∨ rowAt Q k = .endd) ∧ ∀ n ps, rowAt P k ≠ .deff n ps)) : GdP Q := by
  refine gd_bend g c hl (fun k => ?_) (fun k n f ops e => ?_) (wf_set g (fun k => ?_) hl)
  · rcases h k with e | ⟨e, nd⟩
    · rw [e]
    · have : sigR (rowAt P k) = none := by cases q : rowAt P k <;> first | rfl | exact absurd q (nd _ _)
      rw [this]
      rcases e with e | e | e <;> rw [e] <;> rfl
  · rcases h k with q | ⟨q, _⟩
    · rw [← q]; exact e
    · rw [e] at q
      rcases q with q | q | q <;> cases q
  · rcases h k with e | ⟨e, _⟩
    · exact .inl e
    · exact .inr e
def tkE (s : ShS) (P : List Rw) (h : Nat) : List Rw := match s.elses[h]? with
  | some (some e) => P.set e .skip
  | _ => P
/-- a block without its opener, else and end -/
theorem gd_taken (g : GdP P) (p : Prg P pl s) {h n : Nat} (ho : isOp (rowAt P h)) (en : s.ends[h]? = some (some n)) : GdP (((tkE s P h).set n .skip).set h .skip) := by
  obtain ⟨f, c⟩ := g.cert
  obtain ⟨rn, hn, nl, hn2⟩ := ends_row p ho en
  have hlt : h < P.length := by omega
  have le : (tkE s P h).length = P.length := by unfold tkE; split <;> simp
  have re : ∀ k, rowAt (tkE s P h) k = if s.elses[h]? = some (some k) then .skip else rowAt P k := fun k => by
    unfold tkE
    cases q : s.elses[h]? with
    | none => simp
    | some x => cases x with
      | none => simp
      | some e =>
        simp only
        rw [rowAt_set]
        have := (elses_row p q).2.2.1
        by_cases c : e = k
        · subst c; rw [if_pos ⟨rfl, this⟩, if_pos rfl]
        · rw [if_neg (fun z => c z.1), if_neg (fun z => c (Option.some.inj (Option.some.inj z)))]
  have rq : ∀ k, rowAt (((tkE s P h).set n .skip).set h .skip) k = if h = k then .skip else if n = k then .skip else if s.elses[h]? = some (some k) then .skip else rowAt P k := fun k => by
    rw [rowAt_set, rowAt_set, re]
    simp only [List.length_set, le, nl, hlt, and_true]
  have bounds : ∀ e, s.elses[h]? = some (some e) → h < e ∧ e < n := fun e q => by
    obtain ⟨r1, r2, r3, _⟩ := elses_row p q
    have a := p.under.up e h n r2 en
    have b := (head_kind p r2).1
    have : e ≠ n := fun z => by subst z; rw [rn] at r1; cases r1
    omega
  have cc := rmv_cert c (P' := ((tkE s P h).set n .skip).set h .skip) (h := h) (a := h) (n := n) (by simp [le]) (Nat.le_refl _) hn nl (fun k hk => ?_) (.inl ⟨by rw [rq, if_pos rfl], rfl, ho⟩) ⟨by rw [rq, if_neg (by omega), if_pos rfl], c.top p nl ho hn2, rn⟩ fun k h1 h2 => ?_
  · refine gd_bare g cc (by simp [le]) fun k => ?_
    rw [rq]
    split
    · rename_i e; subst e
      refine .inr ⟨.inl rfl, fun m ps z => ?_⟩
      obtain ⟨o, ho⟩ := ho
      rw [z] at ho
      rcases ho with ho | ho <;> cases ho
    · split
      · rename_i e; subst e
        exact .inr ⟨.inl rfl, fun m ps z => by rw [rn] at z; cases z⟩
      · split
        · rename_i e
          exact .inr ⟨.inl rfl, fun m ps z => by rw [(elses_row p e).1] at z; cases z⟩
        · exact .inl rfl
  · rw [rq, if_neg (by omega), if_neg (by omega), if_neg fun z => by have := bounds k z; omega]
  · rw [rq, if_neg (by omega), if_neg (by omega)]
    by_cases q : s.elses[h]? = some (some k)
    · rw [if_pos q]
      obtain ⟨r1, r2, r3, _⟩ := elses_row p q
      exact .inr ⟨r1, rfl, c.top p r3 ho r2⟩
    · rw [if_neg q]
      refine .inl ⟨rfl, fun hr t => ?_⟩
      rcases hr with hr | hr
      · exact q (els_top c p (by omega) hr t)
      · have := end_top c p en (by omega) hr t
        omega
/-- an end that moves -/
theorem gd_mend (g : GdP P) (p : Prg P pl s) {h n q : Nat} (ho : isOp (rowAt P h)) (en : s.ends[h]? = some (some n)) (h1 : h < q) (h2 : q < n) (rq : rowAt P q = .skip) (hq : s.heads[q]? = some (some h)) (he : ∀ e, s.elses[h]? = some (some e) → e < q) : GdP ((P.set n .skip).set q .endd) := by
  obtain ⟨f, c⟩ := g.cert
  obtain ⟨rn, hn, nl, hn2⟩ := ends_row p ho en
  have rr : ∀ k, rowAt ((P.set n .skip).set q .endd) k = if q = k then .endd else if n = k then .skip else rowAt P k := fun k => by
    rw [rowAt_set, rowAt_set]
    simp only [List.length_set, nl, show q < P.length by omega, and_true]
  have cc := rmv_cert c (P' := (P.set n .skip).set q .endd) (h := h) (a := q) (n := n) (by simp) (by omega) h2 nl (fun k hk => by rw [rr, if_neg (by omega), if_neg (by omega)]) (.inr ⟨rq, by rw [rr, if_pos rfl], c.top p (by omega) ho hq⟩) ⟨by rw [rr, if_neg (by omega), if_pos rfl], c.top p nl ho hn2, rn⟩ fun k k1 k2 => ?_
  · refine gd_bare g cc (by simp) fun k => ?_
    rw [rr]
    split
    · rename_i e; subst e
      exact .inr ⟨.inr (.inr rfl), fun m ps z => by rw [rq] at z; cases z⟩
    · split
      · rename_i e; subst e
        exact .inr ⟨.inl rfl, fun m ps z => by rw [rn] at z; cases z⟩
      · exact .inl rfl
  · rw [rr, if_neg (by omega), if_neg (by omega)]
    refine .inl ⟨rfl, fun hr t => ?_⟩
    rcases hr with hr | hr
    · have := he k (els_top c p (by omega) hr t)
      omega
    · have := end_top c p en (by omega) hr t
      omega
/-- an else that comes, goes or moves: e is the old one, q the new one -/
theorem gd_else (g : GdP P) (p : Prg P pl s) {h q : Nat} {Q : List Rw} (hi : ∃ o, rowAt P h = .iff o) (hq : h < q) (hl : Q.length = P.length) (at_q : q < P.length → rowAt P q = .skip ∧ rowAt Q q = .els ∧ s.heads[q]? = some (some h)) (oth : ∀ k, k < P.length → k ≠ q → rowAt Q k = if s.elses[h]? = some (some k) then .skip else rowAt P k) : GdP Q := by
  obtain ⟨f, c⟩ := g.cert
  have ho : isOp (rowAt P h) := by obtain ⟨o, e⟩ := hi; exact ⟨o, .inl e⟩
  have cc := tag_cert c (P' := Q) (h := h) (p := q) hl hq hi (fun hk => by
    obtain ⟨a, b, e⟩ := at_q hk
    exact ⟨a, b, c.top p hk ho e⟩) fun k hk hne => by
    rw [oth k hk hne]
    by_cases z : s.elses[h]? = some (some k)
    · rw [if_pos z]
      obtain ⟨r1, r2, r3, _⟩ := elses_row p z
      exact .inr ⟨r1, rfl, c.top p r3 ho r2⟩
    · rw [if_neg z]
      exact .inl ⟨rfl, fun hr t => z (els_top c p hk hr t)⟩
  refine gd_bare g cc hl fun k => ?_
  by_cases hk : k < P.length
  · by_cases hne : k = q
    · subst hne
      obtain ⟨a, b, _⟩ := at_q hk
      exact .inr ⟨.inr (.inl b), fun m ps z => by rw [a] at z; cases z⟩
    · rw [oth k hk hne]
      split
      · rename_i z
        exact .inr ⟨.inl rfl, fun m ps z' => by rw [(elses_row p z).1] at z'; cases z'⟩
      · exact .inl rfl
  · left
    unfold rowAt
    rw [List.getElem?_eq_none (by omega), List.getElem?_eq_none (by omega)]
/-- puts made skips -/
theorem gd_thin (g : GdP P) {Q : List Rw} (hl : Q.length = P.length) (h : ∀ k, rowAt Q k = rowAt P k ∨ ((∃ n o, rowAt P k = .put n o) ∧ rowAt Q k = .skip)) : GdP Q := by
  obtain ⟨f, c⟩ := g.cert
  refine gd_bare g (cls_cert c hl fun k hk => ?_) hl fun k => ?_
  · rcases h k with e | ⟨⟨n, o, e1⟩, e2⟩
    · exact .inl e
    · refine .inr ⟨by rw [e1, e2]; exact ⟨rfl, rfl⟩, .inl fun z => ?_⟩
      have t := c.st k hk
      rw [e1, z] at t
      generalize f (k + 1) = m' at t
      cases t
  · rcases h k with e | ⟨⟨n, o, e1⟩, e2⟩
    · exact .inl e
    · exact .inr ⟨.inl e2, fun m ps z => by rw [e1] at z; cases z⟩
theorem def_none (g : GdP P) {f : Nat → Mode} (c : Cert P f) {b : Nat} {n : Str} {ps : List Str} (e : rowAt P b = .deff n ps) : f b = none := by
  obtain ⟨hb, _⟩ := rowAt_lt e (by simp)
  have t := c.st b hb
  rw [e] at t
  generalize f b = m at t
  generalize f (b + 1) = m' at t
  cases t with
  | dfn => rfl
  | ins q => cases q
/-- skips ahead of a def -/
theorem gd_pre (g : GdP P) {b : Nat} {n : Str} {ps : List Str} (e : rowAt P b = .deff n ps) {Q : List Rw} (hl : Q.length = P.length) (h1 : ∀ k, k < b → rowAt Q k = .skip) (h2 : ∀ k, b ≤ k → rowAt Q k = rowAt P k) : GdP Q := by
  obtain ⟨f, c⟩ := g.cert
  obtain ⟨hb, _⟩ := rowAt_lt e (by simp)
  have cc := pre_cert c hl (def_none g c e) h1 h2
  obtain ⟨pl, t⟩ := g.t
  obtain ⟨pl2, s, gg⟩ := g.gg
  have wfQ := wf_set g (Q := Q) (fun k => by
    rcases Nat.lt_or_ge k b with q | q
    · exact .inr (.inl (h1 k q))
    · exact .inl (h2 k q)) hl
  have calls : ∀ k n f ops, rowAt Q k = .call n f ops → b ≤ k ∧ rowAt P k = .call n f ops := fun k n f ops z => by
    rcases Nat.lt_or_ge k b with q | q
    · rw [h1 k q] at z; cases z
    · exact ⟨q, by rw [← h2 k q]; exact z⟩
  have same : ∀ f, b ≤ defI P f → defI P f < P.length → isDefR f (rowAt P (defI P f)) = true → defI Q f = defI P f := fun f hf hlt hd => by
    unfold defI
    rw [List.findIdx_eq (by rw [hl]; exact hlt)]
    refine ⟨?_, fun j hj => ?_⟩
    · have := h2 (defI P f) hf
      unfold rowAt at this hd
      have e1 : Q[defI P f]? = some Q[defI P f] := List.getElem?_eq_getElem (by rw [hl]; exact hlt)
      rw [e1] at this
      simp only [Option.getD_some] at this
      show isDefR f Q[defI P f] = true
      rw [this]; exact hd
    · have hj : j < defI P f := hj
      have e1 : Q[j]? = some Q[j] := List.getElem?_eq_getElem (by omega)
      have r1 : rowAt Q j = Q[j] := rowAt_eq e1
      rw [← r1]
      rcases Nat.lt_or_ge j b with q | q
      · rw [h1 j q]; rfl
      · rw [h2 j q]
        have := List.not_of_lt_findIdx (p := isDefR f) (xs := P) hj
        have e2 : P[j]? = some P[j] := List.getElem?_eq_getElem (by omega)
        rw [rowAt_eq e2]
        simpa using this
  have tgt : ∀ k n f ops, rowAt P k = .call n f ops → b ≤ k → b ≤ defI P f ∧ defI P f < P.length ∧ isDefR f (rowAt P (defI P f)) = true ∧ ∃ ps, rowAt P (defI P f) = .deff f ps ∧ ps.length = ops.length := fun k n f ops z hk => by
    obtain ⟨_, x1, ps, x2, x3, _⟩ := gg.p.stGet z
    have := g.down k n f ops z
    exact ⟨by omega, x1, by rw [x2]; simp [isDefR], ps, x2, x3⟩
  refine ⟨⟨plOf Q, by rw [hl]; exact t.len, fun r hr => ?_, run_of cc, defs_of Q, ?_, fun n' f' ops hm => ?_⟩, fun k n' f' ops z => ?_⟩
  · obtain ⟨k, hk⟩ := List.mem_iff_getElem?.mp hr
    have := wfQ k (List.getElem?_eq_some_iff.mp hk).1
    rwa [rowAt_eq hk] at this
  · have eQ : Q = List.replicate b .skip ++ P.drop b := by
      refine List.ext_getElem? fun i => ?_
      by_cases hi : i < P.length
      · rw [rowAt_get (P := Q) (show i < Q.length by omega)]
        by_cases q : i < b
        · rw [h1 i q, List.getElem?_append_left (by simpa using q), List.getElem?_replicate, if_pos q]
        · rw [h2 i (by omega), List.getElem?_append_right (by simp; omega), List.getElem?_drop, List.length_replicate, show b + (i - b) = i by omega, rowAt_get hi]
      · rw [List.getElem?_eq_none (by omega), List.getElem?_eq_none (by simp; omega)]
    have eP : P = P.take b ++ P.drop b := by simp
    have e1 : (plOf Q).map (·.1) = (plOf (P.drop b)).map (·.1) := by
      rw [eQ]
      unfold plOf
      rw [List.filterMap_append]
      have : (List.replicate b Rw.skip).filterMap plR1 = [] := by
        rw [List.filterMap_eq_nil_iff]
        intro a ha
        rw [(List.mem_replicate.mp ha).2]; rfl
      rw [this]; rfl
    have e2 : (plOf P).map (·.1) = (plOf (P.take b)).map (·.1) ++ (plOf (P.drop b)).map (·.1) := by
      conv => lhs; rw [eP]
      unfold plOf
      rw [List.filterMap_append, List.map_append]
    have nd := t.nd
    rw [(pl_of t).1, e2] at nd
    rw [e1]
    exact (List.nodup_append.mp nd).2.1
  · obtain ⟨k, hk⟩ := List.mem_iff_getElem?.mp hm
    obtain ⟨hbk, hc⟩ := calls k n' f' ops (rowAt_eq hk)
    obtain ⟨x1, x2, _, ps', x3, x4⟩ := tgt k n' f' ops hc hbk
    refine ⟨(f', ps'), ?_, rfl, x4⟩
    unfold plOf
    rw [List.mem_filterMap]
    refine ⟨.deff f' ps', ?_, rfl⟩
    have := h2 _ x1
    rw [x3] at this
    have h3 := rowAt_get (P := Q) (show defI P f' < Q.length by omega)
    rw [this] at h3
    exact List.mem_of_getElem? h3
  · obtain ⟨hbk, hc⟩ := calls k n' f' ops z
    obtain ⟨x1, x2, x3, _⟩ := tgt k n' f' ops hc hbk
    rw [same f' x1 x2 x3]
    exact g.down k n' f' ops hc
end
end VL
namespace VL
open PySem PySem.Spec PyProof.Rows L2 RZ
/-! ### the laws' own shape -/
theorem rng_to {e : WE} {g : WG} {b : WS} {V : EV} {rh : Ev} {mu : Sto} {n : Nat} (hn : n ≤ 1000000) (h : Is e rh mu (.d (.int (n : Nat)))) (I : Nat → Ev → Sto → Prop) (hend : ∀ rh mu, I n rh mu → V.nx rh mu)
    (hs : ∀ k, k < n → ∀ rh mu, I k rh mu → ∀ N : Ev → Sto → Prop, (∀ rh' mu', I (k + 1) rh' mu' → N rh' mu') → g (.d (.int (k : Nat))) rh mu fun rh' mu' => b { V with nx := N, ct := N, bk := V.nx } rh' mu') (h0 : I 0 rh mu) : wFor (wRng1 (wCons e wNil)) g b V rh mu :=
  rngN_is hn h fun chk hc => forL_S (fun k : Nat => W.d (.int (k : Nat))) (fun ks rh mu => ∃ j, j + ks.length = n ∧ (∀ i x, ks[i]? = some x → x = j + i) ∧ I j rh mu) (fun _ _ _ _ => hc _) (fun rh mu h => by
      obtain ⟨j, e1, _, hj⟩ := h
      simp at e1; subst e1; exact hend _ _ hj) (fun x xs rh mu h N hN => by
      obtain ⟨j, e1, e2, hj⟩ := h
      have ex : x = j + 0 := e2 0 x rfl
      simp at ex e1
      subst ex
      exact hs x (by omega) rh mu hj N fun rh' mu' h1 => hN _ _ ⟨x + 1, by omega, fun i y hy => by have := e2 (i + 1) y (by simpa using hy); omega, h1⟩) ⟨0, by simp, fun i x hx => by
      rw [List.getElem?_eq_some_iff] at hx
      obtain ⟨h1, h2⟩ := hx
      simp at h2; omega, h0⟩
theorem setL_to {o i v : WE} {V : EV} {rh : Ev} {mu : Sto} {l k : Nat} {xs : List D} {d : D} (hv : Is v rh mu (.d d)) (ho : Is o rh mu (.loc l)) (hi : Is i rh mu (.d (.int (k : Nat)))) (e : mu[l]? = some (.lst xs)) (hk : k < xs.length) (q : V.nx rh (mu.set l (.lst (xs.set k d)))) : wAsg v (wgSub fSetL o i) V rh mu := by
  simp only [wAsg, wgSub]
  refine hv _ (ho _ (hi _ ?_))
  simp only [fSetL, e]
  refine ⟨k, ?_, q⟩
  unfold ixN
  rw [if_pos (by omega), if_pos (by omega)]; rfl
theorem nones_to {a : WE} {V : EV} {rh : Ev} {mu : Sto} {ds : List D} {i j : Nat} (ha : Is a rh mu (.d (.lst ds))) (q : V.nx (rh.set j (some (.loc mu.length))) (mu ++ [.lst ((List.replicate ds.length none).map optD)])) : wAsg (wLc true (wSeqI a) (wgName i) wYes (wC .non) [i]) (wgName j) V rh mu := by
  simp only [wAsg, wLc, wSeqI]
  refine ha _ ?_
  simp only [seqW]
  refine lc_M (fun _ => .non) trivial (fun x hx A q => by simpa using q) ?_
  simp
  have en : ds.map (fun _ => D.non) = (List.replicate ds.length none).map optD := by rw [List.map_replicate]; exact List.map_const' ..
  rw [asDs_comp, en]
  exact q
theorem neNilT_is {a : WE} {rh : Ev} {mu : Sto} {l : Nat} {xs : List Nat} (ha : Is a rh mu (.loc l)) (e : mu[l]? = some (.lst (natsL xs))) : IsB (wTest (wOp (fEq true) a (wLst false wNil))) rh mu (!xs.isEmpty) := fun K hK => by
  simp only [wTest, wOp]
  refine ha _ ?_
  simp only [wLst, wNil]
  refine ⟨by simp [sizeLine_eq], ?_⟩
  simp only [newLW, asDs, newL, Bool.false_eq_true, if_false, fEq, snap, e]
  refine ⟨?_, by simp, ?_⟩
  · have : ddeps (natsL xs) ≤ 1 := ddeps_le fun d hd => by
      obtain ⟨x, _, rfl⟩ := List.mem_map.mp hd
      simp
    simp; omega
  · cases xs with
    | nil => simpa [natsL, onBl] using hK
    | cons x xs => simpa [natsL, onBl] using hK
theorem strTs_is {a : WE} {rh : Ev} {mu : Sto} {w : Str} (z : Str) (ha : Is a rh mu (.d (.str w))) : IsB (wTest (wOp (fEq false) a (wC (.str z)))) rh mu (decide (w = z)) := fun K hK => ha _ (by simp; exact hK)
theorem beqS (z w : Str) : (z == w) = decide (w = z) := by
  by_cases c : z = w
  · subst c; simp
  · simp [c, Ne.symm c]
theorem strIn2_is {a : WE} {rh : Ev} {mu : Sto} {w : Str} (z y : Str) (ha : Is a rh mu (.d (.str w))) : IsB (wTest (wOp (fInT false) a (wTup (wCons (wC (.str z)) (wCons (wC (.str y)) wNil))))) rh mu (decide (w = z ∨ w = y)) := fun K hK => ha _ (by
  simp [sizeLine_eq]
  rw [beqS, beqS, ← Bool.decide_or]
  exact hK)
theorem strIn3_is {a : WE} {rh : Ev} {mu : Sto} {w : Str} (z y x : Str) (ha : Is a rh mu (.d (.str w))) : IsB (wTest (wOp (fInT false) a (wTup (wCons (wC (.str z)) (wCons (wC (.str y)) (wCons (wC (.str x)) wNil)))))) rh mu (decide (w = z ∨ w = y ∨ w = x)) := fun K hK => ha _ (by
  simp [sizeLine_eq]
  rw [beqS, beqS, beqS, ← Bool.decide_or, ← Bool.decide_or]
  exact hK)
theorem setPop_to {o q0 v : WE} {V : EV} {rh : Ev} {mu : Sto} {l l2 k : Nat} {xs : List D} {st : List Nat} {d : D} (hv : Is v rh mu (.d d)) (ho : Is o rh mu (.loc l)) (hq : Is q0 rh mu (.loc l2)) (ne : l ≠ l2) (e : mu[l]? = some (.lst xs)) (e2 : mu[l2]? = some (.lst (natsL (st ++ [k])))) (hk : k < xs.length) (q : V.nx rh ((mu.set l2 (.lst (natsL st))).set l (.lst (xs.set k d)))) : wAsg v (wgSub fSetL o (wBM fPop q0 wNil)) V rh mu := by
  simp only [wAsg, wgSub]
  refine hv _ (ho _ ?_)
  simp only [wBM]
  refine hq _ ?_
  simp only [wNil, fPop, e2]
  have e3 : natsL (st ++ [k]) = natsL st ++ [.int (k : Nat)] := by simp [natsL]
  refine ⟨by simp [e2], D.int (k : Nat), by rw [e3]; simp, ?_⟩
  rw [e3, List.dropLast_concat]
  simp only [fSetL]
  rw [List.getElem?_set_ne ne.symm, e]
  refine ⟨k, ?_, q⟩
  unfold ixN
  rw [if_pos (by omega), if_pos (by omega)]; rfl
def fm3 (s : ShS) : Sto := [.lst (s.heads.map optD), .lst (s.ends.map optD), .lst (s.elses.map optD), .lst (natsL s.stack)]
@[simp] def p__law_shape : D → (W → Sto → Prop) → Prop := fun a Q => ∃ (rows : List D) (s : ShS), a = .lst rows ∧ rows.length ≤ 1000 ∧ runS 0 rows (.start rows.length) = some s ∧ Q (.tup [.loc 0, .loc 1, .loc 2]) (fm3 s)
def w__law_shape : WS := (wSeq (wAsg (wLc true (wSeqI (wVar 0)) (wgName 2) wYes (wC .non) [2]) (wgName 1))
    (wSeq (wAsg (wLc true (wSeqI (wVar 0)) (wgName 2) wYes (wC .non) [2]) (wgName 3))
    (wSeq (wAsg (wLc true (wSeqI (wVar 0)) (wgName 2) wYes (wC .non) [2]) (wgName 4))
    (wSeq (wAsg (wLst true wNil) (wgName 5))
    (wSeq (wFor (wRng1 (wCons (wCall fLen (wCons (wVar 0) wNil)) wNil)) (wgName 6) (wSeq (wAsg (wOp fIx (wOp fIx (wVar 0) (wVar 6)) (wC (.int 0))) (wgName 7))
    (wSeq (wIfS (wTest (wOp (fEq true) (wVar 5) (wLst false wNil))) (wAsg (wOp fIx (wVar 5) (wUn (fun i => -i) (wC (.int 1)))) (wgSub fSetL (wVar 1) (wVar 6))) wNext)
    (wSeq (wIfS (wTest (wOp (fEq false) (wVar 7) (wC (.str "else")))) (wAsg (wVar 6) (wgSub fSetL (wVar 4) (wOp fIx (wVar 5) (wUn (fun i => -i) (wC (.int 1)))))) wNext)
    (wSeq (wIfS (wTest (wOp (fInT false) (wVar 7) (wTup (wCons (wC (.str "give")) (wCons (wC (.str "end")) wNil))))) (wAsg (wVar 6) (wgSub fSetL (wVar 3) (wBM fPop (wVar 5) wNil))) wNext)
    (wIfS (wTest (wOp (fInT false) (wVar 7) (wTup (wCons (wC (.str "def")) (wCons (wC (.str "if")) (wCons (wC (.str "while")) wNil)))))) (wDrop (wBM fApp (wVar 5) (wCons (wVar 6) wNil))) wNext))))))
    (wRet (wTup (wCons (wVar 1) (wCons (wVar 3) (wCons (wVar 4) wNil))))))))))
@[simp] def sp__law_shape : PSp := sp1 p__law_shape
theorem v__law_shape : ∀ a Q, p__law_shape a Q → w__law_shape (evr Q) (startE ["_law_rows", "_law_heads", "_law_row", "_law_ends", "_law_elses", "_law_stack", "_law_place", "_law_word"] [.d a]) [] := by
  rintro _ Q ⟨rows, s, rfl, hl, hr, h⟩
  unfold w__law_shape
  let S : ShS := .start rows.length
  refine seq_to [some (.d (.lst rows)), some (.loc 0), none, none, none, none, none, none] [.lst (S.heads.map optD)] (fun K hK => nones_to (var_is (i := 0) rfl) hK) ?_
  refine seq_to [some (.d (.lst rows)), some (.loc 0), none, some (.loc 1), none, none, none, none] [.lst (S.heads.map optD), .lst (S.ends.map optD)] (fun K hK => nones_to (var_is (i := 0) rfl) hK) ?_
  refine seq_to [some (.d (.lst rows)), some (.loc 0), none, some (.loc 1), some (.loc 2), none, none, none] [.lst (S.heads.map optD), .lst (S.ends.map optD), .lst (S.elses.map optD)] (fun K hK => nones_to (var_is (i := 0) rfl) hK) ?_
  refine seq_to [some (.d (.lst rows)), some (.loc 0), none, some (.loc 1), some (.loc 2), some (.loc 3), none, none] (fm3 S) (fun K hK => by simp [sizeLine_eq]; exact hK) ?_
  refine seq_R (fun rh mu => ∃ a b : Option W, rh = [some (.d (.lst rows)), some (.loc 0), none, some (.loc 1), some (.loc 2), some (.loc 3), a, b] ∧ mu = fm3 s) (fun K hK => ?_) ?_
  · refine rng_to (n := rows.length) (by omega) (len_is (var_is (i := 0) rfl)) (fun k rh mu => ∃ (s1 : ShS) (a b : Option W), rh = [some (.d (.lst rows)), some (.loc 0), none, some (.loc 1), some (.loc 2), some (.loc 3), a, b] ∧ mu = fm3 s1 ∧ runS k (rows.drop k) s1 = some s ∧ ShOk rows.length k s1) (fun rh mu hh => ?_) (fun k hk rh mu hh N hN => ?_) ⟨S, none, none, rfl, rfl, hr, ⟨by simp [S, ShS.start], by simp [S, ShS.start], by simp [S, ShS.start], by simp [S, ShS.start], by simp [S, ShS.start], by simp [S, ShS.start]⟩⟩
    · obtain ⟨s1, a, b, rfl, rfl, h1, _⟩ := hh
      simp [runS] at h1
      subst h1
      exact hK _ _ ⟨a, b, rfl, rfl⟩
    · obtain ⟨s1, a, b, rfl, rfl, hrun, ok⟩ := hh
      have ed : rows.drop k = rows[k] :: rows.drop (k + 1) := List.drop_eq_getElem_cons hk
      rw [ed] at hrun
      simp only [runS] at hrun
      split at hrun
      case h_2 => cases hrun
      rename_i w ew
      obtain ⟨rest, er⟩ : ∃ rest, rows[k] = .tup (.str w :: rest) := by
        unfold wordR at ew
        split at ew
        · rename_i e; injection ew with ew; subst ew; exact ⟨_, e⟩
        · cases ew
      split at hrun
      case h_2 => cases hrun
      rename_i s2 es
      unfold stepS at es
      let E : Ev := [some (.d (.lst rows)), some (.loc 0), none, some (.loc 1), some (.loc 2), some (.loc 3), some (.d (.int (k : Nat))), some (.d (.str w))]
      have fin : ShOk rows.length (k + 1) s2 → N E (fm3 s2) := fun ok2 => hN _ _ ⟨s2, _, _, rfl, rfl, hrun, ok2⟩
      have hat : ∀ (xs : List Nat) (j : Nat), atI (natsL (xs ++ [j])) (-1) = some (.int (j : Nat)) := fun xs j => by
        rw [show natsL (xs ++ [j]) = natsL xs ++ [.int (j : Nat)] by simp [natsL]]; exact at_lastS _ _
      have lastI : ∀ (mu : Sto) (xs : List Nat) (j : Nat), mu[3]? = some (.lst (natsL (xs ++ [j]))) → Is (wOp fIx (wVar 5) (wUn (fun i => -i) (wC (.int 1)))) E mu (.d (.int (j : Nat))) := fun mu xs j e K hK => by
        have := hat xs j
        have h2 : atI ((natsL (xs ++ [j])).map W.d) (-1) = some (.d (.int (j : Nat))) := by rw [atI_map this]
        simp [E, e, h2]
        exact hK
      have m1 : ∀ (xs : List (Option Nat)) (j v : Nat), (xs.map optD).set j (.int (v : Nat)) = (xs.set j (some v)).map optD := fun xs j v => by rw [List.map_set]; rfl
      refine seq_to E (fm3 s1) (fun K hK => asg_to (.d (.str w)) (op_to _ _ _ (ix_lst (var_is (i := 0) rfl) (var_is (i := 6) rfl) (d := rows[k]) (by
        rw [at_nat (by omega) (by omega)]
        simp)) (int_is (.int 0)) fun K hK => by rw [er]; simpa using hK) hK) ?_
      have okA := ok.top
      refine seq_to E (fm3 (topS k s1)) (fun K hK => ?_) ?_
      · rcases s1 with ⟨he, nd, el, hm, stk⟩
        obtain ⟨l1, l2, l3, l4, st, sl⟩ := ok
        simp only at l1 l2 l3 l4 st sl
        have ne := neNilT_is (rh := E) (mu := fm3 ⟨he, nd, el, hm, stk⟩) (l := 3) (xs := stk) (var_is (i := 5) rfl) rfl
        rcases List.eq_nil_or_concat stk with rfl | ⟨s0, j, hz⟩
        · exact ifS_F ne hK
        · rw [List.concat_eq_append] at hz
          subst hz
          obtain ⟨i, r, hi⟩ : ∃ i r, s0 ++ [j] = i :: r := by
            cases s0 with
            | nil => exact ⟨_, _, rfl⟩
            | cons x xs => exact ⟨_, _, rfl⟩
          have e1 : topS k ⟨he, nd, el, hm, s0 ++ [j]⟩ = ⟨he.set k (some j), nd, el, hm.set k (some i), s0 ++ [j]⟩ := by
            unfold topS
            simp only
            rw [List.getLast?_concat, hi]; rfl
          rw [e1] at hK
          have : (!(s0 ++ [j]).isEmpty) = true := by rw [hi]; rfl
          rw [this] at ne
          refine ifS_T ne (setL_to (l := 0) (lastI _ s0 j rfl) (var_is (i := 1) rfl) (var_is (i := 6) rfl) rfl (by simp; omega) ?_)
          rw [m1]
          exact hK
      clear ok
      generalize topS k s1 = sA at *
      have okB := okA.deff (w := w)
      have eB : fm3 sA = fm3 (defS k w sA) := by
        unfold defS; split <;> rfl
      rw [eB]
      clear okA eB
      generalize defS k w sA = sB at *
      obtain ⟨sC, eC, es⟩ : ∃ sC, elseS k w sB = some sC ∧ (footS k w sC).map (pushS k w) = some s2 := by
        cases q : elseS k w sB with
        | none => rw [q] at es; cases es
        | some sC => rw [q] at es; exact ⟨sC, rfl, es⟩
      have okC := okB.els eC
      have wv : ∀ mu, Is (wVar 7) E mu (.d (.str w)) := fun mu => var_is (i := 7) rfl
      refine seq_to E (fm3 sC) (fun K hK => ?_) ?_
      · rcases sB with ⟨he, nd, el, hm, stk⟩
        obtain ⟨l1, l2, l3, l4, st, sl⟩ := okB
        simp only at l1 l2 l3 l4 st sl
        unfold elseS at eC
        refine ifB (strTs_is _ (wv _)) (fun c => ?_) (fun c => ?_)
        · have c := of_decide_eq_true c
          rw [if_pos c] at eC
          rcases List.eq_nil_or_concat stk with rfl | ⟨s0, j, hz⟩
          · cases eC
          · rw [List.concat_eq_append] at hz
            subst hz
            simp only [List.getLast?_concat] at eC
            injection eC with eC
            subst eC
            have hj : j < k := st j (by simp)
            refine setL_to (l := 2) (var_is (i := 6) rfl) (var_is (i := 4) rfl) (lastI _ s0 j rfl) rfl (by simp; omega) ?_
            rw [m1]
            exact hK
        · have c := of_decide_eq_false c
          rw [if_neg c] at eC
          injection eC with eC
          subst eC
          exact hK
      clear okB eC
      obtain ⟨sD, eD, es⟩ : ∃ sD, footS k w sC = some sD ∧ pushS k w sD = s2 := by
        cases q : footS k w sC with
        | none => rw [q] at es; cases es
        | some sD => rw [q] at es; injection es with es; exact ⟨sD, rfl, es⟩
      have okD := okC.foot eD
      refine seq_to E (fm3 sD) (fun K hK => ?_) ?_
      · rcases sC with ⟨he, nd, el, hm, stk⟩
        obtain ⟨l1, l2, l3, l4, st, sl⟩ := okC
        simp only at l1 l2 l3 l4 st sl
        unfold footS at eD
        refine ifB (strIn2_is _ _ (wv _)) (fun c => ?_) (fun c => ?_)
        · have c := of_decide_eq_true c
          rw [if_pos c] at eD
          rcases List.eq_nil_or_concat stk with rfl | ⟨s0, j, hz⟩
          · cases eD
          · rw [List.concat_eq_append] at hz
            subst hz
            simp only [List.getLast?_concat, List.dropLast_concat] at eD
            injection eD with eD
            subst eD
            have hj : j < k := st j (by simp)
            refine setPop_to (l := 1) (l2 := 3) (var_is (i := 6) rfl) (var_is (i := 3) rfl) (var_is (i := 5) rfl) (by omega) (xs := nd.map optD) rfl (st := s0) (k := j) rfl (by simp; omega) ?_
            rw [m1]
            exact hK
        · have c := of_decide_eq_false c
          rw [if_neg c] at eD
          injection eD with eD
          subst eD
          exact hK
      subst es
      have fin' := fin okD.push
      rcases sD with ⟨he, nd, el, hm, stk⟩
      obtain ⟨l1, l2, l3, l4, st, sl⟩ := okD
      simp only at l1 l2 l3 l4 st sl
      unfold pushS at fin'
      refine ifB (strIn3_is _ _ _ (wv _)) (fun c => ?_) (fun c => ?_)
      · have c := of_decide_eq_true c
        rw [if_pos c] at fin'
        refine app_to (l := 3) (.int (k : Nat)) (var_is (i := 5) rfl) (var_is (i := 6) rfl) rfl (by rw [sizeLine_eq]; simp [natsL]; omega) ?_
        have n1 : natsL (stk ++ [k]) = natsL stk ++ [.int (k : Nat)] := by simp [natsL]
        simp only [fm3, n1] at fin'
        exact fin'
      · have c := of_decide_eq_false c
        rw [if_neg c] at fin'
        exact fin'
  · rintro _ _ ⟨a, b, rfl, rfl⟩
    refine ret_to (.tup [.loc 0, .loc 1, .loc 2]) (fun K hK => ?_) h
    simp [sizeLine_eq]
    exact hK
def shp3 (s : ShS) : D := .tup [.lst (s.heads.map optD), .lst (s.ends.map optD), .lst (s.elses.map optD)]
theorem optD_flat (xs : List (Option Nat)) : dflats (xs.map optD) = true := by
  induction xs with
  | nil => rfl
  | cons x xs ih => cases x <;> simpa [optD] using ih
theorem lshape_is {P : List Rw} {pl : List (Str × List Str)} {s : ShS} {a : WE} {rh : Ev} {mu : Sto} (p : Prg P pl s) (ha : Is a rh mu (.d (prgD P))) : Is (wCallP false sp__law_shape [] (wCons a wNil)) rh mu (.d (shp3 s)) :=
  callQ_is (ws := [.d (prgD P)]) (iss1 ha iss0) rfl fun Q q => ⟨P.map rwD, s, rfl, by have := p.t.len; simp; omega, by rw [List.length_map]; exact p.g.run, q _ _ (by simp [fm3, shp3])⟩
theorem lshapeL_is {P : List Rw} {pl : List (Str × List Str)} {s : ShS} {a : WE} {rh : Ev} {mu : Sto} {l : Nat} (p : Prg P pl s) (ha : Is a rh mu (.loc l)) (e : mu[l]? = some (.lst (P.map rwD))) : Is (wCallP false sp__law_shape [] (wCons a wNil)) rh mu (.d (shp3 s)) :=
  callQ_is (ws := [.loc l]) (ds := [prgD P]) (iss1 ha iss0) (by simp [e]) fun Q q => ⟨P.map rwD, s, rfl, by have := p.t.len; simp; omega, by rw [List.length_map]; exact p.g.run, q _ _ (by simp [fm3, shp3, optD_flat])⟩
/-! ### rows bent -/
structure BentR (r r' : Rw) : Prop where
  wf : wfR r'
  like : likeR r r'
  sig : sigR r' = sigR r
  nc : ∀ n f ops, r' ≠ .call n f ops
theorem simple0_rw {ws : List Str} (g : ∀ w ∈ ws, goodW w) {d : D} (h : Simple ws [] d) : ∃ r, d = rwD r ∧ wfR r ∧ plR r = true ∧ ∀ n f ops, r ≠ .call n f ops := by
  have hr := simple_right g (by simp) (by simp) h
  obtain ⟨P, e, wf⟩ := rights_typed (rs := [d]) (by simpa using hr)
  cases P with
  | nil => cases e
  | cons r R =>
    cases R with
    | cons _ _ => cases e
    | nil =>
      have e : d = rwD r := by simpa using e
      refine ⟨r, e, wf r (by simp), ?_, fun n f ops z => ?_⟩
      · obtain ⟨w, h1, h2⟩ := simple_word h
        rw [e] at h1
        have h3 : Str.ofString (rwW r) = Str.ofString w := by simpa [rwD, rwL, wordR] using h1
        cases r <;> first | rfl | (exfalso; have h3 := ofString_inj h3; subst h3; simp [rwW] at h2)
      · subst z
        rw [e] at h
        have h : Simple ws [] (.tup [.str "call", .str n, .str f, .tup (ops.map kD)]) := h
        cases h with
        | call _ hp _ _ => simp at hp
end VL
namespace VL
open PySem PySem.Spec PyProof.Rows L2 RZ
theorem rngW_lo : ∀ (n a : Nat), rngW (a : Int) n = (List.range' a n).map fun k : Nat => W.d (.int (k : Nat))
  | 0, a => rfl
  | n + 1, a => by
    have := rngW_lo n (a + 1)
    rw [rngW, List.range'_succ, List.map_cons, ← this]
    rfl
/-- comprehensions over ranges -/
theorem lcg_is {te : WE} {tt : WT} {u : Nat} {rh : Ev} {mu : Sto} {K : W → Sto → Prop} {ks : List Nat} (p : Nat → Bool) (f : Nat → D) (hp : ∀ k ∈ ks, IsB tt ((rh.set u none).set u (some (.d (.int (k : Nat))))) mu (p k)) (hf : ∀ k ∈ ks, p k = true → Is te ((rh.set u none).set u (some (.d (.int (k : Nat))))) mu (.d (f k))) (hK : K (.d (.lst ((ks.filter p).map f))) mu) : lcL (fun _ => True) (wgName u) tt te (wipeE rh [u]) (ks.map fun k : Nat => W.d (.int (k : Nat))) [] mu (fun ws mu2 => newLW false ws mu2 K) := by
  refine lc_AF (fun k : Nat => W.d (.int (k : Nat))) p (fun k => .d (f k)) trivial (fun k hk A B hA => ?_) ?_
  · simp only [wipeE, wgName]
    refine hp k hk _ ?_
    cases c : p k with
    | true =>
      rw [c] at hA
      exact hf k hk c _ hA
    | false =>
      rw [c] at hA
      exact hA
  · have e : (ks.filter p).map (fun k => W.d (f k)) = ((ks.filter p).map f).map W.d := by rw [List.map_map]; rfl
    rw [e]
    simp only [newLW, asDs_map, newL, Bool.false_eq_true, if_false]
    exact hK
theorem lcgY_is {te : WE} {u : Nat} {rh : Ev} {mu : Sto} {K : W → Sto → Prop} {ks : List Nat} (f : Nat → D) (hf : ∀ k ∈ ks, Is te ((rh.set u none).set u (some (.d (.int (k : Nat))))) mu (.d (f k))) (hK : K (.d (.lst (ks.map f))) mu) : lcL (fun _ => True) (wgName u) wYes te (wipeE rh [u]) (ks.map fun k : Nat => W.d (.int (k : Nat))) [] mu (fun ws mu2 => newLW false ws mu2 K) := by
  refine lcg_is (tt := wYes) (fun _ => true) f (fun _ _ => fun K h => by simpa using h) (fun k hk _ => hf k hk) ?_
  rw [List.filter_eq_self.mpr (by simp)]
  exact hK
theorem lcR_is {a te : WE} {u n : Nat} {rh : Ev} {mu : Sto} (ha : Is a rh mu (.d (.int (n : Nat)))) (hn : n ≤ 1000000) (f : Nat → D) (hf : ∀ k < n, Is te ((rh.set u none).set u (some (.d (.int (k : Nat))))) mu (.d (f k))) : Is (wLc false (wRng1 (wCons a wNil)) (wgName u) wYes te [u]) rh mu (.d (.lst ((List.range n).map f))) := fun K hK => by
  simp only [wLc, wRng1, wCons, wNil]
  refine ha _ ⟨by omega, by omega, ?_⟩
  rw [Int.toNat_natCast, rngW_map]
  exact lcgY_is f (fun k hk => hf k (List.mem_range.mp hk)) hK
theorem lcRF_is {a te : WE} {tt : WT} {u n : Nat} {rh : Ev} {mu : Sto} (ha : Is a rh mu (.d (.int (n : Nat)))) (hn : n ≤ 1000000) (p : Nat → Bool) (f : Nat → D) (hp : ∀ k < n, IsB tt ((rh.set u none).set u (some (.d (.int (k : Nat))))) mu (p k)) (hf : ∀ k < n, p k = true → Is te ((rh.set u none).set u (some (.d (.int (k : Nat))))) mu (.d (f k))) : Is (wLc false (wRng1 (wCons a wNil)) (wgName u) tt te [u]) rh mu (.d (.lst (((List.range n).filter p).map f))) := fun K hK => by
  simp only [wLc, wRng1, wCons, wNil]
  refine ha _ ⟨by omega, by omega, ?_⟩
  rw [Int.toNat_natCast, rngW_map]
  exact lcg_is p f (fun k hk => hp k (List.mem_range.mp hk)) (fun k hk => hf k (List.mem_range.mp hk)) hK
theorem lcR2F_is {a b te : WE} {tt : WT} {u i j : Nat} {rh : Ev} {mu : Sto} (ha : Is a rh mu (.d (.int (i : Nat)))) (hb : Is b rh mu (.d (.int (j : Nat)))) (hi : i ≤ 1000000) (hj : j ≤ 1000000) (p : Nat → Bool) (f : Nat → D) (hp : ∀ k, i ≤ k → k < j → IsB tt ((rh.set u none).set u (some (.d (.int (k : Nat))))) mu (p k)) (hf : ∀ k, i ≤ k → k < j → p k = true → Is te ((rh.set u none).set u (some (.d (.int (k : Nat))))) mu (.d (f k))) : Is (wLc false (wRng2 (wCons a (wCons b wNil))) (wgName u) tt te [u]) rh mu (.d (.lst (((List.range' i (j - i)).filter p).map f))) := fun K hK => by
  simp only [wLc, wRng2, wCons, wNil]
  refine ha _ (hb _ ⟨⟨by omega, by omega, by omega, by omega, by omega⟩, ?_⟩)
  rw [show ((j : Int) - (i : Int)).toNat = j - i by omega, rngW_lo]
  have m : ∀ k ∈ List.range' i (j - i), i ≤ k ∧ k < j := fun k hk => by
    have := List.mem_range'_1.mp hk
    omega
  exact lcg_is p f (fun k hk => hp k (m k hk).1 (m k hk).2) (fun k hk => hf k (m k hk).1 (m k hk).2) hK
theorem operD_K {ws : List Str} (g : ∀ w ∈ ws, goodW w) {d : D} (h : OperD ws d) : ∃ k : Key, d = kD k ∧ okO k = true := by
  rcases h with ⟨x, hx, rfl⟩ | ⟨n, h1, h2, rfl⟩
  · exact ⟨.inr x, rfl, good_name (g x hx)⟩
  · exact operD_key (d := .int n) (by simp [operD, numD, numOk, nameD, h1, h2]; try omega)
@[simp] def p__law_bent_row : D → D → D → (W → Sto → Prop) → Prop := fun a b c Q => ∃ (r : Rw) (n : Int) (ws : List Str), a = rwD r ∧ b = .int n ∧ c = .lst (ws.map D.str) ∧ wfR r ∧ r ≠ .els ∧ r ≠ .endd ∧ 0 ≤ n ∧ n ≤ 10000000000 ∧ ws.length = 6 ∧ (∀ w ∈ ws, goodW w) ∧ ws.Nodup ∧
  ∀ r' mu, BentR r r' → Q (.d (rwD r')) mu
def w__law_bent_row : WS := (wSeq (wIfS (wTest (wOp (fInT false) (wOp fIx (wVar 0) (wC (.int 0))) (wTup (wCons (wC (.str "give")) (wCons (wC (.str "if")) (wCons (wC (.str "while")) wNil)))))) (wRet (wTup (wCons (wOp fIx (wVar 0) (wC (.int 0))) (wCons (wCallP false sp__law_operand [] (wCons (wVar 1) (wCons (wVar 2) wNil))) wNil)))) wNext)
    (wSeq (wIfS (wTest (wOp (fEq false) (wOp fIx (wVar 0) (wC (.int 0))) (wC (.str "def")))) (wRet (wTup (wCons (wC (.str "def")) (wCons (wOp fIx (wVar 0) (wC (.int 1))) (wCons (wCall fTuple (wCons (wLc false (wRng1 (wCons (wCall fLen (wCons (wOp fIx (wVar 0) (wC (.int 2))) wNil)) wNil)) (wgName 3) wYes (wOp fIx (wVar 2) (wOp (fI CR0 gMod) (wOp (fAdd false) (wVar 1) (wVar 3)) (wC (.int 4)))) [3]) wNil)) wNil))))) wNext)
    (wRet (wCallP true sp__law_simple [] (wCons (wVar 1) (wCons (wVar 2) (wCons (wLst false wNil) wNil)))))))
@[simp] def sp__law_bent_row : PSp := sp3 p__law_bent_row
theorem v__law_bent_row : ∀ a b c Q, p__law_bent_row a b c Q → w__law_bent_row (evr Q) (startE ["_law_row", "_law_number", "_law_words_here", "_law_k"] [.d a, .d b, .d c]) [] := by
  rintro _ _ _ Q ⟨r, n, ws, rfl, rfl, rfl, wf, ne, nd, h0, h1, hl, hg, hn, h⟩
  unfold w__law_bent_row
  have wd : ∀ mu, Is (wOp fIx (wVar 0) (wC (.int 0))) [some (.d (rwD r)), some (.d (.int n)), some (.d (.lst (ws.map D.str))), none] mu (.d (.str (Str.ofString (rwW r)))) := fun mu => op_to _ _ _ (var_is (i := 0) rfl) (int_is (.int 0)) fun K hK => by
    simp [rwD, rwL]; exact hK
  have oper : ∀ (w : Rw → Prop) (V : EV) (mk : Key → Rw), (∀ k, rwD (mk k) = .tup [.str (Str.ofString (rwW r)), kD k]) → (∀ k, okO k = true → BentR r (mk k)) → V.rt = (fun w mu => Q w mu) → wRet (wTup (wCons (wOp fIx (wVar 0) (wC (.int 0))) (wCons (wCallP false sp__law_operand [] (wCons (wVar 1) (wCons (wVar 2) wNil))) wNil))) V [some (.d (rwD r)), some (.d (.int n)), some (.d (.lst (ws.map D.str))), none] [] := fun _ V mk e1 e2 ev => by
    simp only [wRet, wTup, wCons]
    refine wd _ _ ?_
    refine oper_to h0 (by omega) (by omega) (var_is (i := 1) rfl) (var_is (i := 2) rfl) fun d hd => ?_
    obtain ⟨k, rfl, hk⟩ := operD_K hg hd
    simp only [wNil]
    refine ⟨by simp [sizeLine_eq], ?_⟩
    have := h (mk k) [] (e2 k hk)
    rw [e1] at this
    rw [ev]
    simpa using this
  refine seq_R (fun rh mu => rh = [some (.d (rwD r)), some (.d (.int n)), some (.d (.lst (ws.map D.str))), none] ∧ mu = [] ∧ (∀ o, r ≠ .give o) ∧ (∀ o, r ≠ .iff o) ∧ ∀ o, r ≠ .whil o) (fun K hK => ?_) ?_
  · refine ifB (strIn3_is _ _ _ (wd _)) (fun c => ?_) (fun c => ?_)
    · have c := of_decide_eq_true c
      simp only [str_eq] at c
      cases r <;> simp [rwW] at c ne nd
      · exact oper (fun _ => True) _ .give (fun k => rfl) (fun k hk => ⟨hk, trivial, rfl, fun _ _ _ => by simp⟩) rfl
      · exact oper (fun _ => True) _ .iff (fun k => rfl) (fun k hk => ⟨hk, trivial, rfl, fun _ _ _ => by simp⟩) rfl
      · exact oper (fun _ => True) _ .whil (fun k => rfl) (fun k hk => ⟨hk, trivial, rfl, fun _ _ _ => by simp⟩) rfl
    · have c := of_decide_eq_false c
      simp only [str_eq] at c
      exact hK _ _ ⟨rfl, rfl, fun o z => c (by rw [z]; simp [rwW]), fun o z => c (by rw [z]; simp [rwW]), fun o z => c (by rw [z]; simp [rwW])⟩
  rintro _ _ ⟨rfl, rfl, n1, n2, n3⟩
  refine seq_R (fun rh mu => rh = [some (.d (rwD r)), some (.d (.int n)), some (.d (.lst (ws.map D.str))), none] ∧ mu = [] ∧ ∀ m ps, r ≠ .deff m ps) (fun K hK => ?_) ?_
  · refine ifB (strTs_is _ (wd _)) (fun c => ?_) (fun c => ?_)
    · replace c := of_decide_eq_true c
      simp only [str_eq] at c
      cases r <;> simp [rwW] at c ne nd
      rename_i m ps
      have hps : ps.length ≤ 4 := wf.2.1
      let ps' : List Str := (List.range ps.length).map fun k : Nat => ws.getD ((n + k) % 4).toNat ⟨#[]⟩
      have gi : ∀ k : Nat, ((n + k) % 4).toNat < ws.length := fun k => by omega
      have gg : ∀ k : Nat, ws.getD ((n + k) % 4).toNat ⟨#[]⟩ = ws[((n + k) % 4).toNat]'(gi k) := fun k => List.getElem_eq_getD _ |>.symm
      have b : BentR (.deff m ps) (.deff m ps') := by
        refine ⟨⟨wf.1, by simp [ps']; exact hps, fun p hp => ?_, ?_⟩, trivial, by simp [sigR, ps'], fun _ _ _ => by simp⟩
        · obtain ⟨k, _, rfl⟩ := List.mem_map.mp hp
          rw [gg]
          exact good_name (hg _ (List.getElem_mem _))
        · refine List.pairwise_map.mpr (List.Pairwise.imp_of_mem (fun {x y} hx hy hxy e => ?_) (List.pairwise_lt_range (n := ps.length)))
          rw [gg, gg] at e
          have := (List.getElem_inj hn).mp e
          have h1 := List.mem_range.mp hx
          have h2 := List.mem_range.mp hy
          omega
      have lc : Is (wCall fTuple (wCons (wLc false (wRng1 (wCons (wCall fLen (wCons (wOp fIx (wVar 0) (wC (.int 2))) wNil)) wNil)) (wgName 3) wYes (wOp fIx (wVar 2) (wOp (fI CR0 gMod) (wOp (fAdd false) (wVar 1) (wVar 3)) (wC (.int 4)))) [3]) wNil)) [some (.d (rwD (.deff m ps))), some (.d (.int n)), some (.d (.lst (ws.map D.str))), none] [] (.d (.tup (ps'.map D.str))) := fun K hK => by
        have ll : Is (wCall fLen (wCons (wOp fIx (wVar 0) (wC (.int 2))) wNil)) [some (.d (rwD (.deff m ps))), some (.d (.int n)), some (.d (.lst (ws.map D.str))), none] [] (.d (.int (ps.length : Nat))) := fun K hK => by
          simp [rwD, rwL, rwP]; exact hK
        have q := lcR_is (u := 3) (te := wOp fIx (wVar 2) (wOp (fI CR0 gMod) (wOp (fAdd false) (wVar 1) (wVar 3)) (wC (.int 4)))) ll (by omega) (fun k => .str (ws.getD ((n + k) % 4).toNat ⟨#[]⟩)) fun k hk K hK => by
          have e : atI (ws.map D.str) ((n + k) % 4) = some (.str (ws.getD ((n + k) % 4).toNat ⟨#[]⟩)) := by
            rw [at_nat (by omega) (by simp; omega), List.getElem?_map, List.getElem?_eq_getElem (gi k), gg]; rfl
          simp [e]
          exact hK
        simp only [wCall, wCons]
        refine q _ ?_
        simp only [wNil, fTuple]
        have e : (List.range ps.length).map (fun k : Nat => D.str (ws.getD ((n + k) % 4).toNat ⟨#[]⟩)) = ps'.map D.str := by simp [ps']
        rw [e]
        simp only [seqW, mkTup, asDs_map]
        exact hK
      simp only [wRet, wTup, wCons]
      refine int_is (.str _) _ ?_
      have i1 : Is (wOp fIx (wVar 0) (wC (.int 1))) [some (.d (rwD (.deff m ps))), some (.d (.int n)), some (.d (.lst (ws.map D.str))), none] [] (.d (.str m)) := op_to _ _ _ (var_is (i := 0) rfl) (int_is (.int 1)) fun K hK => by
        simp [rwD, rwL, rwP]; exact hK
      refine i1 _ (lc _ ?_)
      simp only [wNil]
      refine ⟨by simp [sizeLine_eq], ?_⟩
      have := h (.deff m ps') [] b
      simpa [rwD, rwL, rwP] using this
    · have c := of_decide_eq_false c
      simp only [str_eq] at c
      exact hK _ _ ⟨rfl, rfl, fun m ps z => c (by rw [z]; simp [rwW])⟩
  rintro _ _ ⟨rfl, rfl, n4⟩
  have hpl : plR r = true := by
    cases r <;> first | rfl | exact absurd rfl ne | exact absurd rfl nd | exact absurd rfl (n1 _) | exact absurd rfl (n2 _) | exact absurd rfl (n3 _) | exact absurd rfl (n4 _ _)
  have hsg : sigR r = none := by
    cases r <;> first | rfl | exact absurd rfl (n4 _ _)
  have hli : ∀ r', plR r' = true → likeR r r' := fun r' h' => by
    cases r <;> first | exact ⟨rfl, h'⟩ | cases hpl
  have nl : Is (wLst false wNil) [some (.d (rwD r)), some (.d (.int n)), some (.d (.lst (ws.map D.str))), none] [] (.d (.lst [])) := fun K hK => by simp [sizeLine_eq]; exact hK
  simp only [wRet]
  refine callQ_own (ws := [.d (.int n), .d (.lst (ws.map D.str)), .d (.lst [])]) (iss1 (var_is (i := 1) rfl) (iss1 (var_is (i := 2) rfl) (iss1 nl iss0))) rfl fun Q' q => ?_
  refine ⟨ws, [], rfl, rfl, h0, by omega, by omega, hg, by simp [planOk], fun d mu hd => ?_⟩
  obtain ⟨r', rfl, w1, w2, w3⟩ := simple0_rw hg hd
  refine q _ _ (by simp) ?_
  refine h r' _ ⟨w1, hli r' w2, ?_, w3⟩
  rw [hsg]
  cases r' <;> first | rfl | cases w2
end VL
namespace VL
open PySem PySem.Spec PyProof.Rows L2 RZ
def isSk : Rw → Bool
  | .skip => true
  | _ => false
theorem isSk_t {r : Rw} (h : isSk r = true) : r = .skip := by cases r <;> first | rfl | cases h
theorem deqv_sk (r : Rw) : deqv (rwD r) (.tup [.str (Str.ofString "skip")]) = isSk r := by
  cases r <;> simp [rwD, rwL, rwP, isSk]
theorem isSk_is {a : WE} {rh : Ev} {mu : Sto} {r : Rw} (ha : Is a rh mu (.d (rwD r))) : IsB (wTest (wOp (fEq false) a (wTup (wCons (wC (.str (Str.ofString "skip"))) wNil)))) rh mu (isSk r) := by
  refine tst_is (isSk r) ha (tup1_is (int_is _)) fun K hK => ?_
  have := rwD_dep r
  have e := deqv_sk r
  simp only [fEq, snap]
  refine ⟨by omega, by simp, ?_⟩
  rw [e]
  simpa [onBl] using hK
theorem row_is {P : List Rw} {a b : WE} {rh : Ev} {mu : Sto} {k : Nat} (hk : k < P.length) (ha : Is a rh mu (.d (prgD P))) (hb : Is b rh mu (.d (.int (k : Nat)))) : Is (wOp fIx a b) rh mu (.d (rwD (rowAt P k))) := ix_lst ha hb (by
  rw [at_nat (by omega) (by simp; omega), List.getElem?_map]
  have := rowAt_get hk
  rw [show ((k : Int)).toNat = k from rfl, this]; rfl)
theorem rowL_is {P : List Rw} {a b : WE} {rh : Ev} {mu : Sto} {k l : Nat} (hk : k < P.length) (ha : Is a rh mu (.loc l)) (e : mu[l]? = some (.lst (P.map rwD))) (hb : Is b rh mu (.d (.int (k : Nat)))) : Is (wOp fIx a b) rh mu (.d (rwD (rowAt P k))) := ix_loc ha hb e (by
  rw [at_nat (by omega) (by simp; omega), List.getElem?_map]
  have := rowAt_get hk
  rw [show ((k : Int)).toNat = k from rfl, this]; rfl)
theorem wrd_is {a : WE} {rh : Ev} {mu : Sto} {r : Rw} (ha : Is a rh mu (.d (rwD r))) : Is (wOp fIx a (wC (.int 0))) rh mu (.d (.str (Str.ofString (rwW r)))) := part_is (i := 0) ha rfl
theorem opt_is {xs : List (Option Nat)} {a b : WE} {rh : Ev} {mu : Sto} {k : Nat} {o : Option Nat} (e : xs[k]? = some o) (ha : Is a rh mu (.d (.lst (xs.map optD)))) (hb : Is b rh mu (.d (.int (k : Nat)))) : Is (wOp fIx a b) rh mu (.d (optD o)) := ix_lst ha hb (optD_at e)
theorem some_is {a : WE} {rh : Ev} {mu : Sto} {o : Option Nat} (ha : Is a rh mu (.d (optD o))) : IsB (wTest (wOp (fIs true) a (wC .non))) rh mu o.isSome := fun K hK => ha _ (by
  cases o with
  | none => simpa [optD] using hK
  | some x => simpa [optD] using hK)
theorem none_is {a : WE} {rh : Ev} {mu : Sto} {o : Option Nat} (ha : Is a rh mu (.d (optD o))) : IsB (wTest (wOp (fIs false) a (wC .non))) rh mu o.isNone := fun K hK => ha _ (by
  cases o with
  | none => simpa [optD] using hK
  | some x => simpa [optD] using hK)
theorem optEq_is {a b : WE} {rh : Ev} {mu : Sto} {o p : Option Nat} (ha : Is a rh mu (.d (optD o))) (hb : Is b rh mu (.d (optD p))) : IsB (wTest (wOp (fEq false) a b)) rh mu (decide (o = p)) := by
  refine tst_is _ ha hb fun K hK => ?_
  have d : ∀ o : Option Nat, ddep (optD o) ≤ 1 := fun o => by cases o <;> simp [optD]
  simp only [fEq, snap]
  refine ⟨by have := d o; omega, by have := d p; omega, ?_⟩
  rw [optD_inj]
  simpa [onBl] using hK
theorem neNilD' {a : WE} {rh : Ev} {mu : Sto} {xs : List D} (hx : ddeps xs ≤ 50) (ha : Is a rh mu (.d (.lst xs))) : IsB (wTest (wOp (fEq true) a (wLst false wNil))) rh mu (!xs.isEmpty) := fun K hK => by
  simp only [wTest, wOp]
  refine ha _ ?_
  simp only [wLst, wNil]
  refine ⟨by simp [sizeLine_eq], ?_⟩
  simp only [newLW, asDs, newL, Bool.false_eq_true, if_false, fEq, snap]
  refine ⟨by simp; omega, by simp, ?_⟩
  cases xs with
  | nil => simpa [onBl] using hK
  | cons x xs => simpa [onBl] using hK
def giR : Rw → Bool
  | .give _ => true
  | _ => false
theorem giR_like {r r' : Rw} (h : likeR r r') : giR r' = giR r := by
  cases r <;> cases r' <;> first | rfl | (simp [likeR, plR] at h)
theorem giR_set {P : List Rw} {k : Nat} {r : Rw} (h : giR r = giR (rowAt P k)) (j : Nat) : giR (rowAt (P.set k r) j) = giR (rowAt P j) := by
  rw [rowAt_set]
  split
  · rename_i e; rw [h, e.1]
  · rfl
section
variable {P : List Rw} {pl : List (Str × List Str)} {s : ShS}
theorem Prg.lens (p : Prg P pl s) : s.heads.length = P.length ∧ s.ends.length = P.length ∧ s.elses.length = P.length := ⟨by simpa using p.i.ok.l1, by simpa using p.i.ok.l2, by simpa using p.i.ok.l3⟩
theorem Prg.headO (p : Prg P pl s) {k : Nat} (hk : k < P.length) : ∃ o, s.heads[k]? = some o := ⟨_, List.getElem?_eq_getElem (by rw [p.lens.1]; exact hk)⟩
theorem Prg.endO (p : Prg P pl s) {k : Nat} (hk : k < P.length) : ∃ o, s.ends[k]? = some o := ⟨_, List.getElem?_eq_getElem (by rw [p.lens.2.1]; exact hk)⟩
theorem Prg.elseO (p : Prg P pl s) {k : Nat} (hk : k < P.length) : ∃ o, s.elses[k]? = some o := ⟨_, List.getElem?_eq_getElem (by rw [p.lens.2.2]; exact hk)⟩
theorem end_head (p : Prg P pl s) {k : Nat} (hk : k < P.length) (e : rowAt P k = .endd) : ∃ h, s.heads[k]? = some (some h) ∧ isOp (rowAt P h) ∧ s.ends[h]? = some (some k) := by
  obtain ⟨h, w, e1, e2, _, _⟩ := p.i.en k hk (by rw [wA_row hk e]; rfl)
  obtain ⟨a1, a2, a3, a4, a5⟩ := head_kind p e1
  have en := (p.pairs.e2 k h e1 (.inr (by rw [wA_row hk e]; rfl))).1
  refine ⟨h, e1, ?_, en⟩
  cases q : rowAt P h with
  | iff o => exact ⟨o, .inl rfl⟩
  | whil o => exact ⟨o, .inr rfl⟩
  | deff n ps =>
    exfalso
    obtain ⟨g, g1, _, g3, g4, _⟩ := p.d.cl h (by simpa using a4) (by rw [wA_row a4 q]; rfl) (fun _ _ z => by cases z)
    rw [en] at g1
    cases g1
    have g4 : wA (P.map rwD) k = some (Str.ofString "give") := g4
    rw [wA_row hk e] at g4
    simp [rwW] at g4
  | _ => rcases p.heads.hd k hk with ⟨z, _⟩ | ⟨h', z1, _, _, _, _, w', z3, z4⟩
         · rw [e1] at z; cases z
         · rw [e1] at z1; cases z1
           rcases z4 with rfl | rfl | rfl <;> (have := (row_of_w z3).2; rw [q] at this; simp [rwW] at this)
theorem els_head (p : Prg P pl s) {k : Nat} (hk : k < P.length) (e : rowAt P k = .els) : ∃ h o, s.heads[k]? = some (some h) ∧ rowAt P h = .iff o ∧ s.elses[h]? = some (some k) ∧ h < k := by
  obtain ⟨h, e1, e2, e3, e4⟩ := p.i.el k hk (by rw [wA_row hk e]; rfl)
  obtain ⟨_, _, _, o, ho⟩ := elses_row p e2
  exact ⟨h, o, e1, ho, e2, e4⟩
end
theorem prg_flat (P : List Rw) : dflats (P.map rwD) = true := by
  induction P with
  | nil => rfl
  | cons r P ih => simp [rwD_flat, ih]
theorem set_rw (P : List Rw) (k : Nat) (r : Rw) : (P.map rwD).set k (rwD r) = (P.set k r).map rwD := by rw [List.map_set]
@[simp] def p__law_taken_away : D → D → D → (W → Sto → Prop) → Prop := fun a b c Q => ∃ (P : List Rw) (pl : List (Str × List Str)) (s : ShS) (h n : Nat), a = prgD P ∧ b = .int (h : Nat) ∧ c = shp3 s ∧ Prg P pl s ∧ isOp (rowAt P h) ∧ s.ends[h]? = some (some n) ∧
  Q (.loc 0) [.lst ((((tkE s P h).set n .skip).set h .skip).map rwD)]
theorem listT_to {a : WE} {rh : Ev} {mu : Sto} {K : W → Sto → Prop} {ds : List D} (ha : Is a rh mu (.d (.lst ds))) (q : K (.loc mu.length) (mu ++ [.lst ds])) : wCall (fList true) (wCons a wNil) rh mu K := by
  simp only [wCall, wCons]
  refine ha _ ?_
  simp only [wNil]
  simpa [asDs_map] using q
theorem skT_is {rh : Ev} {mu : Sto} : Is (wTup (wCons (wC (.str (Str.ofString "skip"))) wNil)) rh mu (.d (rwD .skip)) := tup1_is (int_is _)
def w__law_taken_away : WS := (wSeq (wAsg (wVar 2) (wgTup 3 (wgCons (wgName 3) (wgCons (wgName 4) (wgCons (wgName 5) wgNil)))))
    (wSeq (wAsg (wCall (fList true) (wCons (wVar 0) wNil)) (wgName 6))
    (wSeq (wIfS (wTest (wOp (fIs true) (wOp fIx (wVar 5) (wVar 1)) (wC .non))) (wAsg (wTup (wCons (wC (.str "skip")) wNil)) (wgSub fSetL (wVar 6) (wOp fIx (wVar 5) (wVar 1)))) wNext)
    (wSeq (wAsg (wTup (wCons (wC (.str "skip")) wNil)) (wgSub fSetL (wVar 6) (wOp fIx (wVar 4) (wVar 1))))
    (wSeq (wAsg (wTup (wCons (wC (.str "skip")) wNil)) (wgSub fSetL (wVar 6) (wVar 1)))
    (wRet (wVar 6)))))))
@[simp] def sp__law_taken_away : PSp := sp3 p__law_taken_away
theorem v__law_taken_away : ∀ a b c Q, p__law_taken_away a b c Q → w__law_taken_away (evr Q) (startE ["_law_bent_here", "_law_place", "_law_form", "_law_heads", "_law_ends", "_law_elses", "_law_taken"] [.d a, .d b, .d c]) [] := by
  rintro _ _ _ Q ⟨P, pl, s, h, n, rfl, rfl, rfl, p, ho, en, hq⟩
  obtain ⟨rn, hn, nl, hn2⟩ := ends_row p ho en
  have hlt : h < P.length := by omega
  obtain ⟨o, eo⟩ := p.elseO hlt
  unfold w__law_taken_away
  let E : Option W → Ev := fun x => [some (.d (prgD P)), some (.d (.int (h : Nat))), some (.d (shp3 s)), some (.d (.lst (s.heads.map optD))), some (.d (.lst (s.ends.map optD))), some (.d (.lst (s.elses.map optD))), x]
  refine seq_to (E none) [] (fun K hK => ?_) ?_
  · simp only [wAsg]
    exact var_is (i := 2) rfl _ (tup3_to hK)
  refine seq_to (E (some (.loc 0))) [.lst (P.map rwD)] (fun K hK => listT_to (var_is (i := 0) rfl) hK) ?_
  have le : (tkE s P h).length = P.length := by unfold tkE; split <;> simp
  have ieo : ∀ x mu, Is (wOp fIx (wVar 5) (wVar 1)) (E x) mu (.d (optD o)) := fun x mu => opt_is eo (var_is (i := 5) rfl) (var_is (i := 1) rfl)
  refine seq_to (E (some (.loc 0))) [.lst ((tkE s P h).map rwD)] (fun K hK => ?_) ?_
  · refine ifB (some_is (ieo _ _)) (fun c => ?_) (fun c => ?_)
    · cases o with
      | none => cases c
      | some e =>
        have := (elses_row p eo).2.2.1
        refine setL_to (l := 0) (k := e) skT_is (var_is (i := 6) rfl) (ieo _ _) rfl (by simp; exact this) ?_
        rw [set_rw]
        unfold tkE at hK
        rw [eo] at hK
        exact hK
    · cases o with
      | some e => cases c
      | none =>
        unfold tkE at hK
        rw [eo] at hK
        exact hK
  refine seq_to (E (some (.loc 0))) [.lst (((tkE s P h).set n .skip).map rwD)] (fun K hK => setL_to (l := 0) (k := n) skT_is (var_is (i := 6) rfl) (opt_is en (var_is (i := 4) rfl) (var_is (i := 1) rfl)) rfl (by simp [le]; exact nl) (by rw [set_rw]; exact hK)) ?_
  refine seq_to (E (some (.loc 0))) [.lst ((((tkE s P h).set n .skip).set h .skip).map rwD)] (fun K hK => setL_to (l := 0) (k := h) skT_is (var_is (i := 6) rfl) (var_is (i := 1) rfl) rfl (by simp [le]; exact hlt) (by rw [set_rw]; exact hK)) ?_
  exact ret_to (.loc 0) (var_is (i := 6) rfl) hq
end VL
namespace VL
open PySem PySem.Spec PyProof.Rows L2 RZ
theorem ints_dep (xs : List Nat) : ddeps (xs.map fun k : Nat => D.int (k : Nat)) ≤ 1 := ddeps_le fun d hd => by
  obtain ⟨x, _, rfl⟩ := List.mem_map.mp hd
  simp
theorem isE_map {A1 B1 : Type} (f : A1 → B1) (xs : List A1) : (xs.map f).isEmpty = xs.isEmpty := by cases xs <;> rfl
@[simp] def p__law_moved : D → D → D → D → (W → Sto → Prop) → Prop := fun a b c d Q => ∃ (P : List Rw) (pl : List (Str × List Str)) (s : ShS) (k : Nat) (m : Int), a = prgD P ∧ b = .int (k : Nat) ∧ c = .int m ∧ d = shp3 s ∧ GdP P ∧ Prg P pl s ∧ k < P.length ∧ (rowAt P k = .els ∨ rowAt P k = .endd) ∧ 0 ≤ m ∧
  ∀ P', GdP P' → P'.length = P.length → (∀ j, giR (rowAt P' j) = giR (rowAt P j)) → Q (.loc 0) [.lst (P'.map rwD)]
def w__law_moved : WS := (wSeq (wAsg (wVar 3) (wgTup 3 (wgCons (wgName 4) (wgCons (wgName 5) (wgCons (wgName 6) wgNil)))))
    (wSeq (wAsg (wOp fIx (wVar 4) (wVar 1)) (wgName 7))
    (wSeq (wAsg (wOp fIx (wOp fIx (wVar 0) (wVar 1)) (wC (.int 0))) (wgName 8))
    (wSeq (wAsg (wVar 7) (wgName 9))
    (wSeq (wIfS (wAnd (wTest (wOp (fEq false) (wVar 8) (wC (.str "end")))) (wTest (wOp (fIs true) (wOp fIx (wVar 6) (wVar 7)) (wC .non)))) (wAsg (wOp fIx (wVar 6) (wVar 7)) (wgName 9)) wNext)
    (wSeq (wAsg (wLc false (wRng2 (wCons (wOp (fAdd false) (wVar 9) (wC (.int 1))) (wCons (wOp fIx (wVar 5) (wVar 7)) wNil))) (wgName 11) (wAnd (wTest (wOp (fEq false) (wOp fIx (wVar 0) (wVar 11)) (wTup (wCons (wC (.str "skip")) wNil)))) (wTest (wOp (fEq false) (wOp fIx (wVar 4) (wVar 11)) (wVar 7)))) (wVar 11) [11]) (wgName 10))
    (wSeq (wAsg (wCall (fList true) (wCons (wVar 0) wNil)) (wgName 12))
    (wSeq (wIfS (wAnd (wTest (wOp (fEq false) (wVar 8) (wC (.str "else")))) (wTest (wOp (fEq false) (wOp (fI CR0 gMod) (wVar 2) (wC (.int 4))) (wC (.int 3))))) (wAsg (wTup (wCons (wC (.str "skip")) wNil)) (wgSub fSetL (wVar 12) (wVar 1))) (wIfS (wTest (wOp (fEq true) (wVar 10) (wLst false wNil))) (wSeq (wAsg (wTup (wCons (wC (.str "skip")) wNil)) (wgSub fSetL (wVar 12) (wVar 1)))
    (wAsg (wTup (wCons (wVar 8) wNil)) (wgSub fSetL (wVar 12) (wOp fIx (wVar 10) (wOp (fI CR0 gMod) (wOp (fI CD gDiv) (wVar 2) (wC (.int 4))) (wCall fLen (wCons (wVar 10) wNil))))))) wNext))
    (wRet (wVar 12))))))))))
@[simp] def sp__law_moved : PSp := sp4 p__law_moved
theorem v__law_moved : ∀ a b c d Q, p__law_moved a b c d Q → w__law_moved (evr Q) (startE ["_law_bent_here", "_law_place", "_law_number", "_law_form", "_law_heads", "_law_ends", "_law_elses", "_law_head", "_law_word", "_law_start", "_law_spots", "_law_k", "_law_moved_here"] [.d a, .d b, .d c, .d d]) [] := by
  rintro _ _ _ _ Q ⟨P, pl, s, k, m, rfl, rfl, rfl, rfl, g, p, hk, hr, m0, hq⟩
  have l60 := g.len
  obtain ⟨h, hh, hop, hhk, hlt⟩ : ∃ h, s.heads[k]? = some (some h) ∧ isOp (rowAt P h) ∧ h < k ∧ h < P.length := by
    rcases hr with hr | hr
    · obtain ⟨h, o, e1, e2, e3, e4⟩ := els_head p hk hr
      exact ⟨h, e1, ⟨o, .inl e2⟩, e4, by omega⟩
    · obtain ⟨h, e1, e2, e3⟩ := end_head p hk hr
      have := (ends_row p e2 e3).2.1
      exact ⟨h, e1, e2, this, by omega⟩
  obtain ⟨n, en⟩ : ∃ n, s.ends[h]? = some (some n) := by
    obtain ⟨o, ho⟩ := hop
    obtain ⟨n, e, _⟩ := endB_of p ho
    exact ⟨n, e⟩
  obtain ⟨rn, hn, nl, hn2⟩ := ends_row p hop en
  obtain ⟨o, eo⟩ := p.elseO hlt
  have enK : rowAt P k = .endd → n = k := fun e => by
    obtain ⟨h', e1, _, e3⟩ := end_head p hk e
    rw [hh] at e1; cases e1
    rw [en] at e3; cases e3; rfl
  have elK : rowAt P k = .els → s.elses[h]? = some (some k) := fun e => by
    obtain ⟨h', o', e1, _, e3, _⟩ := els_head p hk e
    rw [hh] at e1; cases e1
    exact e3
  unfold w__law_moved
  let E : Option W → Option W → Option W → Option W → Option W → Ev := fun x y z u v => [some (.d (prgD P)), some (.d (.int (k : Nat))), some (.d (.int m)), some (.d (shp3 s)), some (.d (.lst (s.heads.map optD))), some (.d (.lst (s.ends.map optD))), some (.d (.lst (s.elses.map optD))), x, y, z, u, none, v]
  let A : Option W := some (.d (.int (h : Nat)))
  let B : Option W := some (.d (.str (Str.ofString (rwW (rowAt P k)))))
  refine seq_to (E none none none none none) [] (fun K hK => ?_) ?_
  · simp only [wAsg]
    exact var_is (i := 3) rfl _ (tup3_to hK)
  refine seq_to (E A none none none none) [] (fun K hK => asg_to (.d (optD (some h))) (opt_is hh (var_is (i := 4) rfl) (var_is (i := 1) rfl)) hK) ?_
  refine seq_to (E A B none none none) [] (fun K hK => asg_to _ (wrd_is (row_is hk (var_is (i := 0) rfl) (var_is (i := 1) rfl))) hK) ?_
  refine seq_to (E A B A none none) [] (fun K hK => asg_to _ (var_is (i := 7) rfl) hK) ?_
  obtain ⟨st, stE, stb, st1, st2⟩ : ∃ st : Nat, h ≤ st ∧ st ≤ 60 ∧ (rowAt P k = .endd → ∀ e, o = some e → st = e) ∧ ((rowAt P k ≠ .endd ∨ o = none) → st = h) := by
    rcases hr with hr | hr
    · exact ⟨h, Nat.le_refl _, by omega, (fun z => by rw [hr] at z; cases z), fun _ => rfl⟩
    · cases o with
      | none => exact ⟨h, Nat.le_refl _, by omega, (fun _ e z => by cases z), fun _ => rfl⟩
      | some e =>
        have := (head_kind p (elses_row p eo).2.1).1
        have := (elses_row p eo).2.2.1
        exact ⟨e, by omega, by omega, (fun _ e' z => by cases z; rfl), fun z => by
          rcases z with z | z
          · exact absurd hr z
          · cases z⟩
  let C : Option W := some (.d (.int (st : Nat)))
  have wdv : ∀ rh mu, rh[8]? = some B → Is (wVar 8) rh mu (.d (.str (Str.ofString (rwW (rowAt P k))))) := fun rh mu e => var_is (i := 8) e
  refine seq_to (E A B C none none) [] (fun K hK => ?_) ?_
  · have t1 : IsB (wTest (wOp (fEq false) (wVar 8) (wC (.str (Str.ofString "end"))))) (E A B A none none) [] (decide (rwW (rowAt P k) = "end")) := fun K hK => strTs_is (Str.ofString "end") (wdv _ _ rfl) K (by simpa only [str_eq] using hK)
    have ieo : Is (wOp fIx (wVar 6) (wVar 7)) (E A B A none none) [] (.d (optD o)) := opt_is eo (var_is (i := 6) rfl) (var_is (i := 7) rfl)
    refine ifB (and_is t1 fun _ => some_is ieo) (fun c => ?_) (fun c => ?_)
    · rw [Bool.and_eq_true] at c
      have c1 := of_decide_eq_true c.1
      have r1 : rowAt P k = .endd := by
        rcases hr with hr | hr
        · rw [hr] at c1; simp [rwW] at c1
        · exact hr
      cases o with
      | none => cases c.2
      | some e =>
        have := st1 r1 e rfl
        subst this
        exact asg_to (.d (optD (some st))) ieo hK
    · have : st = h := st2 (by
        rcases hr with hr | hr
        · exact .inl (by rw [hr]; simp)
        · right
          cases o with
          | none => rfl
          | some e => rw [hr] at c; simp [rwW] at c)
      have hK : K (E A B (some (.d (.int (h : Nat)))) none none) [] := by rw [← this]; exact hK
      exact hK
  let pr : Nat → Bool := fun q => isSk (rowAt P q) && decide (s.heads[q]? = some (some h))
  let sp : List Nat := (List.range' (st + 1) (n - (st + 1))).filter pr
  have spm : ∀ q ∈ sp, st < q ∧ q < n ∧ rowAt P q = .skip ∧ s.heads[q]? = some (some h) := fun q hq => by
    obtain ⟨a, b⟩ := List.mem_filter.mp hq
    have := List.mem_range'_1.mp a
    rw [Bool.and_eq_true] at b
    exact ⟨by omega, by omega, isSk_t b.1, of_decide_eq_true b.2⟩
  let S : Option W := some (.d (.lst (sp.map fun k : Nat => D.int (k : Nat))))
  refine seq_to (E A B C S none) [] (fun K hK => ?_) ?_
  · refine asg_to (.d (.lst (sp.map fun k : Nat => D.int (k : Nat)))) ?_ hK
    refine lcR2F_is (i := st + 1) (j := n) (op_to _ _ (.d (.int ((st + 1 : Nat) : Nat))) (var_is (i := 9) rfl) (int_is (.int 1)) fun K hK => by simpa using hK) (opt_is en (var_is (i := 5) rfl) (var_is (i := 7) rfl)) (by omega) (by omega) pr (fun k => .int (k : Nat)) (fun q h1 h2 => ?_) (fun q h1 h2 _ => var_is (i := 11) rfl)
    obtain ⟨oq, eq⟩ := p.headO (k := q) (by omega)
    refine (and_is (b := decide (s.heads[q]? = some (some h))) (isSk_is (row_is (k := q) (by omega) (var_is (i := 0) rfl) (var_is (i := 11) rfl))) fun _ => ?_)
    have := optEq_is (o := oq) (p := some h) (opt_is eq (var_is (i := 4) rfl) (var_is (i := 11) rfl)) (var_is (w := .d (.int (h : Nat))) (i := 7) rfl) (rh := List.set (List.set (E A B C none none) 11 none) 11 (some (.d (.int (q : Nat))))) (mu := [])
    rw [eq]
    simpa using this
  refine seq_to (E A B C S (some (.loc 0))) [.lst (P.map rwD)] (fun K hK => listT_to (var_is (i := 0) rfl) hK) ?_
  refine seq_R (fun rh mu => ∃ P', GdP P' ∧ P'.length = P.length ∧ (∀ j, giR (rowAt P' j) = giR (rowAt P j)) ∧ rh = E A B C S (some (.loc 0)) ∧ mu = [.lst (P'.map rwD)]) (fun K hK => ?_) ?_
  · have hK : ∀ P', GdP P' → P'.length = P.length → (∀ j, giR (rowAt P' j) = giR (rowAt P j)) → K (E A B C S (some (.loc 0))) [.lst (P'.map rwD)] := fun P' a b c => hK _ _ ⟨P', a, b, c, rfl, rfl⟩
    have gk : giR Rw.skip = giR (rowAt P k) := by rcases hr with hr | hr <;> rw [hr] <;> rfl
    have t1 : IsB (wTest (wOp (fEq false) (wVar 8) (wC (.str (Str.ofString "else"))))) (E A B C S (some (.loc 0))) [.lst (P.map rwD)] (decide (rwW (rowAt P k) = "else")) := fun K hK => strTs_is (Str.ofString "else") (wdv _ _ rfl) K (by simpa only [str_eq] using hK)
    have t2 : IsB (wTest (wOp (fEq false) (wOp (fI CR0 gMod) (wVar 2) (wC (.int 4))) (wC (.int 3)))) (E A B C S (some (.loc 0))) [.lst (P.map rwD)] (m % 4 == 3) := fun K hK => by simp [E]; exact hK
    refine ifB (and_is t1 fun _ => t2) (fun c => ?_) (fun c => ?_)
    · rw [Bool.and_eq_true] at c
      have c1 := of_decide_eq_true c.1
      have r1 : rowAt P k = .els := by
        rcases hr with hr | hr
        · exact hr
        · rw [hr] at c1; simp [rwW] at c1
      obtain ⟨h', o', e1, e2, e3, _⟩ := els_head p hk r1
      rw [hh] at e1; cases e1
      refine setL_to (l := 0) (k := k) skT_is (var_is (i := 12) rfl) (var_is (i := 1) rfl) rfl (by simp; exact hk) ?_
      rw [set_rw]
      refine hK (P.set k .skip) (gd_else g p (h := h) (q := P.length) ⟨o', e2⟩ hlt (by simp) (fun z => absurd z (Nat.lt_irrefl _)) fun j hj _ => ?_) (by simp) (giR_set gk)
      rw [rowAt_set, e3]
      by_cases c : k = j
      · subst c; rw [if_pos ⟨rfl, hk⟩, if_pos rfl]
      · rw [if_neg (fun z => c z.1), if_neg (fun z => c (Option.some.inj (Option.some.inj z)))]
    · refine ifB (neNilD' (by have := ints_dep sp; omega) (var_is (i := 10) rfl)) (fun c2 => ?_) (fun _ => hK P g rfl fun _ => rfl)
      rw [isE_map] at c2
      have hne : 0 < sp.length := by
        cases e : sp with
        | nil => rw [e] at c2; cases c2
        | cons _ _ => simp
      have i0 := Int.emod_nonneg (m / 4) (b := (sp.length : Int)) (by omega)
      have i1 := Int.emod_lt_of_pos (m / 4) (b := (sp.length : Int)) (by omega)
      obtain ⟨x, ex⟩ : ∃ x : Nat, m / 4 % (sp.length : Int) = x := ⟨(m / 4 % (sp.length : Int)).toNat, by omega⟩
      rw [ex] at i0 i1
      have hx : x < sp.length := by omega
      obtain ⟨b1, b2, b3, b4⟩ := spm sp[x] (List.getElem_mem hx)
      generalize eq : sp[x] = q at b1 b2 b3 b4
      have iq : ∀ mu, Is (wOp fIx (wVar 10) (wOp (fI CR0 gMod) (wOp (fI CD gDiv) (wVar 2) (wC (.int 4))) (wCall fLen (wCons (wVar 10) wNil)))) (E A B C S (some (.loc 0))) mu (.d (.int (q : Nat))) := fun mu => by
        refine ix_lst (ds := sp.map fun k : Nat => D.int (k : Nat)) (i := (x : Int)) (var_is (i := 10) rfl) (op_to _ _ _ (op_to _ _ (.d (.int (m / 4))) (var_is (i := 2) rfl) (int_is (.int 4)) fun K hK => by simpa using hK) (len_is (var_is (i := 10) rfl)) fun K hK => ?_) ?_
        · simp [gMod_pos (show (0 : Int) < sp.length by omega), ex]
          refine ⟨?_, hK⟩
          exact fun z => by rw [z] at hne; simp at hne
        · rw [at_nat (by omega) (by simp; omega), List.getElem?_map, show ((x : Int)).toNat = x from rfl, List.getElem?_eq_getElem hx, eq]; rfl
      have iw : ∀ mu, Is (wTup (wCons (wVar 8) wNil)) (E A B C S (some (.loc 0))) mu (.d (rwD (rowAt P k))) := fun mu => by
        have := tup1_is (wdv (E A B C S (some (.loc 0))) mu rfl)
        rcases hr with hr | hr <;> rw [hr] at this ⊢ <;> exact this
      refine seq_to (E A B C S (some (.loc 0))) [.lst ((P.set k .skip).map rwD)] (fun K hK => setL_to (l := 0) (k := k) skT_is (var_is (i := 12) rfl) (var_is (i := 1) rfl) rfl (by simp; exact hk) (by rw [set_rw]; exact hK)) ?_
      refine setL_to (l := 0) (k := q) (iw _) (var_is (i := 12) rfl) (iq _) rfl (by simp; omega) ?_
      rw [set_rw]
      refine hK _ ?_ (by simp) fun j => (giR_set (P := P.set k .skip) ?_ j).trans (giR_set gk j)
      rotate_left
      · rw [giR_set gk, b3, ← gk]
      rcases hr with hr | hr
      · rw [hr]
        obtain ⟨h', o', e1, e2, e3, _⟩ := els_head p hk hr
        rw [hh] at e1; cases e1
        refine gd_else g p (h := h) (q := q) ⟨o', e2⟩ (by omega) (by simp) (fun z => ⟨b3, by rw [rowAt_set, if_pos ⟨rfl, by simp; exact z⟩], b4⟩) fun j hj hne => ?_
        rw [rowAt_set, if_neg (fun z => hne z.1.symm), rowAt_set, e3]
        by_cases c : k = j
        · subst c; rw [if_pos ⟨rfl, hk⟩, if_pos rfl]
        · rw [if_neg (fun z => c z.1), if_neg (fun z => c (Option.some.inj (Option.some.inj z)))]
      · rw [hr]
        have := enK hr
        subst this
        refine gd_mend g p hop en (by omega) b2 b3 b4 fun e he => ?_
        rw [eo] at he
        have := st1 hr e (Option.some.inj he)
        omega
  rintro _ _ ⟨P', g', l', gi, rfl, rfl⟩
  exact ret_to (.loc 0) (var_is (i := 12) rfl) (hq P' g' l' gi)
end VL
namespace VL
open PySem PySem.Spec PyProof.Rows L2 RZ
@[simp] def p__law_thinned : D → D → (W → Sto → Prop) → Prop := fun a b Q => ∃ (P : List Rw) (c : Int), a = prgD P ∧ b = .int c ∧ 0 ≤ c ∧ GdP P ∧ ∀ P', GdP P' → P'.length = P.length → Q (.d (prgD P')) [] ∧ Q (.loc 0) [.lst (P'.map rwD)]
def w__law_thinned : WS := (wSeq (wIfS (wTest (wOp (fEq false) (wOp (fI CR0 gMod) (wVar 1) (wC (.int 2))) (wC (.int 0)))) (wRet (wVar 0)) wNext)
    (wSeq (wAsg (wLst true wNil) (wgName 2))
    (wSeq (wFor (wRng1 (wCons (wCall fLen (wCons (wVar 0) wNil)) wNil)) (wgName 3) (wIfS (wAnd (wTest (wOp (fEq false) (wOp fIx (wOp fIx (wVar 0) (wVar 3)) (wC (.int 0))) (wC (.str "put")))) (wTest (wOp (fEq false) (wOp (fI CR0 gMod) (wOp (fI CD gDiv) (wVar 1) (wOp (fAdd false) (wVar 3) (wC (.int 2)))) (wC (.int 3))) (wC (.int 0))))) (wDrop (wBM fApp (wVar 2) (wCons (wTup (wCons (wC (.str "skip")) wNil)) wNil))) (wDrop (wBM fApp (wVar 2) (wCons (wOp fIx (wVar 0) (wVar 3)) wNil)))))
    (wRet (wVar 2)))))
@[simp] def sp__law_thinned : PSp := sp2 p__law_thinned
theorem v__law_thinned : ∀ a b Q, p__law_thinned a b Q → w__law_thinned (evr Q) (startE ["_law_rows", "_law_cell", "_law_thin", "_law_place"] [.d a, .d b]) [] := by
  rintro _ _ Q ⟨P, c, rfl, rfl, c0, g, hq⟩
  have l60 := g.len
  unfold w__law_thinned
  let E : Option W → Option W → Ev := fun x y => [some (.d (prgD P)), some (.d (.int c)), x, y]
  by_cases c2 : c % 2 = 0
  · refine seq_do fun N => ifS_T (fun K hK => by simp [c2]; exact hK) (ret_to _ (var_is (i := 0) rfl) (hq P g rfl).1)
  refine seq_to (E none none) [] (fun K hK => ifS_F (fun K hK => by
    have : (c % 2 == 0) = false := by simpa using c2
    simp [this]; exact hK) hK) ?_
  refine seq_to (E (some (.loc 0)) none) [.lst []] (fun K hK => by simp [E, sizeLine_eq]; exact hK) ?_
  refine seq_R (fun rh mu => ∃ (Q1 : List Rw) (y : Option W), Q1.length = P.length ∧ (∀ k, k < P.length → rowAt Q1 k = rowAt P k ∨ ((∃ n o, rowAt P k = .put n o) ∧ rowAt Q1 k = .skip)) ∧ rh = E (some (.loc 0)) y ∧ mu = [.lst (Q1.map rwD)]) (fun K hK => ?_) ?_
  · refine rng_to (n := P.length) (by omega) (by simpa using len_is (var_is (i := 0) (rh := E (some (.loc 0)) none) (mu := [.lst []]) (w := .d (.lst (P.map rwD))) rfl)) (fun j rh mu => ∃ (Q1 : List Rw) (y : Option W), Q1.length = j ∧ (∀ k, k < j → rowAt Q1 k = rowAt P k ∨ ((∃ n o, rowAt P k = .put n o) ∧ rowAt Q1 k = .skip)) ∧ rh = E (some (.loc 0)) y ∧ mu = [.lst (Q1.map rwD)]) (fun rh mu hh => ?_) (fun k hk rh mu hh N hN => ?_) ⟨[], none, rfl, fun k hk => absurd hk (by omega), rfl, rfl⟩
    · obtain ⟨Q1, y, h1, h2, h3, h4⟩ := hh
      exact hK _ _ ⟨Q1, y, h1, h2, h3, h4⟩
    · obtain ⟨Q1, y, h1, h2, rfl, rfl⟩ := hh
      have app : ∀ r : Rw, (r = rowAt P k ∨ ((∃ n o, rowAt P k = .put n o) ∧ r = .skip)) → N (E (some (.loc 0)) (some (.d (.int (k : Nat))))) [.lst (Q1.map rwD ++ [rwD r])] := fun r hr => hN _ _ ⟨Q1 ++ [r], _, by simp [h1], fun j hj => by
        unfold rowAt at h2 hr ⊢
        rcases Nat.lt_or_ge j k with q | q
        · rw [List.getElem?_append_left (by omega)]; exact h2 j q
        · have : j = k := by omega
          subst this
          rw [List.getElem?_append_right (by omega), h1, Nat.sub_self]
          exact hr, rfl, by simp⟩
      have ir : Is (wOp fIx (wVar 0) (wVar 3)) (E (some (.loc 0)) (some (.d (.int (k : Nat))))) [.lst (Q1.map rwD)] (.d (rwD (rowAt P k))) := row_is hk (var_is (i := 0) rfl) (var_is (i := 3) rfl)
      have cd : CD c ((k : Int) + 2) := CD_of (by omega) (by omega)
      have t2 : IsB (wTest (wOp (fEq false) (wOp (fI CR0 gMod) (wOp (fI CD gDiv) (wVar 1) (wOp (fAdd false) (wVar 3) (wC (.int 2)))) (wC (.int 3))) (wC (.int 0)))) (E (some (.loc 0)) (some (.d (.int (k : Nat))))) [.lst (Q1.map rwD)] (c / ((k : Int) + 2) % 3 == 0) := fun K hK => by
        simp [E, cd, gDiv_pos (show (0 : Int) < (k : Int) + 2 by omega)]
        exact hK
      have t1 := word_is (z := "put") _ ir rfl
      refine ifB (and_is t1 fun _ => t2) (fun c => ?_) (fun _ => app_to (l := 0) _ (var_is (i := 2) rfl) ir rfl (by rw [sizeLine_eq]; simp; omega) (app _ (.inl rfl)))
      rw [Bool.and_eq_true] at c
      have c1 := c.1
      rw [str_beq] at c1
      have c1 := eq_of_beq c1
      refine app_to (l := 0) _ (var_is (i := 2) rfl) skT_is rfl (by rw [sizeLine_eq]; simp; omega) (app _ (.inr ⟨?_, rfl⟩))
      cases e : rowAt P k <;> rw [e] at c1 <;> simp [rwW] at c1
      exact ⟨_, _, rfl⟩
  rintro _ _ ⟨Q1, y, h1, h2, rfl, rfl⟩
  have gq : GdP Q1 := gd_thin g h1 fun k => by
    by_cases hk : k < P.length
    · exact h2 k hk
    · left
      unfold rowAt
      rw [List.getElem?_eq_none (by omega), List.getElem?_eq_none (by omega)]
  exact ret_to (.loc 0) (var_is (i := 2) rfl) (hq Q1 gq h1).2
@[simp] def p__law_headless : D → (W → Sto → Prop) → Prop := fun a Q => ∃ (P : List Rw), a = prgD P ∧ GdP P ∧ ∀ P', GdP P' → P'.length = P.length → giR (rowAt P' (P.length - 1)) = giR (rowAt P (P.length - 1)) → Q (.d (prgD P')) [] ∧ Q (.loc 0) [.lst (P'.map rwD)]
def w__law_headless : WS := (wSeq (wAsg (wLc false (wRng1 (wCons (wCall fLen (wCons (wVar 0) wNil)) wNil)) (wgName 2) (wTest (wOp (fEq false) (wOp fIx (wOp fIx (wVar 0) (wVar 2)) (wC (.int 0))) (wC (.str "def")))) (wVar 2) [2]) (wgName 1))
    (wSeq (wIfS (wTest (wOp (fB0 fun i j => decide (i < j)) (wCall fLen (wCons (wVar 1) wNil)) (wC (.int 2)))) (wRet (wVar 0)) wNext)
    (wRet (wOp (fAdd true) (wOp (fMul false) (wLst false (wCons (wTup (wCons (wC (.str "skip")) wNil)) wNil)) (wOp fIx (wVar 1) (wC (.int 1)))) (wSl false (wVar 0) (wPart (wOp fIx (wVar 1) (wC (.int 1)))) wNoPart)))))
@[simp] def sp__law_headless : PSp := sp1 p__law_headless
theorem v__law_headless : ∀ a Q, p__law_headless a Q → w__law_headless (evr Q) (startE ["_law_rows", "_law_starts", "_law_place"] [.d a]) [] := by
  rintro _ Q ⟨P, rfl, g, hq⟩
  have l60 := g.len
  unfold w__law_headless
  let pr : Nat → Bool := fun k => rwW (rowAt P k) == "def"
  let st : List Nat := (List.range P.length).filter pr
  let S : Option W := some (.d (.lst (st.map fun k : Nat => D.int (k : Nat))))
  refine seq_to [some (.d (prgD P)), S, none] [] (fun K hK => ?_) ?_
  · refine asg_to (.d (.lst (st.map fun k : Nat => D.int (k : Nat)))) ?_ hK
    refine lcRF_is (n := P.length) (by simpa using len_is (var_is (i := 0) (rh := [some (.d (prgD P)), none, none]) (mu := []) (w := .d (.lst (P.map rwD))) rfl)) (by omega) pr (fun k => .int (k : Nat)) (fun k hk => ?_) (fun k hk _ => var_is (i := 2) rfl)
    have := word_is (z := "def") _ (row_is (P := P) (k := k) hk (a := wVar 0) (b := wVar 2) (rh := List.set (List.set [some (.d (prgD P)), none, none] 2 none) 2 (some (.d (.int (k : Nat))))) (mu := []) (var_is (i := 0) rfl) (var_is (i := 2) rfl)) rfl
    rw [str_beq] at this
    exact this
  have il : Is (wCall fLen (wCons (wVar 1) wNil)) [some (.d (prgD P)), S, none] [] (.d (.int (st.length : Nat))) := by simpa using len_is (var_is (i := 1) (rh := [some (.d (prgD P)), S, none]) (mu := []) (w := .d (.lst (st.map fun k : Nat => D.int (k : Nat)))) rfl)
  by_cases c2 : st.length < 2
  · refine seq_do fun N => ifS_T (tst_is true il (int_is (.int 2)) fun K hK => by
    have : ((st.length : Nat) : Int) < 2 := by omega
    simpa [this] using hK) (ret_to _ (var_is (i := 0) rfl) (hq P g rfl rfl).1)
  refine seq_to [some (.d (prgD P)), S, none] [] (fun K hK => ifS_F (tst_is false il (int_is (.int 2)) fun K hK => by
    have : ¬ ((st.length : Nat) : Int) < 2 := by omega
    simpa [this] using hK) hK) ?_
  obtain ⟨b, eb⟩ : ∃ b, st[1]? = some b := ⟨_, List.getElem?_eq_getElem (by omega)⟩
  have hb : b ∈ st := List.mem_of_getElem? eb
  obtain ⟨b1, b2⟩ := List.mem_filter.mp hb
  have hbl : b < P.length := List.mem_range.mp b1
  have b2 : rwW (rowAt P b) = "def" := eq_of_beq b2
  obtain ⟨n, ps, er⟩ : ∃ n ps, rowAt P b = .deff n ps := by
    cases e : rowAt P b <;> rw [e] at b2 <;> simp [rwW] at b2
    exact ⟨_, _, rfl⟩
  have ib : Is (wOp fIx (wVar 1) (wC (.int 1))) [some (.d (prgD P)), S, none] [] (.d (.int (b : Nat))) := ix_lst (ds := st.map fun k : Nat => D.int (k : Nat)) (i := 1) (var_is (i := 1) rfl) (int_is (.int 1)) (by
    rw [at_nat (by omega) (by simp; omega), List.getElem?_map, show ((1 : Int)).toNat = 1 from rfl, eb]; rfl)
  let Q1 : List Rw := List.replicate b .skip ++ P.drop b
  have lq : Q1.length = P.length := by simp [Q1]; omega
  have gq : GdP Q1 := gd_pre g er lq (fun k hk => by
    unfold rowAt
    rw [List.getElem?_append_left (by simpa using hk), List.getElem?_replicate, if_pos hk]; rfl) fun k hk => by
    unfold rowAt
    rw [List.getElem?_append_right (by simpa using hk), List.getElem?_drop, List.length_replicate, show b + (k - b) = k by omega]
  have gl : giR (rowAt Q1 (P.length - 1)) = giR (rowAt P (P.length - 1)) := by
    unfold rowAt
    rw [List.getElem?_append_right (by simp; omega), List.getElem?_drop, List.length_replicate, show b + (P.length - 1 - b) = P.length - 1 by omega]
  have im : Is (wOp (fMul false) (wLst false (wCons (wTup (wCons (wC (.str (Str.ofString "skip"))) wNil)) wNil)) (wOp fIx (wVar 1) (wC (.int 1)))) [some (.d (prgD P)), S, none] [] (.d (.lst ((List.replicate b .skip).map rwD))) := by
    refine op_to (.d (.lst [rwD .skip])) _ _ (fun K hK => ?_) ib fun K hK => ?_
    · simp only [wLst, wCons]
      refine skT_is _ ?_
      simp [sizeLine_eq]
      exact hK
    · have e : (List.replicate ((b : Nat) : Int).toNat [rwD .skip]).flatten = (List.replicate b .skip).map rwD := by
        rw [Int.toNat_natCast, List.map_replicate]
        clear hK
        generalize b = b
        induction b with
        | zero => rfl
        | succ b ih => rw [List.replicate_succ, List.flatten_cons, ih, List.replicate_succ]; rfl
      simp only [fMul, lsD]
      refine ⟨by omega, by omega, by rw [sizeLine_eq]; simp; omega, ?_⟩
      rw [e]
      simpa [newL] using hK
  have is : Is (wSl false (wVar 0) (wPart (wOp fIx (wVar 1) (wC (.int 1)))) wNoPart) [some (.d (prgD P)), S, none] [] (.d (.lst ((P.map rwD).drop b))) := fun K hK => var_is (i := 0) (w := .d (.lst (P.map rwD))) rfl _ (by
    simp only [wPart]
    refine ib _ ?_
    simp only [wNoPart, lsD, newL]
    rw [cut_dropN]
    exact hK)
  simp only [wRet, wOp]
  refine im _ (is _ ?_)
  simp only [fAdd, lsD]
  refine ⟨by rw [sizeLine_eq]; simp; omega, ?_⟩
  have := (hq Q1 gq lq gl).2
  rw [show Q1.map rwD = (List.replicate b .skip).map rwD ++ (P.map rwD).drop b by simp [Q1]] at this
  exact this
end VL
namespace VL
open PySem PySem.Spec PyProof.Rows L2 RZ
theorem bentRow_to {r : Rw} {n : Int} {ws : List Str} {a b c : WE} {rh : Ev} {mu : Sto} {K : W → Sto → Prop} (wf : wfR r) (ne1 : r ≠ .els) (ne2 : r ≠ .endd) (h0 : 0 ≤ n) (h1 : n ≤ 10000000000) (hl : ws.length = 6) (hg : ∀ w ∈ ws, goodW w) (hn : ws.Nodup) (ha : Is a rh mu (.d (rwD r))) (hb : Is b rh mu (.d (.int n))) (hc : Is c rh mu (.d (.lst (ws.map D.str)))) (h : ∀ r', BentR r r' → K (.d (rwD r')) mu) : wCallP false sp__law_bent_row [] (wCons a (wCons b (wCons c wNil))) rh mu K := ha _ (hb _ (hc _ (by
  simp only [snaps, snap, wNil]
  refine ⟨r, n, ws, rfl, rfl, rfl, wf, ne1, ne2, h0, h1, hl, hg, hn, fun r' mu' hr => ?_⟩
  have := h r' hr
  simpa using this)))
theorem tk_gi {P : List Rw} {pl : List (Str × List Str)} {s : ShS} {h n : Nat} (p : Prg P pl s) (ho : isOp (rowAt P h)) (en : s.ends[h]? = some (some n)) (j : Nat) : giR (rowAt (((tkE s P h).set n .skip).set h .skip) j) = giR (rowAt P j) := by
  obtain ⟨rn, hn, nl, hn2⟩ := ends_row p ho en
  have t : ∀ k, giR (rowAt (tkE s P h) k) = giR (rowAt P k) := fun k => by
    unfold tkE
    split
    · rename_i e he
      exact giR_set (by rw [(elses_row p he).1]; rfl) k
    · rfl
  have t2 : ∀ k, giR (rowAt ((tkE s P h).set n .skip) k) = giR (rowAt P k) := fun k => (giR_set (by rw [t, rn]; rfl) k).trans (t k)
  refine (giR_set ?_ j).trans (t2 j)
  rw [t2]
  obtain ⟨o, ho⟩ := ho
  rcases ho with e | e <;> rw [e] <;> rfl
@[simp] def p__law_bent : D → D → D → (W → Sto → Prop) → Prop := fun a b c Q => ∃ (P : List Rw) (cs : List Int) (ws : List Str), a = prgD P ∧ b = .lst (cs.map D.int) ∧ c = .lst (ws.map D.str) ∧ GdP P ∧ 0 < P.length ∧ ws.length = 6 ∧ (∀ w ∈ ws, goodW w) ∧ ws.Nodup ∧
  ∀ P' l mu, GdP P' → P'.length = P.length → (∀ j, giR (rowAt P' j) = giR (rowAt P j)) → mu[l]? = some (.lst (P'.map rwD)) → Q (.loc l) mu
def w__law_bent : WS := (wSeq (wAsg (wCall (fList true) (wCons (wVar 0) wNil)) (wgName 3))
    (wSeq (wFor (wSeqI (wVar 1)) (wgName 4) (wSeq (wAsg (wOp (fI CR0 gMod) (wOp (fMul false) (wVar 4) (wC (.int 69621))) (wC (.int 2147483629))) (wgName 5))
    (wSeq (wAsg (wOp (fI CR0 gMod) (wVar 5) (wCall fLen (wCons (wVar 0) wNil))) (wgName 6))
    (wSeq (wAsg (wOp (fI CD gDiv) (wVar 5) (wC (.int 61))) (wgName 5))
    (wSeq (wAsg (wCallP false sp__law_shape [] (wCons (wVar 3) wNil)) (wgName 7))
    (wSeq (wAsg (wOp fIx (wOp fIx (wVar 3) (wVar 6)) (wC (.int 0))) (wgName 8))
    (wSeq (wAsg (wOp fIx (wOp fIx (wVar 7) (wC (.int 0))) (wVar 6)) (wgName 9))
    (wIfS (wTest (wOp (fInT false) (wVar 8) (wTup (wCons (wC (.str "else")) (wCons (wC (.str "end")) wNil))))) (wAsg (wCallP true sp__law_moved [] (wCons (wVar 3) (wCons (wVar 6) (wCons (wVar 5) (wCons (wVar 7) wNil))))) (wgName 3)) (wIfS (wAnd (wTest (wOp (fInT false) (wVar 8) (wTup (wCons (wC (.str "if")) (wCons (wC (.str "while")) wNil))))) (wTest (wOp (fEq false) (wOp (fI CR0 gMod) (wVar 5) (wC (.int 4))) (wC (.int 3))))) (wAsg (wCallP true sp__law_taken_away [] (wCons (wVar 3) (wCons (wVar 6) (wCons (wVar 7) wNil)))) (wgName 3)) (wIfS (wAnd (wTest (wOp (fEq false) (wVar 8) (wC (.str "skip")))) (wAnd (wTest (wOp (fEq false) (wOp (fI CR0 gMod) (wVar 5) (wC (.int 4))) (wC (.int 1)))) (wTest (wOp (fIs true) (wVar 9) (wC .non))))) (wIfS (wAnd (wTest (wOp (fEq false) (wOp fIx (wOp fIx (wVar 3) (wVar 9)) (wC (.int 0))) (wC (.str "if")))) (wTest (wOp (fIs false) (wOp fIx (wOp fIx (wVar 7) (wC (.int 2))) (wVar 9)) (wC .non)))) (wAsg (wTup (wCons (wC (.str "else")) wNil)) (wgSub fSetL (wVar 3) (wVar 6))) wNext) (wIfS (wOr (wAnd (wTest (wOp (fEq false) (wVar 8) (wC (.str "def")))) (wTest (wOp (fEq false) (wOp (fI CR0 gMod) (wVar 5) (wC (.int 3))) (wC (.int 2))))) (wTest (wOp (fIs true) (wVar 9) (wC .non)))) (wAsg (wCallP false sp__law_bent_row [] (wCons (wOp fIx (wVar 3) (wVar 6)) (wCons (wOp (fI CD gDiv) (wVar 5) (wC (.int 4))) (wCons (wVar 2) wNil)))) (wgSub fSetL (wVar 3) (wVar 6))) wNext)))))))))))
    (wRet (wVar 3))))
@[simp] def sp__law_bent : PSp := sp3 p__law_bent
theorem v__law_bent : ∀ a b c Q, p__law_bent a b c Q → w__law_bent (evr Q) (startE ["_law_rows", "_law_cells", "_law_words_here", "_law_bent_here", "_law_cell", "_law_number", "_law_place", "_law_form", "_law_word", "_law_head"] [.d a, .d b, .d c]) [] := by
  rintro _ _ _ Q ⟨P, cs, ws, rfl, rfl, rfl, g, hp, w1, w2, w3, hq⟩
  have l60 := g.len
  unfold w__law_bent
  let E : Nat → Option W → Option W → Option W → Option W → Option W → Option W → Ev := fun l a b c d e f => [some (.d (prgD P)), some (.d (.lst (cs.map D.int))), some (.d (.lst (ws.map D.str))), some (.loc l), a, b, c, d, e, f]
  refine seq_to (E 0 none none none none none none) [.lst (P.map rwD)] (fun K hK => listT_to (var_is (i := 0) rfl) hK) ?_
  refine seq_R (fun rh mu => ∃ P' l a b c d e f, GdP P' ∧ P'.length = P.length ∧ (∀ j, giR (rowAt P' j) = giR (rowAt P j)) ∧ mu[l]? = some (.lst (P'.map rwD)) ∧ rh = E l a b c d e f) (fun K hK => ?_) ?_
  · refine for_lstM (f := D.int) (var_is (i := 1) rfl) ?_
    refine forL_S (fun x : Int => W.d (.int x)) (fun _ rh mu => ∃ P' l a b c d e f, GdP P' ∧ P'.length = P.length ∧ (∀ j, giR (rowAt P' j) = giR (rowAt P j)) ∧ mu[l]? = some (.lst (P'.map rwD)) ∧ rh = E l a b c d e f) (fun _ _ _ _ => trivial) (fun rh mu h => hK _ _ h) (fun x xs rh mu hh N hN => ?_) ⟨P, 0, none, none, none, none, none, none, g, rfl, fun _ => rfl, rfl, rfl⟩
    obtain ⟨P', l, a, b, c, d, e, f, g', lp, gp, em, rfl⟩ := hh
    obtain ⟨pl, s, gg⟩ := g'.gg
    have p := gg.p
    simp only [wgName]
    obtain ⟨n0, en0, n00, n01⟩ : ∃ n : Int, x * 69621 % 2147483629 = n ∧ 0 ≤ n ∧ n < 2147483629 := ⟨_, rfl, Int.emod_nonneg _ (by decide), Int.emod_lt_of_pos _ (by decide)⟩
    let X : Option W := some (.d (.int x))
    refine seq_to (E l X (some (.d (.int n0))) c d e f) mu (fun K hK => by simp [E, X]; rw [en0]; exact hK) ?_
    clear en0
    have hpp : (0 : Int) < P.length := by omega
    obtain ⟨k, ek⟩ : ∃ k : Nat, n0 % (P.length : Int) = k := ⟨(n0 % (P.length : Int)).toNat, by have := Int.emod_nonneg n0 (b := (P.length : Int)) (by omega); omega⟩
    have hk0 : k < P.length := by have := Int.emod_lt_of_pos n0 hpp; omega
    have hk : k < P'.length := by omega
    let Kx : Option W := some (.d (.int (k : Nat)))
    refine seq_to (E l X (some (.d (.int n0))) Kx d e f) mu (fun K hK => by
      refine asg_to (.d (.int (k : Nat))) (op_to (.d (.int n0)) (.d (.int (P.length : Nat))) _ (var_is (i := 5) rfl) (by simpa using len_is (var_is (i := 0) (rh := E l X (some (.d (.int n0))) c d e f) (mu := mu) (w := .d (.lst (P.map rwD))) rfl)) fun K hK => ?_) hK
      simp only [fI]
      refine ⟨by simp only [CR0]; omega, ?_⟩
      rw [gMod_pos hpp, ek]
      exact hK) ?_
    clear ek
    obtain ⟨n1, en1⟩ : ∃ n : Int, n0 / 61 = n := ⟨_, rfl⟩
    have n10 : 0 ≤ n1 ∧ n1 < 2147483629 := by omega
    let Nx : Option W := some (.d (.int n1))
    refine seq_to (E l X Nx Kx d e f) mu (fun K hK => by simp [E, X]; rw [en1]; exact hK) ?_
    clear en1
    let F : Option W := some (.d (shp3 s))
    refine seq_to (E l X Nx Kx F e f) mu (fun K hK => asg_to _ (lshapeL_is p (var_is (i := 3) rfl) em) hK) ?_
    obtain ⟨r, er⟩ : ∃ r, rowAt P' k = r := ⟨_, rfl⟩
    have ir : ∀ {rh : Ev}, rh[3]? = some (some (.loc l)) → rh[6]? = some Kx → Is (wOp fIx (wVar 3) (wVar 6)) rh mu (.d (rwD r)) := fun h1 h2 => by
      have := rowL_is (P := P') (k := k) hk (var_is (i := 3) h1) em (var_is (i := 6) h2)
      rw [er] at this
      exact this
    let Wd : Option W := some (.d (.str (Str.ofString (rwW r))))
    refine seq_to (E l X Nx Kx F Wd f) mu (fun K hK => asg_to _ (wrd_is (ir rfl rfl)) hK) ?_
    obtain ⟨o, eo⟩ := p.headO hk
    refine seq_to (E l X Nx Kx F Wd (some (.d (optD o)))) mu (fun K hK => asg_to (.d (optD o)) (opt_is eo (ix_tup (ds := [.lst (s.heads.map optD), .lst (s.ends.map optD), .lst (s.elses.map optD)]) (i := 0) (var_is (i := 7) rfl) (int_is (.int 0)) rfl) (var_is (i := 6) rfl)) hK) ?_
    let E1 : Ev := E l X Nx Kx F Wd (some (.d (optD o)))
    show wIfS _ _ _ _ E1 mu
    have fin : ∀ P2 l2 mu2, GdP P2 → P2.length = P'.length → (∀ j, giR (rowAt P2 j) = giR (rowAt P' j)) → mu2[l2]? = some (.lst (P2.map rwD)) → N (E l2 X Nx Kx F Wd (some (.d (optD o)))) mu2 := fun P2 l2 mu2 h1 h2 h4 h3 => hN _ _ ⟨P2, l2, _, _, _, _, _, _, h1, by omega, fun j => (h4 j).trans (gp j), h3, rfl⟩
    have old : N E1 mu := fin P' l mu g' rfl (fun _ => rfl) em
    have ow : ∀ {mu2 : Sto} {P2 : List Rw}, mu2 = mu ++ ([C.lst (P2.map rwD)].map (shiftC mu.length)) → mu2[mu.length + 0]? = some (.lst (P2.map rwD)) := fun h => by rw [h]; simp
    have wv : Is (wVar 8) E1 mu (.d (.str (Str.ofString (rwW r)))) := var_is (i := 8) rfl
    have n4 : ∀ j : Int, IsB (wTest (wOp (fEq false) (wOp (fI CR0 gMod) (wVar 5) (wC (.int 4))) (wC (.int j)))) E1 mu (n1 % 4 == j) := fun j K hK => by simp [E1, E, Nx]; exact hK
    refine ifB (strIn2_is _ _ wv) (fun c => ?_) (fun c => ?_)
    · replace c := of_decide_eq_true c
      simp only [str_eq] at c
      have hr : rowAt P' k = .els ∨ rowAt P' k = .endd := by
        rw [er]; cases r <;> simp [rwW] at c ⊢
      simp only [wAsg]
      refine callQ_own (ws := [.loc l, .d (.int (k : Nat)), .d (.int n1), .d (shp3 s)]) (ds := [prgD P', .int (k : Nat), .int n1, shp3 s]) (iss1 (var_is (i := 3) rfl) (iss1 (var_is (i := 6) rfl) (iss1 (var_is (i := 5) rfl) (iss1 (var_is (i := 7) rfl) iss0)))) (by simp [em]) fun Q' q => ?_
      refine ⟨P', pl, s, k, n1, rfl, rfl, rfl, rfl, g', p, hk, hr, n10.1, fun P2 g2 l2 gi => q _ _ (by simp [prg_flat]) ?_⟩
      exact fin P2 _ _ g2 l2 gi (ow rfl)
    replace c := of_decide_eq_false c
    simp only [str_eq] at c
    have ne1 : r ≠ .els := fun z => by rw [z] at c; simp [rwW] at c
    have ne2 : r ≠ .endd := fun z => by rw [z] at c; simp [rwW] at c
    clear c
    refine ifB (and_is (strIn2_is _ _ wv) fun _ => n4 3) (fun c => ?_) (fun _ => ?_)
    · rw [Bool.and_eq_true] at c
      have c := of_decide_eq_true c.1
      simp only [str_eq] at c
      have hop : isOp (rowAt P' k) := by
        rw [er]; cases r <;> simp [rwW] at c
        · exact ⟨_, .inl rfl⟩
        · exact ⟨_, .inr rfl⟩
      obtain ⟨n, en⟩ : ∃ n, s.ends[k]? = some (some n) := by
        obtain ⟨o, ho⟩ := hop
        obtain ⟨n, e, _⟩ := endB_of p ho
        exact ⟨n, e⟩
      have g2 := gd_taken g' p hop en
      have le : (tkE s P' k).length = P'.length := by unfold tkE; split <;> simp
      simp only [wAsg]
      refine callQ_own (ws := [.loc l, .d (.int (k : Nat)), .d (shp3 s)]) (ds := [prgD P', .int (k : Nat), shp3 s]) (iss1 (var_is (i := 3) rfl) (iss1 (var_is (i := 6) rfl) (iss1 (var_is (i := 7) rfl) iss0))) (by simp [em]) fun Q' q => ?_
      refine ⟨P', pl, s, k, n, rfl, rfl, rfl, p, hop, en, q _ _ (by simp only [allD, wflat, List.all_cons, List.all_nil, cflat, prg_flat]; rfl) ?_⟩
      exact fin _ _ _ g2 (by simp [le]) (tk_gi p hop en) (ow rfl)
    have isS : IsB (wTest (wOp (fIs true) (wVar 9) (wC .non))) E1 mu o.isSome := some_is (var_is (i := 9) rfl)
    have wS : ∀ z : String, IsB (wTest (wOp (fEq false) (wVar 8) (wC (.str (Str.ofString z))))) E1 mu (decide (rwW r = z)) := fun z K hK => strTs_is (Str.ofString z) wv K (by simpa only [str_eq] using hK)
    refine ifB (and_is (wS "skip") fun _ => and_is (n4 1) fun _ => isS) (fun c => ?_) (fun _ => ?_)
    · rw [Bool.and_eq_true, Bool.and_eq_true] at c
      obtain ⟨c1, _, c3⟩ := c
      have c1 := of_decide_eq_true c1
      have rs : rowAt P' k = .skip := by rw [er]; cases r <;> simp [rwW] at c1 <;> rfl
      cases o with
      | none => cases c3
      | some h =>
        obtain ⟨h1, _, _, h4, _⟩ := head_kind p eo
        obtain ⟨oe, eoe⟩ := p.elseO h4
        have ih : Is (wVar 9) E1 mu (.d (.int (h : Nat))) := var_is (i := 9) rfl
        have irh : Is (wOp fIx (wVar 3) (wVar 9)) E1 mu (.d (rwD (rowAt P' h))) := rowL_is h4 (var_is (i := 3) rfl) em ih
        have t1 := word_is (z := "if") _ irh rfl
        have t2 : IsB (wTest (wOp (fIs false) (wOp fIx (wOp fIx (wVar 7) (wC (.int 2))) (wVar 9)) (wC .non))) E1 mu oe.isNone := none_is (opt_is eoe (ix_tup (ds := [.lst (s.heads.map optD), .lst (s.ends.map optD), .lst (s.elses.map optD)]) (i := 2) (var_is (i := 7) rfl) (int_is (.int 2)) rfl) ih)
        refine ifB (and_is t1 fun _ => t2) (fun c => ?_) (fun _ => old)
        rw [Bool.and_eq_true, str_beq] at c
        have c1 := eq_of_beq c.1
        cases oe with
        | some _ => cases c.2
        | none =>
          have hif : ∃ o, rowAt P' h = .iff o := by
            cases q : rowAt P' h <;> rw [q] at c1 <;> simp [rwW] at c1
            exact ⟨_, rfl⟩
          refine setL_to (l := l) (k := k) (d := rwD .els) (tup1_is (int_is _)) (var_is (i := 3) rfl) (var_is (i := 6) rfl) em (by simpa using hk) ?_
          rw [set_rw]
          refine fin _ _ _ (gd_else g' p hif h1 (Q := P'.set k .els) (by simp) (fun _ => ⟨rs, by rw [rowAt_set, if_pos ⟨rfl, hk⟩], eo⟩) fun j hj hne => ?_) (by simp) (giR_set (by rw [rs]; rfl)) (List.getElem?_set_self (List.getElem?_eq_some_iff.mp em).1)
          rw [rowAt_set, if_neg (fun z => hne z.1.symm), eoe, if_neg (by simp)]
    have n3 : IsB (wTest (wOp (fEq false) (wOp (fI CR0 gMod) (wVar 5) (wC (.int 3))) (wC (.int 2)))) E1 mu (n1 % 3 == 2) := fun K hK => by simp [E1, E, Nx]; exact hK
    refine ifB (or_is' (and_is (wS "def") fun _ => n3) fun _ => isS) (fun c => ?_) (fun _ => old)
    have hh : (∃ h, s.heads[k]? = some (some h)) ∨ ∃ n ps, rowAt P' k = .deff n ps := by
      rw [Bool.or_eq_true, Bool.and_eq_true] at c
      rcases c with ⟨c, _⟩ | c
      · right
        have c := of_decide_eq_true c
        rw [er]
        cases r <;> simp [rwW] at c
        exact ⟨_, _, rfl⟩
      · left
        cases o with
        | none => cases c
        | some h => exact ⟨h, eo⟩
    clear c
    have wfr : wfR r := by
      rw [← er]
      exact g'.wf _ (List.mem_of_getElem? (rowAt_get hk))
    simp only [wAsg, wgSub]
    have i4 : Is (wOp (fI CD gDiv) (wVar 5) (wC (.int 4))) E1 mu (.d (.int (n1 / 4))) := fun K hK => by simp [E1, E, Nx]; exact hK
    refine bentRow_to wfr ne1 ne2 (by omega) (by omega) w1 w2 w3 (ir (rh := E1) rfl rfl) i4 (var_is (i := 2) rfl) fun r' br => ?_
    refine var_is (i := 3) (rh := E1) rfl _ (var_is (i := 6) (rh := E1) rfl _ ?_)
    simp only [fSetL, em]
    refine ⟨k, ?_, ?_⟩
    · unfold ixN
      rw [if_pos (by omega), if_pos (by simp; omega)]; rfl
    rw [set_rw]
    refine fin _ _ _ (gd_like g' p hk (r := r') (by rw [er]; exact br.like) br.wf (by rw [er]; exact br.sig) br.nc hh) (by simp) (giR_set (by rw [er]; exact giR_like br.like)) (List.getElem?_set_self (List.getElem?_eq_some_iff.mp em).1)
  rintro rh mu ⟨P', l, a, b, c, d, e, f, g', lp, gp, em, rfl⟩
  exact ret_to (.loc l) (var_is (i := 3) rfl) (hq P' l mu g' lp gp em)
end VL
namespace VL
open PySem PySem.Spec PyProof.Rows L2 RZ
/-! ### the inputs, the program made -/
@[simp] def p__law_made : D → D → D → (W → Sto → Prop) → Prop := fun a b c Q => ∃ (ns : List Int) (st mo : Nat), a = .scr ns ∧ b = .int (st : Nat) ∧ c = .int (mo : Nat) ∧ st ≤ 100 ∧ mo ≤ 100 ∧
  ∀ (P : List Rw) (pl : List (Str × List Str)) l mu, GdP P → PrgQ P pl → 1 ≤ pl.length → mu[l]? = some (.lst (P.map rwD)) → Q (.loc l) mu
def w__law_made : WS := (wSeq (wAsg (wCallP false sp__law_words [] (wCons (wCallP false sp__law_cell_at [] (wCons (wVar 0) (wCons (wC (.int 0)) wNil))) (wCons (wC (.int 6)) wNil))) (wgName 3))
    (wSeq (wAsg (wCallP false sp__law_plan [] (wCons (wCallP false sp__law_cell_at [] (wCons (wVar 0) (wCons (wC (.int 1)) wNil))) (wCons (wVar 3) wNil))) (wgName 4))
    (wSeq (wAsg (wSl false (wVar 0) (wPart (wVar 1)) (wPart (wOp (fAdd false) (wVar 1) (wVar 2)))) (wgName 5))
    (wSeq (wFor (wRng1 (wCons (wOp (fI0 fun i j => i - j) (wC (.int 6)) (wCall fLen (wCons (wVar 5) wNil))) wNil)) (wgName 6) (wAsg (wOp (fAdd false) (wVar 5) (wLst false (wCons (wOp (fAdd false) (wOp (fAdd false) (wOp (fI CR0 gMod) (wCallP false sp__law_cell_at [] (wCons (wVar 0) (wCons (wC (.int 1)) wNil))) (wC (.int 1000003))) (wOp (fMul false) (wOp (fMul false) (wC (.int 48271)) (wVar 6)) (wVar 6))) (wVar 6)) wNil))) (wgName 5)))
    (wRet (wCallP true sp__law_program [] (wCons (wVar 5) (wCons (wVar 3) (wCons (wVar 4) wNil)))))))))
@[simp] def sp__law_made : PSp := sp3 p__law_made
theorem v__law_made : ∀ a b c Q, p__law_made a b c Q → w__law_made (evr Q) (startE ["_law_script", "_law_start", "_law_most", "_law_words_here", "_law_plan_here", "_law_cells", "_law_k"] [.d a, .d b, .d c]) [] := by
  rintro _ _ _ Q ⟨ns, st, mo, rfl, rfl, rfl, hst, hmo, hq⟩
  unfold w__law_made
  refine seq_R (fun rh mu => ∃ ws : List Str, rh = [some (.d (.scr ns)), some (.d (.int (st : Nat))), some (.d (.int (mo : Nat))), some (.d (.lst (ws.map D.str))), none, none, none] ∧ mu = [] ∧ ws.length = 6 ∧ (∀ w ∈ ws, goodW w) ∧ ws.Nodup) (fun K hK => ?_) ?_
  · simp
    exact fun ws h1 h2 h3 => hK _ _ ⟨ws, rfl, rfl, h1, h2, h3⟩
  rintro _ _ ⟨ws, rfl, rfl, w1, w2, w3⟩
  refine seq_R (fun rh mu => ∃ pl, PlanIn ws pl ∧ rh = [some (.d (.scr ns)), some (.d (.int (st : Nat))), some (.d (.int (mo : Nat))), some (.d (.lst (ws.map D.str))), some (.d (.lst (planD pl))), none, none] ∧ mu = []) (fun K hK => ?_) ?_
  · simp
    refine ⟨by omega, w3, fun pl hp => ?_⟩
    exact hK _ _ ⟨pl, hp, rfl, rfl⟩
  rintro _ _ ⟨pl, hpl, rfl, rfl⟩
  have hcut : ∀ {rh : Ev}, rh[0]? = some (some (.d (.scr ns))) → rh[1]? = some (some (.d (.int (st : Nat)))) → rh[2]? = some (some (.d (.int (mo : Nat)))) → Is (wSl false (wVar 0) (wPart (wVar 1)) (wPart (wOp (fAdd false) (wVar 1) (wVar 2)))) rh [] (.d (.lst ((cutL ns (some (st : Int)) (some ((st : Int) + mo))).map D.int))) := fun h0 h1 h2 => fun K hK => by
    simp [h0, h1, h2]
    exact hK
  refine seq_to [some (.d (.scr ns)), some (.d (.int (st : Nat))), some (.d (.int (mo : Nat))), some (.d (.lst (ws.map D.str))), some (.d (.lst (planD pl))), some (.d (.lst ((cutL ns (some (st : Int)) (some ((st : Int) + mo))).map D.int))), none] [] (fun K hK => asg_to _ (hcut rfl rfl rfl) hK) ?_
  have hl0 : (cutL ns (some (st : Int)) (some ((st : Int) + mo))).length ≤ 100 := by
    rw [show ((st : Int) + mo) = ((st + mo : Nat) : Int) by omega]
    unfold cutL
    rw [HT.sIx_nat, HT.sIx_nat]
    simp only [List.length_take, List.length_drop]
    omega
  generalize cutL ns (some (st : Int)) (some ((st : Int) + mo)) = xs0 at hl0
  refine seq_R (fun rh mu => ∃ (xs : List Int) (a : Option W), xs.length ≤ 200 ∧ rh = [some (.d (.scr ns)), some (.d (.int (st : Nat))), some (.d (.int (mo : Nat))), some (.d (.lst (ws.map D.str))), some (.d (.lst (planD pl))), some (.d (.lst (xs.map D.int))), a] ∧ mu = []) (fun K hK => ?_) ?_
  · have ir : Is (wOp (fI0 fun i j => i - j) (wC (.int 6)) (wCall fLen (wCons (wVar 5) wNil))) [some (.d (.scr ns)), some (.d (.int (st : Nat))), some (.d (.int (mo : Nat))), some (.d (.lst (ws.map D.str))), some (.d (.lst (planD pl))), some (.d (.lst (xs0.map D.int))), none] [] (.d (.int (6 - xs0.length))) := op_to _ _ _ (int_is (.int 6)) (len_is (var_is (i := 5) rfl)) fun K hK => by simp only [fI0]; simpa using hK
    simp only [wFor, wRng1, wCons, wNil]
    refine ir _ ?_
    refine ⟨by omega, by omega, ?_⟩
    have h6 : (6 - (xs0.length : Int)).toNat ≤ 6 := by omega
    generalize (6 - (xs0.length : Int)).toNat = n at h6
    rw [rngW_map]
    refine forL_S (fun k : Nat => W.d (.int (k : Nat))) (fun ks rh mu => ∃ (xs : List Int) (a : Option W), xs.length + ks.length ≤ 200 ∧ (∀ k ∈ ks, k ≤ 6) ∧ rh = [some (.d (.scr ns)), some (.d (.int (st : Nat))), some (.d (.int (mo : Nat))), some (.d (.lst (ws.map D.str))), some (.d (.lst (planD pl))), some (.d (.lst (xs.map D.int))), a] ∧ mu = []) (fun _ _ _ _ => trivial) (fun rh mu ⟨xs, a, h1, _, h2, h3⟩ => hK _ _ ⟨xs, a, by simpa using h1, h2, h3⟩) ?_ ⟨xs0, none, by simp; omega, fun k hk => by have := List.mem_range.mp hk; omega, rfl, rfl⟩
    rintro k ks _ _ ⟨xs, a, h1, h2, rfl, rfl⟩ N hN
    have hk : k ≤ 6 := h2 k (by simp)
    simp at h1
    have fin : ∀ y : Int, N [some (.d (.scr ns)), some (.d (.int (st : Nat))), some (.d (.int (mo : Nat))), some (.d (.lst (ws.map D.str))), some (.d (.lst (planD pl))), some (.d (.lst (xs.map D.int ++ [.int y]))), some (.d (.int (k : Nat)))] [] := fun y => hN _ _ ⟨xs ++ [y], some (.d (.int (k : Nat))), by simp; omega, fun k hk => h2 k (by simp [hk]), by simp, rfl⟩
    have cm1 : CM 48271 (k : Int) := CM_r (by omega) (by omega)
    have cm2 : CM (48271 * (k : Int)) (k : Int) := CM_r (by omega) (by omega)
    have hz : xs.length + 1 ≤ sizeLine := by rw [sizeLine_eq]; omega
    simp [cm1, cm2, sizeLine_eq]
    refine ⟨by omega, ?_⟩
    exact fin _
  rintro _ _ ⟨xs, a, hx, rfl, rfl⟩
  simp only [wRet]
  have ha : Iss (wCons (wVar 5) (wCons (wVar 3) (wCons (wVar 4) wNil))) [some (.d (.scr ns)), some (.d (.int (st : Nat))), some (.d (.int (mo : Nat))), some (.d (.lst (ws.map D.str))), some (.d (.lst (planD pl))), some (.d (.lst (xs.map D.int))), a] [] [.d (.lst (xs.map D.int)), .d (.lst (ws.map D.str)), .d (.lst (planD pl))] := iss1 (var_is (i := 5) rfl) (iss1 (var_is (i := 3) rfl) (iss1 (var_is (i := 4) rfl) iss0))
  refine callQ_own ha rfl fun Q' q => ?_
  refine ⟨xs, ws, pl, rfl, rfl, rfl, by omega, by omega, w2, hpl, fun rs mu hf hl hc => ?_⟩
  have ok := prog_ok w2 (hpl.good w3 w2) (n := 0) hf (by omega)
  obtain ⟨P, rfl, pt⟩ := funs_Q w3 w2 hpl hf hl
  exact q _ _ (by simp) (hq P pl _ _ ⟨⟨pl, pt.t⟩, down_of (by simpa using ok.calls)⟩ pt hpl.pos (by simp))
end VL
namespace VL
open PySem PySem.Spec PyProof.Rows L2 RZ
@[simp] def k_BARE_reach : D := .tup [.str "else", .str "end", .str "skip"]
theorem for_enumR {a : WE} {g : WG} {b : WS} {V : EV} {rh : Ev} {mu : Sto} {A1 : Type} {f : A1 → D} {xs : List A1} (h : Is a rh mu (.d (.lst (xs.map f)))) (I : Nat → Ev → Sto → Prop) (hend : ∀ rh mu, I xs.length rh mu → V.nx rh mu)
    (hs : ∀ k x, xs[k]? = some x → ∀ rh mu, I k rh mu → ∀ N : Ev → Sto → Prop, (∀ rh' mu', I (k + 1) rh' mu' → N rh' mu') → g (.d (.tup [.int (k : Nat), f x])) rh mu fun rh' mu' => b { V with nx := N, ct := N, bk := V.nx } rh' mu') (h0 : I 0 rh mu) : wFor (wEnum (wCons a wNil)) g b V rh mu := h _ (by
  refine ⟨rfl, ?_⟩
  simp only [seqW]
  refine forL_idx I (fun _ _ _ _ => by first | rfl | trivial | simp [chkW]) (fun rh mu q => hend rh mu ?_) (fun i x e rh mu q N hN => ?_) h0
  · rw [enumW_len] at q; simpa using q
  · obtain ⟨y, e1, rfl⟩ := enumW_get _ _ _ _ e
    rw [List.map_map, List.getElem?_map] at e1
    cases c : xs[i]? with
    | none => rw [c] at e1; cases e1
    | some z =>
      rw [c] at e1
      cases e1
      have := hs i z c rh mu q N hN
      simpa [mkTup] using this)
theorem bareN_is {a : WE} {rh : Ev} {mu : Sto} {r : Rw} (ha : Is a rh mu (.d (rwD r))) : IsB (wTest (wOp (fInT true) (wOp fIx a (wC (.int 0))) (wC k_BARE_reach))) rh mu (!bareR r) := fun K hK => by
  have h0 : Is (wOp fIx a (wC (.int 0))) rh mu (.d (.str (Str.ofString (rwW r)))) := part_is (i := 0) ha rfl
  have this : inD (.str (Str.ofString (rwW r))) [.str (Str.ofString "else"), .str (Str.ofString "end"), .str (Str.ofString "skip")] = bareR r := by
    cases r <;> simp [bareR]
  refine h0 _ ?_
  simp only [wC, k_BARE_reach, fInT]
  refine ⟨rfl, rfl, ?_⟩
  simp only [if_true]
  rw [this]; exact hK
theorem orN_is {a b : WE} {rh : Ev} {mu : Sto} {x y : Nat} (ha : Is a rh mu (.d (.int (x : Nat)))) (hb : Is b rh mu (.d (.int (y : Nat)))) : Is (wOp (fI0 Builtin.bitOr) a b) rh mu (.d (.int ((x ||| y : Nat) : Nat))) := op_to _ _ _ ha hb fun K hK => by simpa using hK
theorem shlN_is {a : WE} {rh : Ev} {mu : Sto} {k : Nat} (hk : k ≤ 63) (ha : Is a rh mu (.d (.int (k : Nat)))) : Is (wOp (fI CShl fun i j => i * 2 ^ j.toNat) (wC (.int 1)) a) rh mu (.d (.int ((2 ^ k : Nat) : Nat))) := op_to (.d (.int 1)) _ _ (int_is (.int 1)) ha fun K hK => by
  simp only [fI]
  refine ⟨shl_ok hk, ?_⟩
  rw [Int.toNat_natCast, Int.one_mul, show ((2 : Int) ^ k) = ((2 ^ k : Nat) : Int) by simp]
  exact hK
theorem neqD_is {a b : WE} {rh : Ev} {mu : Sto} {x y : D} (hx : ddep x ≤ 60) (hy : ddep y ≤ 60) (ha : Is a rh mu (.d x)) (hb : Is b rh mu (.d y)) : IsB (wTest (wOp (fEq true) a b)) rh mu (!deqv x y) := by
  refine tst_is _ ha hb fun K hK => ?_
  simp only [fEq, snap]
  refine ⟨by omega, by omega, ?_⟩
  simpa [onBl] using hK
/-- sets of rows by a test -/
def bitsN : Nat → (Nat → Bool) → Nat
  | 0, _ => 0
  | n + 1, p => if p n = true then bitsN n p ||| 2 ^ n else bitsN n p
theorem bitsN_bit (p : Nat → Bool) (j : Nat) : ∀ n, (bitsN n p).testBit j = (decide (j < n) && p j)
  | 0 => by simp [bitsN]
  | n + 1 => by
    have ih := bitsN_bit p j n
    rw [bitsN]
    by_cases c : p n = true
    · rw [if_pos c, Nat.testBit_or, ih, Nat.testBit_two_pow]
      by_cases e : n = j
      · subst e; simp [c]
      · have : decide (j < n + 1) = decide (j < n) := by rw [decide_eq_decide]; omega
        simp [e, this]
    · rw [if_neg c, ih]
      by_cases e : n = j
      · subst e; simp [c]
      · have : decide (j < n + 1) = decide (j < n) := by rw [decide_eq_decide]; omega
        rw [this]
def fdV (P : List Rw) : Nat := match mainR P with
  | some m => 2 ^ m
  | none => 0
theorem mainR_lt {P : List Rw} {m : Nat} (h : mainR P = some m) : m < P.length ∧ rwW (rowAt P m) = "def" := by
  unfold mainR at h
  rw [List.findIdx?_eq_some_iff_getElem] at h
  obtain ⟨h1, h2, _⟩ := h
  refine ⟨h1, ?_⟩
  have := rowAt_get h1
  rw [List.getElem?_eq_getElem h1] at this
  rw [← Option.some.inj this]
  exact of_decide_eq_true h2
@[simp] def p_first_def : D → (W → Sto → Prop) → Prop := fun a Q => ∃ P : List Rw, a = prgD P ∧ P.length ≤ 60 ∧ Q (.d (.int (fdV P : Nat))) []
def w_first_def : WS := (wSeq (wFor (wEnum (wCons (wVar 0) wNil)) (wgTup 2 (wgCons (wgName 1) (wgCons (wgName 2) wgNil))) (wIfS (wTest (wOp (fEq false) (wOp fIx (wVar 2) (wC (.int 0))) (wC (.str "def")))) (wRet (wOp (fI CShl fun i j => i * 2 ^ j.toNat) (wC (.int 1)) (wVar 1))) wNext))
    (wRet (wC (.int 0))))
@[simp] def sp_first_def : PSp := sp1 p_first_def
theorem v_first_def : ∀ a Q, p_first_def a Q → w_first_def (evr Q) (startE ["program", "place", "row"] [.d a]) [] := by
  rintro _ Q ⟨P, rfl, l60, hq⟩
  unfold w_first_def
  refine seq_R (fun rh mu' => mu' = [] ∧ mainR P = none) (fun K hK => ?_) ?_
  · refine for_enumR (f := rwD) (xs := P) (var_is (i := 0) rfl) (fun i rh mu' => mu' = [] ∧ (∀ j < i, ∀ r, P[j]? = some r → rwW r ≠ "def") ∧ ∃ x y : Option W, rh = [some (.d (prgD P)), x, y]) (fun rh mu hh => ?_) (fun i r hr rh mu hh N hN => ?_) ⟨rfl, by simp, none, none, rfl⟩
    · obtain ⟨rfl, hn, x, y, rfl⟩ := hh
      refine hK _ _ ⟨rfl, ?_⟩
      unfold mainR
      rw [List.findIdx?_eq_none_iff]
      intro r hr
      obtain ⟨j, hj⟩ := List.getElem?_of_mem hr
      exact decide_eq_false (hn j (by have := (List.getElem?_eq_some_iff.mp hj).1; simpa using this) r hj)
    · obtain ⟨rfl, hn, x1, y1, rfl⟩ := hh
      have hi := (List.getElem?_eq_some_iff.mp hr).1
      refine tup2_to ?_
      by_cases c : rwW r = "def"
      · refine ifS_T (word_is true (var_is (i := 2) rfl) (by rw [c]; exact beq_self_eq_true _)) (ret_to (.d (.int (fdV P : Nat))) ?_ hq)
        have : mainR P = some i := by
          unfold mainR
          rw [List.findIdx?_eq_some_iff_getElem]
          obtain ⟨h1, h2⟩ := List.getElem?_eq_some_iff.mp hr
          refine ⟨h1, by rw [h2]; exact decide_eq_true c, fun j hj => ?_⟩
          have := hn j hj _ (List.getElem?_eq_getElem (by omega))
          simpa only [decide_eq_true_eq] using this
        unfold fdV
        rw [this]
        exact shlN_is (by omega) (var_is (i := 1) rfl)
      · refine ifS_F (word_is false (var_is (i := 2) rfl) (ofStr_ne c)) (hN _ _ ⟨rfl, fun j hj r' hr2 => ?_, _, _, rfl⟩)
        rcases Nat.lt_succ_iff_lt_or_eq.mp hj with hj | rfl
        · exact hn j hj r' hr2
        · rw [hr] at hr2; cases hr2; exact c
  · rintro _ _ ⟨rfl, e⟩
    unfold fdV at hq
    rw [e] at hq
    exact ret_to _ (int_is (.int 0)) hq
def rEq (a b : Rw) : Bool := deqv (rwD a) (rwD b)
/-- unlike in the k-th list -/
def unKS (s s' : ShS) (j k : Nat) : Bool := match k with
  | 0 => decide (s.heads[j]? ≠ s'.heads[j]?)
  | 1 => decide (s.ends[j]? ≠ s'.ends[j]?)
  | _ => decide (s.elses[j]? ≠ s'.elses[j]?)
def un3 (s s' : ShS) (j : Nat) : Bool := unKS s s' j 0 || (unKS s s' j 1 || unKS s s' j 2)
def chB (P P' : List Rw) (s s' : ShS) (j : Nat) : Bool := (!bareR (rowAt P j) || !bareR (rowAt P' j)) && (!rEq (rowAt P j) (rowAt P' j) || un3 s s' j)
def chA (P P' : List Rw) (s s' : ShS) (j : Nat) : Bool := chB P P' s s' j || (decide (mainR P ≠ mainR P') && (decide (mainR P = some j) || decide (mainR P' = some j)))
def chV (P P' : List Rw) (s s' : ShS) : Nat := bitsN P.length (chA P P' s s')
theorem fd_bit {P : List Rw} {j : Nat} : (fdV P).testBit j = decide (mainR P = some j) := by
  unfold fdV
  cases e : mainR P with
  | none => simp
  | some m =>
    simp only [Nat.testBit_two_pow, Option.some.injEq]
theorem fd_eq {P P' : List Rw} : (fdV P = fdV P') ↔ mainR P = mainR P' := by
  constructor
  · intro h
    cases e : mainR P with
    | none =>
      cases e' : mainR P' with
      | none => rfl
      | some m =>
        have := congrArg (·.testBit m) h
        simp [fd_bit, e, e'] at this
    | some m =>
      have := congrArg (·.testBit m) h
      simp [fd_bit, e] at this
      exact this.symm
  · intro h
    unfold fdV
    rw [h]
@[simp] def p_changed : D → D → (W → Sto → Prop) → Prop := fun a b Q => ∃ (P : List Rw) (pl : List (Str × List Str)) (s : ShS) (P' : List Rw) (pl' : List (Str × List Str)) (s' : ShS), a = prgD P ∧ b = prgD P' ∧ Prg P pl s ∧ Prg P' pl' s' ∧ P'.length = P.length ∧ Q (.d (.int (chV P P' s s' : Nat))) (shC (shC [] s) s')
theorem locIx_is {a b : WE} {rh : Ev} {mu : Sto} {l j : Nat} {o : Option Nat} {xs : List (Option Nat)} (ha : Is a rh mu (.loc l)) (hb : Is b rh mu (.d (.int (j : Nat)))) (e : mu[l]? = some (.lst (xs.map optD))) (h : xs[j]? = some o) : Is (wOp fIx a b) rh mu (.d (optD o)) := ix_loc ha hb e (optD_at h)
theorem fd_is {P : List Rw} {a : WE} {rh : Ev} {mu : Sto} (hl : P.length ≤ 60) (ha : Is a rh mu (.d (prgD P))) : Is (wCallP false sp_first_def [] (wCons a wNil)) rh mu (.d (.int (fdV P : Nat))) :=
  callQ_is (ws := [.d (prgD P)]) (iss1 ha iss0) rfl fun Q q => ⟨P, rfl, hl, q _ _ (by simp)⟩
def w_changed : WS := (wSeq (wIfS (wTest (wOp (fEq true) (wCall fLen (wCons (wVar 0) wNil)) (wCall fLen (wCons (wVar 1) wNil)))) wNever wNext)
    (wSeq (wAsg (wCallS sp_shape [] (wCons (wVar 0) wNil)) (wgName 2))
    (wSeq (wAsg (wCallS sp_shape [] (wCons (wVar 1) wNil)) (wgName 3))
    (wSeq (wAsg (wC (.int 0)) (wgName 4))
    (wSeq (wFor (wRng1 (wCons (wCall fLen (wCons (wVar 0) wNil)) wNil)) (wgName 5) (wIfS (wOr (wTest (wOp (fInT true) (wOp fIx (wOp fIx (wVar 0) (wVar 5)) (wC (.int 0))) (wC k_BARE_reach))) (wTest (wOp (fInT true) (wOp fIx (wOp fIx (wVar 1) (wVar 5)) (wC (.int 0))) (wC k_BARE_reach)))) (wSeq (wAsg (wLc false (wRng1 (wCons (wC (.int 3)) wNil)) (wgName 7) (wTest (wOp (fEq true) (wOp fIx (wOp fIx (wVar 2) (wVar 7)) (wVar 5)) (wOp fIx (wOp fIx (wVar 3) (wVar 7)) (wVar 5)))) (wVar 7) [7]) (wgName 6))
    (wIfS (wOr (wTest (wOp (fEq true) (wOp fIx (wVar 0) (wVar 5)) (wOp fIx (wVar 1) (wVar 5)))) (wTest (wOp (fEq true) (wVar 6) (wLst false wNil)))) (wAsg (wOp (fI0 Builtin.bitOr) (wVar 4) (wOp (fI CShl fun i j => i * 2 ^ j.toNat) (wC (.int 1)) (wVar 5))) (wgName 4)) wNext)) wNext))
    (wSeq (wIfS (wTest (wOp (fEq true) (wCallP false sp_first_def [] (wCons (wVar 0) wNil)) (wCallP false sp_first_def [] (wCons (wVar 1) wNil)))) (wAsg (wOp (fI0 Builtin.bitOr) (wOp (fI0 Builtin.bitOr) (wVar 4) (wCallP false sp_first_def [] (wCons (wVar 0) wNil))) (wCallP false sp_first_def [] (wCons (wVar 1) wNil))) (wgName 4)) wNext)
    (wRet (wVar 4))))))))
@[simp] def sp_changed : PSp := sp2 p_changed
theorem v_changed : ∀ a b Q, p_changed a b Q → w_changed (evr Q) (startE ["old", "new", "before", "after", "rows", "place", "unlike", "k"] [.d a, .d b]) [] := by
  rintro _ _ Q ⟨P, pl, s, P', pl', s', rfl, rfl, p, p', hl, hq⟩
  have l60 : P.length ≤ 60 := p.t.len
  have l60' : P'.length ≤ 60 := p'.t.len
  unfold w_changed
  let T1 : Option W := some (.tup [.loc 0, .loc 1, .loc 2, .loc 3])
  let T2 : Option W := some (.tup [.loc 5, .loc 6, .loc 7, .loc 8])
  let E : Option W → Option W → Option W → Option W → Option W → Option W → Ev := fun a b c d e f => [some (.d (prgD P)), some (.d (prgD P')), a, b, c, d, e, f]
  have il : ∀ {rh : Ev} {mu : Sto}, rh[0]? = some (some (.d (prgD P))) → Is (wCall fLen (wCons (wVar 0) wNil)) rh mu (.d (.int (P.length : Nat))) := fun e => by simpa using len_is (var_is (i := 0) (w := .d (.lst (P.map rwD))) e)
  have il' : ∀ {rh : Ev} {mu : Sto}, rh[1]? = some (some (.d (prgD P'))) → Is (wCall fLen (wCons (wVar 1) wNil)) rh mu (.d (.int (P'.length : Nat))) := fun e => by simpa using len_is (var_is (i := 1) (w := .d (.lst (P'.map rwD))) e)
  refine seq_to (E none none none none none none) [] (fun K hK => ifS_F ?_ hK) ?_
  · have := neqD_is (by simp) (by simp) (il (rh := E none none none none none none) (mu := []) rfl) (il' rfl)
    have e : (!deqv (D.int (P.length : Nat)) (D.int (P'.length : Nat))) = false := by rw [hl]; simp
    rw [e] at this
    exact this
  refine seq_to (E T1 none none none none none) (shC [] s) (fun K hK => ?_) ?_
  · simp only [wAsg, wCallS, wCons]
    refine var_is (i := 0) rfl _ ?_
    simp only [wNil]
    exact ⟨P.map rwD, s, rfl, by simp; omega, by simpa using p.g.run, hK⟩
  refine seq_to (E T1 T2 none none none none) (shC (shC [] s) s') (fun K hK => ?_) ?_
  · simp only [wAsg, wCallS, wCons]
    refine var_is (i := 1) rfl _ ?_
    simp only [wNil]
    exact ⟨P'.map rwD, s', rfl, by simp; omega, by simpa using p'.g.run, hK⟩
  let M : Sto := shC (shC [] s) s'
  refine seq_to (E T1 T2 (some (.d (.int 0))) none none none) M (fun K hK => asg_to _ (int_is (.int 0)) hK) ?_
  refine seq_R (fun rh mu => ∃ d e f, rh = E T1 T2 (some (.d (.int (bitsN P.length (chB P P' s s') : Nat)))) d e f ∧ mu = M) (fun K hK => ?_) ?_
  · refine rng_to (n := P.length) (by omega) (il rfl) (fun j rh mu => ∃ d e f, rh = E T1 T2 (some (.d (.int (bitsN j (chB P P' s s') : Nat)))) d e f ∧ mu = M) (fun rh mu hh => ?_) (fun k hk rh mu hh N hN => ?_) ⟨none, none, none, rfl, rfl⟩
    · obtain ⟨d, e, f, h1, h2⟩ := hh
      exact hK _ _ ⟨d, e, f, h1, h2⟩
    · obtain ⟨d, e, f, rfl, rfl⟩ := hh
      let B0 : Option W := some (.d (.int (bitsN k (chB P P' s s') : Nat)))
      let Kx : Option W := some (.d (.int (k : Nat)))
      show wIfS _ _ _ _ (E T1 T2 B0 Kx e f) M
      have fin : ∀ e f, N (E T1 T2 (some (.d (.int (bitsN (k + 1) (chB P P' s s') : Nat)))) Kx e f) M := fun e f => hN _ _ ⟨_, _, _, rfl, rfl⟩
      have no : ∀ e f, chB P P' s s' k = false → N (E T1 T2 B0 Kx e f) M := fun e f h => by
        have := fin e f
        rw [bitsN, if_neg (by rw [h]; simp)] at this
        exact this
      have r0 : ∀ {e f : Option W}, Is (wOp fIx (wVar 0) (wVar 5)) (E T1 T2 B0 Kx e f) M (.d (rwD (rowAt P k))) := row_is hk (var_is (i := 0) rfl) (var_is (i := 5) rfl)
      have r1 : ∀ {e f : Option W}, Is (wOp fIx (wVar 1) (wVar 5)) (E T1 T2 B0 Kx e f) M (.d (rwD (rowAt P' k))) := row_is (by omega) (var_is (i := 1) rfl) (var_is (i := 5) rfl)
      refine ifB (or_is' (bareN_is r0) fun _ => bareN_is r1) (fun c => ?_) (fun c => no _ _ (by unfold chB; rw [c]; rfl))
      let us : List Nat := (List.range 3).filter (unKS s s' k)
      let U : Option W := some (.d (.lst (us.map fun k : Nat => D.int (k : Nat))))
      refine seq_to (E T1 T2 B0 Kx U f) M (fun K hK => asg_to (.d (.lst (us.map fun k : Nat => D.int (k : Nat)))) ?_ hK) ?_
      · refine lcRF_is (n := 3) (u := 7) (int_is (.int 3)) (by omega) (unKS s s' k) (fun k => .int (k : Nat)) (fun j hj => ?_) (fun j hj _ => var_is (i := 7) rfl)
        obtain ⟨h1, e1⟩ := p.headO hk
        obtain ⟨h2, e2⟩ := p.endO hk
        obtain ⟨h3, e3⟩ := p.elseO hk
        obtain ⟨h1', e1'⟩ := p'.headO (k := k) (by omega)
        obtain ⟨h2', e2'⟩ := p'.endO (k := k) (by omega)
        obtain ⟨h3', e3'⟩ := p'.elseO (k := k) (by omega)
        have dep : ∀ o : Option Nat, ddep (optD o) ≤ 60 := fun o => by cases o <;> simp [optD]
        let R : Ev := List.set (List.set (E T1 T2 B0 Kx e f) 7 none) 7 (some (.d (.int (j : Nat))))
        have q : ∀ (x y : Nat) (xs ys : List (Option Nat)) (o o' : Option Nat), Is (wOp fIx (wVar 2) (wVar 7)) R M (.loc x) → Is (wOp fIx (wVar 3) (wVar 7)) R M (.loc y) → M[x]? = some (.lst (xs.map optD)) → M[y]? = some (.lst (ys.map optD)) → xs[k]? = some o → ys[k]? = some o' → IsB (wTest (wOp (fEq true) (wOp fIx (wOp fIx (wVar 2) (wVar 7)) (wVar 5)) (wOp fIx (wOp fIx (wVar 3) (wVar 7)) (wVar 5)))) R M (decide (xs[k]? ≠ ys[k]?)) := fun x y xs ys o o' i1 i2 m1 m2 x1 x2 => by
          have := neqD_is (dep o) (dep o') (locIx_is i1 (var_is (i := 5) (rh := R) rfl) m1 x1) (locIx_is i2 (var_is (i := 5) (rh := R) rfl) m2 x2)
          rw [x1, x2]
          rw [optD_inj] at this
          have e : decide (some o ≠ some o') = !decide (o = o') := by simp
          rw [e]
          exact this
        have tix : ∀ (i a : Nat) (x0 x1 x2 x3 : Nat) (y : Nat), R[i]? = some (some (.tup [.loc x0, .loc x1, .loc x2, .loc x3])) → [W.loc x0, .loc x1, .loc x2, .loc x3][j]? = some (.loc y) → Is (wOp fIx (wVar i) (wVar 7)) R M (.loc y) := fun i a x0 x1 x2 x3 y e1 e2 => op_to _ (.d (.int (j : Nat))) _ (var_is e1) (var_is (i := 7) rfl) fun K hK => by
          simp only [fIx, seqW]
          refine ⟨_, ?_, hK⟩
          rw [at_nat (by omega) (by simp; omega), Int.toNat_natCast]
          exact e2
        have jc : j = 0 ∨ j = 1 ∨ j = 2 := by omega
        rcases jc with rfl | rfl | rfl
        · exact q 0 5 _ _ _ _ (tix 2 0 0 1 2 3 0 rfl rfl) (tix 3 0 5 6 7 8 5 rfl rfl) rfl rfl e1 e1'
        · exact q 1 6 _ _ _ _ (tix 2 0 0 1 2 3 1 rfl rfl) (tix 3 0 5 6 7 8 6 rfl rfl) rfl rfl e2 e2'
        · exact q 2 7 _ _ _ _ (tix 2 0 0 1 2 3 2 rfl rfl) (tix 3 0 5 6 7 8 7 rfl rfl) rfl rfl e3 e3'
      have t1 := neqD_is (by have := rwD_dep (rowAt P k); omega) (by have := rwD_dep (rowAt P' k); omega) (r0 (e := U) (f := f)) (r1 (e := U) (f := f))
      have t2 : IsB (wTest (wOp (fEq true) (wVar 6) (wLst false wNil))) (E T1 T2 B0 Kx U f) M (un3 s s' k) := by
        have := neNilD' (xs := us.map fun k : Nat => D.int (k : Nat)) (by have := ints_dep us; omega) (var_is (i := 6) (rh := E T1 T2 B0 Kx U f) (mu := M) rfl)
        have e : (!(us.map fun k : Nat => D.int (k : Nat)).isEmpty) = un3 s s' k := by
          rw [isE_map]
          show (!((List.range 3).filter (unKS s s' k)).isEmpty) = _
          have r3 : List.range 3 = [0, 1, 2] := rfl
          rw [r3]
          unfold un3
          simp only [List.filter_cons, List.filter_nil]
          cases unKS s s' k 0 <;> cases unKS s s' k 1 <;> cases unKS s s' k 2 <;> rfl
        rw [e] at this
        exact this
      refine ifB (or_is' t1 fun _ => t2) (fun c2 => ?_) (fun c2 => no _ _ (by unfold chB rEq; rw [c2]; simp))
      refine asg_to _ (orN_is (var_is (i := 4) rfl) (shlN_is (k := k) (by omega) (var_is (i := 5) rfl))) ?_
      have := fin U f
      rw [bitsN, if_pos (by unfold chB rEq; rw [c, c2]; rfl)] at this
      exact this
  rintro _ _ ⟨d, e, f, rfl, rfl⟩
  let B1 : Nat := bitsN P.length (chB P P' s s')
  refine seq_to (E T1 T2 (some (.d (.int (chV P P' s s' : Nat)))) d e f) M (fun K hK => ?_) ?_
  · have f0 : ∀ {a : Option W}, Is (wCallP false sp_first_def [] (wCons (wVar 0) wNil)) (E T1 T2 a d e f) M (.d (.int (fdV P : Nat))) := fd_is l60 (var_is (i := 0) rfl)
    have f1 : ∀ {a : Option W}, Is (wCallP false sp_first_def [] (wCons (wVar 1) wNil)) (E T1 T2 a d e f) M (.d (.int (fdV P' : Nat))) := fd_is l60' (var_is (i := 1) rfl)
    have bl : ∀ j, B1.testBit j = (decide (j < P.length) && chB P P' s s' j) := fun j => bitsN_bit _ _ _
    have bv : ∀ j, (chV P P' s s').testBit j = (decide (j < P.length) && chA P P' s s' j) := fun j => bitsN_bit _ _ _
    refine ifB (neqD_is (by simp) (by simp) f0 f1) (fun c => ?_) (fun c => ?_)
    · refine asg_to _ (orN_is (orN_is (var_is (i := 4) rfl) f0) f1) ?_
      have ne : mainR P ≠ mainR P' := fun z => by
        rw [fd_eq.mpr z] at c; simp at c
      have e0 : B1 ||| fdV P ||| fdV P' = chV P P' s s' := Nat.eq_of_testBit_eq fun j => by
        rw [Nat.testBit_or, Nat.testBit_or, bl, bv, fd_bit, fd_bit]
        unfold chA
        rw [decide_eq_true ne]
        by_cases hj : j < P.length
        · simp [hj, Bool.or_assoc]
        · have a1 : ¬ mainR P = some j := fun z => hj (mainR_lt z).1
          have a2 : ¬ mainR P' = some j := fun z => hj (by have := (mainR_lt z).1; omega)
          simp [hj, a1, a2]
      show K (E T1 T2 (some (.d (.int ((B1 ||| fdV P ||| fdV P' : Nat) : Nat)))) d e f) M
      rw [e0]
      exact hK
    · have eq : mainR P = mainR P' := fd_eq.mp (by
        have : (((fdV P : Nat) : Int) == ((fdV P' : Nat) : Int)) = true := by simpa using c
        have := eq_of_beq this
        omega)
      have e0 : B1 = chV P P' s s' := Nat.eq_of_testBit_eq fun j => by
        rw [bl, bv]
        unfold chA
        simp [eq]
      show K (E T1 T2 (some (.d (.int (B1 : Nat)))) d e f) M
      rw [e0]
      exact hK
  exact ret_to _ (var_is (i := 4) rfl) hq
end VL
namespace VL
open PySem PySem.Spec PyProof.Rows L2 RZ
theorem changed_is {P P' : List Rw} {pl pl' : List (Str × List Str)} {s s' : ShS} {a b : WE} {rh : Ev} {mu : Sto} (p : Prg P pl s) (p' : Prg P' pl' s') (hl : P'.length = P.length) (ha : Is a rh mu (.d (prgD P))) (hb : Is b rh mu (.d (prgD P'))) : Is (wCallP false sp_changed [] (wCons a (wCons b wNil))) rh mu (.d (.int (chV P P' s s' : Nat))) :=
  callQ_is (ws := [.d (prgD P), .d (prgD P')]) (iss1 ha (iss1 hb iss0)) rfl fun Q q => ⟨P, pl, s, P', pl', s', rfl, rfl, p, p', hl, q _ _ (by simp)⟩
end VL
namespace VL
open PySem PySem.Spec PyProof.Rows L2 RZ
theorem kD_iff (a b : Key) : deqv (kD a) (kD b) = true ↔ a = b := by
  cases a <;> cases b <;> simp [kD]
theorem kDs_iff : ∀ a b : List Key, deqvs (a.map kD) (b.map kD) = true ↔ a = b
  | [], [] => by simp
  | [], _ :: _ => by simp
  | _ :: _, [] => by simp
  | x :: a, y :: b => by
    have h1 := kD_iff x y
    have h2 := kDs_iff a b
    simp only [List.map_cons, deqvs, Bool.and_eq_true, h1, h2, List.cons.injEq]
theorem strs_iff : ∀ a b : List Str, deqvs (a.map D.str) (b.map D.str) = true ↔ a = b
  | [], [] => by simp
  | [], _ :: _ => by simp
  | _ :: _, [] => by simp
  | x :: a, y :: b => by
    have h2 := strs_iff a b
    simp only [List.map_cons, deqvs, Bool.and_eq_true, h2, List.cons.injEq]
    simp
theorem rEq_iff (a b : Rw) : rEq a b = true ↔ a = b := by
  unfold rEq
  cases a <;> cases b <;> simp [rwD, rwL, rwP, kD_iff, kDs_iff, strs_iff]
theorem rEq_comm (a b : Rw) : rEq a b = rEq b a := by
  rw [Bool.eq_iff_iff, rEq_iff, rEq_iff]; exact eq_comm
theorem rEq_refl (a : Rw) : rEq a a = true := (rEq_iff a a).mpr rfl
theorem un3_comm (s s' : ShS) (j : Nat) : un3 s s' j = un3 s' s j := by
  unfold un3 unKS
  simp only [ne_comm (a := s.heads[j]?), ne_comm (a := s.ends[j]?), ne_comm (a := s.elses[j]?)]
theorem un3_self (s : ShS) (j : Nat) : un3 s s j = false := by simp [un3, unKS]
theorem chV_comm {P P' : List Rw} {s s' : ShS} (hl : P'.length = P.length) : chV P' P s' s = chV P P' s s' := by
  unfold chV
  rw [hl]
  congr 1
  funext j
  unfold chA chB
  rw [rEq_comm, un3_comm, Bool.or_comm (!bareR (rowAt P' j))]
  congr 1
  rw [Bool.or_comm (decide (mainR P' = some j))]
  congr 1
  rw [decide_eq_decide]
  exact ne_comm
theorem chV_self (P : List Rw) (s : ShS) : chV P P s s = 0 := Nat.eq_of_testBit_eq fun j => by
  unfold chV
  rw [bitsN_bit, Nat.zero_testBit]
  unfold chA chB
  rw [rEq_refl, un3_self]
  simp
theorem chV_bit {P P' : List Rw} {s s' : ShS} {j : Nat} : (chV P P' s s').testBit j = (decide (j < P.length) && chA P P' s s' j) := bitsN_bit _ _ _
end VL
namespace VL
open PySem PySem.Spec PyProof.Rows L2 RZ
theorem cellAt_is {ns : List Int} {k : Nat} {a b : WE} {rh : Ev} {mu : Sto} (ha : Is a rh mu (.d (.scr ns))) (hb : Is b rh mu (.d (.int (k : Nat)))) : Is (wCallP false sp__law_cell_at [] (wCons a (wCons b wNil))) rh mu (.d (.int (ns.getD k 0))) :=
  callQ_is (ws := [.d (.scr ns), .d (.int (k : Nat))]) (iss1 ha (iss1 hb iss0)) rfl fun Q q => by
    refine ⟨by omega, ?_⟩
    exact q _ _ (by simp)
theorem words6_to {ns : List Int} {a : WE} {rh : Ev} {mu : Sto} {K : W → Sto → Prop} {n : Int} (ha : Is a rh mu (.d (.int n))) (h : ∀ ws : List Str, ws.length = 6 → (∀ w ∈ ws, goodW w) → ws.Nodup → K (.d (.lst (ws.map D.str))) mu) : wCallP false sp__law_words [] (wCons a (wCons (wC (.int 6)) wNil)) rh mu K := ha _ (int_is (.int 6) _ (by
  simp only [snaps, snap, wNil]
  refine ⟨by omega, by omega, fun ws h1 h2 h3 => ?_⟩
  have := h ws h1 h2 h3
  simpa using this))
theorem made_to {ns : List Int} {st mo : Nat} {a b c : WE} {rh : Ev} {mu : Sto} {K : W → Sto → Prop} (ha : Is a rh mu (.d (.scr ns))) (hb : Is b rh mu (.d (.int (st : Nat)))) (hc : Is c rh mu (.d (.int (mo : Nat)))) (h1 : st ≤ 100) (h2 : mo ≤ 100) (h : ∀ P, GdP P → 0 < P.length → K (.d (prgD P)) mu) : wCallP false sp__law_made [] (wCons a (wCons b (wCons c wNil))) rh mu K := ha _ (hb _ (hc _ (by
  simp only [snaps, snap, wNil]
  refine ⟨ns, st, mo, rfl, rfl, rfl, h1, h2, fun P pl l mu' g pq hp e => ?_⟩
  obtain ⟨k, n, ps, ek⟩ := pq.t.hasDef hp
  have := h P g (by have := (List.getElem?_eq_some_iff.mp ek).1; omega)
  simpa [e] using this)))
theorem thinned_to {n : Int} {a b : WE} {rh : Ev} {mu : Sto} {K : W → Sto → Prop} (n0 : 0 ≤ n) (ha : ∀ K : W → Sto → Prop, (∀ P, GdP P → 0 < P.length → K (.d (prgD P)) mu) → a rh mu K) (hb : Is b rh mu (.d (.int n))) (h : ∀ P', GdP P' → 0 < P'.length → K (.d (prgD P')) mu) : wCallP false sp__law_thinned [] (wCons a (wCons b wNil)) rh mu K := ha _ fun P g hp => hb _ (by
  simp only [snaps, snap, wNil]
  refine ⟨P, n, rfl, rfl, n0, g, fun P' g' l' => ?_⟩
  have := h P' g' (by omega)
  exact ⟨by simpa using this, by simpa using this⟩)
theorem headless_to {P : List Rw} {a : WE} {rh : Ev} {mu : Sto} {K : W → Sto → Prop} (g : GdP P) (ha : Is a rh mu (.d (prgD P))) (h : ∀ P', GdP P' → P'.length = P.length → giR (rowAt P' (P.length - 1)) = giR (rowAt P (P.length - 1)) → K (.d (prgD P')) mu) : wCallP false sp__law_headless [] (wCons a wNil) rh mu K := ha _ (by
  simp only [snaps, snap, wNil]
  refine ⟨P, rfl, g, fun P' g' l' gi => ?_⟩
  have := h P' g' l' gi
  exact ⟨by simpa using this, by simpa using this⟩)
theorem bent_to {P : List Rw} {cs : List Int} {ws : List Str} {a b c : WE} {rh : Ev} {mu : Sto} {K : W → Sto → Prop} (g : GdP P) (hp : 0 < P.length) (w1 : ws.length = 6) (w2 : ∀ w ∈ ws, goodW w) (w3 : ws.Nodup) (ha : Is a rh mu (.d (prgD P))) (hb : Is b rh mu (.d (.lst (cs.map D.int)))) (hc : Is c rh mu (.d (.lst (ws.map D.str)))) (h : ∀ P', GdP P' → P'.length = P.length → (∀ j, giR (rowAt P' j) = giR (rowAt P j)) → K (.d (prgD P')) mu) : wCallP false sp__law_bent [] (wCons a (wCons b (wCons c wNil))) rh mu K := ha _ (hb _ (hc _ (by
  simp only [snaps, snap, wNil]
  refine ⟨P, cs, ws, rfl, rfl, rfl, g, hp, w1, w2, w3, fun P' l mu' g' l' gi e => ?_⟩
  have := h P' g' l' gi
  simpa [e] using this)))
@[simp] def p__law_two : D → (W → Sto → Prop) → Prop := fun a Q => ∃ ns : List Int, a = .scr ns ∧ ∀ P P', GdP P → GdP P' → P'.length = P.length → 0 < P.length → giR (rowAt P' (P.length - 1)) = giR (rowAt P (P.length - 1)) → Q (.d (.tup [prgD P, prgD P'])) []
def w__law_two : WS := (wSeq (wAsg (wCallP false sp__law_words [] (wCons (wCallP false sp__law_cell_at [] (wCons (wVar 0) (wCons (wC (.int 0)) wNil))) (wCons (wC (.int 6)) wNil))) (wgName 1))
    (wSeq (wAsg (wCallP false sp__law_thinned [] (wCons (wCallP false sp__law_made [] (wCons (wVar 0) (wCons (wC (.int 8)) (wCons (wC (.int 24)) wNil)))) (wCons (wOp (fI CR0 gMod) (wCallP false sp__law_cell_at [] (wCons (wVar 0) (wCons (wC (.int 3)) wNil))) (wOp (fI CPow fun i j => i ^ j.toNat) (wC (.int 10)) (wC (.int 9)))) wNil))) (wgName 2))
    (wSeq (wAsg (wOp (fAdd false) (wC (.int 1)) (wOp (fI CR0 gMod) (wCallP false sp__law_cell_at [] (wCons (wVar 0) (wCons (wC (.int 4)) wNil))) (wC (.int 3)))) (wgName 3))
    (wSeq (wAsg (wCallP false sp__law_bent [] (wCons (wVar 2) (wCons (wLc false (wRng1 (wCons (wVar 3) wNil)) (wgName 5) wYes (wCallP false sp__law_cell_at [] (wCons (wVar 0) (wCons (wOp (fAdd false) (wC (.int 5)) (wVar 5)) wNil))) [5]) (wCons (wVar 1) wNil)))) (wgName 4))
    (wSeq (wIfS (wTest (wOp (fEq false) (wOp (fI CR0 gMod) (wOp (fI CD gDiv) (wCallP false sp__law_cell_at [] (wCons (wVar 0) (wCons (wC (.int 3)) wNil))) (wC (.int 5))) (wC (.int 8))) (wC (.int 5)))) (wRet (wTup (wCons (wVar 2) (wCons (wCallP false sp__law_headless [] (wCons (wVar 4) wNil)) wNil)))) wNext)
    (wRet (wTup (wCons (wVar 2) (wCons (wVar 4) wNil)))))))))
@[simp] def sp__law_two : PSp := sp1 p__law_two
theorem v__law_two : ∀ a Q, p__law_two a Q → w__law_two (evr Q) (startE ["_law_script", "_law_words_here", "_law_old", "_law_many", "_law_new", "_law_k"] [.d a]) [] := by
  rintro _ Q ⟨ns, rfl, hq⟩
  unfold w__law_two
  have ce : ∀ (k : Nat) (rh : Ev) (mu : Sto), rh[0]? = some (some (.d (.scr ns))) → Is (wCallP false sp__law_cell_at [] (wCons (wVar 0) (wCons (wC (.int (k : Nat))) wNil))) rh mu (.d (.int (ns.getD k 0))) := fun k rh mu e => cellAt_is (var_is (i := 0) e) (int_is _)
  refine seq_R (fun rh mu => ∃ ws : List Str, rh = [some (.d (.scr ns)), some (.d (.lst (ws.map D.str))), none, none, none, none] ∧ mu = [] ∧ ws.length = 6 ∧ (∀ w ∈ ws, goodW w) ∧ ws.Nodup) (fun K hK => ?_) ?_
  · simp only [wAsg]
    exact words6_to (ns := ns) (ce 0 _ _ rfl) fun ws h1 h2 h3 => hK _ _ ⟨ws, rfl, rfl, h1, h2, h3⟩
  rintro _ _ ⟨ws, rfl, rfl, w1, w2, w3⟩
  let W0 : Option W := some (.d (.lst (ws.map D.str)))
  refine seq_R (fun rh mu => ∃ P, rh = [some (.d (.scr ns)), W0, some (.d (prgD P)), none, none, none] ∧ mu = [] ∧ GdP P ∧ 0 < P.length) (fun K hK => ?_) ?_
  · simp only [wAsg]
    refine thinned_to (n := ns.getD 3 0 % 1000000000) (by omega) (fun K hK => ?_) (fun K hK => ?_) fun P' g' l' => hK _ _ ⟨P', rfl, rfl, g', l'⟩
    · first
        | refine made_to (st := 8) (mo := 16) (ns := ns) (var_is (i := 0) rfl) (int_is _) (int_is _) (by omega) (by omega) hK
        | refine made_to (st := 8) (mo := 24) (ns := ns) (var_is (i := 0) rfl) (int_is _) (int_is _) (by omega) (by omega) hK
    refine op_to (.d (.int (ns.getD 3 0))) (.d (.int 1000000000)) _ (ce 3 _ _ rfl) (fun K hK => by simpa using hK) (fun K hK => ?_) _ hK
    simpa using hK
  rintro _ _ ⟨P, rfl, rfl, g, hp⟩
  obtain ⟨many, hm, ml⟩ : ∃ many : Nat, 1 + ns.getD 4 0 % 3 = (many : Int) ∧ many ≤ 3 := ⟨(1 + ns.getD 4 0 % 3).toNat, by omega, by omega⟩
  refine seq_to [some (.d (.scr ns)), W0, some (.d (prgD P)), some (.d (.int (many : Nat))), none, none] [] (fun K hK => asg_to (.d (.int (many : Nat))) (op_to (.d (.int 1)) (.d (.int (ns.getD 4 0 % 3))) _ (int_is (.int 1)) (op_to (.d (.int (ns.getD 4 0))) (.d (.int 3)) _ (ce 4 _ _ rfl) (int_is (.int 3)) fun K hK => by simpa using hK) fun K hK => by
    simp only [fAdd]
    rw [hm]; exact hK) hK) ?_
  refine seq_R (fun rh mu => ∃ P', rh = [some (.d (.scr ns)), W0, some (.d (prgD P)), some (.d (.int (many : Nat))), some (.d (prgD P')), none] ∧ mu = [] ∧ GdP P' ∧ P'.length = P.length ∧ ∀ j, giR (rowAt P' j) = giR (rowAt P j)) (fun K hK => ?_) ?_
  · simp only [wAsg]
    have lc := lcR_is (u := 5) (n := many) (te := wCallP false sp__law_cell_at [] (wCons (wVar 0) (wCons (wOp (fAdd false) (wC (.int 5)) (wVar 5)) wNil))) (rh := [some (.d (.scr ns)), W0, some (.d (prgD P)), some (.d (.int (many : Nat))), none, none]) (mu := []) (var_is (i := 3) rfl) (by omega) (fun k => .int (ns.getD (5 + k) 0)) fun k hk => by
      refine cellAt_is (k := 5 + k) (var_is (i := 0) rfl) (op_to (.d (.int 5)) (.d (.int (k : Nat))) _ (int_is (.int 5)) (var_is (i := 5) rfl) fun K hK => ?_)
      simp only [fAdd]
      rw [show (5 : Int) + (k : Nat) = ((5 + k : Nat) : Int) by omega]
      exact hK
    have e : (List.range many).map (fun k => D.int (ns.getD (5 + k) 0)) = ((List.range many).map fun k => ns.getD (5 + k) 0).map D.int := by rw [List.map_map]; rfl
    rw [e] at lc
    exact bent_to g hp w1 w2 w3 (var_is (i := 2) rfl) lc (var_is (i := 1) rfl) fun P' g' l' gi => hK _ _ ⟨P', rfl, rfl, g', l', gi⟩
  rintro _ _ ⟨P', rfl, rfl, g', l', gi⟩
  have t : IsB (wTest (wOp (fEq false) (wOp (fI CR0 gMod) (wOp (fI CD gDiv) (wCallP false sp__law_cell_at [] (wCons (wVar 0) (wCons (wC (.int 3)) wNil))) (wC (.int 5))) (wC (.int 8))) (wC (.int 5)))) [some (.d (.scr ns)), W0, some (.d (prgD P)), some (.d (.int (many : Nat))), some (.d (prgD P')), none] [] (ns.getD 3 0 / 5 % 8 == 5) := by
    refine tst_is _ (op_to (.d (.int (ns.getD 3 0 / 5))) (.d (.int 8)) (.d (.int (ns.getD 3 0 / 5 % 8))) (op_to (.d (.int (ns.getD 3 0))) (.d (.int 5)) _ (ce 3 _ _ rfl) (int_is (.int 5)) fun K hK => by simpa using hK) (int_is (.int 8)) fun K hK => by simpa using hK) (int_is (.int 5)) fun K hK => by simpa [onBl] using hK
  refine seq_to [some (.d (.scr ns)), W0, some (.d (prgD P)), some (.d (.int (many : Nat))), some (.d (prgD P')), none] [] (fun K hK => ?_) ?_
  · refine ifB t (fun _ => ?_) (fun _ => hK)
    simp only [wRet, wTup, wCons]
    refine var_is (i := 2) rfl _ ?_
    refine headless_to g' (var_is (i := 4) rfl) fun P2 g2 l2 g3 => ?_
    simp only [wNil]
    refine ⟨by simp [sizeLine_eq], ?_⟩
    have := hq P P2 g g2 (by omega) hp (by rw [l'] at g3; rw [g3, gi])
    simpa using this
  exact ret_to _ (tup2_is (var_is (i := 2) rfl) (var_is (i := 4) rfl)) (hq P P' g g' l' hp (gi _))
end VL
namespace VL
open PySem PySem.Spec PyProof.Rows L2 RZ
/-! ### k70: changed rows -/
theorem bit0_is {a b : WE} {rh : Ev} {mu : Sto} {x k : Nat} (hk : k ≤ 63) (ha : Is a rh mu (.d (.int (x : Nat)))) (hb : Is b rh mu (.d (.int (k : Nat)))) : IsB (wTest (wOp (fEq false) (wOp (fI CR0 gMod) (wOp (fI CD gDiv) a (wOp (fI CShl fun i j => i * 2 ^ j.toNat) (wC (.int 1)) b)) (wC (.int 2))) (wC (.int 0)))) rh mu (!x.testBit k) := by
  refine tst_is _ (op_to (.d (.int ((x : Int) / 2 ^ k))) (.d (.int 2)) (.d (.int ((x : Int) / 2 ^ k % 2))) (op_to _ _ _ ha (shlN_is hk hb) fun K hK => ?_) (int_is (.int 2)) fun K hK => by simpa using hK) (int_is (.int 0)) fun K hK => ?_
  · have p0 : (0 : Int) < ((2 ^ k : Nat) : Int) := by exact_mod_cast Nat.two_pow_pos k
    have cd : CD (x : Int) ((2 ^ k : Nat) : Int) := CD_of (by omega) (by
      rw [Int.natAbs_natCast]
      exact Nat.pow_lt_pow_right (by decide) (by omega))
    simp only [fI]
    refine ⟨cd, ?_⟩
    rw [gDiv_pos p0, show ((2 ^ k : Nat) : Int) = (2 : Int) ^ k by simp]
    exact hK
  · rw [int_bitI]
    cases c : x.testBit k with
    | true => rw [c] at hK; simpa [onBl] using hK
    | false => rw [c] at hK; simpa [onBl] using hK
theorem add_bit {w k : Nat} (h : w.testBit k = false) : w + 2 ^ k = w ||| 2 ^ k := by
  have p0 := Nat.two_pow_pos k
  have ek : 2 ^ (k + 1) = 2 * 2 ^ k := by rw [Nat.pow_succ]; omega
  have hr0 : w % 2 ^ (k + 1) < 2 ^ (k + 1) := Nat.mod_lt _ (Nat.two_pow_pos _)
  have e0 : 2 ^ (k + 1) * (w / 2 ^ (k + 1)) + w % 2 ^ (k + 1) = w := Nat.div_add_mod _ _
  have hb : (w % 2 ^ (k + 1)).testBit k = false := by rw [Nat.testBit_mod_two_pow, h]; simp
  generalize w % 2 ^ (k + 1) = r at hr0 e0 hb
  generalize w / 2 ^ (k + 1) = q at e0
  have hr : r < 2 ^ k := Classical.byContradiction fun c => by
    rw [Nat.testBit_eq_decide_div_mod_eq, Nat.div_eq_of_lt_le (k := 1) (by omega) (by omega)] at hb
    simp at hb
  have e1 : 2 ^ (k + 1) * q + r = 2 ^ (k + 1) * q ||| r := Nat.two_pow_add_eq_or_of_lt hr0 q
  have e2 : 2 ^ (k + 1) * q + (2 ^ k + r) = 2 ^ (k + 1) * q ||| (2 ^ k + r) := Nat.two_pow_add_eq_or_of_lt (by omega) q
  have e3 : 2 ^ k * 1 + r = 2 ^ k * 1 ||| r := Nat.two_pow_add_eq_or_of_lt hr 1
  rw [Nat.mul_one] at e3
  rw [← e0]
  calc 2 ^ (k + 1) * q + r + 2 ^ k = 2 ^ (k + 1) * q + (2 ^ k + r) := by omega
    _ = 2 ^ (k + 1) * q ||| (2 ^ k ||| r) := by rw [e2, e3]
    _ = (2 ^ (k + 1) * q + r) ||| 2 ^ k := by rw [e1, Nat.or_assoc, Nat.or_comm r]
/-! programs of skips alone, programs one row later -/
theorem gd_skips (n : Nat) (h : n ≤ 60) : GdP (List.replicate n .skip) := ⟨⟨[], skips_typed n h⟩, fun k m f ops e => by
  obtain ⟨_, e2⟩ := rowAt_lt e (by simp)
  have := List.mem_of_getElem? e2
  rw [List.mem_replicate] at this
  cases this.2⟩
theorem last_skip {P : List Rw} (g : GdP P) (hp : 0 < P.length) (h : giR (rowAt P (P.length - 1)) = false) : rowAt P (P.length - 1) = .skip := by
  obtain ⟨f, c⟩ := g.cert
  have t := c.st (P.length - 1) (by omega)
  rw [show P.length - 1 + 1 = P.length by omega, c.e] at t
  generalize rowAt P (P.length - 1) = r at t h
  generalize f (P.length - 1) = m at t
  cases t with
  | out => rfl
  | _ => first | rfl | cases h
theorem gd_shift {P : List Rw} (g : GdP P) (hp : 0 < P.length) (hs : rowAt P (P.length - 1) = .skip) : GdP (.skip :: P.dropLast) := by
  obtain ⟨f, c⟩ := g.cert
  obtain ⟨n, hn⟩ : ∃ n, P.length = n + 1 := ⟨P.length - 1, by omega⟩
  have hl : (Rw.skip :: P.dropLast).length = P.length := by simp; omega
  have r1 : ∀ k, k < n → rowAt (.skip :: P.dropLast) (k + 1) = rowAt P k := fun k hk => by
    unfold rowAt
    rw [List.getElem?_cons_succ, List.getElem?_dropLast, if_pos (by omega)]
  have cc := sh_cert c hn hl (by rw [hn] at hs; simpa using hs) (rfl) r1
  have eP : P = P.dropLast ++ [.skip] := by
    have hne : P ≠ [] := fun z => by rw [z] at hp; simp at hp
    have e1 := (List.dropLast_concat_getLast hne).symm
    have e2 : P.getLast hne = .skip := by
      have h1 := rowAt_get (P := P) (k := P.length - 1) (by omega)
      rw [hs, List.getElem?_eq_getElem (by omega)] at h1
      rw [List.getLast_eq_getElem]
      exact Option.some.inj h1
    rw [e2] at e1
    exact e1
  have epl : plOf (.skip :: P.dropLast) = plOf P := by
    unfold plOf
    conv => rhs; rw [eP]
    rw [List.filterMap_append, List.filterMap_cons]
    simp [plR1]
  obtain ⟨pl, t⟩ := g.t
  obtain ⟨e1, e2⟩ := pl_of t
  have sub : ∀ r ∈ (Rw.skip :: P.dropLast), r = .skip ∨ r ∈ P := fun r hr => by
    rcases List.mem_cons.mp hr with rfl | hr
    · exact .inl rfl
    · exact .inr (List.dropLast_subset _ hr)
  refine ⟨⟨plOf (.skip :: P.dropLast), by rw [hl]; exact t.len, fun r hr => ?_, run_of cc, defs_of _, by rw [epl, ← e1]; exact t.nd, fun m f' ops hm => ?_⟩, fun k m f' ops e => ?_⟩
  · rcases sub r hr with rfl | h
    · trivial
    · exact t.wf r h
  · rcases sub _ hm with h | h
    · cases h
    · obtain ⟨p, h1, rfl, h3⟩ := t.call m f' ops h
      obtain ⟨q, q1, q2, q3⟩ := e2 p h1
      exact ⟨q, by rw [epl]; exact q1, q2, by rw [q3, h3]⟩
  · cases k with
    | zero => cases e
    | succ k =>
      have hk := (rowAt_lt e (by simp)).1
      simp only [List.length_cons, List.length_dropLast] at hk
      rw [r1 k (by omega)] at e
      have d := g.down k m f' ops e
      unfold defI at d ⊢
      rw [List.findIdx_cons, show isDefR f' .skip = false from rfl]
      simp only [cond_false]
      rw [eP, List.findIdx_append] at d
      split at d
      · omega
      · rename_i c
        have l1 : P.dropLast.length = n := by simp; omega
        omega
@[simp] def p__law_main : D → (W → Sto → Prop) → Prop := fun a Q => ∃ P : List Rw, a = prgD P ∧ P.length ≤ 60 ∧ Q (.d (optD (mainR P))) []
def w__law_main : WS := (wSeq (wFor (wRng1 (wCons (wCall fLen (wCons (wVar 0) wNil)) wNil)) (wgName 1) (wIfS (wTest (wOp (fEq false) (wOp fIx (wOp fIx (wVar 0) (wVar 1)) (wC (.int 0))) (wC (.str "def")))) (wRet (wVar 1)) wNext))
    (wRet (wC .non)))
@[simp] def sp__law_main : PSp := sp1 p__law_main
theorem v__law_main : ∀ a Q, p__law_main a Q → w__law_main (evr Q) (startE ["_law_rows", "_law_place"] [.d a]) [] := by
  rintro _ Q ⟨P, rfl, l60, hq⟩
  unfold w__law_main
  refine seq_R (fun rh mu' => mu' = [] ∧ mainR P = none) (fun K hK => ?_) ?_
  · refine rng_to (n := P.length) (by omega) (by simpa using len_is (var_is (i := 0) (rh := [some (.d (prgD P)), none]) (mu := []) (w := .d (.lst (P.map rwD))) rfl)) (fun i rh mu' => mu' = [] ∧ (∀ j < i, rwW (rowAt P j) ≠ "def") ∧ ∃ x : Option W, rh = [some (.d (prgD P)), x]) (fun rh mu hh => ?_) (fun i hi rh mu hh N hN => ?_) ⟨rfl, fun j h => absurd h (by omega), none, rfl⟩
    · obtain ⟨rfl, hn, x, rfl⟩ := hh
      refine hK _ _ ⟨rfl, ?_⟩
      unfold mainR
      rw [List.findIdx?_eq_none_iff]
      intro r hr
      obtain ⟨j, hj⟩ := List.getElem?_of_mem hr
      have := hn j (List.getElem?_eq_some_iff.mp hj).1
      rw [rowAt_eq hj] at this
      exact decide_eq_false this
    · obtain ⟨rfl, hn, x1, rfl⟩ := hh
      have ir : Is (wOp fIx (wVar 0) (wVar 1)) [some (.d (prgD P)), some (.d (.int (i : Nat)))] [] (.d (rwD (rowAt P i))) := row_is hi (var_is (i := 0) rfl) (var_is (i := 1) rfl)
      by_cases c : rwW (rowAt P i) = "def"
      · refine ifS_T (word_is true ir (by rw [c]; exact beq_self_eq_true _)) (ret_to (.d (optD (some i))) (var_is (i := 1) rfl) ?_)
        have : mainR P = some i := by
          unfold mainR
          rw [List.findIdx?_eq_some_iff_getElem]
          have hr := rowAt_get hi
          obtain ⟨h1, h2⟩ := List.getElem?_eq_some_iff.mp hr
          refine ⟨h1, by rw [h2]; exact decide_eq_true c, fun j hj => ?_⟩
          have := hn j hj
          have hj2 := rowAt_get (P := P) (k := j) (by omega)
          rw [List.getElem?_eq_getElem (by omega)] at hj2
          rw [← Option.some.inj hj2] at this
          simpa only [decide_eq_true_eq] using this
        rw [this] at hq
        exact hq
      · refine ifS_F (word_is false ir (ofStr_ne c)) (hN _ _ ⟨rfl, fun j hj => ?_, _, rfl⟩)
        rcases Nat.lt_succ_iff_lt_or_eq.mp hj with hj | rfl
        · exact hn j hj
        · exact c
  · rintro _ _ ⟨rfl, e⟩
    rw [e] at hq
    exact ret_to _ (int_is .non) hq
theorem main70_is {P : List Rw} {a : WE} {rh : Ev} {mu : Sto} (hl : P.length ≤ 60) (ha : Is a rh mu (.d (prgD P))) : Is (wCallP false sp__law_main [] (wCons a wNil)) rh mu (.d (optD (mainR P))) :=
  callQ_is (ws := [.d (prgD P)]) (iss1 ha iss0) rfl fun Q q => ⟨P, rfl, hl, q _ _ (by simp)⟩
theorem bareV_is {a : WE} {rh : Ev} {mu : Sto} {r : Rw} (ha : Is a rh mu (.d (rwD r))) : Is (wOp (fInT false) (wOp fIx a (wC (.int 0))) (wTup (wCons (wC (.str (Str.ofString "else"))) (wCons (wC (.str (Str.ofString "end"))) (wCons (wC (.str (Str.ofString "skip"))) wNil))))) rh mu (.d (.bl (bareR r))) := fun K hK => by
  have h0 : Is (wOp fIx a (wC (.int 0))) rh mu (.d (.str (Str.ofString (rwW r)))) := part_is (i := 0) ha rfl
  have this : inD (.str (Str.ofString (rwW r))) [.str (Str.ofString "else"), .str (Str.ofString "end"), .str (Str.ofString "skip")] = bareR r := by
    cases r <;> simp [bareR]
  simp only [wOp]
  refine h0 _ ?_
  simp only [wTup, wCons, wC, wNil]
  refine ⟨by simp [sizeLine_eq], ?_⟩
  simp only [mkTup, asDs, fInT]
  refine ⟨rfl, rfl, ?_⟩
  simp only [Bool.false_eq_true, if_false]
  rw [this]; exact hK
@[simp] def p__law_due : D → D → (W → Sto → Prop) → Prop := fun a b Q => ∃ (P : List Rw) (pl : List (Str × List Str)) (s : ShS) (P' : List Rw) (pl' : List (Str × List Str)) (s' : ShS), a = prgD P ∧ b = prgD P' ∧ Prg P pl s ∧ Prg P' pl' s' ∧ P'.length = P.length ∧ Q (.d (.int (chV P P' s s' : Nat))) []
def fdO : Option Nat → Nat
  | some m => 2 ^ m
  | none => 0
theorem fdO_bit {o : Option Nat} {j : Nat} : (fdO o).testBit j = decide (o = some j) := by
  cases o with
  | none => simp [fdO]
  | some m => simp only [fdO, Nat.testBit_two_pow, Option.some.injEq]
def stW (w : Nat) (p : Option Nat × Option Nat) : Nat := if p.1 = p.2 then w else w ||| fdO p.1
theorem bitsN_off {p : Nat → Bool} {n j : Nat} (h : n ≤ j) : (bitsN n p).testBit j = false := by rw [bitsN_bit, decide_eq_false (by omega)]; rfl
def w__law_due : WS := (wSeq (wAsg (wCallP false sp__law_shape [] (wCons (wVar 0) wNil)) (wgName 2))
    (wSeq (wAsg (wCallP false sp__law_shape [] (wCons (wVar 1) wNil)) (wgName 3))
    (wSeq (wAsg (wC (.int 0)) (wgName 4))
    (wSeq (wFor (wRng1 (wCons (wCall fLen (wCons (wVar 0) wNil)) wNil)) (wgName 5) (wSeq (wAsg (wAndV (wOp (fInT false) (wOp fIx (wOp fIx (wVar 0) (wVar 5)) (wC (.int 0))) (wTup (wCons (wC (.str "else")) (wCons (wC (.str "end")) (wCons (wC (.str "skip")) wNil))))) (wOp (fInT false) (wOp fIx (wOp fIx (wVar 1) (wVar 5)) (wC (.int 0))) (wTup (wCons (wC (.str "else")) (wCons (wC (.str "end")) (wCons (wC (.str "skip")) wNil)))))) (wgName 6))
    (wSeq (wAsg (wLc false (wRng1 (wCons (wC (.int 3)) wNil)) (wgName 8) (wTest (wOp (fEq true) (wOp fIx (wOp fIx (wVar 2) (wVar 8)) (wVar 5)) (wOp fIx (wOp fIx (wVar 3) (wVar 8)) (wVar 5)))) (wVar 8) [8]) (wgName 7))
    (wIfS (wAnd (wNot (wTru (wVar 6))) (wOr (wTest (wOp (fEq true) (wOp fIx (wVar 0) (wVar 5)) (wOp fIx (wVar 1) (wVar 5)))) (wTest (wOp (fEq true) (wVar 7) (wLst false wNil))))) (wAsg (wOp (fAdd false) (wVar 4) (wOp (fI CShl fun i j => i * 2 ^ j.toNat) (wC (.int 1)) (wVar 5))) (wgName 4)) wNext))))
    (wSeq (wFor (wSeqI (wLst false (wCons (wTup (wCons (wCallP false sp__law_main [] (wCons (wVar 0) wNil)) (wCons (wCallP false sp__law_main [] (wCons (wVar 1) wNil)) wNil))) (wCons (wTup (wCons (wCallP false sp__law_main [] (wCons (wVar 1) wNil)) (wCons (wCallP false sp__law_main [] (wCons (wVar 0) wNil)) wNil))) wNil)))) (wgTup 2 (wgCons (wgName 9) (wgCons (wgName 10) wgNil))) (wIfS (wAnd (wTest (wOp (fIs true) (wVar 9) (wC .non))) (wAnd (wTest (wOp (fEq true) (wVar 9) (wVar 10))) (wTest (wOp (fEq false) (wOp (fI CR0 gMod) (wOp (fI CD gDiv) (wVar 4) (wOp (fI CShl fun i j => i * 2 ^ j.toNat) (wC (.int 1)) (wVar 9))) (wC (.int 2))) (wC (.int 0)))))) (wAsg (wOp (fAdd false) (wVar 4) (wOp (fI CShl fun i j => i * 2 ^ j.toNat) (wC (.int 1)) (wVar 9))) (wgName 4)) wNext))
    (wRet (wVar 4)))))))
@[simp] def sp__law_due : PSp := sp2 p__law_due
theorem v__law_due : ∀ a b Q, p__law_due a b Q → w__law_due (evr Q) (startE ["_law_old", "_law_new", "_law_before", "_law_after", "_law_due_here", "_law_place", "_law_bare", "_law_unlike", "_law_k", "_law_here", "_law_there"] [.d a, .d b]) [] := by
  rintro _ _ Q ⟨P, pl, s, P', pl', s', rfl, rfl, p, p', hl, hq⟩
  have l60 : P.length ≤ 60 := p.t.len
  have l60' : P'.length ≤ 60 := p'.t.len
  unfold w__law_due
  let T1 : Option W := some (.d (shp3 s))
  let T2 : Option W := some (.d (shp3 s'))
  let E : Option W → Option W → Option W → Option W → Option W → Option W → Option W → Option W → Ev := fun a b c d e f g h => [some (.d (prgD P)), some (.d (prgD P')), a, b, c, d, e, f, none, g, h]
  refine seq_to (E T1 none none none none none none none) [] (fun K hK => asg_to _ (lshape_is p (var_is (i := 0) rfl)) hK) ?_
  refine seq_to (E T1 T2 none none none none none none) [] (fun K hK => asg_to _ (lshape_is p' (var_is (i := 1) rfl)) hK) ?_
  refine seq_to (E T1 T2 (some (.d (.int 0))) none none none none none) [] (fun K hK => asg_to _ (int_is (.int 0)) hK) ?_
  refine seq_R (fun rh mu => ∃ d e f, rh = E T1 T2 (some (.d (.int (bitsN P.length (chB P P' s s') : Nat)))) d e f none none ∧ mu = []) (fun K hK => ?_) ?_
  · refine rng_to (n := P.length) (by omega) (by simpa using len_is (var_is (i := 0) (rh := E T1 T2 (some (.d (.int 0))) none none none none none) (mu := []) (w := .d (.lst (P.map rwD))) rfl)) (fun j rh mu => ∃ d e f, rh = E T1 T2 (some (.d (.int (bitsN j (chB P P' s s') : Nat)))) d e f none none ∧ mu = []) (fun rh mu hh => ?_) (fun k hk rh mu hh N hN => ?_) ⟨none, none, none, rfl, rfl⟩
    · obtain ⟨d, e, f, h1, h2⟩ := hh
      exact hK _ _ ⟨d, e, f, h1, h2⟩
    · obtain ⟨d, e, f, rfl, rfl⟩ := hh
      let B0 : Option W := some (.d (.int (bitsN k (chB P P' s s') : Nat)))
      let Kx : Option W := some (.d (.int (k : Nat)))
      show wSeq _ _ _ (E T1 T2 B0 Kx e f none none) []
      have r0 : ∀ {e f : Option W}, Is (wOp fIx (wVar 0) (wVar 5)) (E T1 T2 B0 Kx e f none none) [] (.d (rwD (rowAt P k))) := row_is hk (var_is (i := 0) rfl) (var_is (i := 5) rfl)
      have r1 : ∀ {e f : Option W}, Is (wOp fIx (wVar 1) (wVar 5)) (E T1 T2 B0 Kx e f none none) [] (.d (rwD (rowAt P' k))) := row_is (by omega) (var_is (i := 1) rfl) (var_is (i := 5) rfl)
      let bb : Bool := bareR (rowAt P k) && bareR (rowAt P' k)
      let Bx : Option W := some (.d (.bl bb))
      refine seq_to (E T1 T2 B0 Kx Bx f none none) [] (fun K hK => asg_to (.d (.bl bb)) (fun K hK => ?_) hK) ?_
      · simp only [wAndV]
        refine bareV_is r0 _ ?_
        cases c : bareR (rowAt P k) with
        | false =>
          have : bb = false := by show (bareR (rowAt P k) && _) = false; rw [c]; rfl
          rw [this] at hK
          simp only [onBl, Bool.false_eq_true, if_false]
          exact hK
        | true =>
          have : bb = bareR (rowAt P' k) := by show (bareR (rowAt P k) && _) = _; rw [c, Bool.true_and]
          rw [this] at hK
          simp only [onBl, if_true]
          exact bareV_is r1 _ hK
      let us : List Nat := (List.range 3).filter (unKS s s' k)
      let U : Option W := some (.d (.lst (us.map fun k : Nat => D.int (k : Nat))))
      refine seq_to (E T1 T2 B0 Kx Bx U none none) [] (fun K hK => asg_to (.d (.lst (us.map fun k : Nat => D.int (k : Nat)))) ?_ hK) ?_
      · refine lcRF_is (n := 3) (u := 8) (int_is (.int 3)) (by omega) (unKS s s' k) (fun k => .int (k : Nat)) (fun j hj => ?_) (fun j hj _ => var_is (i := 8) rfl)
        obtain ⟨h1, e1⟩ := p.headO hk
        obtain ⟨h2, e2⟩ := p.endO hk
        obtain ⟨h3, e3⟩ := p.elseO hk
        obtain ⟨h1', e1'⟩ := p'.headO (k := k) (by omega)
        obtain ⟨h2', e2'⟩ := p'.endO (k := k) (by omega)
        obtain ⟨h3', e3'⟩ := p'.elseO (k := k) (by omega)
        have dep : ∀ o : Option Nat, ddep (optD o) ≤ 60 := fun o => by cases o <;> simp [optD]
        let R : Ev := List.set (List.set (E T1 T2 B0 Kx Bx f none none) 8 none) 8 (some (.d (.int (j : Nat))))
        have q : ∀ (xs ys : List (Option Nat)) (o o' : Option Nat), Is (wOp fIx (wVar 2) (wVar 8)) R [] (.d (.lst (xs.map optD))) → Is (wOp fIx (wVar 3) (wVar 8)) R [] (.d (.lst (ys.map optD))) → xs[k]? = some o → ys[k]? = some o' → IsB (wTest (wOp (fEq true) (wOp fIx (wOp fIx (wVar 2) (wVar 8)) (wVar 5)) (wOp fIx (wOp fIx (wVar 3) (wVar 8)) (wVar 5)))) R [] (decide (xs[k]? ≠ ys[k]?)) := fun xs ys o o' i1 i2 x1 x2 => by
          have := neqD_is (dep o) (dep o') (opt_is x1 i1 (var_is (i := 5) (rh := R) rfl)) (opt_is x2 i2 (var_is (i := 5) (rh := R) rfl))
          rw [x1, x2]
          rw [optD_inj] at this
          have e : decide (some o ≠ some o') = !decide (o = o') := by simp
          rw [e]
          exact this
        have tix : ∀ (i : Nat) (s0 : ShS) (xs : List (Option Nat)), R[i]? = some (some (.d (shp3 s0))) → [D.lst (s0.heads.map optD), .lst (s0.ends.map optD), .lst (s0.elses.map optD)][j]? = some (.lst (xs.map optD)) → Is (wOp fIx (wVar i) (wVar 8)) R [] (.d (.lst (xs.map optD))) := fun i s0 xs e1 e2 => ix_tup (ds := [.lst (s0.heads.map optD), .lst (s0.ends.map optD), .lst (s0.elses.map optD)]) (i := (j : Int)) (var_is e1) (var_is (i := 8) rfl) (by
          rw [at_nat (by omega) (by simp; omega), Int.toNat_natCast]
          exact e2)
        have jc : j = 0 ∨ j = 1 ∨ j = 2 := by omega
        rcases jc with rfl | rfl | rfl
        · exact q _ _ _ _ (tix 2 s s.heads rfl rfl) (tix 3 s' s'.heads rfl rfl) e1 e1'
        · exact q _ _ _ _ (tix 2 s s.ends rfl rfl) (tix 3 s' s'.ends rfl rfl) e2 e2'
        · exact q _ _ _ _ (tix 2 s s.elses rfl rfl) (tix 3 s' s'.elses rfl rfl) e3 e3'
      have t1 := neqD_is (by have := rwD_dep (rowAt P k); omega) (by have := rwD_dep (rowAt P' k); omega) (r0 (e := Bx) (f := U)) (r1 (e := Bx) (f := U))
      have t2 : IsB (wTest (wOp (fEq true) (wVar 7) (wLst false wNil))) (E T1 T2 B0 Kx Bx U none none) [] (un3 s s' k) := by
        have := neNilD' (xs := us.map fun k : Nat => D.int (k : Nat)) (by have := ints_dep us; omega) (var_is (i := 7) (rh := E T1 T2 B0 Kx Bx U none none) (mu := []) rfl)
        have e : (!(us.map fun k : Nat => D.int (k : Nat)).isEmpty) = un3 s s' k := by
          rw [isE_map]
          show (!((List.range 3).filter (unKS s s' k)).isEmpty) = _
          have r3 : List.range 3 = [0, 1, 2] := rfl
          rw [r3]
          unfold un3
          simp only [List.filter_cons, List.filter_nil]
          cases unKS s s' k 0 <;> cases unKS s s' k 1 <;> cases unKS s s' k 2 <;> rfl
        rw [e] at this
        exact this
      have tb : IsB (wNot (wTru (wVar 6))) (E T1 T2 B0 Kx Bx U none none) [] (!bb) := fun K hK => by
        simp [E, Bx]; exact hK
      have fin : N (E T1 T2 (some (.d (.int (bitsN (k + 1) (chB P P' s s') : Nat)))) Kx Bx U none none) [] := hN _ _ ⟨_, _, _, rfl, rfl⟩
      have eb : (!bb) = (!bareR (rowAt P k) || !bareR (rowAt P' k)) := by
        show (!(bareR (rowAt P k) && bareR (rowAt P' k))) = _
        rw [Bool.not_and]
      have ec : ((!bb) && (!deqv (rwD (rowAt P k)) (rwD (rowAt P' k)) || un3 s s' k)) = chB P P' s s' k := by rw [eb]; rfl
      refine ifB (and_is tb fun _ => or_is' t1 fun _ => t2) (fun c => ?_) (fun c => ?_)
      · rw [ec] at c
        refine asg_to (.d (.int ((bitsN k (chB P P' s s') + 2 ^ k : Nat) : Nat))) (op_to _ _ _ (var_is (i := 4) rfl) (shlN_is (k := k) (by omega) (var_is (i := 5) rfl)) fun K hK => ?_) ?_
        · simp only [fAdd]
          rw [show ((bitsN k (chB P P' s s') : Nat) : Int) + ((2 ^ k : Nat) : Int) = ((bitsN k (chB P P' s s') + 2 ^ k : Nat) : Int) by omega]
          exact hK
        · rw [add_bit (bitsN_off (Nat.le_refl k))]
          rw [bitsN, if_pos c] at fin
          exact fin
      · rw [ec] at c
        rw [bitsN, if_neg (by rw [c]; simp)] at fin
        exact fin
  rintro _ _ ⟨d, e, f, rfl, rfl⟩
  let B1 : Nat := bitsN P.length (chB P P' s s')
  let m := mainR P
  let m' := mainR P'
  have end_ : [(m, m'), (m', m)].foldl stW B1 = chV P P' s s' := Nat.eq_of_testBit_eq fun j => by
    have bl : B1.testBit j = (decide (j < P.length) && chB P P' s s' j) := bitsN_bit _ _ _
    rw [chV_bit]
    unfold chA
    show (stW (stW B1 (m, m')) (m', m)).testBit j = _
    unfold stW
    by_cases c : mainR P = mainR P'
    · rw [if_pos c.symm, if_pos c, bl]
      simp [c]
    · rw [if_neg (fun z => c z.symm), if_neg c, Nat.testBit_or, Nat.testBit_or, bl, fdO_bit, fdO_bit]
      by_cases hj : j < P.length
      · show (decide (j < P.length) && chB P P' s s' j || decide (mainR P = some j) || decide (mainR P' = some j)) = _
        simp [hj, c, Bool.or_assoc]
      · have a1 : ¬ mainR P = some j := fun z => hj (mainR_lt z).1
        have a2 : ¬ mainR P' = some j := fun z => hj (by have := (mainR_lt z).1; omega)
        show (decide (j < P.length) && chB P P' s s' j || decide (mainR P = some j) || decide (mainR P' = some j)) = _
        simp [hj, a1, a2]
  refine seq_R (fun rh mu => ∃ g h, rh = E T1 T2 (some (.d (.int (chV P P' s s' : Nat)))) d e f g h ∧ mu = []) (fun K hK => ?_) ?_
  · have i0 : ∀ {mu}, Is (wCallP false sp__law_main [] (wCons (wVar 0) wNil)) (E T1 T2 (some (.d (.int (B1 : Nat)))) d e f none none) mu (.d (optD m)) := main70_is l60 (var_is (i := 0) rfl)
    have i1 : ∀ {mu}, Is (wCallP false sp__law_main [] (wCons (wVar 1) wNil)) (E T1 T2 (some (.d (.int (B1 : Nat)))) d e f none none) mu (.d (optD m')) := main70_is l60' (var_is (i := 1) rfl)
    refine for_lst (ds := [.tup [optD m, optD m'], .tup [optD m', optD m]]) (fun K hK => ?_) ?_
    · simp only [wLst, wCons, wNil]
      refine tup2_is i0 i1 _ (tup2_is i1 i0 _ ⟨by simp [sizeLine_eq], ?_⟩)
      simpa [newLW, asDs, newL] using hK
    · refine forL_S (xs := [(m, m'), (m', m)]) (fun p : Option Nat × Option Nat => W.d (.tup [optD p.1, optD p.2])) (fun ps rh mu => ∃ (w : Nat) (g h : Option W), rh = E T1 T2 (some (.d (.int (w : Nat)))) d e f g h ∧ mu = [] ∧ ps.foldl stW w = chV P P' s s' ∧ ∀ p ∈ ps, ∀ x, p.1 = some x → x < 60) (fun _ _ _ _ => trivial) (fun rh mu hh => ?_) (fun q ps rh mu hh N hN => ?_) ⟨B1, none, none, rfl, rfl, end_, fun p hp x hx => ?_⟩
      · obtain ⟨w, g, h, rfl, rfl, h3, _⟩ := hh
        have h3 : w = chV P P' s s' := h3
        rw [h3]
        exact hK _ _ ⟨g, h, rfl, rfl⟩
      · obtain ⟨w, g, h, rfl, rfl, h3, h4⟩ := hh
        obtain ⟨a, b⟩ := q
        refine tup2_to ?_
        let R : Ev := E T1 T2 (some (.d (.int (w : Nat)))) d e f (some (.d (optD a))) (some (.d (optD b)))
        show wIfS _ _ _ _ R []
        have fin : ∀ w' : Nat, w' = stW w (a, b) → N (E T1 T2 (some (.d (.int (w' : Nat)))) d e f (some (.d (optD a))) (some (.d (optD b)))) [] := fun w' hw => hN _ _ ⟨w', _, _, rfl, rfl, by rw [hw]; exact h3, fun p hp => h4 p (List.mem_cons_of_mem _ hp)⟩
        have ts : IsB (wTest (wOp (fIs true) (wVar 9) (wC .non))) R [] a.isSome := some_is (var_is (i := 9) rfl)
        have dep : ∀ o : Option Nat, ddep (optD o) ≤ 60 := fun o => by cases o <;> simp [optD]
        have tn : IsB (wTest (wOp (fEq true) (wVar 9) (wVar 10))) R [] (!decide (a = b)) := by
          have := neqD_is (dep a) (dep b) (var_is (i := 9) (rh := R) (mu := []) rfl) (var_is (i := 10) rfl)
          rw [optD_inj] at this
          exact this
        cases a with
        | none => exact ifS_F (and_isF ts) (fin w (by unfold stW; split <;> simp [fdO]))
        | some x =>
          have hx : x < 60 := h4 (some x, b) (by simp) x rfl
          have v9 : Is (wVar 9) R [] (.d (.int (x : Nat))) := var_is (i := 9) rfl
          have v4 : Is (wVar 4) R [] (.d (.int (w : Nat))) := var_is (i := 4) rfl
          refine ifB (and_is ts fun _ => and_is tn fun _ => bit0_is (k := x) (by omega) v4 v9) (fun c => ?_) (fun c => ?_)
          · rw [Bool.and_eq_true, Bool.and_eq_true] at c
            obtain ⟨_, c2, c3⟩ := c
            have c2 : ¬ (some x = b) := by simpa using c2
            have c3 : w.testBit x = false := by simpa using c3
            refine asg_to (.d (.int ((w + 2 ^ x : Nat) : Nat))) (op_to _ _ _ v4 (shlN_is (k := x) (by omega) v9) fun K hK => ?_) (fin (w + 2 ^ x) ?_)
            · simp only [fAdd]
              rw [show ((w : Nat) : Int) + ((2 ^ x : Nat) : Int) = ((w + 2 ^ x : Nat) : Int) by omega]
              exact hK
            · rw [add_bit c3]
              unfold stW
              rw [if_neg c2]; rfl
          · refine fin w ?_
            unfold stW
            split
            · rfl
            · rename_i ne
              have ne : ¬ some x = b := ne
              simp only [Option.isSome_some, Bool.true_and, ne, decide_false, Bool.not_false, Bool.not_eq_false'] at c
              refine (Nat.eq_of_testBit_eq fun j => ?_).symm
              rw [Nat.testBit_or, fdO_bit]
              by_cases e : x = j
              · subst e; rw [c]; rfl
              · simp [e]
      · rcases List.mem_cons.mp hp with rfl | hp
        · have := (mainR_lt (P := P) hx).1; omega
        · rw [List.mem_singleton] at hp
          subst hp
          have := (mainR_lt (P := P') hx).1; omega
  rintro _ _ ⟨g, h, rfl, rfl⟩
  exact ret_to _ (var_is (i := 4) rfl) hq
theorem due_is {P P' : List Rw} {pl pl' : List (Str × List Str)} {s s' : ShS} {a b : WE} {rh : Ev} {mu : Sto} (p : Prg P pl s) (p' : Prg P' pl' s') (hl : P'.length = P.length) (ha : Is a rh mu (.d (prgD P))) (hb : Is b rh mu (.d (prgD P'))) : Is (wCallP false sp__law_due [] (wCons a (wCons b wNil))) rh mu (.d (.int (chV P P' s s' : Nat))) :=
  callQ_is (ws := [.d (prgD P), .d (prgD P')]) (iss1 ha (iss1 hb iss0)) rfl fun Q q => ⟨P, pl, s, P', pl', s', rfl, rfl, p, p', hl, q _ _ (by simp)⟩
theorem two_to {ns : List Int} {a : WE} {rh : Ev} {mu : Sto} {K : W → Sto → Prop} (ha : Is a rh mu (.d (.scr ns))) (h : ∀ P P', GdP P → GdP P' → P'.length = P.length → 0 < P.length → giR (rowAt P' (P.length - 1)) = giR (rowAt P (P.length - 1)) → K (.d (.tup [prgD P, prgD P'])) mu) : wCallP false sp__law_two [] (wCons a wNil) rh mu K := ha _ (by
  simp only [snaps, snap, wNil]
  refine ⟨ns, rfl, fun P P' g g' l p gi => ?_⟩
  simpa using h P P' g g' l p gi)
theorem skl_is {rh : Ev} {mu : Sto} : Is (wLst false (wCons (wTup (wCons (wC (.str (Str.ofString "skip"))) wNil)) wNil)) rh mu (.d (.lst [rwD .skip])) := fun K hK => by
  simp only [wLst, wCons]
  refine skT_is _ ?_
  simp [sizeLine_eq]
  exact hK
theorem mulSk_is {b : WE} {rh : Ev} {mu : Sto} {n : Nat} (hn : n ≤ 1000) (hb : Is b rh mu (.d (.int (n : Nat)))) : Is (wOp (fMul false) (wLst false (wCons (wTup (wCons (wC (.str (Str.ofString "skip"))) wNil)) wNil)) b) rh mu (.d (prgD (List.replicate n .skip))) := by
  refine op_to (.d (.lst [rwD .skip])) _ _ skl_is hb fun K hK => ?_
  have e : (List.replicate ((n : Nat) : Int).toNat [rwD .skip]).flatten = (List.replicate n .skip).map rwD := by
    rw [Int.toNat_natCast, List.map_replicate]
    clear hK hb hn
    induction n with
    | zero => rfl
    | succ b ih => rw [List.replicate_succ, List.flatten_cons, ih, List.replicate_succ]; rfl
  simp only [fMul, lsD]
  refine ⟨by omega, by omega, by rw [sizeLine_eq]; simp; omega, ?_⟩
  rw [e]
  simp only [newL, Bool.false_eq_true, if_false]
  exact hK
theorem cutM70 {A1 : Type} (xs : List A1) : cutL xs none (some (-1)) = xs.dropLast := by
  unfold cutL HT.sIx
  rcases List.eq_nil_or_concat xs with rfl | ⟨ys, y, rfl⟩
  · simp
  · simp
    rw [show (-1 + ((ys.length : Int) + 1)).toNat = ys.length by omega]
    simp
theorem at_last70 {P : List Rw} (hp : 0 < P.length) : atI (P.map rwD) (-1) = some (rwD (rowAt P (P.length - 1))) := by
  have h1 := rowAt_get (P := P) (k := P.length - 1) (by omega)
  unfold atI ixN
  rw [if_neg (by omega), if_pos (by simp; omega)]
  show (P.map rwD)[_]? = _
  rw [show ((-1 : Int) + ((P.map rwD).length : Nat)).toNat = P.length - 1 by simp; omega, List.getElem?_map, h1]; rfl
def w_law : WS := (wSeq (wAsg (wCallP false sp__law_two [] (wCons (wVar 0) wNil)) (wgTup 2 (wgCons (wgName 1) (wgCons (wgName 2) wgNil))))
    (wSeq (wIfS (wAnd (wTest (wOp (fEq false) (wOp (fI CR0 gMod) (wOp (fI CD gDiv) (wCallP false sp__law_cell_at [] (wCons (wVar 0) (wCons (wC (.int 4)) wNil))) (wC (.int 3))) (wC (.int 6))) (wC (.int 1)))) (wTest (wOp (fEq false) (wOp fIx (wVar 1) (wUn (fun i => -i) (wC (.int 1)))) (wTup (wCons (wC (.str "skip")) wNil))))) (wAsg (wOp (fAdd false) (wLst false (wCons (wTup (wCons (wC (.str "skip")) wNil)) wNil)) (wSl false (wVar 2) wNoPart (wPart (wUn (fun i => -i) (wC (.int 1)))))) (wgName 2)) wNext)
    (wSeq (wIfS (wTest (wOp (fEq false) (wOp (fI CR0 gMod) (wOp (fI CD gDiv) (wCallP false sp__law_cell_at [] (wCons (wVar 0) (wCons (wC (.int 4)) wNil))) (wC (.int 18))) (wC (.int 8))) (wC (.int 1)))) (wAsg (wOp (fMul false) (wLst false (wCons (wTup (wCons (wC (.str "skip")) wNil)) wNil)) (wCall fLen (wCons (wVar 1) wNil))) (wgName 2)) wNext)
    (wSeq (wIfS (wTest (wOp (fEq false) (wOp (fI CR0 gMod) (wOp (fI CD gDiv) (wCallP false sp__law_cell_at [] (wCons (wVar 0) (wCons (wC (.int 4)) wNil))) (wC (.int 18))) (wC (.int 8))) (wC (.int 2)))) (wSeq (wAsg (wOp (fMul false) (wLst false (wCons (wTup (wCons (wC (.str "skip")) wNil)) wNil)) (wOp (fI CR0 gMod) (wOp (fI CD gDiv) (wCallP false sp__law_cell_at [] (wCons (wVar 0) (wCons (wC (.int 4)) wNil))) (wC (.int 144))) (wC (.int 7)))) (wgName 1))
    (wAsg (wCall (fList false) (wCons (wVar 1) wNil)) (wgName 2))) wNext)
    (wSeq (wAsg (wCallP false sp__law_due [] (wCons (wVar 1) (wCons (wVar 2) wNil))) (wgName 3))
    (wSeq (wAsg (wLst false (wCons (wCall (fList false) (wCons (wVar 1) wNil)) (wCons (wCall (fList false) (wCons (wVar 2) wNil)) wNil))) (wgName 4))
    (wSeq (wFor (wSeqI (wLst false (wCons (wCallP false sp_changed [] (wCons (wOp fIx (wVar 4) (wC (.int 0))) (wCons (wOp fIx (wVar 4) (wC (.int 1))) wNil))) (wCons (wCallP false sp_changed [] (wCons (wVar 2) (wCons (wVar 1) wNil))) wNil)))) (wgName 5) (wIfS (wOr (wNot (wTru (wCall fIsi (wCons (wVar 5) (wCons (wTy "int") wNil))))) (wOr (wTru (wCall fIsi (wCons (wVar 5) (wCons (wTy "bool") wNil)))) (wTest (wOp (fEq true) (wVar 5) (wVar 3))))) (wRet (wC (.bl false))) wNext))
    (wSeq (wAsg (wCallP false sp_changed [] (wCons (wVar 1) (wCons (wCall (fList false) (wCons (wVar 1) wNil)) wNil))) (wgName 6))
    (wRet (wAndV (wCall fIsi (wCons (wVar 6) (wCons (wTy "int") wNil))) (wAndV (wNotV (wCall fIsi (wCons (wVar 6) (wCons (wTy "bool") wNil)))) (wAndV (wOp (fEq false) (wVar 6) (wC (.int 0))) (wOp (fEq false) (wVar 4) (wLst false (wCons (wVar 1) (wCons (wVar 2) wNil))))))))))))))))
theorem v_law : ∀ (ns : List Int) (Q : W → Sto → Prop), ns.length ≤ 63 → (∀ mu, Q (.d (.bl true)) mu) → w_law (evr Q) (startE ["_law_script", "_law_old", "_law_new", "_law_due_here", "_law_handed", "_law_told", "_law_same"] [.d (.scr ns)]) [] := by
  intro ns Q hns h
  unfold w_law
  let E : List Rw → List Rw → Option W → Option W → Option W → Option W → Ev := fun P P' a b c d => [some (.d (.scr ns)), some (.d (prgD P)), some (.d (prgD P')), a, b, c, d]
  refine seq_R (fun rh mu => ∃ P P', GdP P ∧ GdP P' ∧ P'.length = P.length ∧ 0 < P.length ∧ giR (rowAt P' (P.length - 1)) = giR (rowAt P (P.length - 1)) ∧ rh = E P P' none none none none ∧ mu = []) (fun K hK => ?_) ?_
  · simp only [wAsg]
    refine two_to (ns := ns) (var_is (i := 0) rfl) fun P P' g g' l p gi => tup2_to (hK _ _ ⟨P, P', g, g', l, p, gi, rfl, rfl⟩)
  rintro _ _ ⟨P, P', gd, gd', hl, hp, gi, rfl, rfl⟩
  have l60 := gd.len
  have cell : ∀ (P P' : List Rw) (x y z : Nat), 0 < x → x < 1000 → 0 < y → y < 1000 → IsB (wTest (wOp (fEq false) (wOp (fI CR0 gMod) (wOp (fI CD gDiv) (wCallP false sp__law_cell_at [] (wCons (wVar 0) (wCons (wC (.int 4)) wNil))) (wC (.int (x : Nat)))) (wC (.int (y : Nat)))) (wC (.int (z : Nat))))) (E P P' none none none none) [] (ns.getD 4 0 / (x : Int) % (y : Int) == (z : Int)) := fun P P' x y z x0 x1 y0 y1 => by
    refine tst_is _ (op_to (.d (.int (ns.getD 4 0 / (x : Int)))) (.d (.int (y : Nat))) (.d (.int (ns.getD 4 0 / (x : Int) % (y : Int)))) (op_to (.d (.int (ns.getD 4 0))) (.d (.int (x : Nat))) _ (cellAt_is (k := 4) (var_is (i := 0) rfl) (int_is _)) (int_is _) fun K hK => ?_) (int_is _) fun K hK => ?_) (int_is _) fun K hK => by simpa [onBl] using hK
    · simp only [fI]
      refine ⟨CD_of (by omega) (by
        rw [Int.natAbs_natCast]
        exact Nat.lt_of_lt_of_le x1 (by decide +kernel)), ?_⟩
      rw [gDiv_pos (by omega)]; exact hK
    · simp only [fI]
      refine ⟨by simp only [CR0]; omega, ?_⟩
      rw [gMod_pos (by omega)]; exact hK
  refine seq_R (fun rh mu => ∃ P', GdP P' ∧ P'.length = P.length ∧ rh = E P P' none none none none ∧ mu = []) (fun K hK => ?_) ?_
  · have il : Is (wOp fIx (wVar 1) (wUn (fun i => -i) (wC (.int 1)))) (E P P' none none none none) [] (.d (rwD (rowAt P (P.length - 1)))) := ix_lst (ds := P.map rwD) (i := -1) (var_is (i := 1) rfl) (fun K hK => by simpa using hK) (at_last70 hp)
    refine ifB (and_is (cell P P' 3 6 1 (by omega) (by omega) (by omega) (by omega)) fun _ => isSk_is il) (fun c => ?_) (fun _ => hK _ _ ⟨P', gd', hl, rfl, rfl⟩)
    rw [Bool.and_eq_true] at c
    have hs := isSk_t c.2
    rw [hs] at gi
    have hs' := last_skip gd' (by omega) (by rw [hl]; exact gi)
    refine asg_to (.d (prgD (.skip :: P'.dropLast))) (op_to (.d (.lst [rwD .skip])) (.d (.lst ((P'.map rwD).dropLast))) _ skl_is (fun K hK => ?_) fun K hK => ?_) (hK _ _ ⟨.skip :: P'.dropLast, gd_shift gd' (by omega) hs', by simp; omega, rfl, rfl⟩)
    · refine var_is (i := 2) (w := .d (.lst (P'.map rwD))) rfl _ ?_
      simp only [wNoPart, wPart]
      have im : Is (wUn (fun i => -i) (wC (.int 1))) (E P P' none none none none) [] (.d (.int (-1))) := fun K hK => by simpa using hK
      refine im _ ?_
      simp only [lsD]
      rw [cutM70]
      simpa [newL] using hK
    · simp only [fAdd, lsD]
      refine ⟨by rw [sizeLine_eq]; simp; omega, ?_⟩
      have e : [rwD .skip] ++ (P'.map rwD).dropLast = (Rw.skip :: P'.dropLast).map rwD := by simp [List.map_dropLast]
      rw [e]
      simp only [newL, Bool.false_eq_true, if_false]
      exact hK
  clear gi gd' hl
  rintro _ _ ⟨P', gd', hl, rfl, rfl⟩
  have iln : ∀ P' : List Rw, Is (wCall fLen (wCons (wVar 1) wNil)) (E P P' none none none none) [] (.d (.int (P.length : Nat))) := fun P' => by simpa using len_is (var_is (i := 1) (rh := E P P' none none none none) (mu := []) (w := .d (.lst (P.map rwD))) rfl)
  refine seq_R (fun rh mu => ∃ P', GdP P' ∧ P'.length = P.length ∧ rh = E P P' none none none none ∧ mu = []) (fun K hK => ?_) ?_
  · refine ifB (cell P P' 18 8 1 (by omega) (by omega) (by omega) (by omega)) (fun _ => ?_) (fun _ => hK _ _ ⟨P', gd', hl, rfl, rfl⟩)
    exact asg_to _ (mulSk_is (by omega) (iln P')) (hK _ _ ⟨List.replicate P.length .skip, gd_skips _ l60, by simp, rfl, rfl⟩)
  clear gd' hl
  rintro _ _ ⟨P', gd', hl, rfl, rfl⟩
  refine seq_R (fun rh mu => ∃ P P', GdP P ∧ GdP P' ∧ P'.length = P.length ∧ rh = E P P' none none none none ∧ mu = []) (fun K hK => ?_) ?_
  · refine ifB (cell P P' 18 8 2 (by omega) (by omega) (by omega) (by omega)) (fun _ => ?_) (fun _ => hK _ _ ⟨P, P', gd, gd', hl, rfl, rfl⟩)
    obtain ⟨n, hn, n6⟩ : ∃ n : Nat, ns.getD 4 0 / 144 % 7 = (n : Int) ∧ n ≤ 6 := ⟨(ns.getD 4 0 / 144 % 7).toNat, by omega, by omega⟩
    have i7 : Is (wOp (fI CR0 gMod) (wOp (fI CD gDiv) (wCallP false sp__law_cell_at [] (wCons (wVar 0) (wCons (wC (.int 4)) wNil))) (wC (.int 144))) (wC (.int 7))) (E P P' none none none none) [] (.d (.int (n : Nat))) := by
      rw [← hn]
      exact op_to (.d (.int (ns.getD 4 0 / 144))) (.d (.int 7)) _ (op_to (.d (.int (ns.getD 4 0))) (.d (.int 144)) _ (cellAt_is (k := 4) (var_is (i := 0) rfl) (int_is _)) (int_is _) fun K hK => by simpa using hK) (int_is _) fun K hK => by simpa using hK
    refine seq_to (E (List.replicate n .skip) P' none none none none) [] (fun K hK => asg_to _ (mulSk_is (by omega) i7) hK) ?_
    exact asg_to _ (listF_is (var_is (i := 1) rfl)) (hK _ _ ⟨List.replicate n .skip, List.replicate n .skip, gd_skips _ (by omega), gd_skips _ (by omega), rfl, rfl, rfl⟩)
  clear gd gd' hl iln l60 hp
  rintro _ _ ⟨P, P', gd, gd', hl, rfl, rfl⟩
  obtain ⟨pl, s, g⟩ := gd.gg
  obtain ⟨pl', s', g'⟩ := gd'.gg
  have p := g.p
  have p' := g'.p
  obtain ⟨c, ec⟩ : ∃ c, c = chV P P' s s' := ⟨_, rfl⟩
  let C : Option W := some (.d (.int (c : Nat)))
  refine seq_to (E P P' C none none none) [] (fun K hK => asg_to _ (due_is p p' hl (var_is (i := 1) rfl) (var_is (i := 2) rfl)) (by rw [← ec]; exact hK)) ?_
  let H : Option W := some (.d (.lst [prgD P, prgD P']))
  refine seq_to (E P P' C H none none) [] (fun K hK => ?_) ?_
  · refine asg_to (.d (.lst [prgD P, prgD P'])) (fun K hK => ?_) hK
    simp only [wLst, wCons, wNil]
    refine listF_is (var_is (i := 1) rfl) _ (listF_is (var_is (i := 2) rfl) _ ?_)
    refine ⟨by simp [sizeLine_eq], ?_⟩
    simpa [newLW, asDs, newL] using hK
  refine seq_R (fun rh mu => ∃ a, rh = E P P' C H a none ∧ mu = []) (fun K hK => ?_) ?_
  · refine for_lst (ds := [.int (c : Nat), .int (c : Nat)]) (fun K hK => ?_) ?_
    · simp only [wLst, wCons, wNil]
      have i0 : Is (wOp fIx (wVar 4) (wC (.int 0))) (E P P' C H none none) [] (.d (prgD P)) := ix_lst (var_is (i := 4) rfl) (int_is (.int 0)) rfl
      have i1 : Is (wOp fIx (wVar 4) (wC (.int 1))) (E P P' C H none none) [] (.d (prgD P')) := ix_lst (var_is (i := 4) rfl) (int_is (.int 1)) rfl
      have c1 := changed_is p p' hl i0 i1
      have c2 := changed_is p' p hl.symm (var_is (i := 2) (rh := E P P' C H none none) (mu := []) rfl) (var_is (i := 1) rfl)
      rw [chV_comm hl] at c2
      rw [← ec] at c1 c2
      refine c1 _ (c2 _ ⟨by simp [sizeLine_eq], ?_⟩)
      simpa [newLW, asDs, newL] using hK
    · refine forL_S (xs := [(), ()]) (fun _ : Unit => W.d (.int (c : Nat))) (fun _ rh mu => ∃ a, rh = E P P' C H a none ∧ mu = []) (fun _ _ _ _ => trivial) (fun rh mu hh => hK _ _ hh) (fun _ ps rh mu hh N hN => ?_) ⟨none, rfl, rfl⟩
      obtain ⟨a, rfl, rfl⟩ := hh
      simp only [wgName]
      let R : Ev := E P P' C H C none
      show wIfS _ _ _ _ R []
      have t1 : IsB (wNot (wTru (wCall fIsi (wCons (wVar 5) (wCons (wTy "int") wNil))))) R [] false := fun K hK => by simp [R, E, C]; exact hK
      have t2 : IsB (wTru (wCall fIsi (wCons (wVar 5) (wCons (wTy "bool") wNil)))) R [] false := fun K hK => by simp [R, E, C]; exact hK
      have t3 := neqD_is (by simp) (by simp) (var_is (i := 5) (rh := R) (mu := []) (w := .d (.int (c : Nat))) rfl) (var_is (i := 3) (w := .d (.int (c : Nat))) rfl)
      rw [deqv_refl _ (by simp)] at t3
      exact ifS_F (or_isF t1 (or_isF t2 t3)) (hN _ _ ⟨_, rfl, rfl⟩)
  rintro _ _ ⟨a, rfl, rfl⟩
  refine seq_to (E P P' C H a (some (.d (.int 0)))) [] (fun K hK => ?_) ?_
  · have := changed_is p p rfl (var_is (i := 1) (rh := E P P' C H a none) (mu := []) rfl) (listF_is (var_is (i := 1) rfl))
    rw [chV_self] at this
    exact asg_to _ this hK
  have d1 : ∀ P : List Rw, ddep (prgD P) ≤ 22 := fun P => by have := prg_dep P; simp; omega
  let R : Ev := E P P' C H a (some (.d (.int 0)))
  have z4 : Is (wOp (fEq false) (wVar 4) (wLst false (wCons (wVar 1) (wCons (wVar 2) wNil)))) R [] (.d (.bl true)) := by
    refine op_to (.d (.lst [prgD P, prgD P'])) (.d (.lst [prgD P, prgD P'])) _ (var_is (i := 4) rfl) (fun K hK => ?_) fun K hK => ?_
    · simp only [wLst, wCons, wNil]
      refine var_is (i := 1) (w := .d (prgD P)) rfl _ (var_is (i := 2) (w := .d (prgD P')) rfl _ ⟨by simp [sizeLine_eq], ?_⟩)
      simpa [newLW, asDs, newL] using hK
    · have dd : ddep (.lst [prgD P, prgD P']) ≤ 60 := by have := d1 P; have := d1 P'; simp at *; omega
      simp only [fEq, snap]
      refine ⟨by omega, by omega, ?_⟩
      rw [deqv_refl _ (by omega)]
      simpa using hK
  refine ret_to (.d (.bl true)) (fun K hK => ?_) (h [])
  have z1 : Is (wCall fIsi (wCons (wVar 6) (wCons (wTy "int") wNil))) R [] (.d (.bl true)) := fun K hK => by simp [R, E]; exact hK
  have z2 : Is (wNotV (wCall fIsi (wCons (wVar 6) (wCons (wTy "bool") wNil)))) R [] (.d (.bl true)) := fun K hK => by simp [R, E]; exact hK
  have z3 : Is (wOp (fEq false) (wVar 6) (wC (.int 0))) R [] (.d (.bl true)) := fun K hK => by simp [R, E]; exact hK
  simp only [wAndV]
  refine z1 _ ?_
  simp only [onBl, if_true]
  refine z2 _ ?_
  simp only [onBl, if_true]
  refine z3 _ ?_
  simp only [onBl, if_true]
  exact z4 _ hK
end VL
namespace VLD
open PySem PySem.Spec PyProof.Rows L2 RZ VL
def top (i : Nat) : Stmt := PySem.Challenge.pw_slicewise_k70_changed_rows.main.body.getD i (.Pass ⟨0, 0, 0, 0⟩)
theorem ulen1 {us : List Value} (h : us.length = 1) : ∃ a0 : Value, us = [a0] := by
  match us, h with
  | [_], _ => exact ⟨_, rfl⟩
theorem ulen2 {us : List Value} (h : us.length = 2) : ∃ a0 a1 : Value, us = [a0, a1] := by
  match us, h with
  | [_, _], _ => exact ⟨_, _, rfl⟩
theorem ulen3 {us : List Value} (h : us.length = 3) : ∃ a0 a1 a2 : Value, us = [a0, a1, a2] := by
  match us, h with
  | [_, _, _], _ => exact ⟨_, _, _, rfl⟩
theorem ulen4 {us : List Value} (h : us.length = 4) : ∃ a0 a1 a2 a3 : Value, us = [a0, a1, a2, a3] := by
  match us, h with
  | [_, _, _, _], _ => exact ⟨_, _, _, _, rfl⟩
theorem ulen5 {us : List Value} (h : us.length = 5) : ∃ a0 a1 a2 a3 a4 : Value, us = [a0, a1, a2, a3, a4] := by
  match us, h with
  | [_, _, _, _, _], _ => exact ⟨_, _, _, _, _, rfl⟩
structure Txt (K : KW) (mg : Str → Option Value) : Prop where
  n_list : mg "list" = none
  n_enumerate : mg "enumerate" = none
  n_len : mg "len" = none
  n_range : mg "range" = none
  n_tuple : mg "tuple" = none
  n_sum : mg "sum" = none
  n_int : mg "int" = none
  n_isinstance : mg "isinstance" = none
  n_bool : mg "bool" = none
  c_BARE : ∃ v u, mg "BARE" = some u ∧ L2.RelV v u ∧ ∀ F, RepD K F k_BARE v
section
variable {P : Program} {K : KW} {mg : Str → Option Value} {base : Heap}
abbrev s_shape : Stmt := top 4
theorem sc_shape : FnScope ["program", "nothing", "row", "heads", "ends", "elses", "homes", "stack", "place", "word"] ["program"] (defScope s_shape) := ⟨rfl, rfl, rfl, by decide +kernel, rfl, by decide +kernel, by decide +kernel⟩
theorem d_shape {f : Addr} {fd : FuncData} (F : Fun K "shape" "shape" s_shape f fd) (hm : mg "shape" = some (.ref f)) (T : Txt K mg) : Def P K.w K mg base "shape" 1 [] sp_shape :=
  def_mk F hm sc_shape (F.binds (ps := ["program"]) fun _ _ _ _ _ _ us hl => (by obtain ⟨_, rfl⟩ := ulen1 hl; rfl)) (fun _ _ _ h => lenS1 h) fun cdv A outer s H E y => ⟨w_shape, (vss_cons (vs_setLc y false 1 (own := [("row", 2)]) (sw_true rfl rfl rfl (by decide +kernel)) (vi_seq y (ve_v y 0)) (blkOk_at (S := defScope s_shape) (by decide +kernel)) (vk_name (YOk.blk y _) 2 [2]) vts_nil ve_non)
    (vss_cons (vs_set y 3 (ve_list y true T.n_list (va_cons (ve_v y 1) va_nil)))
    (vss_cons (vs_set y 4 (ve_list y true T.n_list (va_cons (ve_v y 1) va_nil)))
    (vss_cons (vs_set y 5 (ve_list y true T.n_list (va_cons (ve_v y 1) va_nil)))
    (vss_cons (vs_set y 6 (ve_list y true T.n_list (va_cons (ve_v y 1) va_nil)))
    (vss_cons (vs_set y 7 (ve_lst true va_nil))
    (vss_cons (vs_for PassesOwn.never rfl (vi_enum y T.n_enumerate (va_cons (ve_v y 0) va_nil)) (vk_tup y 2 (vks_cons (vk_name y 8 [8, 2]) (vks_cons (vk_name y 2 [8, 2]) (vks_nil [8, 2])))) (vss_cons (vs_set y 9 (ve_ix y (ve_v y 2) ve_int))
    (vss_cons (vs_if (vt_cmp (c_ne y) (ve_v y 7) (ve_lst false va_nil)) (vss_cons (vs_asg (ve_ix y (ve_v y 7) (ve_neg ve_int)) (vg_subL (ve_v y 3) (ve_v y 8)))
    (vss_one (vs_asg (ve_ix y (ve_v y 7) ve_int) (vg_subL (ve_v y 6) (ve_v y 8))))) vss_nil)
    (vss_cons (vs_if (vt_cmp (c_eq y) (ve_v y 9) ve_str) (vss_one (vs_asg (ve_v y 8) (vg_subL (ve_v y 6) (ve_v y 8)))) vss_nil)
    (vss_cons (vs_if (vt_cmp (c_eq y) (ve_v y 9) ve_str) (vss_one (vs_asg (ve_v y 8) (vg_subL (ve_v y 5) (ve_ix y (ve_v y 7) (ve_neg ve_int))))) vss_nil)
    (vss_cons (vs_if (VW.vt (vw_or (vt_cmp (c_eq y) (ve_v y 9) ve_str) (vw_or1 (vt_cmp (c_eq y) (ve_v y 9) ve_str)))) (vss_one (vs_asg (ve_v y 8) (vg_subL (ve_v y 4) (ve_pop y (ve_v y 7))))) vss_nil)
    (vss_one (vs_if (VW.vt (vw_or (vt_cmp (c_eq y) (ve_v y 9) ve_str) (vw_or (vt_cmp (c_eq y) (ve_v y 9) ve_str) (vw_or1 (vt_cmp (c_eq y) (ve_v y 9) ve_str))))) (vss_one (vs_expr (ve_append y (ve_v y 7) (va_cons (ve_v y 8) va_nil)))) vss_nil))))))))
    (vss_one (vs_ret (ve_tup (va_cons (ve_v y 3) (va_cons (ve_v y 4) (va_cons (ve_v y 5) (va_cons (ve_v y 6) va_nil)))))))))))))), atS1 v_shape⟩
abbrev s_first_def : Stmt := top 7
theorem sc_first_def : FnScope ["program", "place", "row"] ["program"] (defScope s_first_def) := ⟨rfl, rfl, rfl, by decide +kernel, rfl, by decide +kernel, by decide +kernel⟩
theorem d_first_def {f : Addr} {fd : FuncData} (F : Fun K "first_def" "first_def" s_first_def f fd) (hm : mg "first_def" = some (.ref f)) (T : Txt K mg) : Def P K.w K mg base "first_def" 1 [] (pSp sp_first_def) :=
  def_mk F hm sc_first_def (F.binds (ps := ["program"]) fun _ _ _ _ _ _ us hl => (by obtain ⟨_, rfl⟩ := ulen1 hl; rfl)) (fun _ _ _ h => len1 h) fun cdv A outer s H E y => ⟨w_first_def, (vss_cons (vs_for PassesOwn.never rfl (vi_enum y T.n_enumerate (va_cons (ve_v y 0) va_nil)) (vk_tup y 2 (vks_cons (vk_name y 1 [1, 2]) (vks_cons (vk_name y 2 [1, 2]) (vks_nil [1, 2])))) (vss_one (vs_if (vt_cmp (c_eq y) (ve_ix y (ve_v y 2) ve_int) ve_str) (vss_one (vs_ret (ve_shl ve_int (ve_v y 1)))) vss_nil)))
    (vss_one (vs_ret ve_int))), at1 v_first_def⟩
abbrev s_changed : Stmt := top 8
theorem sc_changed : FnScope ["old", "new", "before", "after", "rows", "place", "unlike", "k"] ["old", "new"] (defScope s_changed) := ⟨rfl, rfl, rfl, by decide +kernel, rfl, by decide +kernel, by decide +kernel⟩
theorem d_changed {f : Addr} {fd : FuncData} (F : Fun K "changed" "changed" s_changed f fd) (hm : mg "changed" = some (.ref f)) (T : Txt K mg) (d_shape : Def P K.w K mg base "shape" 1 [] sp_shape) (d_first_def : Def P K.w K mg base "first_def" 1 [] (pSp sp_first_def)) : Def P K.w K mg base "changed" 2 [] (pSp sp_changed) :=
  def_mk F hm sc_changed (F.binds (ps := ["old", "new"]) fun _ _ _ _ _ _ us hl => (by obtain ⟨_, _, rfl⟩ := ulen2 hl; rfl)) (fun _ _ _ h => len2 h) fun cdv A outer s H E y => ⟨w_changed, (vss_cons (vs_if (vt_cmp (c_ne y) (ve_len y T.n_len (va_cons (ve_v y 0) va_nil)) (ve_len y T.n_len (va_cons (ve_v y 1) va_nil))) (vss_one vs_never) vss_nil)
    (vss_cons (vs_set y 2 (ve_callS y d_shape (by decide) (va_cons (ve_v y 0) va_nil)))
    (vss_cons (vs_set y 3 (ve_callS y d_shape (by decide) (va_cons (ve_v y 1) va_nil)))
    (vss_cons (vs_set y 4 ve_int)
    (vss_cons (vs_for PassesOwn.never rfl (vi_rng1 y T.n_range (va_cons (ve_len y T.n_len (va_cons (ve_v y 0) va_nil)) va_nil)) (vk_name y 5 [5]) (vss_one (vs_if (VW.vt (vw_or (vt_cmp (c_notinT y) (ve_ix y (ve_ix y (ve_v y 0) (ve_v y 5)) ve_int) (ve_glob y T.c_BARE)) (vw_or1 (vt_cmp (c_notinT y) (ve_ix y (ve_ix y (ve_v y 1) (ve_v y 5)) ve_int) (ve_glob y T.c_BARE))))) (vss_cons (vs_setLc y false 6 (own := [("k", 7)]) (sw_true rfl rfl rfl (by decide +kernel)) (vi_rng1 y T.n_range (va_cons ve_int va_nil)) (blkOk_at (S := defScope s_changed) (by decide +kernel)) (vk_name (YOk.blk y _) 7 [7]) (vts_one (vt_cmp (c_ne (YOk.blk y _)) (ve_ix (YOk.blk y _) (ve_ix (YOk.blk y _) (ve_v (YOk.blk y _) 2) (ve_v (YOk.blk y _) 7)) (ve_v (YOk.blk y _) 5)) (ve_ix (YOk.blk y _) (ve_ix (YOk.blk y _) (ve_v (YOk.blk y _) 3) (ve_v (YOk.blk y _) 7)) (ve_v (YOk.blk y _) 5)))) (ve_v (YOk.blk y _) 7))
    (vss_one (vs_if (VW.vt (vw_or (vt_cmp (c_ne y) (ve_ix y (ve_v y 0) (ve_v y 5)) (ve_ix y (ve_v y 1) (ve_v y 5))) (vw_or1 (vt_cmp (c_ne y) (ve_v y 6) (ve_lst false va_nil))))) (vss_one (vs_set y 4 (ve_or (ve_v y 4) (ve_shl ve_int (ve_v y 5))))) vss_nil))) vss_nil)))
    (vss_cons (vs_if (vt_cmp (c_ne y) (ve_callP y false d_first_def (by decide) (va_cons (ve_v y 0) va_nil)) (ve_callP y false d_first_def (by decide) (va_cons (ve_v y 1) va_nil))) (vss_one (vs_set y 4 (ve_or (ve_or (ve_v y 4) (ve_callP y false d_first_def (by decide) (va_cons (ve_v y 0) va_nil))) (ve_callP y false d_first_def (by decide) (va_cons (ve_v y 1) va_nil))))) vss_nil)
    (vss_one (vs_ret (ve_v y 4))))))))), at2 v_changed⟩
abbrev s__law_cell_at : Stmt := top 10
theorem sc__law_cell_at : FnScope ["_law_script", "_law_k"] ["_law_script", "_law_k"] (defScope s__law_cell_at) := ⟨rfl, rfl, rfl, by decide +kernel, rfl, by decide +kernel, by decide +kernel⟩
theorem d__law_cell_at {f : Addr} {fd : FuncData} (F : Fun K "_law_cell_at" "_law_cell_at" s__law_cell_at f fd) (hm : mg "_law_cell_at" = some (.ref f)) (T : Txt K mg) : Def P K.w K mg base "_law_cell_at" 1 [] (pSp sp__law_cell_at) :=
  def_mk F hm sc__law_cell_at (F.binds (ps := ["_law_script", "_law_k"]) fun _ _ _ _ _ _ us hl => (by obtain ⟨_, _, rfl⟩ := ulen2 hl; rfl)) (fun _ _ _ h => len2 h) fun cdv A outer s H E y => ⟨w__law_cell_at, (vss_cons (vs_if (vt_cmp (c_lt y) (ve_v y 1) (ve_len y T.n_len (va_cons (ve_v y 0) va_nil))) (vss_one (vs_ret (ve_ix y (ve_v y 0) (ve_v y 1)))) vss_nil)
    (vss_one (vs_ret ve_int))), at2 v__law_cell_at⟩
abbrev s__law_words : Stmt := top 11
theorem sc__law_words : FnScope ["_law_cell", "_law_many", "_law_letters", "_law_size", "_law_at", "_law_words_here", "_law_k", "_law_word", "_law_j", "_law_number"] ["_law_cell", "_law_many"] (defScope s__law_words) := ⟨rfl, rfl, rfl, by decide +kernel, rfl, by decide +kernel, by decide +kernel⟩
theorem d__law_words {f : Addr} {fd : FuncData} (F : Fun K "_law_words" "_law_words" s__law_words f fd) (hm : mg "_law_words" = some (.ref f)) (T : Txt K mg) : Def P K.w K mg base "_law_words" 1 [] (pSp sp__law_words) :=
  def_mk F hm sc__law_words (F.binds (ps := ["_law_cell", "_law_many"]) fun _ _ _ _ _ _ us hl => (by obtain ⟨_, _, rfl⟩ := ulen2 hl; rfl)) (fun _ _ _ h => len2 h) fun cdv A outer s H E y => ⟨w__law_words, (vss_cons (vs_set y 2 ve_str)
    (vss_cons (vs_set y 0 (ve_mod (ve_v y 0) (ve_pow ve_int ve_int)))
    (vss_cons (vs_set y 3 (ve_add y false ve_int (ve_mod (ve_v y 0) ve_int)))
    (vss_cons (vs_set y 4 (ve_mod (ve_fdiv (ve_v y 0) ve_int) (ve_v y 3)))
    (vss_cons (vs_set y 5 (ve_lst true va_nil))
    (vss_cons (vs_for PassesOwn.never rfl (vi_rng1 y T.n_range (va_cons (ve_v y 1) va_nil)) (vk_name y 6 [6]) (vss_cons (vs_set y 7 ve_str)
    (vss_cons (vs_for PassesOwn.never rfl (vi_rng1 y T.n_range (va_cons (ve_v y 3) va_nil)) (vk_name y 8 [8]) (vss_cons (vs_set y 9 (ve_add y false (ve_fdiv (ve_fdiv (ve_v y 0) ve_int) (ve_add y false (ve_v y 8) ve_int)) (ve_mul false (ve_v y 8) (ve_v y 8))))
    (vss_cons (vs_if (vt_cmp (c_eq y) (ve_v y 8) (ve_v y 4)) (vss_one (vs_augAdd y 9 (ve_v y 6))) vss_nil)
    (vss_one (vs_set y 7 (ve_add y false (ve_v y 7) (ve_ix y (ve_v y 2) (ve_mod (ve_v y 9) ve_int))))))))
    (vss_one (vs_expr (ve_append y (ve_v y 5) (va_cons (ve_v y 7) va_nil)))))))
    (vss_cons (vs_if (vt_cmp (c_eq y) (ve_mod (ve_fdiv (ve_v y 0) ve_int) ve_int) ve_int) (vss_one (vs_asg (ve_add y false (ve_ix y (ve_v y 5) ve_int) (ve_ix y (ve_v y 2) (ve_mod (ve_fdiv (ve_v y 0) ve_int) ve_int))) (vg_subL (ve_v y 5) ve_int))) vss_nil)
    (vss_one (vs_ret (ve_v y 5)))))))))), at2 v__law_words⟩
abbrev s__law_operand : Stmt := top 12
theorem sc__law_operand : FnScope ["_law_number", "_law_words_here"] ["_law_number", "_law_words_here"] (defScope s__law_operand) := ⟨rfl, rfl, rfl, by decide +kernel, rfl, by decide +kernel, by decide +kernel⟩
theorem d__law_operand {f : Addr} {fd : FuncData} (F : Fun K "_law_operand" "_law_operand" s__law_operand f fd) (hm : mg "_law_operand" = some (.ref f)) (T : Txt K mg) : Def P K.w K mg base "_law_operand" 1 [] (pSp sp__law_operand) :=
  def_mk F hm sc__law_operand (F.binds (ps := ["_law_number", "_law_words_here"]) fun _ _ _ _ _ _ us hl => (by obtain ⟨_, _, rfl⟩ := ulen2 hl; rfl)) (fun _ _ _ h => len2 h) fun cdv A outer s H E y => ⟨w__law_operand, (vss_cons (vs_if (vt_cmp (c_gt y) (ve_mod (ve_v y 0) ve_int) ve_int) (vss_one (vs_ret (ve_ix y (ve_v y 1) (ve_mod (ve_fdiv (ve_v y 0) ve_int) ve_int)))) vss_nil)
    (vss_cons (vs_if (vt_cmp (c_eq y) (ve_mod (ve_v y 0) ve_int) ve_int) (vss_one (vs_ret (ve_sub (ve_mod (ve_add y false (ve_mul false (ve_mul false (ve_v y 0) ve_int) (ve_pow ve_int ve_int)) (ve_v y 0)) (ve_mul false ve_int (ve_pow ve_int ve_int))) (ve_pow ve_int ve_int)))) vss_nil)
    (vss_one (vs_ret (ve_sub (ve_mod (ve_fdiv (ve_v y 0) ve_int) ve_int) ve_int))))), at2 v__law_operand⟩
abbrev s__law_key : Stmt := top 13
theorem sc__law_key : FnScope ["_law_number", "_law_words_here"] ["_law_number", "_law_words_here"] (defScope s__law_key) := ⟨rfl, rfl, rfl, by decide +kernel, rfl, by decide +kernel, by decide +kernel⟩
theorem d__law_key {f : Addr} {fd : FuncData} (F : Fun K "_law_key" "_law_key" s__law_key f fd) (hm : mg "_law_key" = some (.ref f)) (T : Txt K mg) (d__law_operand : Def P K.w K mg base "_law_operand" 1 [] (pSp sp__law_operand)) : Def P K.w K mg base "_law_key" 2 [] (pSp sp__law_key) :=
  def_mk F hm sc__law_key (F.binds (ps := ["_law_number", "_law_words_here"]) fun _ _ _ _ _ _ us hl => (by obtain ⟨_, _, rfl⟩ := ulen2 hl; rfl)) (fun _ _ _ h => len2 h) fun cdv A outer s H E y => ⟨w__law_key, (vss_cons (vs_if (vt_cmp (c_eq y) (ve_mod (ve_v y 0) ve_int) ve_int) (vss_one (vs_ret (ve_add y true ve_str (ve_ix y (ve_v y 1) (ve_mod (ve_fdiv (ve_v y 0) ve_int) ve_int))))) vss_nil)
    (vss_one (vs_ret (ve_callP y true d__law_operand (by decide) (va_cons (ve_fdiv (ve_v y 0) ve_int) (va_cons (ve_v y 1) va_nil)))))), at2 v__law_key⟩
abbrev s__law_call : Stmt := top 14
theorem sc__law_call : FnScope ["_law_number", "_law_name", "_law_words_here", "_law_later", "_law_other", "_law_parameters", "_law_operands", "_law_k"] ["_law_number", "_law_name", "_law_words_here", "_law_later"] (defScope s__law_call) := ⟨rfl, rfl, rfl, by decide +kernel, rfl, by decide +kernel, by decide +kernel⟩
theorem d__law_call {f : Addr} {fd : FuncData} (F : Fun K "_law_call" "_law_call" s__law_call f fd) (hm : mg "_law_call" = some (.ref f)) (T : Txt K mg) (d__law_operand : Def P K.w K mg base "_law_operand" 1 [] (pSp sp__law_operand)) : Def P K.w K mg base "_law_call" 2 [] (pSp sp__law_call) :=
  def_mk F hm sc__law_call (F.binds (ps := ["_law_number", "_law_name", "_law_words_here", "_law_later"]) fun _ _ _ _ _ _ us hl => (by obtain ⟨_, _, _, _, rfl⟩ := ulen4 hl; rfl)) (fun _ _ _ h => len4 h) fun cdv A outer s H E y => ⟨w__law_call, (vss_cons (vs_asg (ve_ix y (ve_v y 3) (ve_mod (ve_v y 0) (ve_len y T.n_len (va_cons (ve_v y 3) va_nil)))) (VK.vg (vk_tup y 2 (vks_cons (vk_name y 4 [4, 5]) (vks_cons (vk_name y 5 [4, 5]) (vks_nil [4, 5]))))))
    (vss_cons (vs_set y 6 (ve_lst true va_nil))
    (vss_cons (vs_for PassesOwn.never rfl (vi_rng1 y T.n_range (va_cons (ve_len y T.n_len (va_cons (ve_v y 5) va_nil)) va_nil)) (vk_name y 7 [7]) (vss_one (vs_expr (ve_append y (ve_v y 6) (va_cons (ve_callP y false d__law_operand (by decide) (va_cons (ve_fdiv (ve_v y 0) (ve_add y false (ve_len y T.n_len (va_cons (ve_v y 3) va_nil)) (ve_v y 7))) (va_cons (ve_v y 2) va_nil))) va_nil)))))
    (vss_one (vs_ret (ve_tup (va_cons ve_str (va_cons (ve_v y 1) (va_cons (ve_v y 4) (va_cons (ve_tuple y T.n_tuple (va_cons (ve_v y 6) va_nil)) va_nil)))))))))), at4 v__law_call⟩
abbrev s__law_simple : Stmt := top 15
theorem sc__law_simple : FnScope ["_law_number", "_law_words_here", "_law_later", "_law_kind", "_law_name", "_law_other", "_law_rest", "_law_word"] ["_law_number", "_law_words_here", "_law_later"] (defScope s__law_simple) := ⟨rfl, rfl, rfl, by decide +kernel, rfl, by decide +kernel, by decide +kernel⟩
theorem d__law_simple {f : Addr} {fd : FuncData} (F : Fun K "_law_simple" "_law_simple" s__law_simple f fd) (hm : mg "_law_simple" = some (.ref f)) (T : Txt K mg) (d__law_operand : Def P K.w K mg base "_law_operand" 1 [] (pSp sp__law_operand)) (d__law_key : Def P K.w K mg base "_law_key" 2 [] (pSp sp__law_key)) (d__law_call : Def P K.w K mg base "_law_call" 2 [] (pSp sp__law_call)) : Def P K.w K mg base "_law_simple" 3 [] (pSp sp__law_simple) :=
  def_mk F hm sc__law_simple (F.binds (ps := ["_law_number", "_law_words_here", "_law_later"]) fun _ _ _ _ _ _ us hl => (by obtain ⟨_, _, _, rfl⟩ := ulen3 hl; rfl)) (fun _ _ _ h => len3 h) fun cdv A outer s H E y => ⟨w__law_simple, (vss_cons (vs_set y 3 (ve_mod (ve_v y 0) ve_int))
    (vss_cons (vs_set y 4 (ve_ix y (ve_v y 1) (ve_mod (ve_fdiv (ve_v y 0) ve_int) ve_int)))
    (vss_cons (vs_set y 5 (ve_ix y (ve_v y 1) (ve_mod (ve_fdiv (ve_v y 0) ve_int) ve_int)))
    (vss_cons (vs_set y 6 (ve_fdiv (ve_v y 0) ve_int))
    (vss_cons (vs_if (vt_cmp (c_lt y) (ve_v y 3) ve_int) (vss_one (vs_ret (ve_tup (va_cons ve_str (va_cons (ve_v y 4) (va_cons (ve_callP y false d__law_operand (by decide) (va_cons (ve_v y 6) (va_cons (ve_v y 1) va_nil))) va_nil)))))) vss_nil)
    (vss_cons (vs_if (vt_cmp (c_lt y) (ve_v y 3) ve_int) (vss_cons (vs_set y 7 (ve_ix y (ve_lst false (va_cons ve_str (va_cons ve_str (va_cons ve_str (va_cons ve_str (va_cons ve_str (va_cons ve_str (va_cons ve_str va_nil)))))))) (ve_mod (ve_v y 6) ve_int)))
    (vss_one (vs_ret (ve_tup (va_cons ve_str (va_cons (ve_v y 4) (va_cons (ve_callP y false d__law_operand (by decide) (va_cons (ve_fdiv (ve_v y 6) ve_int) (va_cons (ve_v y 1) va_nil))) (va_cons (ve_v y 7) (va_cons (ve_callP y false d__law_operand (by decide) (va_cons (ve_fdiv (ve_v y 6) ve_int) (va_cons (ve_v y 1) va_nil))) va_nil))))))))) vss_nil)
    (vss_cons (vs_if (vt_cmp (c_eq y) (ve_v y 3) ve_int) (vss_one (vs_ret (ve_tup (va_cons ve_str (va_cons (ve_v y 4) va_nil))))) vss_nil)
    (vss_cons (vs_if (vt_cmp (c_lt y) (ve_v y 3) ve_int) (vss_one (vs_ret (ve_tup (va_cons ve_str (va_cons (ve_v y 4) (va_cons (ve_v y 5) (va_cons (ve_callP y false d__law_key (by decide) (va_cons (ve_v y 6) (va_cons (ve_v y 1) va_nil))) va_nil))))))) vss_nil)
    (vss_cons (vs_if (vt_cmp (c_lt y) (ve_v y 3) ve_int) (vss_one (vs_ret (ve_tup (va_cons ve_str (va_cons (ve_v y 5) (va_cons (ve_callP y false d__law_key (by decide) (va_cons (ve_v y 6) (va_cons (ve_v y 1) va_nil))) (va_cons (ve_callP y false d__law_operand (by decide) (va_cons (ve_fdiv (ve_v y 6) ve_int) (va_cons (ve_v y 1) va_nil))) va_nil))))))) vss_nil)
    (vss_cons (vs_if (VW.vt (vw_and (vt_cmp (c_eq y) (ve_v y 3) ve_int) (vw_and1 (vt_cmp (c_ne y) (ve_v y 2) (ve_lst false va_nil))))) (vss_one (vs_ret (ve_callP y true d__law_call (by decide) (va_cons (ve_v y 6) (va_cons (ve_v y 4) (va_cons (ve_v y 1) (va_cons (ve_v y 2) va_nil))))))) vss_nil)
    (vss_cons (vs_if (VW.vt (vw_and (vt_cmp (c_eq y) (ve_v y 3) ve_int) (vw_and1 (vt_cmp (c_eq y) (ve_mod (ve_v y 6) ve_int) ve_int)))) (vss_one (vs_ret (ve_tup (va_cons ve_str (va_cons (ve_ix y (ve_v y 1) (ve_add y false ve_int (ve_mod (ve_fdiv (ve_v y 6) ve_int) ve_int))) va_nil))))) vss_nil)
    (vss_cons (vs_if (VW.vt (vw_and (vt_cmp (c_eq y) (ve_v y 3) ve_int) (vw_and1 (vt_cmp (c_eq y) (ve_mod (ve_v y 6) ve_int) ve_int)))) (vss_one (vs_ret (ve_tup (va_cons ve_str va_nil)))) vss_nil)
    (vss_one (vs_ret (ve_tup (va_cons ve_str (va_cons (ve_v y 4) (va_cons (ve_v y 5) va_nil)))))))))))))))))), at3 v__law_simple⟩
abbrev s__law_lay : Stmt := top 16
theorem sc__law_lay : FnScope ["_law_rows", "_law_stack", "_law_cell", "_law_words_here", "_law_later", "_law_number", "_law_move", "_law_name"] ["_law_rows", "_law_stack", "_law_cell", "_law_words_here", "_law_later"] (defScope s__law_lay) := ⟨rfl, rfl, rfl, by decide +kernel, rfl, by decide +kernel, by decide +kernel⟩
theorem d__law_lay {f : Addr} {fd : FuncData} (F : Fun K "_law_lay" "_law_lay" s__law_lay f fd) (hm : mg "_law_lay" = some (.ref f)) (T : Txt K mg) (d__law_operand : Def P K.w K mg base "_law_operand" 1 [] (pSp sp__law_operand)) (d__law_simple : Def P K.w K mg base "_law_simple" 3 [] (pSp sp__law_simple)) : Def P K.w K mg base "_law_lay" 4 [] sp__law_lay :=
  def_mk F hm sc__law_lay (F.binds (ps := ["_law_rows", "_law_stack", "_law_cell", "_law_words_here", "_law_later"]) fun _ _ _ _ _ _ us hl => (by obtain ⟨_, _, _, _, _, rfl⟩ := ulen5 hl; rfl)) (fun _ _ _ h => lenS5 h) fun cdv A outer s H E y => ⟨w__law_lay, (vss_cons (vs_set y 5 (ve_mod (ve_mul false (ve_fdiv (ve_v y 2) ve_int) ve_int) ve_int))
    (vss_cons (vs_set y 6 (ve_mod (ve_v y 2) ve_int))
    (vss_one (vs_if (VW.vt (vw_and (vt_cmp (c_eq y) (ve_v y 6) ve_int) (vw_and1 (vt_cmp (c_lt y) (ve_len y T.n_len (va_cons (ve_v y 1) va_nil)) ve_int)))) (vss_cons (vs_expr (ve_append y (ve_v y 0) (va_cons (ve_tup (va_cons ve_str (va_cons (ve_callP y false d__law_operand (by decide) (va_cons (ve_v y 5) (va_cons (ve_v y 3) va_nil))) va_nil))) va_nil)))
    (vss_one (vs_expr (ve_append y (ve_v y 1) (va_cons ve_str va_nil))))) (vss_one (vs_if (VW.vt (vw_and (vt_cmp (c_eq y) (ve_v y 6) ve_int) (vw_and1 (vt_cmp (c_lt y) (ve_len y T.n_len (va_cons (ve_v y 1) va_nil)) ve_int)))) (vss_cons (vs_expr (ve_append y (ve_v y 1) (va_cons ve_str va_nil)))
    (vss_one (vs_if (vt_cmp (c_eq y) (ve_mod (ve_v y 5) ve_int) ve_int) (vss_one (vs_expr (ve_append y (ve_v y 0) (va_cons (ve_tup (va_cons ve_str (va_cons (ve_callP y false d__law_operand (by decide) (va_cons (ve_fdiv (ve_v y 5) ve_int) (va_cons (ve_v y 3) va_nil))) va_nil))) va_nil)))) (vss_cons (vs_set y 7 (ve_ix y (ve_v y 3) (ve_mod (ve_fdiv (ve_v y 5) ve_int) ve_int)))
    (vss_cons (vs_expr (ve_append y (ve_v y 0) (va_cons (ve_tup (va_cons ve_str (va_cons (ve_v y 7) va_nil))) va_nil)))
    (vss_one (vs_expr (ve_append y (ve_v y 0) (va_cons (ve_tup (va_cons ve_str (va_cons (ve_v y 7) (va_cons (ve_v y 7) (va_cons ve_str (va_cons ve_int va_nil)))))) va_nil))))))))) (vss_one (vs_if (VW.vt (vw_and (vt_cmp (c_eq y) (ve_v y 6) ve_int) (vw_and (vt_cmp (c_ne y) (ve_v y 1) (ve_lst false va_nil)) (vw_and1 (vt_cmp (c_eq y) (ve_ix y (ve_v y 1) (ve_neg ve_int)) ve_str))))) (vss_cons (vs_expr (ve_append y (ve_v y 0) (va_cons (ve_tup (va_cons ve_str va_nil)) va_nil)))
    (vss_one (vs_asg ve_str (vg_subL (ve_v y 1) (ve_neg ve_int))))) (vss_one (vs_if (VW.vt (vw_and (vt_cmp (c_eq y) (ve_v y 6) ve_int) (vw_and1 (vt_cmp (c_ne y) (ve_v y 1) (ve_lst false va_nil))))) (vss_cons (vs_expr (ve_append y (ve_v y 0) (va_cons (ve_tup (va_cons ve_str va_nil)) va_nil)))
    (vss_one (vs_expr (ve_pop y (ve_v y 1))))) (vss_one (vs_expr (ve_append y (ve_v y 0) (va_cons (ve_callP y false d__law_simple (by decide) (va_cons (ve_v y 5) (va_cons (ve_v y 3) (va_cons (ve_v y 4) va_nil)))) va_nil)))))))))))))), atS5 v__law_lay⟩
abbrev s__law_plan : Stmt := top 17
theorem sc__law_plan : FnScope ["_law_cell", "_law_words_here", "_law_number", "_law_plan_here", "_law_k", "_law_parameters", "_law_j"] ["_law_cell", "_law_words_here"] (defScope s__law_plan) := ⟨rfl, rfl, rfl, by decide +kernel, rfl, by decide +kernel, by decide +kernel⟩
theorem d__law_plan {f : Addr} {fd : FuncData} (F : Fun K "_law_plan" "_law_plan" s__law_plan f fd) (hm : mg "_law_plan" = some (.ref f)) (T : Txt K mg) : Def P K.w K mg base "_law_plan" 1 [] (pSp sp__law_plan) :=
  def_mk F hm sc__law_plan (F.binds (ps := ["_law_cell", "_law_words_here"]) fun _ _ _ _ _ _ us hl => (by obtain ⟨_, _, rfl⟩ := ulen2 hl; rfl)) (fun _ _ _ h => len2 h) fun cdv A outer s H E y => ⟨w__law_plan, (vss_cons (vs_set y 2 (ve_mod (ve_v y 0) (ve_pow ve_int ve_int)))
    (vss_cons (vs_set y 3 (ve_lst true va_nil))
    (vss_cons (vs_for PassesOwn.never rfl (vi_rng1 y T.n_range (va_cons (ve_add y false ve_int (ve_mod (ve_v y 2) ve_int)) va_nil)) (vk_name y 4 [4]) (vss_cons (vs_set y 2 (ve_mod (ve_add y false (ve_add y false (ve_mul false (ve_v y 2) (ve_v y 2)) (ve_mul false ve_int (ve_v y 2))) (ve_v y 4)) ve_int))
    (vss_cons (vs_setLc y false 5 (own := [("_law_j", 6)]) (sw_true rfl rfl rfl (by decide +kernel)) (vi_rng1 y T.n_range (va_cons (ve_mod (ve_v y 2) ve_int) va_nil)) (blkOk_at (S := defScope s__law_plan) (by decide +kernel)) (vk_name (YOk.blk y _) 6 [6]) vts_nil (ve_ix (YOk.blk y _) (ve_v (YOk.blk y _) 1) (ve_mod (ve_add (YOk.blk y _) false (ve_fdiv (ve_v (YOk.blk y _) 2) ve_int) (ve_v (YOk.blk y _) 6)) ve_int)))
    (vss_one (vs_expr (ve_append y (ve_v y 3) (va_cons (ve_tup (va_cons (ve_ix y (ve_v y 1) (ve_v y 4)) (va_cons (ve_tuple y T.n_tuple (va_cons (ve_v y 5) va_nil)) va_nil))) va_nil)))))))
    (vss_one (vs_ret (ve_v y 3)))))), at2 v__law_plan⟩
abbrev s__law_program : Stmt := top 18
theorem sc__law_program : FnScope ["_law_cells", "_law_words_here", "_law_plan_here", "_law_rows", "_law_k", "_law_stack", "_law_begin", "_law_share", "_law_cell", "_law_word"] ["_law_cells", "_law_words_here", "_law_plan_here"] (defScope s__law_program) := ⟨rfl, rfl, rfl, by decide +kernel, rfl, by decide +kernel, by decide +kernel⟩
theorem d__law_program {f : Addr} {fd : FuncData} (F : Fun K "_law_program" "_law_program" s__law_program f fd) (hm : mg "_law_program" = some (.ref f)) (T : Txt K mg) (d__law_lay : Def P K.w K mg base "_law_lay" 4 [] sp__law_lay) (d__law_operand : Def P K.w K mg base "_law_operand" 1 [] (pSp sp__law_operand)) : Def P K.w K mg base "_law_program" 5 [] (pSp sp__law_program) :=
  def_mk F hm sc__law_program (F.binds (ps := ["_law_cells", "_law_words_here", "_law_plan_here"]) fun _ _ _ _ _ _ us hl => (by obtain ⟨_, _, _, rfl⟩ := ulen3 hl; rfl)) (fun _ _ _ h => len3 h) fun cdv A outer s H E y => ⟨w__law_program, (vss_cons (vs_set y 3 (ve_lst true va_nil))
    (vss_cons (vs_for PassesOwn.never rfl (vi_rng1 y T.n_range (va_cons (ve_len y T.n_len (va_cons (ve_v y 2) va_nil)) va_nil)) (vk_name y 4 [4]) (vss_cons (vs_expr (ve_append y (ve_v y 3) (va_cons (ve_tup (va_cons ve_str (va_cons (ve_ix y (ve_ix y (ve_v y 2) (ve_v y 4)) ve_int) (va_cons (ve_ix y (ve_ix y (ve_v y 2) (ve_v y 4)) ve_int) va_nil)))) va_nil)))
    (vss_cons (vs_set y 5 (ve_lst true va_nil))
    (vss_cons (vs_set y 6 (ve_fdiv (ve_mul false (ve_v y 4) (ve_len y T.n_len (va_cons (ve_v y 0) va_nil))) (ve_len y T.n_len (va_cons (ve_v y 2) va_nil))))
    (vss_cons (vs_set y 7 (ve_slice y false (ve_v y 0) (vo_some (ve_v y 6)) (vo_some (ve_fdiv (ve_mul false (ve_add y false (ve_v y 4) ve_int) (ve_len y T.n_len (va_cons (ve_v y 0) va_nil))) (ve_len y T.n_len (va_cons (ve_v y 2) va_nil))))))
    (vss_cons (vs_for PassesOwn.never rfl (vi_seq y (ve_v y 7)) (vk_name y 8 [8]) (vss_one (vs_if (vt_cmp (c_lt y) (ve_add y false (ve_len y T.n_len (va_cons (ve_v y 3) va_nil)) (ve_len y T.n_len (va_cons (ve_v y 5) va_nil))) (ve_sub ve_int (ve_mul false ve_int (ve_sub (ve_sub (ve_len y T.n_len (va_cons (ve_v y 2) va_nil)) ve_int) (ve_v y 4))))) (vss_one (vs_expr (ve_callS y d__law_lay (by decide) (va_cons (ve_v y 3) (va_cons (ve_v y 5) (va_cons (ve_v y 8) (va_cons (ve_v y 1) (va_cons (ve_slice y false (ve_v y 2) (vo_some (ve_add y false (ve_v y 4) ve_int)) vo_none) va_nil)))))))) vss_nil)))
    (vss_cons (vs_for PassesOwn.never rfl (vi_seq y (ve_v y 5)) (vk_name y 9 [9]) (vss_one (vs_expr (ve_append y (ve_v y 3) (va_cons (ve_tup (va_cons ve_str va_nil)) va_nil)))))
    (vss_cons (vs_expr (ve_append y (ve_v y 3) (va_cons (ve_tup (va_cons ve_str (va_cons (ve_callP y false d__law_operand (by decide) (va_cons (ve_mod (ve_sum y T.n_sum (va_cons (ve_v y 7) va_nil)) (ve_pow ve_int ve_int)) (va_cons (ve_v y 1) va_nil))) va_nil))) va_nil)))
    (vss_one (vs_if (VW.vt (vw_and (vt_cmp (c_eq y) (ve_mod (ve_v y 4) ve_int) ve_int) (vw_and1 (vt_cmp (c_eq y) (ve_mod (ve_len y T.n_len (va_cons (ve_v y 7) va_nil)) ve_int) ve_int)))) (vss_one (vs_expr (ve_append y (ve_v y 3) (va_cons (ve_tup (va_cons ve_str va_nil)) va_nil)))) vss_nil))))))))))
    (vss_one (vs_ret (ve_v y 3))))), at3 v__law_program⟩
abbrev s__law_made : Stmt := top 19
theorem sc__law_made : FnScope ["_law_script", "_law_start", "_law_most", "_law_words_here", "_law_plan_here", "_law_cells", "_law_k"] ["_law_script", "_law_start", "_law_most"] (defScope s__law_made) := ⟨rfl, rfl, rfl, by decide +kernel, rfl, by decide +kernel, by decide +kernel⟩
theorem d__law_made {f : Addr} {fd : FuncData} (F : Fun K "_law_made" "_law_made" s__law_made f fd) (hm : mg "_law_made" = some (.ref f)) (T : Txt K mg) (d__law_words : Def P K.w K mg base "_law_words" 1 [] (pSp sp__law_words)) (d__law_cell_at : Def P K.w K mg base "_law_cell_at" 1 [] (pSp sp__law_cell_at)) (d__law_plan : Def P K.w K mg base "_law_plan" 1 [] (pSp sp__law_plan)) (d__law_program : Def P K.w K mg base "_law_program" 5 [] (pSp sp__law_program)) : Def P K.w K mg base "_law_made" 6 [] (pSp sp__law_made) :=
  def_mk F hm sc__law_made (F.binds (ps := ["_law_script", "_law_start", "_law_most"]) fun _ _ _ _ _ _ us hl => (by obtain ⟨_, _, _, rfl⟩ := ulen3 hl; rfl)) (fun _ _ _ h => len3 h) fun cdv A outer s H E y => ⟨w__law_made, (vss_cons (vs_set y 3 (ve_callP y false d__law_words (by decide) (va_cons (ve_callP y false d__law_cell_at (by decide) (va_cons (ve_v y 0) (va_cons ve_int va_nil))) (va_cons ve_int va_nil))))
    (vss_cons (vs_set y 4 (ve_callP y false d__law_plan (by decide) (va_cons (ve_callP y false d__law_cell_at (by decide) (va_cons (ve_v y 0) (va_cons ve_int va_nil))) (va_cons (ve_v y 3) va_nil))))
    (vss_cons (vs_set y 5 (ve_slice y false (ve_v y 0) (vo_some (ve_v y 1)) (vo_some (ve_add y false (ve_v y 1) (ve_v y 2)))))
    (vss_cons (vs_for PassesOwn.never rfl (vi_rng1 y T.n_range (va_cons (ve_sub ve_int (ve_len y T.n_len (va_cons (ve_v y 5) va_nil))) va_nil)) (vk_name y 6 [6]) (vss_one (vs_set y 5 (ve_add y false (ve_v y 5) (ve_lst false (va_cons (ve_add y false (ve_add y false (ve_mod (ve_callP y false d__law_cell_at (by decide) (va_cons (ve_v y 0) (va_cons ve_int va_nil))) ve_int) (ve_mul false (ve_mul false ve_int (ve_v y 6)) (ve_v y 6))) (ve_v y 6)) va_nil))))))
    (vss_one (vs_ret (ve_callP y true d__law_program (by decide) (va_cons (ve_v y 5) (va_cons (ve_v y 3) (va_cons (ve_v y 4) va_nil)))))))))), at3 v__law_made⟩
abbrev s__law_shape : Stmt := top 20
theorem sc__law_shape : FnScope ["_law_rows", "_law_heads", "_law_row", "_law_ends", "_law_elses", "_law_stack", "_law_place", "_law_word"] ["_law_rows"] (defScope s__law_shape) := ⟨rfl, rfl, rfl, by decide +kernel, rfl, by decide +kernel, by decide +kernel⟩
theorem d__law_shape {f : Addr} {fd : FuncData} (F : Fun K "_law_shape" "_law_shape" s__law_shape f fd) (hm : mg "_law_shape" = some (.ref f)) (T : Txt K mg) : Def P K.w K mg base "_law_shape" 1 [] (pSp sp__law_shape) :=
  def_mk F hm sc__law_shape (F.binds (ps := ["_law_rows"]) fun _ _ _ _ _ _ us hl => (by obtain ⟨_, rfl⟩ := ulen1 hl; rfl)) (fun _ _ _ h => len1 h) fun cdv A outer s H E y => ⟨w__law_shape, (vss_cons (vs_setLc y true 1 (own := [("_law_row", 2)]) (sw_true rfl rfl rfl (by decide +kernel)) (vi_seq y (ve_v y 0)) (blkOk_at (S := defScope s__law_shape) (by decide +kernel)) (vk_name (YOk.blk y _) 2 [2]) vts_nil ve_non)
    (vss_cons (vs_setLc y true 3 (own := [("_law_row", 2)]) (sw_true rfl rfl rfl (by decide +kernel)) (vi_seq y (ve_v y 0)) (blkOk_at (S := defScope s__law_shape) (by decide +kernel)) (vk_name (YOk.blk y _) 2 [2]) vts_nil ve_non)
    (vss_cons (vs_setLc y true 4 (own := [("_law_row", 2)]) (sw_true rfl rfl rfl (by decide +kernel)) (vi_seq y (ve_v y 0)) (blkOk_at (S := defScope s__law_shape) (by decide +kernel)) (vk_name (YOk.blk y _) 2 [2]) vts_nil ve_non)
    (vss_cons (vs_set y 5 (ve_lst true va_nil))
    (vss_cons (vs_for PassesOwn.never rfl (vi_rng1 y T.n_range (va_cons (ve_len y T.n_len (va_cons (ve_v y 0) va_nil)) va_nil)) (vk_name y 6 [6]) (vss_cons (vs_set y 7 (ve_ix y (ve_ix y (ve_v y 0) (ve_v y 6)) ve_int))
    (vss_cons (vs_if (vt_cmp (c_ne y) (ve_v y 5) (ve_lst false va_nil)) (vss_one (vs_asg (ve_ix y (ve_v y 5) (ve_neg ve_int)) (vg_subL (ve_v y 1) (ve_v y 6)))) vss_nil)
    (vss_cons (vs_if (vt_cmp (c_eq y) (ve_v y 7) ve_str) (vss_one (vs_asg (ve_v y 6) (vg_subL (ve_v y 4) (ve_ix y (ve_v y 5) (ve_neg ve_int))))) vss_nil)
    (vss_cons (vs_if (vt_cmp (c_inT y) (ve_v y 7) (ve_tup (va_cons ve_str (va_cons ve_str va_nil)))) (vss_one (vs_asg (ve_v y 6) (vg_subL (ve_v y 3) (ve_pop y (ve_v y 5))))) vss_nil)
    (vss_one (vs_if (vt_cmp (c_inT y) (ve_v y 7) (ve_tup (va_cons ve_str (va_cons ve_str (va_cons ve_str va_nil))))) (vss_one (vs_expr (ve_append y (ve_v y 5) (va_cons (ve_v y 6) va_nil)))) vss_nil)))))))
    (vss_one (vs_ret (ve_tup (va_cons (ve_v y 1) (va_cons (ve_v y 3) (va_cons (ve_v y 4) va_nil))))))))))), at1 v__law_shape⟩
abbrev s__law_bent_row : Stmt := top 21
theorem sc__law_bent_row : FnScope ["_law_row", "_law_number", "_law_words_here", "_law_k"] ["_law_row", "_law_number", "_law_words_here"] (defScope s__law_bent_row) := ⟨rfl, rfl, rfl, by decide +kernel, rfl, by decide +kernel, by decide +kernel⟩
theorem d__law_bent_row {f : Addr} {fd : FuncData} (F : Fun K "_law_bent_row" "_law_bent_row" s__law_bent_row f fd) (hm : mg "_law_bent_row" = some (.ref f)) (T : Txt K mg) (d__law_operand : Def P K.w K mg base "_law_operand" 1 [] (pSp sp__law_operand)) (d__law_simple : Def P K.w K mg base "_law_simple" 3 [] (pSp sp__law_simple)) : Def P K.w K mg base "_law_bent_row" 4 [] (pSp sp__law_bent_row) :=
  def_mk F hm sc__law_bent_row (F.binds (ps := ["_law_row", "_law_number", "_law_words_here"]) fun _ _ _ _ _ _ us hl => (by obtain ⟨_, _, _, rfl⟩ := ulen3 hl; rfl)) (fun _ _ _ h => len3 h) fun cdv A outer s H E y => ⟨w__law_bent_row, (vss_cons (vs_if (vt_cmp (c_inT y) (ve_ix y (ve_v y 0) ve_int) (ve_tup (va_cons ve_str (va_cons ve_str (va_cons ve_str va_nil))))) (vss_one (vs_ret (ve_tup (va_cons (ve_ix y (ve_v y 0) ve_int) (va_cons (ve_callP y false d__law_operand (by decide) (va_cons (ve_v y 1) (va_cons (ve_v y 2) va_nil))) va_nil))))) vss_nil)
    (vss_cons (vs_if (vt_cmp (c_eq y) (ve_ix y (ve_v y 0) ve_int) ve_str) (vss_one (vs_ret (ve_tup (va_cons ve_str (va_cons (ve_ix y (ve_v y 0) ve_int) (va_cons (ve_tuple y T.n_tuple (va_cons (ve_lc y false (own := [("_law_k", 3)]) (vi_rng1 y T.n_range (va_cons (ve_len y T.n_len (va_cons (ve_ix y (ve_v y 0) ve_int) va_nil)) va_nil)) (fun _ => (blkOk_at (S := defScope s__law_bent_row) (by decide +kernel))) (vk_name (YOk.blk y _) 3 [3]) vts_nil (ve_ix (YOk.blk y _) (ve_v (YOk.blk y _) 2) (ve_mod (ve_add (YOk.blk y _) false (ve_v (YOk.blk y _) 1) (ve_v (YOk.blk y _) 3)) ve_int))) va_nil)) va_nil)))))) vss_nil)
    (vss_one (vs_ret (ve_callP y true d__law_simple (by decide) (va_cons (ve_v y 1) (va_cons (ve_v y 2) (va_cons (ve_lst false va_nil) va_nil)))))))), at3 v__law_bent_row⟩
abbrev s__law_moved : Stmt := top 22
theorem sc__law_moved : FnScope ["_law_bent_here", "_law_place", "_law_number", "_law_form", "_law_heads", "_law_ends", "_law_elses", "_law_head", "_law_word", "_law_start", "_law_spots", "_law_k", "_law_moved_here"] ["_law_bent_here", "_law_place", "_law_number", "_law_form"] (defScope s__law_moved) := ⟨rfl, rfl, rfl, by decide +kernel, rfl, by decide +kernel, by decide +kernel⟩
theorem d__law_moved {f : Addr} {fd : FuncData} (F : Fun K "_law_moved" "_law_moved" s__law_moved f fd) (hm : mg "_law_moved" = some (.ref f)) (T : Txt K mg) : Def P K.w K mg base "_law_moved" 1 [] (pSp sp__law_moved) :=
  def_mk F hm sc__law_moved (F.binds (ps := ["_law_bent_here", "_law_place", "_law_number", "_law_form"]) fun _ _ _ _ _ _ us hl => (by obtain ⟨_, _, _, _, rfl⟩ := ulen4 hl; rfl)) (fun _ _ _ h => len4 h) fun cdv A outer s H E y => ⟨w__law_moved, (vss_cons (vs_asg (ve_v y 3) (VK.vg (vk_tup y 3 (vks_cons (vk_name y 4 [4, 5, 6]) (vks_cons (vk_name y 5 [4, 5, 6]) (vks_cons (vk_name y 6 [4, 5, 6]) (vks_nil [4, 5, 6])))))))
    (vss_cons (vs_set y 7 (ve_ix y (ve_v y 4) (ve_v y 1)))
    (vss_cons (vs_set y 8 (ve_ix y (ve_ix y (ve_v y 0) (ve_v y 1)) ve_int))
    (vss_cons (vs_set y 9 (ve_v y 7))
    (vss_cons (vs_if (VW.vt (vw_and (vt_cmp (c_eq y) (ve_v y 8) ve_str) (vw_and1 (vt_cmp (c_isn y) (ve_ix y (ve_v y 6) (ve_v y 7)) ve_non)))) (vss_one (vs_set y 9 (ve_ix y (ve_v y 6) (ve_v y 7)))) vss_nil)
    (vss_cons (vs_setLc y false 10 (own := [("_law_k", 11)]) (sw_true rfl rfl rfl (by decide +kernel)) (vi_rng2 y T.n_range (va_cons (ve_add y false (ve_v y 9) ve_int) (va_cons (ve_ix y (ve_v y 5) (ve_v y 7)) va_nil))) (blkOk_at (S := defScope s__law_moved) (by decide +kernel)) (vk_name (YOk.blk y _) 11 [11]) (vts_one (VW.vt (vw_and (vt_cmp (c_eq (YOk.blk y _)) (ve_ix (YOk.blk y _) (ve_v (YOk.blk y _) 0) (ve_v (YOk.blk y _) 11)) (ve_tup (va_cons ve_str va_nil))) (vw_and1 (vt_cmp (c_eq (YOk.blk y _)) (ve_ix (YOk.blk y _) (ve_v (YOk.blk y _) 4) (ve_v (YOk.blk y _) 11)) (ve_v (YOk.blk y _) 7)))))) (ve_v (YOk.blk y _) 11))
    (vss_cons (vs_set y 12 (ve_list y true T.n_list (va_cons (ve_v y 0) va_nil)))
    (vss_cons (vs_if (VW.vt (vw_and (vt_cmp (c_eq y) (ve_v y 8) ve_str) (vw_and1 (vt_cmp (c_eq y) (ve_mod (ve_v y 2) ve_int) ve_int)))) (vss_one (vs_asg (ve_tup (va_cons ve_str va_nil)) (vg_subL (ve_v y 12) (ve_v y 1)))) (vss_one (vs_if (vt_cmp (c_ne y) (ve_v y 10) (ve_lst false va_nil)) (vss_cons (vs_asg (ve_tup (va_cons ve_str va_nil)) (vg_subL (ve_v y 12) (ve_v y 1)))
    (vss_one (vs_asg (ve_tup (va_cons (ve_v y 8) va_nil)) (vg_subL (ve_v y 12) (ve_ix y (ve_v y 10) (ve_mod (ve_fdiv (ve_v y 2) ve_int) (ve_len y T.n_len (va_cons (ve_v y 10) va_nil)))))))) vss_nil)))
    (vss_one (vs_ret (ve_v y 12))))))))))), at4 v__law_moved⟩
abbrev s__law_taken_away : Stmt := top 23
theorem sc__law_taken_away : FnScope ["_law_bent_here", "_law_place", "_law_form", "_law_heads", "_law_ends", "_law_elses", "_law_taken"] ["_law_bent_here", "_law_place", "_law_form"] (defScope s__law_taken_away) := ⟨rfl, rfl, rfl, by decide +kernel, rfl, by decide +kernel, by decide +kernel⟩
theorem d__law_taken_away {f : Addr} {fd : FuncData} (F : Fun K "_law_taken_away" "_law_taken_away" s__law_taken_away f fd) (hm : mg "_law_taken_away" = some (.ref f)) (T : Txt K mg) : Def P K.w K mg base "_law_taken_away" 1 [] (pSp sp__law_taken_away) :=
  def_mk F hm sc__law_taken_away (F.binds (ps := ["_law_bent_here", "_law_place", "_law_form"]) fun _ _ _ _ _ _ us hl => (by obtain ⟨_, _, _, rfl⟩ := ulen3 hl; rfl)) (fun _ _ _ h => len3 h) fun cdv A outer s H E y => ⟨w__law_taken_away, (vss_cons (vs_asg (ve_v y 2) (VK.vg (vk_tup y 3 (vks_cons (vk_name y 3 [3, 4, 5]) (vks_cons (vk_name y 4 [3, 4, 5]) (vks_cons (vk_name y 5 [3, 4, 5]) (vks_nil [3, 4, 5])))))))
    (vss_cons (vs_set y 6 (ve_list y true T.n_list (va_cons (ve_v y 0) va_nil)))
    (vss_cons (vs_if (vt_cmp (c_isn y) (ve_ix y (ve_v y 5) (ve_v y 1)) ve_non) (vss_one (vs_asg (ve_tup (va_cons ve_str va_nil)) (vg_subL (ve_v y 6) (ve_ix y (ve_v y 5) (ve_v y 1))))) vss_nil)
    (vss_cons (vs_asg (ve_tup (va_cons ve_str va_nil)) (vg_subL (ve_v y 6) (ve_ix y (ve_v y 4) (ve_v y 1))))
    (vss_cons (vs_asg (ve_tup (va_cons ve_str va_nil)) (vg_subL (ve_v y 6) (ve_v y 1)))
    (vss_one (vs_ret (ve_v y 6)))))))), at3 v__law_taken_away⟩
abbrev s__law_bent : Stmt := top 24
theorem sc__law_bent : FnScope ["_law_rows", "_law_cells", "_law_words_here", "_law_bent_here", "_law_cell", "_law_number", "_law_place", "_law_form", "_law_word", "_law_head"] ["_law_rows", "_law_cells", "_law_words_here"] (defScope s__law_bent) := ⟨rfl, rfl, rfl, by decide +kernel, rfl, by decide +kernel, by decide +kernel⟩
theorem d__law_bent {f : Addr} {fd : FuncData} (F : Fun K "_law_bent" "_law_bent" s__law_bent f fd) (hm : mg "_law_bent" = some (.ref f)) (T : Txt K mg) (d__law_shape : Def P K.w K mg base "_law_shape" 1 [] (pSp sp__law_shape)) (d__law_moved : Def P K.w K mg base "_law_moved" 1 [] (pSp sp__law_moved)) (d__law_taken_away : Def P K.w K mg base "_law_taken_away" 1 [] (pSp sp__law_taken_away)) (d__law_bent_row : Def P K.w K mg base "_law_bent_row" 4 [] (pSp sp__law_bent_row)) : Def P K.w K mg base "_law_bent" 5 [] (pSp sp__law_bent) :=
  def_mk F hm sc__law_bent (F.binds (ps := ["_law_rows", "_law_cells", "_law_words_here"]) fun _ _ _ _ _ _ us hl => (by obtain ⟨_, _, _, rfl⟩ := ulen3 hl; rfl)) (fun _ _ _ h => len3 h) fun cdv A outer s H E y => ⟨w__law_bent, (vss_cons (vs_set y 3 (ve_list y true T.n_list (va_cons (ve_v y 0) va_nil)))
    (vss_cons (vs_for PassesOwn.never rfl (vi_seq y (ve_v y 1)) (vk_name y 4 [4]) (vss_cons (vs_set y 5 (ve_mod (ve_mul false (ve_v y 4) ve_int) ve_int))
    (vss_cons (vs_set y 6 (ve_mod (ve_v y 5) (ve_len y T.n_len (va_cons (ve_v y 0) va_nil))))
    (vss_cons (vs_set y 5 (ve_fdiv (ve_v y 5) ve_int))
    (vss_cons (vs_set y 7 (ve_callP y false d__law_shape (by decide) (va_cons (ve_v y 3) va_nil)))
    (vss_cons (vs_set y 8 (ve_ix y (ve_ix y (ve_v y 3) (ve_v y 6)) ve_int))
    (vss_cons (vs_set y 9 (ve_ix y (ve_ix y (ve_v y 7) ve_int) (ve_v y 6)))
    (vss_one (vs_if (vt_cmp (c_inT y) (ve_v y 8) (ve_tup (va_cons ve_str (va_cons ve_str va_nil)))) (vss_one (vs_set y 3 (ve_callP y true d__law_moved (by decide) (va_cons (ve_v y 3) (va_cons (ve_v y 6) (va_cons (ve_v y 5) (va_cons (ve_v y 7) va_nil))))))) (vss_one (vs_if (VW.vt (vw_and (vt_cmp (c_inT y) (ve_v y 8) (ve_tup (va_cons ve_str (va_cons ve_str va_nil)))) (vw_and1 (vt_cmp (c_eq y) (ve_mod (ve_v y 5) ve_int) ve_int)))) (vss_one (vs_set y 3 (ve_callP y true d__law_taken_away (by decide) (va_cons (ve_v y 3) (va_cons (ve_v y 6) (va_cons (ve_v y 7) va_nil)))))) (vss_one (vs_if (VW.vt (vw_and (vt_cmp (c_eq y) (ve_v y 8) ve_str) (vw_and (vt_cmp (c_eq y) (ve_mod (ve_v y 5) ve_int) ve_int) (vw_and1 (vt_cmp (c_isn y) (ve_v y 9) ve_non))))) (vss_one (vs_if (VW.vt (vw_and (vt_cmp (c_eq y) (ve_ix y (ve_ix y (ve_v y 3) (ve_v y 9)) ve_int) ve_str) (vw_and1 (vt_cmp (c_is y) (ve_ix y (ve_ix y (ve_v y 7) ve_int) (ve_v y 9)) ve_non)))) (vss_one (vs_asg (ve_tup (va_cons ve_str va_nil)) (vg_subL (ve_v y 3) (ve_v y 6)))) vss_nil)) (vss_one (vs_if (VW.vt (vw_or (VW.vt (vw_and (vt_cmp (c_eq y) (ve_v y 8) ve_str) (vw_and1 (vt_cmp (c_eq y) (ve_mod (ve_v y 5) ve_int) ve_int)))) (vw_or1 (vt_cmp (c_isn y) (ve_v y 9) ve_non)))) (vss_one (vs_asg (ve_callP y false d__law_bent_row (by decide) (va_cons (ve_ix y (ve_v y 3) (ve_v y 6)) (va_cons (ve_fdiv (ve_v y 5) ve_int) (va_cons (ve_v y 2) va_nil)))) (vg_subL (ve_v y 3) (ve_v y 6)))) vss_nil)))))))))))))))
    (vss_one (vs_ret (ve_v y 3))))), at3 v__law_bent⟩
abbrev s__law_thinned : Stmt := top 25
theorem sc__law_thinned : FnScope ["_law_rows", "_law_cell", "_law_thin", "_law_place"] ["_law_rows", "_law_cell"] (defScope s__law_thinned) := ⟨rfl, rfl, rfl, by decide +kernel, rfl, by decide +kernel, by decide +kernel⟩
theorem d__law_thinned {f : Addr} {fd : FuncData} (F : Fun K "_law_thinned" "_law_thinned" s__law_thinned f fd) (hm : mg "_law_thinned" = some (.ref f)) (T : Txt K mg) : Def P K.w K mg base "_law_thinned" 1 [] (pSp sp__law_thinned) :=
  def_mk F hm sc__law_thinned (F.binds (ps := ["_law_rows", "_law_cell"]) fun _ _ _ _ _ _ us hl => (by obtain ⟨_, _, rfl⟩ := ulen2 hl; rfl)) (fun _ _ _ h => len2 h) fun cdv A outer s H E y => ⟨w__law_thinned, (vss_cons (vs_if (vt_cmp (c_eq y) (ve_mod (ve_v y 1) ve_int) ve_int) (vss_one (vs_ret (ve_v y 0))) vss_nil)
    (vss_cons (vs_set y 2 (ve_lst true va_nil))
    (vss_cons (vs_for PassesOwn.never rfl (vi_rng1 y T.n_range (va_cons (ve_len y T.n_len (va_cons (ve_v y 0) va_nil)) va_nil)) (vk_name y 3 [3]) (vss_one (vs_if (VW.vt (vw_and (vt_cmp (c_eq y) (ve_ix y (ve_ix y (ve_v y 0) (ve_v y 3)) ve_int) ve_str) (vw_and1 (vt_cmp (c_eq y) (ve_mod (ve_fdiv (ve_v y 1) (ve_add y false (ve_v y 3) ve_int)) ve_int) ve_int)))) (vss_one (vs_expr (ve_append y (ve_v y 2) (va_cons (ve_tup (va_cons ve_str va_nil)) va_nil)))) (vss_one (vs_expr (ve_append y (ve_v y 2) (va_cons (ve_ix y (ve_v y 0) (ve_v y 3)) va_nil)))))))
    (vss_one (vs_ret (ve_v y 2)))))), at2 v__law_thinned⟩
abbrev s__law_headless : Stmt := top 26
theorem sc__law_headless : FnScope ["_law_rows", "_law_starts", "_law_place"] ["_law_rows"] (defScope s__law_headless) := ⟨rfl, rfl, rfl, by decide +kernel, rfl, by decide +kernel, by decide +kernel⟩
theorem d__law_headless {f : Addr} {fd : FuncData} (F : Fun K "_law_headless" "_law_headless" s__law_headless f fd) (hm : mg "_law_headless" = some (.ref f)) (T : Txt K mg) : Def P K.w K mg base "_law_headless" 1 [] (pSp sp__law_headless) :=
  def_mk F hm sc__law_headless (F.binds (ps := ["_law_rows"]) fun _ _ _ _ _ _ us hl => (by obtain ⟨_, rfl⟩ := ulen1 hl; rfl)) (fun _ _ _ h => len1 h) fun cdv A outer s H E y => ⟨w__law_headless, (vss_cons (vs_setLc y false 1 (own := [("_law_place", 2)]) (sw_true rfl rfl rfl (by decide +kernel)) (vi_rng1 y T.n_range (va_cons (ve_len y T.n_len (va_cons (ve_v y 0) va_nil)) va_nil)) (blkOk_at (S := defScope s__law_headless) (by decide +kernel)) (vk_name (YOk.blk y _) 2 [2]) (vts_one (vt_cmp (c_eq (YOk.blk y _)) (ve_ix (YOk.blk y _) (ve_ix (YOk.blk y _) (ve_v (YOk.blk y _) 0) (ve_v (YOk.blk y _) 2)) ve_int) ve_str)) (ve_v (YOk.blk y _) 2))
    (vss_cons (vs_if (vt_cmp (c_lt y) (ve_len y T.n_len (va_cons (ve_v y 1) va_nil)) ve_int) (vss_one (vs_ret (ve_v y 0))) vss_nil)
    (vss_one (vs_ret (ve_add y true (ve_mul false (ve_lst false (va_cons (ve_tup (va_cons ve_str va_nil)) va_nil)) (ve_ix y (ve_v y 1) ve_int)) (ve_slice y false (ve_v y 0) (vo_some (ve_ix y (ve_v y 1) ve_int)) vo_none)))))), at1 v__law_headless⟩
abbrev s__law_two : Stmt := top 27
theorem sc__law_two : FnScope ["_law_script", "_law_words_here", "_law_old", "_law_many", "_law_new", "_law_k"] ["_law_script"] (defScope s__law_two) := ⟨rfl, rfl, rfl, by decide +kernel, rfl, by decide +kernel, by decide +kernel⟩
theorem d__law_two {f : Addr} {fd : FuncData} (F : Fun K "_law_two" "_law_two" s__law_two f fd) (hm : mg "_law_two" = some (.ref f)) (T : Txt K mg) (d__law_words : Def P K.w K mg base "_law_words" 1 [] (pSp sp__law_words)) (d__law_cell_at : Def P K.w K mg base "_law_cell_at" 1 [] (pSp sp__law_cell_at)) (d__law_thinned : Def P K.w K mg base "_law_thinned" 1 [] (pSp sp__law_thinned)) (d__law_made : Def P K.w K mg base "_law_made" 6 [] (pSp sp__law_made)) (d__law_bent : Def P K.w K mg base "_law_bent" 5 [] (pSp sp__law_bent)) (d__law_headless : Def P K.w K mg base "_law_headless" 1 [] (pSp sp__law_headless)) : Def P K.w K mg base "_law_two" 7 [] (pSp sp__law_two) :=
  def_mk F hm sc__law_two (F.binds (ps := ["_law_script"]) fun _ _ _ _ _ _ us hl => (by obtain ⟨_, rfl⟩ := ulen1 hl; rfl)) (fun _ _ _ h => len1 h) fun cdv A outer s H E y => ⟨w__law_two, (vss_cons (vs_set y 1 (ve_callP y false d__law_words (by decide) (va_cons (ve_callP y false d__law_cell_at (by decide) (va_cons (ve_v y 0) (va_cons ve_int va_nil))) (va_cons ve_int va_nil))))
    (vss_cons (vs_set y 2 (ve_callP y false d__law_thinned (by decide) (va_cons (ve_callP y false d__law_made (by decide) (va_cons (ve_v y 0) (va_cons ve_int (va_cons ve_int va_nil)))) (va_cons (ve_mod (ve_callP y false d__law_cell_at (by decide) (va_cons (ve_v y 0) (va_cons ve_int va_nil))) (ve_pow ve_int ve_int)) va_nil))))
    (vss_cons (vs_set y 3 (ve_add y false ve_int (ve_mod (ve_callP y false d__law_cell_at (by decide) (va_cons (ve_v y 0) (va_cons ve_int va_nil))) ve_int)))
    (vss_cons (vs_set y 4 (ve_callP y false d__law_bent (by decide) (va_cons (ve_v y 2) (va_cons (ve_lc y false (own := [("_law_k", 5)]) (vi_rng1 y T.n_range (va_cons (ve_v y 3) va_nil)) (fun _ => (blkOk_at (S := defScope s__law_two) (by decide +kernel))) (vk_name (YOk.blk y _) 5 [5]) vts_nil (ve_callP (YOk.blk y _) false d__law_cell_at (by decide) (va_cons (ve_v (YOk.blk y _) 0) (va_cons (ve_add (YOk.blk y _) false ve_int (ve_v (YOk.blk y _) 5)) va_nil)))) (va_cons (ve_v y 1) va_nil)))))
    (vss_cons (vs_if (vt_cmp (c_eq y) (ve_mod (ve_fdiv (ve_callP y false d__law_cell_at (by decide) (va_cons (ve_v y 0) (va_cons ve_int va_nil))) ve_int) ve_int) ve_int) (vss_one (vs_ret (ve_tup (va_cons (ve_v y 2) (va_cons (ve_callP y false d__law_headless (by decide) (va_cons (ve_v y 4) va_nil)) va_nil))))) vss_nil)
    (vss_one (vs_ret (ve_tup (va_cons (ve_v y 2) (va_cons (ve_v y 4) va_nil)))))))))), at1 v__law_two⟩
abbrev s__law_main : Stmt := top 28
theorem sc__law_main : FnScope ["_law_rows", "_law_place"] ["_law_rows"] (defScope s__law_main) := ⟨rfl, rfl, rfl, by decide +kernel, rfl, by decide +kernel, by decide +kernel⟩
theorem d__law_main {f : Addr} {fd : FuncData} (F : Fun K "_law_main" "_law_main" s__law_main f fd) (hm : mg "_law_main" = some (.ref f)) (T : Txt K mg) : Def P K.w K mg base "_law_main" 1 [] (pSp sp__law_main) :=
  def_mk F hm sc__law_main (F.binds (ps := ["_law_rows"]) fun _ _ _ _ _ _ us hl => (by obtain ⟨_, rfl⟩ := ulen1 hl; rfl)) (fun _ _ _ h => len1 h) fun cdv A outer s H E y => ⟨w__law_main, (vss_cons (vs_for PassesOwn.never rfl (vi_rng1 y T.n_range (va_cons (ve_len y T.n_len (va_cons (ve_v y 0) va_nil)) va_nil)) (vk_name y 1 [1]) (vss_one (vs_if (vt_cmp (c_eq y) (ve_ix y (ve_ix y (ve_v y 0) (ve_v y 1)) ve_int) ve_str) (vss_one (vs_ret (ve_v y 1))) vss_nil)))
    (vss_one (vs_ret ve_non))), at1 v__law_main⟩
abbrev s__law_due : Stmt := top 29
theorem sc__law_due : FnScope ["_law_old", "_law_new", "_law_before", "_law_after", "_law_due_here", "_law_place", "_law_bare", "_law_unlike", "_law_k", "_law_here", "_law_there"] ["_law_old", "_law_new"] (defScope s__law_due) := ⟨rfl, rfl, rfl, by decide +kernel, rfl, by decide +kernel, by decide +kernel⟩
theorem d__law_due {f : Addr} {fd : FuncData} (F : Fun K "_law_due" "_law_due" s__law_due f fd) (hm : mg "_law_due" = some (.ref f)) (T : Txt K mg) (d__law_shape : Def P K.w K mg base "_law_shape" 1 [] (pSp sp__law_shape)) (d__law_main : Def P K.w K mg base "_law_main" 1 [] (pSp sp__law_main)) : Def P K.w K mg base "_law_due" 2 [] (pSp sp__law_due) :=
  def_mk F hm sc__law_due (F.binds (ps := ["_law_old", "_law_new"]) fun _ _ _ _ _ _ us hl => (by obtain ⟨_, _, rfl⟩ := ulen2 hl; rfl)) (fun _ _ _ h => len2 h) fun cdv A outer s H E y => ⟨w__law_due, (vss_cons (vs_set y 2 (ve_callP y false d__law_shape (by decide) (va_cons (ve_v y 0) va_nil)))
    (vss_cons (vs_set y 3 (ve_callP y false d__law_shape (by decide) (va_cons (ve_v y 1) va_nil)))
    (vss_cons (vs_set y 4 ve_int)
    (vss_cons (vs_for PassesOwn.never rfl (vi_rng1 y T.n_range (va_cons (ve_len y T.n_len (va_cons (ve_v y 0) va_nil)) va_nil)) (vk_name y 5 [5]) (vss_cons (vs_set y 6 (ve_andV (ve_cmp (c_inT y) (ve_ix y (ve_ix y (ve_v y 0) (ve_v y 5)) ve_int) (ve_tup (va_cons ve_str (va_cons ve_str (va_cons ve_str va_nil))))) (ve_one (ve_cmp (c_inT y) (ve_ix y (ve_ix y (ve_v y 1) (ve_v y 5)) ve_int) (ve_tup (va_cons ve_str (va_cons ve_str (va_cons ve_str va_nil))))))))
    (vss_cons (vs_setLc y false 7 (own := [("_law_k", 8)]) (sw_true rfl rfl rfl (by decide +kernel)) (vi_rng1 y T.n_range (va_cons ve_int va_nil)) (blkOk_at (S := defScope s__law_due) (by decide +kernel)) (vk_name (YOk.blk y _) 8 [8]) (vts_one (vt_cmp (c_ne (YOk.blk y _)) (ve_ix (YOk.blk y _) (ve_ix (YOk.blk y _) (ve_v (YOk.blk y _) 2) (ve_v (YOk.blk y _) 8)) (ve_v (YOk.blk y _) 5)) (ve_ix (YOk.blk y _) (ve_ix (YOk.blk y _) (ve_v (YOk.blk y _) 3) (ve_v (YOk.blk y _) 8)) (ve_v (YOk.blk y _) 5)))) (ve_v (YOk.blk y _) 8))
    (vss_one (vs_if (VW.vt (vw_and (vt_not (vt_truth y (ve_v y 6))) (vw_and1 (VW.vt (vw_or (vt_cmp (c_ne y) (ve_ix y (ve_v y 0) (ve_v y 5)) (ve_ix y (ve_v y 1) (ve_v y 5))) (vw_or1 (vt_cmp (c_ne y) (ve_v y 7) (ve_lst false va_nil)))))))) (vss_one (vs_set y 4 (ve_add y false (ve_v y 4) (ve_shl ve_int (ve_v y 5))))) vss_nil)))))
    (vss_cons (vs_for PassesOwn.never rfl (vi_seq y (ve_lst false (va_cons (ve_tup (va_cons (ve_callP y false d__law_main (by decide) (va_cons (ve_v y 0) va_nil)) (va_cons (ve_callP y false d__law_main (by decide) (va_cons (ve_v y 1) va_nil)) va_nil))) (va_cons (ve_tup (va_cons (ve_callP y false d__law_main (by decide) (va_cons (ve_v y 1) va_nil)) (va_cons (ve_callP y false d__law_main (by decide) (va_cons (ve_v y 0) va_nil)) va_nil))) va_nil)))) (vk_tup y 2 (vks_cons (vk_name y 9 [9, 10]) (vks_cons (vk_name y 10 [9, 10]) (vks_nil [9, 10])))) (vss_one (vs_if (VW.vt (vw_and (vt_cmp (c_isn y) (ve_v y 9) ve_non) (vw_and (vt_cmp (c_ne y) (ve_v y 9) (ve_v y 10)) (vw_and1 (vt_cmp (c_eq y) (ve_mod (ve_fdiv (ve_v y 4) (ve_shl ve_int (ve_v y 9))) ve_int) ve_int))))) (vss_one (vs_set y 4 (ve_add y false (ve_v y 4) (ve_shl ve_int (ve_v y 9))))) vss_nil)))
    (vss_one (vs_ret (ve_v y 4)))))))), at2 v__law_due⟩
abbrev s_law : Stmt := top 30
theorem sc_law : FnScope ["_law_script", "_law_old", "_law_new", "_law_due_here", "_law_handed", "_law_told", "_law_same"] ["_law_script"] (defScope s_law) := ⟨rfl, rfl, rfl, by decide +kernel, rfl, by decide +kernel, by decide +kernel⟩
end
theorem d_law_ok {P : Program} {K : KW} {mg : Str → Option Value} {base : Heap} {f : Addr} {fd : FuncData} (F : Fun K "law" "law" s_law f fd) (T : Txt K mg) (d__law_two : Def P K.w K mg base "_law_two" 7 [] (pSp sp__law_two)) (d__law_cell_at : Def P K.w K mg base "_law_cell_at" 1 [] (pSp sp__law_cell_at)) (d__law_due : Def P K.w K mg base "_law_due" 2 [] (pSp sp__law_due)) (d_changed : Def P K.w K mg base "changed" 2 [] (pSp sp_changed)) : FnOk P K.w K mg base CX0 8 f fd ["_law_script"] (toSp K (pSp lawSp)) :=
  fnv_ok F sc_law (fun _ _ _ h => lenL h) fun cdv A outer s H E y => ⟨w_law, (vss_cons (vs_asg (ve_callP y false d__law_two (by decide) (va_cons (ve_v y 0) va_nil)) (VK.vg (vk_tup y 2 (vks_cons (vk_name y 1 [1, 2]) (vks_cons (vk_name y 2 [1, 2]) (vks_nil [1, 2]))))))
    (vss_cons (vs_if (VW.vt (vw_and (vt_cmp (c_eq y) (ve_mod (ve_fdiv (ve_callP y false d__law_cell_at (by decide) (va_cons (ve_v y 0) (va_cons ve_int va_nil))) ve_int) ve_int) ve_int) (vw_and1 (vt_cmp (c_eq y) (ve_ix y (ve_v y 1) (ve_neg ve_int)) (ve_tup (va_cons ve_str va_nil)))))) (vss_one (vs_set y 2 (ve_add y false (ve_lst false (va_cons (ve_tup (va_cons ve_str va_nil)) va_nil)) (ve_slice y false (ve_v y 2) vo_none (vo_some (ve_neg ve_int)))))) vss_nil)
    (vss_cons (vs_if (vt_cmp (c_eq y) (ve_mod (ve_fdiv (ve_callP y false d__law_cell_at (by decide) (va_cons (ve_v y 0) (va_cons ve_int va_nil))) ve_int) ve_int) ve_int) (vss_one (vs_set y 2 (ve_mul false (ve_lst false (va_cons (ve_tup (va_cons ve_str va_nil)) va_nil)) (ve_len y T.n_len (va_cons (ve_v y 1) va_nil))))) vss_nil)
    (vss_cons (vs_if (vt_cmp (c_eq y) (ve_mod (ve_fdiv (ve_callP y false d__law_cell_at (by decide) (va_cons (ve_v y 0) (va_cons ve_int va_nil))) ve_int) ve_int) ve_int) (vss_cons (vs_set y 1 (ve_mul false (ve_lst false (va_cons (ve_tup (va_cons ve_str va_nil)) va_nil)) (ve_mod (ve_fdiv (ve_callP y false d__law_cell_at (by decide) (va_cons (ve_v y 0) (va_cons ve_int va_nil))) ve_int) ve_int)))
    (vss_one (vs_set y 2 (ve_list y false T.n_list (va_cons (ve_v y 1) va_nil))))) vss_nil)
    (vss_cons (vs_set y 3 (ve_callP y false d__law_due (by decide) (va_cons (ve_v y 1) (va_cons (ve_v y 2) va_nil))))
    (vss_cons (vs_set y 4 (ve_lst false (va_cons (ve_list y false T.n_list (va_cons (ve_v y 1) va_nil)) (va_cons (ve_list y false T.n_list (va_cons (ve_v y 2) va_nil)) va_nil))))
    (vss_cons (vs_for PassesOwn.never rfl (vi_seq y (ve_lst false (va_cons (ve_callP y false d_changed (by decide) (va_cons (ve_ix y (ve_v y 4) ve_int) (va_cons (ve_ix y (ve_v y 4) ve_int) va_nil))) (va_cons (ve_callP y false d_changed (by decide) (va_cons (ve_v y 2) (va_cons (ve_v y 1) va_nil))) va_nil)))) (vk_name y 5 [5]) (vss_one (vs_if (VW.vt (vw_or (vt_not (vt_truth y (ve_isi y T.n_isinstance (va_cons (ve_v y 5) (va_cons (ve_ty y T.n_int) va_nil))))) (vw_or (vt_truth y (ve_isi y T.n_isinstance (va_cons (ve_v y 5) (va_cons (ve_ty y T.n_bool) va_nil)))) (vw_or1 (vt_cmp (c_ne y) (ve_v y 5) (ve_v y 3)))))) (vss_one (vs_ret ve_bl)) vss_nil)))
    (vss_cons (vs_set y 6 (ve_callP y false d_changed (by decide) (va_cons (ve_v y 1) (va_cons (ve_list y false T.n_list (va_cons (ve_v y 1) va_nil)) va_nil))))
    (vss_one (vs_ret (ve_andV (ve_isi y T.n_isinstance (va_cons (ve_v y 6) (va_cons (ve_ty y T.n_int) va_nil))) (ve_andV (ve_not y (ve_isi y T.n_isinstance (va_cons (ve_v y 6) (va_cons (ve_ty y T.n_bool) va_nil)))) (ve_andV (ve_cmp (c_eq y) (ve_v y 6) ve_int) (ve_one (ve_cmp (c_eq y) (ve_v y 4) (ve_lst false (va_cons (ve_v y 1) (va_cons (ve_v y 2) va_nil)))))))))))))))))), atL v_law⟩
theorem all_mk {P : Program} {w : World} {K : PySem.W.Frag} {h : Heap} {mg : Str → Option Value} {fa : Addr} (X : K.In h) (G : h.Ns mainGlobals mg) (hfa : mg "law" = some (.ref fa)) {f_shape f_first_def f_changed f__law_cell_at f__law_words f__law_operand f__law_key f__law_call f__law_simple f__law_lay f__law_plan f__law_program f__law_made f__law_shape f__law_bent_row f__law_moved f__law_taken_away f__law_bent f__law_thinned f__law_headless f__law_two f__law_main f__law_due f_law : Addr}
    {oc_shape kV_shape dc_shape pm_shape cd_shape ct_shape : Value} {od_shape an_shape : Option Addr} {sl_shape : Array (Option Value)}
    {oc_first_def kV_first_def dc_first_def pm_first_def cd_first_def ct_first_def : Value} {od_first_def an_first_def : Option Addr} {sl_first_def : Array (Option Value)}
    {oc_changed kV_changed dc_changed pm_changed cd_changed ct_changed : Value} {od_changed an_changed : Option Addr} {sl_changed : Array (Option Value)}
    {oc__law_cell_at kV__law_cell_at dc__law_cell_at pm__law_cell_at cd__law_cell_at ct__law_cell_at : Value} {od__law_cell_at an__law_cell_at : Option Addr} {sl__law_cell_at : Array (Option Value)}
    {oc__law_words kV__law_words dc__law_words pm__law_words cd__law_words ct__law_words : Value} {od__law_words an__law_words : Option Addr} {sl__law_words : Array (Option Value)}
    {oc__law_operand kV__law_operand dc__law_operand pm__law_operand cd__law_operand ct__law_operand : Value} {od__law_operand an__law_operand : Option Addr} {sl__law_operand : Array (Option Value)}
    {oc__law_key kV__law_key dc__law_key pm__law_key cd__law_key ct__law_key : Value} {od__law_key an__law_key : Option Addr} {sl__law_key : Array (Option Value)}
    {oc__law_call kV__law_call dc__law_call pm__law_call cd__law_call ct__law_call : Value} {od__law_call an__law_call : Option Addr} {sl__law_call : Array (Option Value)}
    {oc__law_simple kV__law_simple dc__law_simple pm__law_simple cd__law_simple ct__law_simple : Value} {od__law_simple an__law_simple : Option Addr} {sl__law_simple : Array (Option Value)}
    {oc__law_lay kV__law_lay dc__law_lay pm__law_lay cd__law_lay ct__law_lay : Value} {od__law_lay an__law_lay : Option Addr} {sl__law_lay : Array (Option Value)}
    {oc__law_plan kV__law_plan dc__law_plan pm__law_plan cd__law_plan ct__law_plan : Value} {od__law_plan an__law_plan : Option Addr} {sl__law_plan : Array (Option Value)}
    {oc__law_program kV__law_program dc__law_program pm__law_program cd__law_program ct__law_program : Value} {od__law_program an__law_program : Option Addr} {sl__law_program : Array (Option Value)}
    {oc__law_made kV__law_made dc__law_made pm__law_made cd__law_made ct__law_made : Value} {od__law_made an__law_made : Option Addr} {sl__law_made : Array (Option Value)}
    {oc__law_shape kV__law_shape dc__law_shape pm__law_shape cd__law_shape ct__law_shape : Value} {od__law_shape an__law_shape : Option Addr} {sl__law_shape : Array (Option Value)}
    {oc__law_bent_row kV__law_bent_row dc__law_bent_row pm__law_bent_row cd__law_bent_row ct__law_bent_row : Value} {od__law_bent_row an__law_bent_row : Option Addr} {sl__law_bent_row : Array (Option Value)}
    {oc__law_moved kV__law_moved dc__law_moved pm__law_moved cd__law_moved ct__law_moved : Value} {od__law_moved an__law_moved : Option Addr} {sl__law_moved : Array (Option Value)}
    {oc__law_taken_away kV__law_taken_away dc__law_taken_away pm__law_taken_away cd__law_taken_away ct__law_taken_away : Value} {od__law_taken_away an__law_taken_away : Option Addr} {sl__law_taken_away : Array (Option Value)}
    {oc__law_bent kV__law_bent dc__law_bent pm__law_bent cd__law_bent ct__law_bent : Value} {od__law_bent an__law_bent : Option Addr} {sl__law_bent : Array (Option Value)}
    {oc__law_thinned kV__law_thinned dc__law_thinned pm__law_thinned cd__law_thinned ct__law_thinned : Value} {od__law_thinned an__law_thinned : Option Addr} {sl__law_thinned : Array (Option Value)}
    {oc__law_headless kV__law_headless dc__law_headless pm__law_headless cd__law_headless ct__law_headless : Value} {od__law_headless an__law_headless : Option Addr} {sl__law_headless : Array (Option Value)}
    {oc__law_two kV__law_two dc__law_two pm__law_two cd__law_two ct__law_two : Value} {od__law_two an__law_two : Option Addr} {sl__law_two : Array (Option Value)}
    {oc__law_main kV__law_main dc__law_main pm__law_main cd__law_main ct__law_main : Value} {od__law_main an__law_main : Option Addr} {sl__law_main : Array (Option Value)}
    {oc__law_due kV__law_due dc__law_due pm__law_due cd__law_due ct__law_due : Value} {od__law_due an__law_due : Option Addr} {sl__law_due : Array (Option Value)}
    {oc_law kV_law dc_law pm_law cd_law ct_law : Value} {od_law an_law : Option Addr} {sl_law : Array (Option Value)}
    (a_shape : PySem.W.nsIn K mainGlobals "shape" = some (some (.ref f_shape)))
    (l_shape : K.lookup f_shape = some ⟨oc_shape, od_shape, .func (PySem.W.fnOf "shape" "shape" (defArgs s_shape) (defBody s_shape) (defScope s_shape) .none kV_shape dc_shape pm_shape an_shape cd_shape ct_shape), sl_shape⟩)
    (c_shape : PySem.W.codeIn K cd_shape "shape" = true)
    (k_shape : PySem.W.keepIn K (.ref f_shape) = true)
    (a_first_def : PySem.W.nsIn K mainGlobals "first_def" = some (some (.ref f_first_def)))
    (l_first_def : K.lookup f_first_def = some ⟨oc_first_def, od_first_def, .func (PySem.W.fnOf "first_def" "first_def" (defArgs s_first_def) (defBody s_first_def) (defScope s_first_def) .none kV_first_def dc_first_def pm_first_def an_first_def cd_first_def ct_first_def), sl_first_def⟩)
    (c_first_def : PySem.W.codeIn K cd_first_def "first_def" = true)
    (k_first_def : PySem.W.keepIn K (.ref f_first_def) = true)
    (a_changed : PySem.W.nsIn K mainGlobals "changed" = some (some (.ref f_changed)))
    (l_changed : K.lookup f_changed = some ⟨oc_changed, od_changed, .func (PySem.W.fnOf "changed" "changed" (defArgs s_changed) (defBody s_changed) (defScope s_changed) .none kV_changed dc_changed pm_changed an_changed cd_changed ct_changed), sl_changed⟩)
    (c_changed : PySem.W.codeIn K cd_changed "changed" = true)
    (k_changed : PySem.W.keepIn K (.ref f_changed) = true)
    (a__law_cell_at : PySem.W.nsIn K mainGlobals "_law_cell_at" = some (some (.ref f__law_cell_at)))
    (l__law_cell_at : K.lookup f__law_cell_at = some ⟨oc__law_cell_at, od__law_cell_at, .func (PySem.W.fnOf "_law_cell_at" "_law_cell_at" (defArgs s__law_cell_at) (defBody s__law_cell_at) (defScope s__law_cell_at) .none kV__law_cell_at dc__law_cell_at pm__law_cell_at an__law_cell_at cd__law_cell_at ct__law_cell_at), sl__law_cell_at⟩)
    (c__law_cell_at : PySem.W.codeIn K cd__law_cell_at "_law_cell_at" = true)
    (k__law_cell_at : PySem.W.keepIn K (.ref f__law_cell_at) = true)
    (a__law_words : PySem.W.nsIn K mainGlobals "_law_words" = some (some (.ref f__law_words)))
    (l__law_words : K.lookup f__law_words = some ⟨oc__law_words, od__law_words, .func (PySem.W.fnOf "_law_words" "_law_words" (defArgs s__law_words) (defBody s__law_words) (defScope s__law_words) .none kV__law_words dc__law_words pm__law_words an__law_words cd__law_words ct__law_words), sl__law_words⟩)
    (c__law_words : PySem.W.codeIn K cd__law_words "_law_words" = true)
    (k__law_words : PySem.W.keepIn K (.ref f__law_words) = true)
    (a__law_operand : PySem.W.nsIn K mainGlobals "_law_operand" = some (some (.ref f__law_operand)))
    (l__law_operand : K.lookup f__law_operand = some ⟨oc__law_operand, od__law_operand, .func (PySem.W.fnOf "_law_operand" "_law_operand" (defArgs s__law_operand) (defBody s__law_operand) (defScope s__law_operand) .none kV__law_operand dc__law_operand pm__law_operand an__law_operand cd__law_operand ct__law_operand), sl__law_operand⟩)
    (c__law_operand : PySem.W.codeIn K cd__law_operand "_law_operand" = true)
    (k__law_operand : PySem.W.keepIn K (.ref f__law_operand) = true)
    (a__law_key : PySem.W.nsIn K mainGlobals "_law_key" = some (some (.ref f__law_key)))
    (l__law_key : K.lookup f__law_key = some ⟨oc__law_key, od__law_key, .func (PySem.W.fnOf "_law_key" "_law_key" (defArgs s__law_key) (defBody s__law_key) (defScope s__law_key) .none kV__law_key dc__law_key pm__law_key an__law_key cd__law_key ct__law_key), sl__law_key⟩)
    (c__law_key : PySem.W.codeIn K cd__law_key "_law_key" = true)
    (k__law_key : PySem.W.keepIn K (.ref f__law_key) = true)
    (a__law_call : PySem.W.nsIn K mainGlobals "_law_call" = some (some (.ref f__law_call)))
    (l__law_call : K.lookup f__law_call = some ⟨oc__law_call, od__law_call, .func (PySem.W.fnOf "_law_call" "_law_call" (defArgs s__law_call) (defBody s__law_call) (defScope s__law_call) .none kV__law_call dc__law_call pm__law_call an__law_call cd__law_call ct__law_call), sl__law_call⟩)
    (c__law_call : PySem.W.codeIn K cd__law_call "_law_call" = true)
    (k__law_call : PySem.W.keepIn K (.ref f__law_call) = true)
    (a__law_simple : PySem.W.nsIn K mainGlobals "_law_simple" = some (some (.ref f__law_simple)))
    (l__law_simple : K.lookup f__law_simple = some ⟨oc__law_simple, od__law_simple, .func (PySem.W.fnOf "_law_simple" "_law_simple" (defArgs s__law_simple) (defBody s__law_simple) (defScope s__law_simple) .none kV__law_simple dc__law_simple pm__law_simple an__law_simple cd__law_simple ct__law_simple), sl__law_simple⟩)
    (c__law_simple : PySem.W.codeIn K cd__law_simple "_law_simple" = true)
    (k__law_simple : PySem.W.keepIn K (.ref f__law_simple) = true)
    (a__law_lay : PySem.W.nsIn K mainGlobals "_law_lay" = some (some (.ref f__law_lay)))
    (l__law_lay : K.lookup f__law_lay = some ⟨oc__law_lay, od__law_lay, .func (PySem.W.fnOf "_law_lay" "_law_lay" (defArgs s__law_lay) (defBody s__law_lay) (defScope s__law_lay) .none kV__law_lay dc__law_lay pm__law_lay an__law_lay cd__law_lay ct__law_lay), sl__law_lay⟩)
    (c__law_lay : PySem.W.codeIn K cd__law_lay "_law_lay" = true)
    (k__law_lay : PySem.W.keepIn K (.ref f__law_lay) = true)
    (a__law_plan : PySem.W.nsIn K mainGlobals "_law_plan" = some (some (.ref f__law_plan)))
    (l__law_plan : K.lookup f__law_plan = some ⟨oc__law_plan, od__law_plan, .func (PySem.W.fnOf "_law_plan" "_law_plan" (defArgs s__law_plan) (defBody s__law_plan) (defScope s__law_plan) .none kV__law_plan dc__law_plan pm__law_plan an__law_plan cd__law_plan ct__law_plan), sl__law_plan⟩)
    (c__law_plan : PySem.W.codeIn K cd__law_plan "_law_plan" = true)
    (k__law_plan : PySem.W.keepIn K (.ref f__law_plan) = true)
    (a__law_program : PySem.W.nsIn K mainGlobals "_law_program" = some (some (.ref f__law_program)))
    (l__law_program : K.lookup f__law_program = some ⟨oc__law_program, od__law_program, .func (PySem.W.fnOf "_law_program" "_law_program" (defArgs s__law_program) (defBody s__law_program) (defScope s__law_program) .none kV__law_program dc__law_program pm__law_program an__law_program cd__law_program ct__law_program), sl__law_program⟩)
    (c__law_program : PySem.W.codeIn K cd__law_program "_law_program" = true)
    (k__law_program : PySem.W.keepIn K (.ref f__law_program) = true)
    (a__law_made : PySem.W.nsIn K mainGlobals "_law_made" = some (some (.ref f__law_made)))
    (l__law_made : K.lookup f__law_made = some ⟨oc__law_made, od__law_made, .func (PySem.W.fnOf "_law_made" "_law_made" (defArgs s__law_made) (defBody s__law_made) (defScope s__law_made) .none kV__law_made dc__law_made pm__law_made an__law_made cd__law_made ct__law_made), sl__law_made⟩)
    (c__law_made : PySem.W.codeIn K cd__law_made "_law_made" = true)
    (k__law_made : PySem.W.keepIn K (.ref f__law_made) = true)
    (a__law_shape : PySem.W.nsIn K mainGlobals "_law_shape" = some (some (.ref f__law_shape)))
    (l__law_shape : K.lookup f__law_shape = some ⟨oc__law_shape, od__law_shape, .func (PySem.W.fnOf "_law_shape" "_law_shape" (defArgs s__law_shape) (defBody s__law_shape) (defScope s__law_shape) .none kV__law_shape dc__law_shape pm__law_shape an__law_shape cd__law_shape ct__law_shape), sl__law_shape⟩)
    (c__law_shape : PySem.W.codeIn K cd__law_shape "_law_shape" = true)
    (k__law_shape : PySem.W.keepIn K (.ref f__law_shape) = true)
    (a__law_bent_row : PySem.W.nsIn K mainGlobals "_law_bent_row" = some (some (.ref f__law_bent_row)))
    (l__law_bent_row : K.lookup f__law_bent_row = some ⟨oc__law_bent_row, od__law_bent_row, .func (PySem.W.fnOf "_law_bent_row" "_law_bent_row" (defArgs s__law_bent_row) (defBody s__law_bent_row) (defScope s__law_bent_row) .none kV__law_bent_row dc__law_bent_row pm__law_bent_row an__law_bent_row cd__law_bent_row ct__law_bent_row), sl__law_bent_row⟩)
    (c__law_bent_row : PySem.W.codeIn K cd__law_bent_row "_law_bent_row" = true)
    (k__law_bent_row : PySem.W.keepIn K (.ref f__law_bent_row) = true)
    (a__law_moved : PySem.W.nsIn K mainGlobals "_law_moved" = some (some (.ref f__law_moved)))
    (l__law_moved : K.lookup f__law_moved = some ⟨oc__law_moved, od__law_moved, .func (PySem.W.fnOf "_law_moved" "_law_moved" (defArgs s__law_moved) (defBody s__law_moved) (defScope s__law_moved) .none kV__law_moved dc__law_moved pm__law_moved an__law_moved cd__law_moved ct__law_moved), sl__law_moved⟩)
    (c__law_moved : PySem.W.codeIn K cd__law_moved "_law_moved" = true)
    (k__law_moved : PySem.W.keepIn K (.ref f__law_moved) = true)
    (a__law_taken_away : PySem.W.nsIn K mainGlobals "_law_taken_away" = some (some (.ref f__law_taken_away)))
    (l__law_taken_away : K.lookup f__law_taken_away = some ⟨oc__law_taken_away, od__law_taken_away, .func (PySem.W.fnOf "_law_taken_away" "_law_taken_away" (defArgs s__law_taken_away) (defBody s__law_taken_away) (defScope s__law_taken_away) .none kV__law_taken_away dc__law_taken_away pm__law_taken_away an__law_taken_away cd__law_taken_away ct__law_taken_away), sl__law_taken_away⟩)
    (c__law_taken_away : PySem.W.codeIn K cd__law_taken_away "_law_taken_away" = true)
    (k__law_taken_away : PySem.W.keepIn K (.ref f__law_taken_away) = true)
    (a__law_bent : PySem.W.nsIn K mainGlobals "_law_bent" = some (some (.ref f__law_bent)))
    (l__law_bent : K.lookup f__law_bent = some ⟨oc__law_bent, od__law_bent, .func (PySem.W.fnOf "_law_bent" "_law_bent" (defArgs s__law_bent) (defBody s__law_bent) (defScope s__law_bent) .none kV__law_bent dc__law_bent pm__law_bent an__law_bent cd__law_bent ct__law_bent), sl__law_bent⟩)
    (c__law_bent : PySem.W.codeIn K cd__law_bent "_law_bent" = true)
    (k__law_bent : PySem.W.keepIn K (.ref f__law_bent) = true)
    (a__law_thinned : PySem.W.nsIn K mainGlobals "_law_thinned" = some (some (.ref f__law_thinned)))
    (l__law_thinned : K.lookup f__law_thinned = some ⟨oc__law_thinned, od__law_thinned, .func (PySem.W.fnOf "_law_thinned" "_law_thinned" (defArgs s__law_thinned) (defBody s__law_thinned) (defScope s__law_thinned) .none kV__law_thinned dc__law_thinned pm__law_thinned an__law_thinned cd__law_thinned ct__law_thinned), sl__law_thinned⟩)
    (c__law_thinned : PySem.W.codeIn K cd__law_thinned "_law_thinned" = true)
    (k__law_thinned : PySem.W.keepIn K (.ref f__law_thinned) = true)
    (a__law_headless : PySem.W.nsIn K mainGlobals "_law_headless" = some (some (.ref f__law_headless)))
    (l__law_headless : K.lookup f__law_headless = some ⟨oc__law_headless, od__law_headless, .func (PySem.W.fnOf "_law_headless" "_law_headless" (defArgs s__law_headless) (defBody s__law_headless) (defScope s__law_headless) .none kV__law_headless dc__law_headless pm__law_headless an__law_headless cd__law_headless ct__law_headless), sl__law_headless⟩)
    (c__law_headless : PySem.W.codeIn K cd__law_headless "_law_headless" = true)
    (k__law_headless : PySem.W.keepIn K (.ref f__law_headless) = true)
    (a__law_two : PySem.W.nsIn K mainGlobals "_law_two" = some (some (.ref f__law_two)))
    (l__law_two : K.lookup f__law_two = some ⟨oc__law_two, od__law_two, .func (PySem.W.fnOf "_law_two" "_law_two" (defArgs s__law_two) (defBody s__law_two) (defScope s__law_two) .none kV__law_two dc__law_two pm__law_two an__law_two cd__law_two ct__law_two), sl__law_two⟩)
    (c__law_two : PySem.W.codeIn K cd__law_two "_law_two" = true)
    (k__law_two : PySem.W.keepIn K (.ref f__law_two) = true)
    (a__law_main : PySem.W.nsIn K mainGlobals "_law_main" = some (some (.ref f__law_main)))
    (l__law_main : K.lookup f__law_main = some ⟨oc__law_main, od__law_main, .func (PySem.W.fnOf "_law_main" "_law_main" (defArgs s__law_main) (defBody s__law_main) (defScope s__law_main) .none kV__law_main dc__law_main pm__law_main an__law_main cd__law_main ct__law_main), sl__law_main⟩)
    (c__law_main : PySem.W.codeIn K cd__law_main "_law_main" = true)
    (k__law_main : PySem.W.keepIn K (.ref f__law_main) = true)
    (a__law_due : PySem.W.nsIn K mainGlobals "_law_due" = some (some (.ref f__law_due)))
    (l__law_due : K.lookup f__law_due = some ⟨oc__law_due, od__law_due, .func (PySem.W.fnOf "_law_due" "_law_due" (defArgs s__law_due) (defBody s__law_due) (defScope s__law_due) .none kV__law_due dc__law_due pm__law_due an__law_due cd__law_due ct__law_due), sl__law_due⟩)
    (c__law_due : PySem.W.codeIn K cd__law_due "_law_due" = true)
    (k__law_due : PySem.W.keepIn K (.ref f__law_due) = true)
    (a_law : PySem.W.nsIn K mainGlobals "law" = some (some (.ref f_law)))
    (l_law : K.lookup f_law = some ⟨oc_law, od_law, .func (PySem.W.fnOf "law" "law" (defArgs s_law) (defBody s_law) (defScope s_law) .none kV_law dc_law pm_law an_law cd_law ct_law), sl_law⟩)
    (c_law : PySem.W.codeIn K cd_law "law" = true)
    (k_law : PySem.W.keepIn K (.ref f_law) = true)
    (n_list : PySem.W.nsIn K mainGlobals "list" = some none)
    (n_enumerate : PySem.W.nsIn K mainGlobals "enumerate" = some none)
    (n_len : PySem.W.nsIn K mainGlobals "len" = some none)
    (n_range : PySem.W.nsIn K mainGlobals "range" = some none)
    (n_tuple : PySem.W.nsIn K mainGlobals "tuple" = some none)
    (n_sum : PySem.W.nsIn K mainGlobals "sum" = some none)
    (n_int : PySem.W.nsIn K mainGlobals "int" = some none)
    (n_isinstance : PySem.W.nsIn K mainGlobals "isinstance" = some none)
    (n_bool : PySem.W.nsIn K mainGlobals "bool" = some none)
    {b_BARE : Addr} {dd_BARE : Option Addr} {us_BARE : Array Value} {nn_BARE : Nat} {sl_BARE : Array (Option Value)}
    (g_BARE : PySem.W.nsIn K mainGlobals "BARE" = some (some (.ref b_BARE)))
    (q_BARE : K.lookup b_BARE = some ⟨.type "tuple", dd_BARE, .seq us_BARE nn_BARE, sl_BARE⟩)
    (z_BARE : us_BARE.size ≤ sizeLine)
    (v_BARE : Vals [V.str "else", V.str "end", V.str "skip"] us_BARE.toList)
    : ∃ fd : FuncData, (∀ (s : Shared) (u : Value), BindsTo s fd ⟨[u], []⟩ [("_law_script", u)]) ∧ ∀ base : Heap, K.In base → base.Ns mainGlobals mg → FnOk P w K mg base CX0 8 fa fd ["_law_script"] (toSp ⟨K, w⟩ (pSp lawSp)) := by
  have e := hfa.symm.trans (PySem.W.mg_of X G a_law)
  cases e
  have T : Txt ⟨K, w⟩ mg := ⟨PySem.W.mg_none_of X G n_list, PySem.W.mg_none_of X G n_enumerate, PySem.W.mg_none_of X G n_len, PySem.W.mg_none_of X G n_range, PySem.W.mg_none_of X G n_tuple, PySem.W.mg_none_of X G n_sum, PySem.W.mg_none_of X G n_int, PySem.W.mg_none_of X G n_isinstance, PySem.W.mg_none_of X G n_bool, ⟨.ref b_BARE, _, PySem.W.mg_of X G g_BARE, rfl, fun _ => .tup (vs := [V.str "else", V.str "end", V.str "skip"]) (.inr ⟨_, us_BARE, nn_BARE, q_BARE, rfl, rfl, z_BARE, v_BARE⟩) (by decide) (.cons (.str _ ⟨by decide +kernel, by decide +kernel⟩) (.cons (.str _ ⟨by decide +kernel, by decide +kernel⟩) (.cons (.str _ ⟨by decide +kernel, by decide +kernel⟩) .nil)))⟩⟩
  refine ⟨PySem.W.fnOf "law" "law" (defArgs s_law) (defBody s_law) (defScope s_law) .none kV_law dc_law pm_law an_law cd_law ct_law, fun s v => .of_eq rfl, fun base _ _ => ?_⟩
  have D_shape := d_shape (P := P) (K := ⟨K, w⟩) (base := base) (fun_mk (st := s_shape) l_shape c_shape k_shape) (PySem.W.mg_of X G a_shape) T
  have D_first_def := d_first_def (P := P) (K := ⟨K, w⟩) (base := base) (fun_mk (st := s_first_def) l_first_def c_first_def k_first_def) (PySem.W.mg_of X G a_first_def) T
  have D_changed := d_changed (P := P) (K := ⟨K, w⟩) (base := base) (fun_mk (st := s_changed) l_changed c_changed k_changed) (PySem.W.mg_of X G a_changed) T D_shape D_first_def
  have D__law_cell_at := d__law_cell_at (P := P) (K := ⟨K, w⟩) (base := base) (fun_mk (st := s__law_cell_at) l__law_cell_at c__law_cell_at k__law_cell_at) (PySem.W.mg_of X G a__law_cell_at) T
  have D__law_words := d__law_words (P := P) (K := ⟨K, w⟩) (base := base) (fun_mk (st := s__law_words) l__law_words c__law_words k__law_words) (PySem.W.mg_of X G a__law_words) T
  have D__law_operand := d__law_operand (P := P) (K := ⟨K, w⟩) (base := base) (fun_mk (st := s__law_operand) l__law_operand c__law_operand k__law_operand) (PySem.W.mg_of X G a__law_operand) T
  have D__law_key := d__law_key (P := P) (K := ⟨K, w⟩) (base := base) (fun_mk (st := s__law_key) l__law_key c__law_key k__law_key) (PySem.W.mg_of X G a__law_key) T D__law_operand
  have D__law_call := d__law_call (P := P) (K := ⟨K, w⟩) (base := base) (fun_mk (st := s__law_call) l__law_call c__law_call k__law_call) (PySem.W.mg_of X G a__law_call) T D__law_operand
  have D__law_simple := d__law_simple (P := P) (K := ⟨K, w⟩) (base := base) (fun_mk (st := s__law_simple) l__law_simple c__law_simple k__law_simple) (PySem.W.mg_of X G a__law_simple) T D__law_operand D__law_key D__law_call
  have D__law_lay := d__law_lay (P := P) (K := ⟨K, w⟩) (base := base) (fun_mk (st := s__law_lay) l__law_lay c__law_lay k__law_lay) (PySem.W.mg_of X G a__law_lay) T D__law_operand D__law_simple
  have D__law_plan := d__law_plan (P := P) (K := ⟨K, w⟩) (base := base) (fun_mk (st := s__law_plan) l__law_plan c__law_plan k__law_plan) (PySem.W.mg_of X G a__law_plan) T
  have D__law_program := d__law_program (P := P) (K := ⟨K, w⟩) (base := base) (fun_mk (st := s__law_program) l__law_program c__law_program k__law_program) (PySem.W.mg_of X G a__law_program) T D__law_lay D__law_operand
  have D__law_made := d__law_made (P := P) (K := ⟨K, w⟩) (base := base) (fun_mk (st := s__law_made) l__law_made c__law_made k__law_made) (PySem.W.mg_of X G a__law_made) T D__law_words D__law_cell_at D__law_plan D__law_program
  have D__law_shape := d__law_shape (P := P) (K := ⟨K, w⟩) (base := base) (fun_mk (st := s__law_shape) l__law_shape c__law_shape k__law_shape) (PySem.W.mg_of X G a__law_shape) T
  have D__law_bent_row := d__law_bent_row (P := P) (K := ⟨K, w⟩) (base := base) (fun_mk (st := s__law_bent_row) l__law_bent_row c__law_bent_row k__law_bent_row) (PySem.W.mg_of X G a__law_bent_row) T D__law_operand D__law_simple
  have D__law_moved := d__law_moved (P := P) (K := ⟨K, w⟩) (base := base) (fun_mk (st := s__law_moved) l__law_moved c__law_moved k__law_moved) (PySem.W.mg_of X G a__law_moved) T
  have D__law_taken_away := d__law_taken_away (P := P) (K := ⟨K, w⟩) (base := base) (fun_mk (st := s__law_taken_away) l__law_taken_away c__law_taken_away k__law_taken_away) (PySem.W.mg_of X G a__law_taken_away) T
  have D__law_bent := d__law_bent (P := P) (K := ⟨K, w⟩) (base := base) (fun_mk (st := s__law_bent) l__law_bent c__law_bent k__law_bent) (PySem.W.mg_of X G a__law_bent) T D__law_shape D__law_moved D__law_taken_away D__law_bent_row
  have D__law_thinned := d__law_thinned (P := P) (K := ⟨K, w⟩) (base := base) (fun_mk (st := s__law_thinned) l__law_thinned c__law_thinned k__law_thinned) (PySem.W.mg_of X G a__law_thinned) T
  have D__law_headless := d__law_headless (P := P) (K := ⟨K, w⟩) (base := base) (fun_mk (st := s__law_headless) l__law_headless c__law_headless k__law_headless) (PySem.W.mg_of X G a__law_headless) T
  have D__law_two := d__law_two (P := P) (K := ⟨K, w⟩) (base := base) (fun_mk (st := s__law_two) l__law_two c__law_two k__law_two) (PySem.W.mg_of X G a__law_two) T D__law_words D__law_cell_at D__law_thinned D__law_made D__law_bent D__law_headless
  have D__law_main := d__law_main (P := P) (K := ⟨K, w⟩) (base := base) (fun_mk (st := s__law_main) l__law_main c__law_main k__law_main) (PySem.W.mg_of X G a__law_main) T
  have D__law_due := d__law_due (P := P) (K := ⟨K, w⟩) (base := base) (fun_mk (st := s__law_due) l__law_due c__law_due k__law_due) (PySem.W.mg_of X G a__law_due) T D__law_shape D__law_main
  exact d_law_ok (K := ⟨K, w⟩) (fun_mk (st := s_law) l_law c_law k_law) T D__law_two D__law_cell_at D__law_due D_changed
end VLD

open PySem PySem.W PyProof.Rows in
set_option maxRecDepth 100000 in
set_option maxHeartbeats 0 in
theorem PySem.Challenge.cw_slicewise_k70_changed_rows_holds : PySem.Challenge.rw_slicewise_k70_changed_rows.Holds := by
  refine VLH.top ?_
  k_fill
  refine VL.law_walk (l := PySem.Challenge.rw_slicewise_k70_changed_rows) (k := 8) (x := "_law_script") rfl rfl ⟨rfl, by decide, by decide⟩ (fun w h Y => PySem.W.kIn_of Y) ?F
  case F =>
    intro w mg fa h KX G hmg
    refine' VLD.all_mk KX G hmg ?a_shape ?l_shape ?c_shape ?k_shape ?a_first_def ?l_first_def ?c_first_def ?k_first_def ?a_changed ?l_changed ?c_changed ?k_changed ?a__law_cell_at ?l__law_cell_at ?c__law_cell_at ?k__law_cell_at ?a__law_words ?l__law_words ?c__law_words ?k__law_words ?a__law_operand ?l__law_operand ?c__law_operand ?k__law_operand ?a__law_key ?l__law_key ?c__law_key ?k__law_key ?a__law_call ?l__law_call ?c__law_call ?k__law_call ?a__law_simple ?l__law_simple ?c__law_simple ?k__law_simple ?a__law_lay ?l__law_lay ?c__law_lay ?k__law_lay ?a__law_plan ?l__law_plan ?c__law_plan ?k__law_plan ?a__law_program ?l__law_program ?c__law_program ?k__law_program ?a__law_made ?l__law_made ?c__law_made ?k__law_made ?a__law_shape ?l__law_shape ?c__law_shape ?k__law_shape ?a__law_bent_row ?l__law_bent_row ?c__law_bent_row ?k__law_bent_row ?a__law_moved ?l__law_moved ?c__law_moved ?k__law_moved ?a__law_taken_away ?l__law_taken_away ?c__law_taken_away ?k__law_taken_away ?a__law_bent ?l__law_bent ?c__law_bent ?k__law_bent ?a__law_thinned ?l__law_thinned ?c__law_thinned ?k__law_thinned ?a__law_headless ?l__law_headless ?c__law_headless ?k__law_headless ?a__law_two ?l__law_two ?c__law_two ?k__law_two ?a__law_main ?l__law_main ?c__law_main ?k__law_main ?a__law_due ?l__law_due ?c__law_due ?k__law_due ?a_law ?l_law ?c_law ?k_law ?n_list ?n_enumerate ?n_len ?n_range ?n_tuple ?n_sum ?n_int ?n_isinstance ?n_bool ?g_BARE ?q_BARE ?z_BARE ?v_BARE
    (case a_shape => k_is)
    (case l_shape => k_is)
    (case c_shape => k_is)
    (case k_shape => k_is)
    (case a_first_def => k_is)
    (case l_first_def => k_is)
    (case c_first_def => k_is)
    (case k_first_def => k_is)
    (case a_changed => k_is)
    (case l_changed => k_is)
    (case c_changed => k_is)
    (case k_changed => k_is)
    (case a__law_cell_at => k_is)
    (case l__law_cell_at => k_is)
    (case c__law_cell_at => k_is)
    (case k__law_cell_at => k_is)
    (case a__law_words => k_is)
    (case l__law_words => k_is)
    (case c__law_words => k_is)
    (case k__law_words => k_is)
    (case a__law_operand => k_is)
    (case l__law_operand => k_is)
    (case c__law_operand => k_is)
    (case k__law_operand => k_is)
    (case a__law_key => k_is)
    (case l__law_key => k_is)
    (case c__law_key => k_is)
    (case k__law_key => k_is)
    (case a__law_call => k_is)
    (case l__law_call => k_is)
    (case c__law_call => k_is)
    (case k__law_call => k_is)
    (case a__law_simple => k_is)
    (case l__law_simple => k_is)
    (case c__law_simple => k_is)
    (case k__law_simple => k_is)
    (case a__law_lay => k_is)
    (case l__law_lay => k_is)
    (case c__law_lay => k_is)
    (case k__law_lay => k_is)
    (case a__law_plan => k_is)
    (case l__law_plan => k_is)
    (case c__law_plan => k_is)
    (case k__law_plan => k_is)
    (case a__law_program => k_is)
    (case l__law_program => k_is)
    (case c__law_program => k_is)
    (case k__law_program => k_is)
    (case a__law_made => k_is)
    (case l__law_made => k_is)
    (case c__law_made => k_is)
    (case k__law_made => k_is)
    (case a__law_shape => k_is)
    (case l__law_shape => k_is)
    (case c__law_shape => k_is)
    (case k__law_shape => k_is)
    (case a__law_bent_row => k_is)
    (case l__law_bent_row => k_is)
    (case c__law_bent_row => k_is)
    (case k__law_bent_row => k_is)
    (case a__law_moved => k_is)
    (case l__law_moved => k_is)
    (case c__law_moved => k_is)
    (case k__law_moved => k_is)
    (case a__law_taken_away => k_is)
    (case l__law_taken_away => k_is)
    (case c__law_taken_away => k_is)
    (case k__law_taken_away => k_is)
    (case a__law_bent => k_is)
    (case l__law_bent => k_is)
    (case c__law_bent => k_is)
    (case k__law_bent => k_is)
    (case a__law_thinned => k_is)
    (case l__law_thinned => k_is)
    (case c__law_thinned => k_is)
    (case k__law_thinned => k_is)
    (case a__law_headless => k_is)
    (case l__law_headless => k_is)
    (case c__law_headless => k_is)
    (case k__law_headless => k_is)
    (case a__law_two => k_is)
    (case l__law_two => k_is)
    (case c__law_two => k_is)
    (case k__law_two => k_is)
    (case a__law_main => k_is)
    (case l__law_main => k_is)
    (case c__law_main => k_is)
    (case k__law_main => k_is)
    (case a__law_due => k_is)
    (case l__law_due => k_is)
    (case c__law_due => k_is)
    (case k__law_due => k_is)
    (case a_law => k_is)
    (case l_law => k_is)
    (case c_law => k_is)
    (case k_law => k_is)
    (case n_list => k_is)
    (case n_enumerate => k_is)
    (case n_len => k_is)
    (case n_range => k_is)
    (case n_tuple => k_is)
    (case n_sum => k_is)
    (case n_int => k_is)
    (case n_isinstance => k_is)
    (case n_bool => k_is)
    (case g_BARE => k_is)
    (case q_BARE => k_is)
    (case z_BARE => decide +kernel)
    (case v_BARE => exact (.cons ⟨_, rfl⟩ (.cons ⟨_, rfl⟩ (.cons ⟨_, rfl⟩ .nil))))
