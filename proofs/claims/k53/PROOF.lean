import PyProof.Rows.All
import Wide.All
import OpenK.AllK
import Wide.FinOn
import KE.KStateDown
import Lean
import HandS.ForMost
import HandS.ForExc
import HandS.IsInst
import HandS.TupAny
import HandS.Zip
import HandS.Flow
import HandS.Defaults
import HandS.MakeKw
import HandS.MakeKwOnly
import HandS.Wide
import KE.GoesEnum
import HandS.Codes
import PyProof.P3Eq
import HandS.Head0
import HandS.Head1
import HandS.Head2
import HandS.HeadEnd
import HandS.HeadHook1
import HandS.HeadHook2
import PySem.Challenge.RW_busyspan_k53_broken_logs
set_option Elab.async false
set_option linter.all false
set_option maxRecDepth 100000
set_option maxHeartbeats 4000000
namespace Z
open PySem PySem.Spec PyProof.Rows L2

/-- pure data: tuples, frozen lists and frozen objects are values; ref: an object of the small heap -/
inductive D where
  | non | bl (b : Bool) | int (i : Int) | str (x : Str) | tup (ds : List D) | lst (ds : List D) | scr (ds : List D) | obj (C : Addr) (fs : List (Str × D)) | ref (a : Addr)
  deriving Inhabited
/-- what is frozen at an address -/
inductive GO where
  | tup (xs : List V) | lst (xs : List V) | frz (xs : List V) | ins (C : Addr) (fs : List (Str × V))
abbrev GM := Addr → Option GO
def GLe (G G' : GM) : Prop := ∀ a g, G a = some g → G' a = some g
theorem GLe.refl (G : GM) : GLe G G := fun _ _ e => e
theorem GLe.trans {G G1 G2 : GM} (a : GLe G G1) (b : GLe G1 G2) : GLe G G2 := fun x g e => b x g (a x g e)
def setG (G : GM) (a : Addr) (g : GO) : GM := fun b => if b = a then some g else G b
theorem setG_same {G : GM} {a : Addr} {g : GO} : setG G a g a = some g := if_pos rfl
theorem setG_ne {G : GM} {a b : Addr} {g : GO} (h : b ≠ a) : setG G a g b = G b := if_neg h
theorem GLe.set {G : GM} {a : Addr} {g : GO} (h : G a = none) : GLe G (setG G a g) := fun b x e => by
  rw [setG_ne (by intro z; rw [z, h] at e; cases e)]; exact e
def KT (K : PySem.W.Frag) (a : Addr) (xs : List V) : Prop :=
  ∃ (o : Obj) (its : Array Value) (n : Nat), K.lookup a = some o ∧ o.cls = .type "tuple" ∧ o.data = .seq its n ∧ its.size ≤ sizeLine ∧ Vals xs its.toList
def KL (K : PySem.W.Frag) (a : Addr) (xs : List V) : Prop :=
  ∃ (o : Obj) (its : Array Value) (n : Nat), K.lookup a = some o ∧ o.cls = .type "list" ∧ o.dict = none ∧ o.data = .seq its n ∧ its.size ≤ sizeLine ∧ Vals xs its.toList
def PTup (K : PySem.W.Frag) (G : GM) (a : Addr) (xs : List V) : Prop := G a = some (.tup xs) ∨ KT K a xs
def PLis (K : PySem.W.Frag) (G : GM) (a : Addr) (xs : List V) : Prop := G a = some (.frz xs) ∨ KL K a xs
mutual
inductive RV (K : PySem.W.Frag) (G : GM) : V → D → Prop
  | non : RV K G .non .non
  | bl (b : Bool) : RV K G (.bl b) (.bl b)
  | int (i : Int) : RV K G (.int i) (.int i)
  | str (x : Str) : RV K G (.str x) (.str x)
  | tup {a : Addr} {xs : List V} {ds : List D} (p : PTup K G a xs) (r : RVs K G xs ds) : RV K G (.ref a) (.tup ds)
  | lst {a : Addr} {xs : List V} {ds : List D} (p : G a = some (.lst xs)) (r : RVs K G xs ds) : RV K G (.ref a) (.lst ds)
  | scr {a : Addr} {xs : List V} {ds : List D} (p : PLis K G a xs) (r : RVs K G xs ds) : RV K G (.ref a) (.scr ds)
  | obj {a C : Addr} {fs : List (Str × V)} {ds : List (Str × D)} (p : G a = some (.ins C fs)) (r : RVf K G fs ds) : RV K G (.ref a) (.obj C ds)
  | ref (a : Addr) : RV K G (.ref a) (.ref a)
inductive RVs (K : PySem.W.Frag) (G : GM) : List V → List D → Prop
  | nil : RVs K G [] []
  | cons {v : V} {vs : List V} {d : D} {ds : List D} (h : RV K G v d) (t : RVs K G vs ds) : RVs K G (v :: vs) (d :: ds)
inductive RVf (K : PySem.W.Frag) (G : GM) : List (Str × V) → List (Str × D) → Prop
  | nil : RVf K G [] []
  | cons {x : Str} {v : V} {vs : List (Str × V)} {d : D} {ds : List (Str × D)} (h : RV K G v d) (t : RVf K G vs ds) : RVf K G ((x, v) :: vs) ((x, d) :: ds)
end
theorem PTup.mono {K : PySem.W.Frag} {G G' : GM} (e : GLe G G') {a : Addr} {xs : List V} (h : PTup K G a xs) : PTup K G' a xs := h.imp (e _ _) id
theorem PLis.mono {K : PySem.W.Frag} {G G' : GM} (e : GLe G G') {a : Addr} {xs : List V} (h : PLis K G a xs) : PLis K G' a xs := h.imp (e _ _) id
section
variable {K : PySem.W.Frag} {G G' : GM}
mutual
theorem RV.mono (e : GLe G G') : ∀ {v : V} {d : D}, RV K G v d → RV K G' v d
  | _, _, .non => .non
  | _, _, .bl b => .bl b
  | _, _, .int i => .int i
  | _, _, .str x => .str x
  | _, _, .tup p r => .tup (p.mono e) (RVs.mono e r)
  | _, _, .lst p r => .lst (e _ _ p) (RVs.mono e r)
  | _, _, .scr p r => .scr (p.mono e) (RVs.mono e r)
  | _, _, .obj p r => .obj (e _ _ p) (RVf.mono e r)
  | _, _, .ref a => .ref a
theorem RVs.mono (e : GLe G G') : ∀ {v : List V} {d : List D}, RVs K G v d → RVs K G' v d
  | _, _, .nil => .nil
  | _, _, .cons h t => .cons (RV.mono e h) (RVs.mono e t)
theorem RVf.mono (e : GLe G G') : ∀ {v : List (Str × V)} {d : List (Str × D)}, RVf K G v d → RVf K G' v d
  | _, _, .nil => .nil
  | _, _, .cons h t => .cons (RV.mono e h) (RVf.mono e t)
end
theorem RVs.length : ∀ {v : List V} {d : List D}, RVs K G v d → v.length = d.length
  | _, _, .nil => rfl
  | _, _, .cons _ t => by simp [RVs.length t]
theorem RVs.get : ∀ {v : List V} {d : List D} {i : Nat} {x : D}, RVs K G v d → d[i]? = some x → ∃ u, v[i]? = some u ∧ RV K G u x
  | _, _, _, _, .nil, e => by simp at e
  | _, _, 0, _, .cons h _, e => by simp at e; subst e; exact ⟨_, rfl, h⟩
  | _, _, i + 1, _, .cons _ t, e => by
    obtain ⟨u, h1, h2⟩ := RVs.get (i := i) t (by simpa using e)
    exact ⟨u, by simpa using h1, h2⟩
theorem RVs.getV : ∀ {v : List V} {d : List D} {i : Nat} {x : V}, RVs K G v d → v[i]? = some x → ∃ u, d[i]? = some u ∧ RV K G x u
  | _, _, _, _, .nil, e => by simp at e
  | _, _, 0, _, .cons h _, e => by simp at e; subst e; exact ⟨_, rfl, h⟩
  | _, _, i + 1, _, .cons _ t, e => by
    obtain ⟨u, h1, h2⟩ := RVs.getV (i := i) t (by simpa using e)
    exact ⟨u, by simpa using h1, h2⟩
theorem RVs.append : ∀ {v v' : List V} {d d' : List D}, RVs K G v d → RVs K G v' d' → RVs K G (v ++ v') (d ++ d')
  | _, _, _, _, .nil, s => s
  | _, _, _, _, .cons h t, s => .cons h (RVs.append t s)
theorem RVs.take : ∀ {v : List V} {d : List D} (n : Nat), RVs K G v d → RVs K G (v.take n) (d.take n)
  | _, _, 0, _ => .nil
  | _, _, _ + 1, .nil => .nil
  | _, _, n + 1, .cons h t => .cons h (RVs.take n t)
theorem RVs.drop : ∀ {v : List V} {d : List D} (n : Nat), RVs K G v d → RVs K G (v.drop n) (d.drop n)
  | _, _, 0, r => r
  | _, _, _ + 1, .nil => .nil
  | _, _, n + 1, .cons _ t => RVs.drop n t
theorem RVs.set : ∀ {v : List V} {d : List D} (n : Nat) {x : V} {y : D}, RVs K G v d → RV K G x y → RVs K G (v.set n x) (d.set n y)
  | _, _, _, _, _, .nil, _ => .nil
  | _, _, 0, _, _, .cons _ t, r => .cons r t
  | _, _, n + 1, _, _, .cons h t, r => .cons h (RVs.set n t r)
theorem RVs.one {v : V} {d : D} (h : RV K G v d) : RVs K G [v] [d] := .cons h .nil
theorem RVs.eraseIdx : ∀ {v : List V} {d : List D} (n : Nat), RVs K G v d → RVs K G (v.eraseIdx n) (d.eraseIdx n)
  | _, _, _, .nil => .nil
  | _, _, 0, .cons _ t => t
  | _, _, n + 1, .cons h t => .cons h (RVs.eraseIdx n t)
theorem RVs.dropLast : ∀ {v : List V} {d : List D}, RVs K G v d → RVs K G v.dropLast d.dropLast
  | _, _, .nil => .nil
  | _, _, .cons _ .nil => .nil
  | _, _, .cons h (.cons h2 t) => .cons h (RVs.dropLast (.cons h2 t))
theorem RVs.nil_iff {v : List V} {d : List D} (r : RVs K G v d) : v = [] ↔ d = [] := by
  cases r <;> simp
theorem RVf.lookup : ∀ {fs : List (Str × V)} {ds : List (Str × D)} {x : Str} {d : D}, RVf K G fs ds → ds.lookup x = some d → ∃ v, fs.lookup x = some v ∧ RV K G v d
  | _, _, _, _, .nil, e => by simp at e
  | _, _, x, d, .cons (x := y) (v := v) (d := d') (vs := vs) (ds := ds) h t, e => by
    by_cases hx : x = y
    · subst hx
      simp [List.lookup] at e
      subst e
      exact ⟨v, by simp [List.lookup], h⟩
    · have q : (x == y) = false := by simpa using hx
      simp only [List.lookup, q] at e
      obtain ⟨u, h1, h2⟩ := RVf.lookup t e
      exact ⟨u, by simp only [List.lookup, q]; exact h1, h2⟩
theorem RVf.lookupN : ∀ {fs : List (Str × V)} {ds : List (Str × D)} {x : Str}, RVf K G fs ds → ds.lookup x = none → fs.lookup x = none
  | _, _, _, .nil, _ => rfl
  | _, _, x, .cons (x := y) (v := v) (d := d') (vs := vs) (ds := ds) h t, e => by
    by_cases hx : x = y
    · subst hx
      simp [List.lookup] at e
    · have q : (x == y) = false := by simpa using hx
      simp only [List.lookup, q] at e
      simp only [List.lookup, q]
      exact RVf.lookupN t e
theorem RVf.length : ∀ {v : List (Str × V)} {d : List (Str × D)}, RVf K G v d → v.length = d.length
  | _, _, .nil => rfl
  | _, _, .cons _ t => by simp [RVf.length t]
end
def putD (f : Str) (v : D) : List (Str × D) → List (Str × D)
  | [] => [(f, v)]
  | (g, x) :: r => if g = f then (g, v) :: r else (g, x) :: putD f v r
theorem RVf.put {K : PySem.W.Frag} {G : GM} {f : Str} {v : V} {d : D} (r : RV K G v d) : ∀ {fs : List (Str × V)} {ds : List (Str × D)}, RVf K G fs ds → RVf K G (putF f v fs) (putD f d ds)
  | _, _, .nil => .cons r .nil
  | _, _, .cons (x := y) h t => by
    unfold putF putD
    by_cases e : y = f
    · rw [if_pos e, if_pos e]; exact .cons r t
    · rw [if_neg e, if_neg e]; exact .cons h (RVf.put r t)

/-- what stands in the small heap -/
inductive MO where
  | lst (ds : List D) | ins (C : Addr) (fs : List (Str × D)) | dK (kvs : List (Key × D))
abbrev M := List (Addr × MO)
abbrev S := List (Option D)
def RKV (K : PySem.W.Frag) (G : GM) (kvs : List (Key × V)) (kds : List (Key × D)) : Prop := kvs.map (·.1) = kds.map (·.1) ∧ RVs K G (kvs.map (·.2)) (kds.map (·.2))
def MOk (K : PySem.W.Frag) (G : GM) (H : Hp) (a : Addr) : MO → Prop
  | .lst ds => ∃ xs, H a = some (.lst xs) ∧ RVs K G xs ds
  | .ins C ds => ∃ dx fs, H a = some (.ins C dx fs) ∧ RVf K G fs ds
  | .dK kds => ∃ kvs, H a = some (.dK kvs) ∧ RKV K G kvs kds
def GOk (H : Hp) (a : Addr) : GO → Prop
  | .tup xs => H a = some (.tup xs)
  | .lst xs => H a = some (.lst xs)
  | .frz xs => ∃ o, H a = some (.frz o (.lst xs))
  | .ins C fs => ∃ dx, H a = some (.ins C dx fs)
theorem GOk.there {H : Hp} {a : Addr} {g : GO} (h : GOk H a g) : H a ≠ none := by
  intro e
  cases g with
  | tup xs => rw [show H a = _ from h] at e; cases e
  | lst xs => rw [show H a = _ from h] at e; cases e
  | frz xs => obtain ⟨o, h⟩ := h; rw [h] at e; cases e
  | ins C fs => obtain ⟨dx, h⟩ := h; rw [h] at e; cases e
theorem MOk.there {K : PySem.W.Frag} {G : GM} {H : Hp} {a : Addr} {o : MO} (h : MOk K G H a o) : H a ≠ none := by
  intro e
  cases o with
  | lst xs => obtain ⟨_, h, _⟩ := h; rw [h] at e; cases e
  | ins C fs => obtain ⟨_, _, h, _⟩ := h; rw [h] at e; cases e
  | dK kvs => obtain ⟨_, h, _⟩ := h; rw [h] at e; cases e
theorem MOk.move {K : PySem.W.Frag} {G G' : GM} {H H' : Hp} {a : Addr} {o : MO} (e : GLe G G') (hh : H' a = H a) (h : MOk K G H a o) : MOk K G' H' a o := by
  cases o with
  | lst xs => obtain ⟨x, h, r⟩ := h; exact ⟨x, hh.trans h, r.mono e⟩
  | ins C fs => obtain ⟨x, y, h, r⟩ := h; exact ⟨x, y, hh.trans h, r.mono e⟩
  | dK kvs => obtain ⟨x, h, r1, r2⟩ := h; exact ⟨x, hh.trans h, r1, r2.mono e⟩
theorem GOk.move {H H' : Hp} {a : Addr} {g : GO} (hh : H' a = H a) (h : GOk H a g) : GOk H' a g := by
  cases g with
  | tup xs => exact hh.trans h
  | lst xs => exact hh.trans h
  | frz xs => obtain ⟨o, h⟩ := h; exact ⟨o, hh.trans h⟩
  | ins C fs => obtain ⟨dx, h⟩ := h; exact ⟨dx, hh.trans h⟩
/-- the entry of a body: the abstract heap, what is frozen, what may be written -/
structure En where
  H : Hp
  G : GM
  F : List Addr
abbrev keys (l : M) : List Addr := l.map (·.1)
structure Ok (K : PySem.W.Frag) (Γ : En) (H : Hp) (G : GM) (l : M) : Prop where
  nd : (keys l).Nodup
  fr : ∀ p ∈ l, G p.1 = none
  mem : ∀ p ∈ l, MOk K G H p.1 p.2
  per : ∀ a g, G a = some g → GOk H a g
  keep : ∀ a o, Γ.H a = some o → a ∉ Γ.F → H a = some o
  ext : GLe Γ.G G
  new : ∀ p ∈ l, p.1 ∈ Γ.F ∨ Γ.H p.1 = none
  newG : ∀ a g, G a = some g → Γ.G a = some g ∨ Γ.H a = none ∨ a ∈ Γ.F
  ff : ∀ a ∈ Γ.F, H a ≠ none
section
variable {K : PySem.W.Frag} {Γ : En} {H : Hp} {G : GM} {l : M}
theorem Ok.sqT (k : Ok K Γ H G l) {a : Addr} {xs : List V} (p : PTup K G a xs) : SqT K H a xs := p.imp (fun e => .inl (k.per a (.tup xs) e)) id
theorem Ok.sqL (k : Ok K Γ H G l) {a : Addr} {xs : List V} (p : PLis K G a xs) : SqL K H a xs := p.imp (fun e => .inr (k.per a (.frz xs) e)) id
theorem Ok.lstH (k : Ok K Γ H G l) {a : Addr} {xs : List V} (p : G a = some (.lst xs)) : H a = some (.lst xs) := k.per a (.lst xs) p
theorem Ok.free (k : Ok K Γ H G l) {p : Addr} (n : H p = none) : G p = none := by
  cases e : G p with
  | none => rfl
  | some g => exact absurd n (k.per _ _ e).there
theorem Ok.freeΓ (k : Ok K Γ H G l) {p : Addr} (n : H p = none) : Γ.H p = none := by
  by_cases h : p ∈ Γ.F
  · exact absurd n (k.ff p h)
  · cases e : Γ.H p with
    | none => rfl
    | some o => rw [k.keep _ _ e h] at n; cases n
theorem upd_there {H : Hp} {p : Addr} {o : HO} {a : Addr} (h : H a ≠ none) : upd H p o a ≠ none := by
  by_cases e : a = p
  · subst e; rw [upd_same]; exact fun z => nomatch z
  · rw [upd_ne e]; exact h
theorem Ok.keyNe (k : Ok K Γ H G l) {p : Addr} (n : H p = none) : ∀ q ∈ l, q.1 ≠ p := fun q hq e => (k.mem q hq).there (by rw [e]; exact n)
/-- a new tuple is laid -/
theorem Ok.newTup (k : Ok K Γ H G l) {p : Addr} {xs : List V} (n : H p = none) : Ok K Γ (upd H p (.tup xs)) (setG G p (.tup xs)) l where
  nd := k.nd
  fr := fun q hq => by rw [setG_ne (k.keyNe n q hq)]; exact k.fr q hq
  mem := fun q hq => (k.mem q hq).move (GLe.set (k.free n)) (upd_ne (k.keyNe n q hq))
  per := fun a g e => by
    by_cases h : a = p
    · subst h; rw [setG_same] at e; cases e; exact upd_same
    · rw [setG_ne h] at e; exact (k.per a g e).move (upd_ne h)
  keep := fun a o e h => by rw [upd_ne (by intro z; subst z; rw [k.keep _ _ e h] at n; cases n)]; exact k.keep a o e h
  ext := k.ext.trans (GLe.set (k.free n))
  new := k.new
  newG := fun a g e => by
    by_cases h : a = p
    · subst h; exact .inr (.inl (k.freeΓ n))
    · rw [setG_ne h] at e; exact k.newG a g e
  ff := fun a ha => upd_there (k.ff a ha)
theorem Ok.newMut (k : Ok K Γ H G l) {p : Addr} {ho : HO} {o : MO} (n : H p = none) (hm : MOk K G (upd H p ho) p o) : Ok K Γ (upd H p ho) G ((p, o) :: l) where
  nd := by
    rw [show keys ((p, o) :: l) = p :: keys l from rfl, List.nodup_cons]
    exact ⟨fun h => by obtain ⟨q, hq, e⟩ := List.mem_map.mp h; exact k.keyNe n q hq e, k.nd⟩
  fr := fun q hq => by
    rcases List.mem_cons.mp hq with e | e
    · subst e; exact k.free n
    · exact k.fr q e
  mem := fun q hq => by
    rcases List.mem_cons.mp hq with e | e
    · subst e; exact hm
    · exact (k.mem q e).move (GLe.refl G) (upd_ne (k.keyNe n q e))
  per := fun a g e => (k.per a g e).move (upd_ne (by intro z; subst z; exact (k.per _ _ e).there n))
  keep := fun a o' e h => by rw [upd_ne (by intro z; subst z; rw [k.keep _ _ e h] at n; cases n)]; exact k.keep a o' e h
  ext := k.ext
  new := fun q hq => by
    rcases List.mem_cons.mp hq with e | e
    · subst e; exact .inr (k.freeΓ n)
    · exact k.new q e
  newG := k.newG
  ff := fun a ha => upd_there (k.ff a ha)
/-- a new list is laid and frozen at once -/
theorem Ok.newLst (k : Ok K Γ H G l) {p : Addr} {xs : List V} (n : H p = none) : Ok K Γ (upd H p (.lst xs)) (setG G p (.lst xs)) l where
  nd := k.nd
  fr := fun q hq => by rw [setG_ne (k.keyNe n q hq)]; exact k.fr q hq
  mem := fun q hq => (k.mem q hq).move (GLe.set (k.free n)) (upd_ne (k.keyNe n q hq))
  per := fun a g e => by
    by_cases h : a = p
    · subst h; rw [setG_same] at e; cases e; exact upd_same
    · rw [setG_ne h] at e; exact (k.per a g e).move (upd_ne h)
  keep := fun a o e h => by rw [upd_ne (by intro z; subst z; rw [k.keep _ _ e h] at n; cases n)]; exact k.keep a o e h
  ext := k.ext.trans (GLe.set (k.free n))
  new := k.new
  newG := fun a g e => by
    by_cases h : a = p
    · subst h; exact .inr (.inl (k.freeΓ n))
    · rw [setG_ne h] at e; exact k.newG a g e
  ff := fun a ha => upd_there (k.ff a ha)

theorem mem_set {α : Type} {l : List α} {i : Nat} {x y : α} (h : y ∈ l.set i x) : y = x ∨ ∃ j, j ≠ i ∧ l[j]? = some y := by
  obtain ⟨j, hj⟩ := List.mem_iff_getElem?.mp h
  rw [List.getElem?_set] at hj
  by_cases e : i = j
  · rw [if_pos e] at hj
    by_cases hl : i < l.length
    · rw [if_pos hl] at hj; exact .inl (Option.some.inj hj).symm
    · rw [if_neg hl] at hj; cases hj
  · rw [if_neg e] at hj; exact .inr ⟨j, fun z => e z.symm, hj⟩
theorem keys_set {l : M} {i : Nat} {a : Addr} {o o' : MO} (h : l[i]? = some (a, o)) : keys (l.set i (a, o')) = keys l := by
  apply List.ext_getElem?
  intro j
  show ((l.set i (a, o')).map (·.1))[j]? = (l.map (·.1))[j]?
  rw [List.getElem?_map, List.getElem?_map, List.getElem?_set]
  by_cases e : i = j
  · subst e
    rw [if_pos rfl, h]
    have hl : i < l.length := by
      rcases Nat.lt_or_ge i l.length with z | z
      · exact z
      · rw [List.getElem?_eq_none_iff.mpr z] at h; cases h
    rw [if_pos hl]; rfl
  · rw [if_neg e]
theorem Ok.apart (k : Ok K Γ H G l) {i j : Nat} {p q : Addr × MO} (h1 : l[i]? = some p) (h2 : l[j]? = some q) (n : i ≠ j) : p.1 ≠ q.1 := by
  intro e
  have a1 : (keys l)[i]? = some p.1 := by show (l.map (·.1))[i]? = _; rw [List.getElem?_map, h1]; rfl
  have a2 : (keys l)[j]? = some p.1 := by show (l.map (·.1))[j]? = _; rw [List.getElem?_map, h2, e]; rfl
  exact n ((List.getElem?_inj (by
    rcases Nat.lt_or_ge i (keys l).length with z | z
    · exact z
    · rw [List.getElem?_eq_none_iff.mpr z] at a1; cases a1) k.nd).mp (a1.trans a2.symm))
theorem mem_of_get {α : Type} {l : List α} {i : Nat} {x : α} (h : l[i]? = some x) : x ∈ l := List.mem_iff_getElem?.mpr ⟨i, h⟩
/-- an object of the small heap is written -/
theorem Ok.write (k : Ok K Γ H G l) {i : Nat} {a : Addr} {o o' : MO} {ho : HO} (hi : l[i]? = some (a, o)) (hm : MOk K G (upd H a ho) a o') : Ok K Γ (upd H a ho) G (l.set i (a, o')) where
  nd := by rw [keys_set hi]; exact k.nd
  fr := fun q hq => by
    rcases mem_set hq with e | ⟨j, _, e⟩
    · subst e; exact k.fr (a, o) (mem_of_get hi)
    · exact k.fr q (mem_of_get e)
  mem := fun q hq => by
    rcases mem_set hq with e | ⟨j, n, e⟩
    · subst e; exact hm
    · exact (k.mem q (mem_of_get e)).move (GLe.refl G) (upd_ne (k.apart e hi n))
  per := fun b g e => (k.per b g e).move (upd_ne (by intro z; subst z; rw [k.fr (b, o) (mem_of_get hi)] at e; cases e))
  keep := fun b x e h => by
    rw [upd_ne]
    · exact k.keep b x e h
    · intro z; subst z
      rcases k.new (b, o) (mem_of_get hi) with y | y
      · exact h y
      · rw [y] at e; cases e
  ext := k.ext
  new := fun q hq => by
    rcases mem_set hq with e | ⟨j, _, e⟩
    · subst e; exact k.new (a, o) (mem_of_get hi)
    · exact k.new q (mem_of_get e)
  newG := k.newG
  ff := fun b hb => upd_there (k.ff b hb)
theorem mem_erase {α : Type} {l : List α} {i : Nat} {y : α} (h : y ∈ l.eraseIdx i) : ∃ j, j ≠ i ∧ l[j]? = some y := by
  obtain ⟨j, hj⟩ := List.mem_iff_getElem?.mp h
  rw [List.getElem?_eraseIdx] at hj
  by_cases e : j < i
  · rw [if_pos e] at hj; exact ⟨j, by omega, hj⟩
  · rw [if_neg e] at hj; exact ⟨j + 1, by omega, hj⟩
/-- an object of the small heap is frozen -/
theorem Ok.freeze (k : Ok K Γ H G l) {i : Nat} {a : Addr} {o : MO} {g : GO} (hi : l[i]? = some (a, o)) (hg : GOk H a g) : Ok K Γ H (setG G a g) (l.eraseIdx i) ∧ GLe G (setG G a g) := by
  have na : G a = none := k.fr (a, o) (mem_of_get hi)
  have sub : (l.eraseIdx i).Sublist l := List.eraseIdx_sublist l i
  refine ⟨⟨?_, ?_, ?_, ?_, k.keep, k.ext.trans (GLe.set na), ?_, ?_, k.ff⟩, GLe.set na⟩
  · exact List.Nodup.sublist (sub.map _) k.nd
  · intro q hq
    obtain ⟨j, n, e⟩ := mem_erase hq
    rw [setG_ne (k.apart e hi n)]; exact k.fr q (mem_of_get e)
  · intro q hq
    obtain ⟨j, n, e⟩ := mem_erase hq
    exact (k.mem q (mem_of_get e)).move (GLe.set na) rfl
  · intro b g' e
    by_cases h : b = a
    · subst h; rw [setG_same] at e; cases e; exact hg
    · rw [setG_ne h] at e; exact k.per b g' e
  · intro q hq; exact k.new q (sub.subset hq)
  · intro b g' e
    by_cases h : b = a
    · subst h
      rcases k.new (b, o) (mem_of_get hi) with z | z
      · exact .inr (.inr z)
      · exact .inr (.inl z)
    · rw [setG_ne h] at e; exact k.newG b g' e
/-- forgetting objects -/
theorem Ok.sub (k : Ok K Γ H G l) {l' : M} (nd : (keys l').Nodup) (hs : ∀ p ∈ l', p ∈ l) : Ok K Γ H G l' :=
  ⟨nd, fun p hp => k.fr p (hs p hp), fun p hp => k.mem p (hs p hp), k.per, k.keep, k.ext, fun p hp => k.new p (hs p hp), k.newG, k.ff⟩
/-! ### the part of the small heap that a call is handed -/
def pick : M → List Bool → M
  | [], _ => []
  | x :: l, true :: m => x :: pick l m
  | _ :: l, false :: m => pick l m
  | _ :: _, [] => []
def dropM : M → List Bool → M
  | [], _ => []
  | _ :: l, true :: m => dropM l m
  | x :: l, false :: m => x :: dropM l m
  | x :: l, [] => x :: l
def weave : M → List Bool → M → M
  | [], _, os => os
  | _ :: l, true :: m, o :: os => o :: weave l m os
  | _ :: l, true :: m, [] => weave l m []
  | x :: l, false :: m, os => x :: weave l m os
  | x :: l, [], os => os ++ (x :: l)
def mergeM (l : M) (m : List Bool) (l2 : M) : M := l2.take (l2.length - (pick l m).length) ++ weave l m (l2.drop (l2.length - (pick l m).length))
theorem pick_perm : ∀ (l : M) (m : List Bool), (pick l m ++ dropM l m).Perm l
  | [], m => by cases m <;> exact .refl _
  | x :: l, true :: m => (pick_perm l m).cons x
  | x :: l, false :: m => by
    show (pick l m ++ x :: dropM l m).Perm (x :: l)
    exact List.perm_middle.trans ((pick_perm l m).cons x)
  | x :: l, [] => .refl _
theorem weave_perm : ∀ (l : M) (m : List Bool) (os : M), (weave l m os).Perm (os ++ dropM l m)
  | [], m, os => by cases m <;> simp [weave, dropM]
  | x :: l, true :: m, o :: os => (weave_perm l m os).cons o
  | x :: l, true :: m, [] => weave_perm l m []
  | x :: l, false :: m, os => by
    show (x :: weave l m os).Perm (os ++ x :: dropM l m)
    exact ((weave_perm l m os).cons x).trans List.perm_middle.symm
  | x :: l, [], os => .refl _
theorem merge_perm (l : M) (m : List Bool) (l2 : M) : (mergeM l m l2).Perm (l2 ++ dropM l m) := by
  unfold mergeM
  have h := (weave_perm l m (l2.drop (l2.length - (pick l m).length))).append_left (l2.take (l2.length - (pick l m).length))
  rw [← List.append_assoc, List.take_append_drop] at h
  exact h
theorem Ok.called (k : Ok K Γ H G l) (m : List Bool) : Ok K ⟨H, G, keys (pick l m)⟩ H G (pick l m) := by
  have sub : ∀ p ∈ pick l m, p ∈ l := fun p hp => (pick_perm l m).subset (List.mem_append_left _ hp)
  refine ⟨?_, fun p hp => k.fr p (sub p hp), fun p hp => k.mem p (sub p hp), k.per, fun _ _ e _ => e, GLe.refl G, fun p hp => .inl (List.mem_map.mpr ⟨p, hp, rfl⟩), fun _ _ e => .inl e, fun a ha => ?_⟩
  · have h := (((pick_perm l m).map (·.1)).nodup_iff).mpr k.nd
    rw [List.map_append] at h
    exact (List.nodup_append.mp h).1
  · obtain ⟨p, hp, e⟩ := List.mem_map.mp ha
    subst e
    exact (k.mem p (sub p hp)).there
theorem Ok.after (k : Ok K Γ H G l) {m : List Bool} {H2 : Hp} {G2 : GM} {l2 : M} (c : Ok K ⟨H, G, keys (pick l m)⟩ H2 G2 l2) : Ok K Γ H2 G2 (mergeM l m l2) := by
  have sp : ∀ p ∈ pick l m, p ∈ l := fun p hp => (pick_perm l m).subset (List.mem_append_left _ hp)
  have sd : ∀ p ∈ dropM l m, p ∈ l := fun p hp => (pick_perm l m).subset (List.mem_append_right _ hp)
  have nd0 : (keys (pick l m) ++ keys (dropM l m)).Nodup := by
    have h := (((pick_perm l m).map (·.1)).nodup_iff).mpr k.nd
    rwa [List.map_append] at h
  have dis : ∀ r ∈ dropM l m, r.1 ∉ keys (pick l m) := fun r hr h => (List.nodup_append.mp nd0).2.2 r.1 h r.1 (List.mem_map.mpr ⟨r, hr, rfl⟩) rfl
  have tr : ∀ r ∈ dropM l m, H r.1 ≠ none := fun r hr => (k.mem r (sd r hr)).there
  have kept : ∀ a, a ∉ keys (pick l m) → H a ≠ none → H2 a = H a := fun a h n => by
    cases e : H a with
    | none => exact absurd e n
    | some o => exact c.keep a o e h
  have inF : ∀ a ∈ keys (pick l m), a ∈ Γ.F ∨ Γ.H a = none := fun a ha => by
    obtain ⟨p, hp, e⟩ := List.mem_map.mp ha
    subst e
    exact k.new p (sp p hp)
  have cases2 : ∀ q ∈ mergeM l m l2, q ∈ l2 ∨ q ∈ dropM l m := fun q hq => List.mem_append.mp ((merge_perm l m l2).subset hq)
  refine ⟨?_, ?_, ?_, c.per, ?_, k.ext.trans c.ext, ?_, ?_, ?_⟩
  · refine (((merge_perm l m l2).map (·.1)).nodup_iff).mpr ?_
    rw [List.map_append, List.nodup_append]
    refine ⟨c.nd, (List.nodup_append.mp nd0).2.1, ?_⟩
    intro a ha b hb e
    subst e
    obtain ⟨q, hq, e⟩ := List.mem_map.mp ha
    obtain ⟨r, hr, e2⟩ := List.mem_map.mp hb
    rcases c.new q hq with z | z
    · exact dis r hr (by rw [e2, ← e]; exact z)
    · exact tr r hr (by rw [e2, ← e]; exact z)
  · intro q hq
    rcases cases2 q hq with h | h
    · exact c.fr q h
    · cases e : G2 q.1 with
      | none => rfl
      | some g =>
        rcases c.newG _ _ e with z | z | z
        · exact absurd ((k.fr q (sd q h)).symm.trans z) (fun y => nomatch y)
        · exact absurd z (tr q h)
        · exact absurd z (dis q h)
  · intro q hq
    rcases cases2 q hq with h | h
    · exact c.mem q h
    · exact (k.mem q (sd q h)).move c.ext (kept _ (dis q h) (tr q h))
  · intro a o e h
    have h1 := k.keep a o e h
    refine (kept a (fun z => ?_) (by rw [h1]; exact fun z => nomatch z)).trans h1
    rcases inF a z with y | y
    · exact h y
    · rw [y] at e; cases e
  · intro q hq
    rcases cases2 q hq with h | h
    · rcases c.new q h with z | z
      · exact inF _ z
      · exact .inr (k.freeΓ z)
    · exact k.new q (sd q h)
  · intro a g e
    rcases c.newG a g e with z | z | z
    · exact k.newG a g z
    · exact .inr (.inl (k.freeΓ z))
    · rcases inF a z with y | y
      · exact .inr (.inr y)
      · exact .inr (.inl y)
  · intro a ha
    by_cases h : a ∈ keys (pick l m)
    · exact c.ff a h
    · rw [kept a h (k.ff a ha)]; exact k.ff a ha
end
end Z

namespace Z
open PySem PySem.Spec PyProof.Rows L2

abbrev DK := D → M → Prop
abbrev DE := S → M → DK → Prop
abbrev DT := S → M → (Bool → M → Prop) → Prop
abbrev DA := S → M → (List D → M → Prop) → Prop
abbrev DN := S → M → Prop
abbrev DS := DN → DK → DN → DN → S → M → Prop
abbrev DO := S → M → (Option Int → M → Prop) → Prop

def SR (K : PySem.W.Frag) (G : GM) (σ : L2.St) (τ : S) : Prop := σ.length = τ.length ∧ ∀ (i : Nat) (d : D), τ[i]? = some (some d) → ∃ v, σ[i]? = some (some v) ∧ RV K G v d
section
variable {K : PySem.W.Frag} {Γ : En} {H : Hp} {G G' : GM} {l : M} {σ : L2.St} {τ : S}
theorem SR.mono (e : GLe G G') (h : SR K G σ τ) : SR K G' σ τ := ⟨h.1, fun i d x => let ⟨v, a, b⟩ := h.2 i d x; ⟨v, a, b.mono e⟩⟩
theorem SR.set {v : V} {d : D} (h : SR K G σ τ) (r : RV K G v d) (i : Nat) : SR K G (σ.set i (some v)) (τ.set i (some d)) := by
  refine ⟨by rw [List.length_set, List.length_set]; exact h.1, fun j x e => ?_⟩
  rw [List.getElem?_set] at e ⊢
  by_cases hj : i = j
  · rw [if_pos hj] at e ⊢
    by_cases hl : i < τ.length
    · rw [if_pos hl] at e
      rw [if_pos (by rw [h.1]; exact hl)]
      cases e
      exact ⟨v, rfl, r⟩
    · rw [if_neg hl] at e; cases e
  · rw [if_neg hj] at e ⊢
    exact h.2 j x e
theorem SR.gone (h : SR K G σ τ) (i : Nat) : SR K G (σ.set i none) (τ.set i none) := by
  refine ⟨by rw [List.length_set, List.length_set]; exact h.1, fun j x e => ?_⟩
  rw [List.getElem?_set] at e ⊢
  by_cases hj : i = j
  · rw [if_pos hj] at e ⊢
    by_cases hl : i < τ.length
    · rw [if_pos hl] at e; cases e
    · rw [if_neg hl] at e; cases e
  · rw [if_neg hj] at e ⊢
    exact h.2 j x e
end

def le (K : PySem.W.Frag) (Γ : En) (t : DE) : TE := fun σ H Q => ∃ G τ l Q', SR K G σ τ ∧ Ok K Γ H G l ∧ t τ l Q' ∧ ∀ v d H2 G2 l2, GLe G G2 → Ok K Γ H2 G2 l2 → RV K G2 v d → Q' d l2 → Q v H2
def lt (K : PySem.W.Frag) (Γ : En) (t : DT) : TT := fun σ H Q => ∃ G τ l Q', SR K G σ τ ∧ Ok K Γ H G l ∧ t τ l Q' ∧ ∀ b H2 G2 l2, GLe G G2 → Ok K Γ H2 G2 l2 → Q' b l2 → Q b H2
def la (K : PySem.W.Frag) (Γ : En) (t : DA) : TA := fun σ H Q => ∃ G τ l Q', SR K G σ τ ∧ Ok K Γ H G l ∧ t τ l Q' ∧ ∀ vs ds H2 G2 l2, GLe G G2 → Ok K Γ H2 G2 l2 → RVs K G2 vs ds → Q' ds l2 → Q vs H2
def lo (K : PySem.W.Frag) (Γ : En) (t : DO) : TO := fun σ H Q => ∃ G τ l Q', SR K G σ τ ∧ Ok K Γ H G l ∧ t τ l Q' ∧ ∀ o H2 G2 l2, GLe G G2 → Ok K Γ H2 G2 l2 → Q' o l2 → Q o H2
def ls (K : PySem.W.Frag) (Γ : En) (t : DS) : TS := fun D σ H => ∃ G τ l nx rt bk ct, SR K G σ τ ∧ Ok K Γ H G l ∧ t nx rt bk ct τ l ∧
  (∀ σ2 τ2 H2 G2 l2, GLe G G2 → SR K G2 σ2 τ2 → Ok K Γ H2 G2 l2 → nx τ2 l2 → D.nx σ2 H2) ∧
  (∀ v d H2 G2 l2, GLe G G2 → Ok K Γ H2 G2 l2 → RV K G2 v d → rt d l2 → D.rt v H2) ∧
  (∀ σ2 τ2 H2 G2 l2, GLe G G2 → SR K G2 σ2 τ2 → Ok K Γ H2 G2 l2 → bk τ2 l2 → D.bk σ2 H2) ∧
  (∀ σ2 τ2 H2 G2 l2, GLe G G2 → SR K G2 σ2 τ2 → Ok K Γ H2 G2 l2 → ct τ2 l2 → D.ct σ2 H2)
abbrev QE (X : Cx) (Γ : En) (e : Expr) (t : DE) : Prop := PE X e (le X.K Γ t)
abbrev QT (X : Cx) (Γ : En) (e : Expr) (t : DT) : Prop := PT X e (lt X.K Γ t)
abbrev QW (X : Cx) (Γ : En) (e : Expr) (t : DT) : Prop := PW X e (lt X.K Γ t)
abbrev QA (X : Cx) (Γ : En) (es : List Expr) (t : DA) : Prop := PA X es (la X.K Γ t)
abbrev QO (X : Cx) (Γ : En) (e : Option Expr) (t : DO) : Prop := PO X e (lo X.K Γ t)
abbrev QS (X : Cx) (Γ : En) (s : Stmt) (t : DS) : Prop := PS X s (ls X.K Γ t)
abbrev QSs (X : Cx) (Γ : En) (s : List Stmt) (t : DS) : Prop := PSs X s (ls X.K Γ t)
section
variable {X : Cx}
theorem PE.imp {e : Expr} {t t' : TE} (h : PE X e t) (m : ∀ σ H Q, t' σ H Q → t σ H Q) : PE X e t' := ⟨fun pins s σ H Q I q => h.run pins s σ H Q I (m _ _ _ q)⟩
theorem PT.imp {e : Expr} {t t' : TT} (h : PT X e t) (m : ∀ σ H Q, t' σ H Q → t σ H Q) : PT X e t' := ⟨fun pins s σ H Q I q => h.run pins s σ H Q I (m _ _ _ q)⟩
theorem PW.imp {e : Expr} {t t' : TT} (h : PW X e t) (m : ∀ σ H Q, t' σ H Q → t σ H Q) : PW X e t' := ⟨fun whole pins s σ H Q I q => h.run whole pins s σ H Q I (m _ _ _ q)⟩
theorem PA.imp {e : List Expr} {t t' : TA} (h : PA X e t) (m : ∀ σ H Q, t' σ H Q → t σ H Q) : PA X e t' := ⟨fun pos pins s σ H Q I q => h.run pos pins s σ H Q I (m _ _ _ q)⟩
theorem PK.imp {e : List Keyword} {t t' : TA} (h : PK X e t) (m : ∀ σ H Q, t' σ H Q → t σ H Q) : PK X e t' := ⟨fun pos pins s σ H Q I q => h.run pos pins s σ H Q I (m _ _ _ q)⟩
theorem PO.imp {e : Option Expr} {t t' : TO} (h : PO X e t) (m : ∀ σ H Q, t' σ H Q → t σ H Q) : PO X e t' := ⟨fun pins s σ H Q I q => h.run pins s σ H Q I (m _ _ _ q)⟩
theorem PS.imp {e : Stmt} {t t' : TS} (h : PS X e t) (m : ∀ D σ H, t' D σ H → t D σ H) : PS X e t' := ⟨fun pins s σ H D I q => h.run pins s σ H D I (m _ _ _ q)⟩
theorem PSs.imp {e : List Stmt} {t t' : TS} (h : PSs X e t) (m : ∀ D σ H, t' D σ H → t D σ H) : PSs X e t' := ⟨fun pins s σ H D I q => h.run pins s σ H D I (m _ _ _ q)⟩
end
/-! ### expressions -/
def dVar (i : Nat) : DE := fun τ l Q => ∃ d, τ[i]? = some (some d) ∧ Q d l
def dC (d : D) : DE := fun _ l Q => Q d l
def dNil : DA := fun _ l Q => Q [] l
def dCons (t : DE) (u : DA) : DA := fun τ l Q => t τ l fun d l1 => u τ l1 fun ds l2 => Q (d :: ds) l2
/-- a two-place operation on data -/
abbrev D2 := D → D → M → DK → Prop
abbrev D1 := D → M → DK → Prop
abbrev DL := List D → M → DK → Prop
def dOp (r : D2) (ta tb : DE) : DE := fun τ l Q => ta τ l fun x l1 => tb τ l1 fun y l2 => r x y l2 Q
def dUn (r : D1) (ta : DE) : DE := fun τ l Q => ta τ l fun x l1 => r x l1 Q
def dCB (r : DL) (t : DA) : DE := fun τ l Q => t τ l fun ds l1 => r ds l1 Q
/-- what a continuation is handed on -/
def Post (K : PySem.W.Frag) (Γ : En) (G : GM) (Q' : DK) (Q : VK) : Prop := ∀ v d H2 G2 l2, GLe G G2 → Ok K Γ H2 G2 l2 → RV K G2 v d → Q' d l2 → Q v H2
theorem Post.mono {K : PySem.W.Frag} {Γ : En} {G G1 : GM} {Q' : DK} {Q : VK} (h : Post K Γ G Q' Q) (e : GLe G G1) : Post K Γ G1 Q' Q := fun v d H2 G2 l2 e2 => h v d H2 G2 l2 (e.trans e2)
def Lift2 (K : PySem.W.Frag) (r' : D2) (r : R2) : Prop := ∀ (Γ : En) (H : Hp) (G : GM) (l : M) (x y : V) (a b : D) (Q : VK) (Q' : DK), Ok K Γ H G l → RV K G x a → RV K G y b → r' a b l Q' → Post K Γ G Q' Q → r x y H Q
def Lift1 (K : PySem.W.Frag) (r' : D1) (r : V → Hp → VK → Prop) : Prop := ∀ (Γ : En) (H : Hp) (G : GM) (l : M) (x : V) (a : D) (Q : VK) (Q' : DK), Ok K Γ H G l → RV K G x a → r' a l Q' → Post K Γ G Q' Q → r x H Q
def LiftL (K : PySem.W.Frag) (r' : DL) (r : List V → Hp → VK → Prop) : Prop := ∀ (Γ : En) (H : Hp) (G : GM) (l : M) (xs : List V) (ds : List D) (Q : VK) (Q' : DK), Ok K Γ H G l → RVs K G xs ds → r' ds l Q' → Post K Γ G Q' Q → r xs H Q
section
variable {K : PySem.W.Frag} {Γ : En}
theorem le_one {t : DE} {r : D1} {r0 : V → Hp → VK → Prop} (L : Lift1 K r r0) {σ : L2.St} {H : Hp} {Q : VK} (h : le K Γ (dUn r t) σ H Q) : le K Γ t σ H fun x H1 => r0 x H1 Q := by
  obtain ⟨G, τ, l, Q', sr, ok, ht, hQ⟩ := h
  exact ⟨G, τ, l, _, sr, ok, ht, fun v d H2 G2 l2 e ok2 rv q => L Γ H2 G2 l2 v d Q Q' ok2 rv q (Post.mono hQ e)⟩
theorem le_two {t u : DE} {r : D2} {r0 : R2} (L : Lift2 K r r0) {σ : L2.St} {H : Hp} {Q : VK} (h : le K Γ (dOp r t u) σ H Q) : le K Γ t σ H fun x H1 => le K Γ u σ H1 fun y H2 => r0 x y H2 Q := by
  obtain ⟨G, τ, l, Q', sr, ok, ht, hQ⟩ := h
  exact ⟨G, τ, l, _, sr, ok, ht, fun v d H2 G2 l2 e ok2 rv q => ⟨G2, τ, l2, _, sr.mono e, ok2, q, fun v2 d2 H3 G3 l3 e2 ok3 rv2 q2 =>
    L Γ H3 G3 l3 v v2 d d2 Q Q' ok3 (rv.mono e2) rv2 q2 (Post.mono hQ (e.trans e2))⟩⟩
theorem le_args {t : DA} {r : DL} {r0 : List V → Hp → VK → Prop} (L : LiftL K r r0) {σ : L2.St} {H : Hp} {Q : VK} (h : le K Γ (dCB r t) σ H Q) : la K Γ t σ H fun xs H1 => r0 xs H1 Q := by
  obtain ⟨G, τ, l, Q', sr, ok, ht, hQ⟩ := h
  exact ⟨G, τ, l, _, sr, ok, ht, fun v d H2 G2 l2 e ok2 rv q => L Γ H2 G2 l2 v d Q Q' ok2 rv q (Post.mono hQ e)⟩
end
section
variable {X : Cx} {Γ : En} {a b c e : Expr} {es : List Expr} {pos : Pos} {ta tb tc te : DE}
theorem qe_of {t : TE} {t' : DE} (h : PE X e t) (m : ∀ σ H Q, le X.K Γ t' σ H Q → t σ H Q) : QE X Γ e t' := PE.imp h m
theorem qv (i : Nat) {x : Str} {pos : Pos} (hN : X.N[i]? = some x := by rfl) (hv : Vis X.env.scope x := by first | exact Or.inl rfl | exact Or.inr (Or.inl rfl) | exact Or.inr (Or.inr rfl)) (hd : (x == ("__debug__" : Str)) = false := by decide)
    (hcd : (x == ("__classdict__" : Str)) = false := by decide) : QE X Γ (.Name x pos) (dVar i) :=
  PE.imp (pe_var hN hv hd hcd) fun σ H Q h => by
    obtain ⟨G, τ, l, Q', sr, ok, ⟨d, hd, hq⟩, hQ⟩ := h
    obtain ⟨v, hv, rv⟩ := sr.2 i d hd
    exact ⟨v, hv, hQ v d H G l (GLe.refl G) ok rv hq⟩
theorem qc_of {v : V} {d : D} (h : PE X e (tC v)) (r : ∀ G, RV X.K G v d) : QE X Γ e (dC d) :=
  PE.imp h fun σ H Q h => by
    obtain ⟨G, τ, l, Q', sr, ok, hq, hQ⟩ := h
    exact hQ v d H G l (GLe.refl G) ok (r G) hq
theorem q_int {i j pos} : QE X Γ (.Constant (.int i) j pos) (dC (.int i)) := qc_of pe_int fun _ => .int i
theorem q_bl {i j pos} : QE X Γ (.Constant (.bool i) j pos) (dC (.bl i)) := qc_of pe_bl fun _ => .bl i
theorem q_non {j pos} : QE X Γ (.Constant .none j pos) (dC .non) := qc_of pe_non fun _ => .non
theorem q_str {i j pos} : QE X Γ (.Constant (.str i) j pos) (dC (.str i)) := qc_of pe_str fun _ => .str i
/-- a constant of the module -/
theorem q_gint {x : Str} {i : Int} (hg : Gl X x) (hm : ∃ t, X.mg x = some (.int i t)) (hd : (x == ("__debug__" : Str)) = false := by decide) : QE X Γ (.Name x pos) (dC (.int i)) := by
  obtain ⟨t, hm⟩ := hm
  exact qc_of (v := .int i) (pe_glob hg hm ⟨t, rfl⟩ hd) fun _ => .int i
theorem q_gtup {x : Str} {A : Addr} {xs : List V} {ds : List D} (hg : Gl X x) (hm : X.mg x = some (.ref A)) (ht : KT X.K A xs) (r : ∀ G, RVs X.K G xs ds) (hd : (x == ("__debug__" : Str)) = false := by decide) : QE X Γ (.Name x pos) (dC (.tup ds)) :=
  qc_of (v := .ref A) (pe_glob hg hm rfl hd) fun G => .tup (.inr ht) (r G)
theorem qa_nil : QA X Γ [] dNil := PA.imp pa_nil fun σ H Q h => by
  obtain ⟨G, τ, l, Q', sr, ok, hq, hQ⟩ := h
  exact hQ [] [] H G l (GLe.refl G) ok .nil hq
theorem qa_cons {t : DA} (ha : QE X Γ e te) (hr : QA X Γ es t) (hs : starEach (e :: es) X.env = (false, eval e X.env) :: starEach es X.env := by rfl) : QA X Γ (e :: es) (dCons te t) :=
  PA.imp (pa_cons ha hr hs) fun σ H Q h => by
    obtain ⟨G, τ, l, Q', sr, ok, ht, hQ⟩ := h
    exact ⟨G, τ, l, _, sr, ok, ht, fun v d H2 G2 l2 e ok2 rv q => ⟨G2, τ, l2, _, sr.mono e, ok2, q, fun vs ds H3 G3 l3 e2 ok3 rvs q2 =>
      hQ _ _ H3 G3 l3 (e.trans e2) ok3 (.cons (rv.mono e2) rvs) q2⟩⟩
theorem qk_nil : PK X [] (la X.K Γ dNil) := PK.imp pk_nil fun σ H Q h => by
  obtain ⟨G, τ, l, Q', sr, ok, hq, hQ⟩ := h
  exact hQ [] [] H G l (GLe.refl G) ok .nil hq
theorem qk_cons {t : DA} {nm : Option Str} {kpos : Pos} {kws : List Keyword} (ha : QE X Γ e te) (hr : PK X kws (la X.K Γ t)) : PK X (⟨nm, e, kpos⟩ :: kws) (la X.K Γ (dCons te t)) :=
  PK.imp (pk_cons ha hr) fun σ H Q h => by
    obtain ⟨G, τ, l, Q', sr, ok, ht, hQ⟩ := h
    exact ⟨G, τ, l, _, sr, ok, ht, fun v d H2 G2 l2 e ok2 rv q => ⟨G2, τ, l2, _, sr.mono e, ok2, q, fun vs ds H3 G3 l3 e2 ok3 rvs q2 =>
      hQ _ _ H3 G3 l3 (e.trans e2) ok3 (.cons (rv.mono e2) rvs) q2⟩⟩
theorem q_op {op : Operator} {r : R2} {r' : D2} (ho : OpR X (binaryOp op) r) (L : Lift2 X.K r' r) (ha : QE X Γ a ta) (hb : QE X Γ b tb) : QE X Γ (.BinOp a op b pos) (dOp r' ta tb) :=
  PE.imp (pe_op ho ha hb) fun σ H Q h => le_two L h
theorem q_un {op : UnaryOp} {r : V → Hp → VK → Prop} {r' : D1} (ho : UnR X (unaryOp op) r) (L : Lift1 X.K r' r) (ha : QE X Γ a ta) : QE X Γ (.UnaryOp op a pos) (dUn r' ta) :=
  PE.imp (pe_un ho ha) fun σ H Q h => le_one L h
theorem q_cmp {op : CmpOp} {r : R2} {r' : D2} (ho : OpR X (compareOp op) r) (L : Lift2 X.K r' r) (ha : QE X Γ a ta) (hb : QE X Γ b tb) (hm : behindInMarks op b = false) : QE X Γ (.Compare a [op] [b] pos) (dOp r' ta tb) :=
  PE.imp (pe_cmpR ho ha hb hm) fun σ H Q h => le_two L h
/-- a value that is a bool, as a test -/
def dB (t : DE) : DT := fun τ l Q => t τ l fun d l1 => ∃ b, d = .bl b ∧ Q b l1
theorem lt_B {K : PySem.W.Frag} {t : DE} {σ : L2.St} {H : Hp} {Q : Bool → Hp → Prop} (h : lt K Γ (dB t) σ H Q) : le K Γ t σ H fun x H1 => ∃ c, x = .bl c ∧ Q c H1 := by
  obtain ⟨G, τ, l, Q', sr, ok, ht, hQ⟩ := h
  refine ⟨G, τ, l, _, sr, ok, ht, fun v d H2 G2 l2 e ok2 rv q => ?_⟩
  obtain ⟨b, rfl, q⟩ := q
  cases rv
  exact ⟨b, rfl, hQ b H2 G2 l2 e ok2 q⟩
theorem t_cmp {op : CmpOp} {r : R2} {r' : D2} (ho : OpR X (compareOp op) r) (L : Lift2 X.K r' r) (ha : QE X Γ a ta) (hb : QE X Γ b tb) (hm : behindInMarks op b = false) : QT X Γ (.Compare a [op] [b] pos) (dB (dOp r' ta tb)) :=
  PT.imp (pt_cmpR ho ha hb hm) fun σ H Q h => by
    have h1 := lt_B h
    exact le_two L h1
theorem t_val (h : QE X Γ e te) (he : ∀ whole, isTrue e X.env whole = (do let v ← whole; standAt e.pos; holding [v] (truthy v)) := by intro _; rfl) : QT X Γ e (dB te) :=
  PT.imp (pt_val h he) fun σ H Q h => lt_B h
variable {tA tB : DT} {rest : List Expr}
def dAnd (t u : DT) : DT := fun τ l Q => t τ l fun c l1 => if c = true then u τ l1 Q else Q false l1
def dOr (t u : DT) : DT := fun τ l Q => t τ l fun c l1 => if c = true then Q true l1 else u τ l1 Q
def dNot (t : DT) : DT := fun τ l Q => t τ l fun c l1 => Q (!c) l1
theorem w_and1 (ha : QT X Γ a tA) : QW X Γ (.BoolOp .And [a] pos) tA := pw_and1 ha
theorem w_or1 (ha : QT X Γ a tA) : QW X Γ (.BoolOp .Or [a] pos) tA := pw_or1 ha
theorem w_and (ha : QT X Γ a tA) (hb : QW X Γ (.BoolOp .And (b :: rest) pos) tB) : QW X Γ (.BoolOp .And (a :: b :: rest) pos) (dAnd tA tB) :=
  PW.imp (pw_and ha hb) fun σ H Q h => by
    obtain ⟨G, τ, l, Q', sr, ok, ht, hQ⟩ := h
    refine ⟨G, τ, l, _, sr, ok, ht, fun c H2 G2 l2 e ok2 q => ?_⟩
    cases c
    · exact hQ false H2 G2 l2 e ok2 q
    · exact ⟨G2, τ, l2, Q', sr.mono e, ok2, q, fun b H3 G3 l3 e2 => hQ b H3 G3 l3 (e.trans e2)⟩
theorem w_or (ha : QT X Γ a tA) (hb : QW X Γ (.BoolOp .Or (b :: rest) pos) tB) : QW X Γ (.BoolOp .Or (a :: b :: rest) pos) (dOr tA tB) :=
  PW.imp (pw_or ha hb) fun σ H Q h => by
    obtain ⟨G, τ, l, Q', sr, ok, ht, hQ⟩ := h
    refine ⟨G, τ, l, _, sr, ok, ht, fun c H2 G2 l2 e ok2 q => ?_⟩
    cases c
    · exact ⟨G2, τ, l2, Q', sr.mono e, ok2, q, fun b H3 G3 l3 e2 => hQ b H3 G3 l3 (e.trans e2)⟩
    · exact hQ true H2 G2 l2 e ok2 q
theorem t_w (h : QW X Γ e tA) : QT X Γ e tA := PW.pt h
theorem t_not (ha : QT X Γ a tA) : QT X Γ (.UnaryOp .Not a pos) (dNot tA) :=
  PT.imp (pt_not ha) fun σ H Q h => by
    obtain ⟨G, τ, l, Q', sr, ok, ht, hQ⟩ := h
    exact ⟨G, τ, l, _, sr, ok, ht, fun c H2 G2 l2 e ok2 q => hQ _ H2 G2 l2 e ok2 q⟩
/-- and, or, not as values of bools -/
def dAndV (t u : DE) : DE := fun τ l Q => t τ l fun x l1 => ∃ c, x = .bl c ∧ if c = true then u τ l1 Q else Q (.bl false) l1
def dOrV (t u : DE) : DE := fun τ l Q => t τ l fun x l1 => ∃ c, x = .bl c ∧ if c = true then Q (.bl true) l1 else u τ l1 Q
def dNotV (t : DE) : DE := fun τ l Q => t τ l fun x l1 => ∃ c, x = .bl c ∧ Q (.bl (!c)) l1
theorem q_one {op} (h : QE X Γ a ta) : QE X Γ (.BoolOp op [a] pos) ta := pe_one h
theorem q_and (ha : QE X Γ a ta) (hb : QE X Γ (.BoolOp .And (b :: rest) pos) tb) : QE X Γ (.BoolOp .And (a :: b :: rest) pos) (dAndV ta tb) :=
  PE.imp (pe_and ha hb) fun σ H Q h => by
    obtain ⟨G, τ, l, Q', sr, ok, ht, hQ⟩ := h
    refine ⟨G, τ, l, _, sr, ok, ht, fun v d H2 G2 l2 e ok2 rv q => ?_⟩
    obtain ⟨c, rfl, q⟩ := q
    cases rv
    refine ⟨c, rfl, ?_⟩
    cases c
    · exact hQ _ _ H2 G2 l2 e ok2 (.bl false) q
    · exact ⟨G2, τ, l2, Q', sr.mono e, ok2, q, fun v d H3 G3 l3 e2 => hQ v d H3 G3 l3 (e.trans e2)⟩
theorem q_or (ha : QE X Γ a ta) (hb : QE X Γ (.BoolOp .Or (b :: rest) pos) tb) : QE X Γ (.BoolOp .Or (a :: b :: rest) pos) (dOrV ta tb) :=
  PE.imp (pe_or ha hb) fun σ H Q h => by
    obtain ⟨G, τ, l, Q', sr, ok, ht, hQ⟩ := h
    refine ⟨G, τ, l, _, sr, ok, ht, fun v d H2 G2 l2 e ok2 rv q => ?_⟩
    obtain ⟨c, rfl, q⟩ := q
    cases rv
    refine ⟨c, rfl, ?_⟩
    cases c
    · exact ⟨G2, τ, l2, Q', sr.mono e, ok2, q, fun v d H3 G3 l3 e2 => hQ v d H3 G3 l3 (e.trans e2)⟩
    · exact hQ _ _ H2 G2 l2 e ok2 (.bl true) q
theorem q_not (ha : QE X Γ a ta) : QE X Γ (.UnaryOp .Not a pos) (dNotV ta) :=
  PE.imp (pe_not ha) fun σ H Q h => by
    obtain ⟨G, τ, l, Q', sr, ok, ht, hQ⟩ := h
    refine ⟨G, τ, l, _, sr, ok, ht, fun v d H2 G2 l2 e ok2 rv q => ?_⟩
    obtain ⟨c, rfl, q⟩ := q
    cases rv
    exact ⟨c, rfl, hQ _ _ H2 G2 l2 e ok2 (.bl _) q⟩
def dIf (t : DT) (ta tb : DE) : DE := fun τ l Q => t τ l fun c l1 => if c = true then ta τ l1 Q else tb τ l1 Q
theorem q_if (hc : QT X Γ c tA) (ha : QE X Γ a ta) (hb : QE X Γ b tb) : QE X Γ (.IfExp c a b pos) (dIf tA ta tb) :=
  PE.imp (pe_ifExp hc ha hb) fun σ H Q h => by
    obtain ⟨G, τ, l, Q', sr, ok, ht, hQ⟩ := h
    refine ⟨G, τ, l, _, sr, ok, ht, fun c H2 G2 l2 e ok2 q => ?_⟩
    cases c
    · exact ⟨G2, τ, l2, Q', sr.mono e, ok2, q, fun v d H3 G3 l3 e2 => hQ v d H3 G3 l3 (e.trans e2)⟩
    · exact ⟨G2, τ, l2, Q', sr.mono e, ok2, q, fun v d H3 G3 l3 e2 => hQ v d H3 G3 l3 (e.trans e2)⟩
/-- a new list: in the small heap, or frozen at once -/
def newL (ds : List D) (l : M) (Q : DK) : Prop := (∀ p, Q (.ref p) ((p, .lst ds) :: l)) ∨ Q (.lst ds) l
theorem newL_ok {K : PySem.W.Frag} {H : Hp} {G : GM} {l : M} {xs : List V} {ds : List D} {Q : VK} {Q' : DK} (ok : Ok K Γ H G l) (r : RVs K G xs ds) (h : newL ds l Q') (hQ : Post K Γ G Q' Q) (p : Addr) (n : H p = none) : Q (.ref p) (upd H p (.lst xs)) := by
  rcases h with h | h
  · exact hQ _ _ _ G _ (GLe.refl G) (ok.newMut (o := .lst ds) n ⟨xs, upd_same, r⟩) (.ref p) (h p)
  · have e : GLe G (setG G p (.lst xs)) := GLe.set (ok.free n)
    exact hQ _ _ _ _ _ e (ok.newLst n) (.lst setG_same (r.mono e)) h
theorem newT_ok {K : PySem.W.Frag} {H : Hp} {G : GM} {l : M} {xs : List V} {ds : List D} {Q : VK} {Q' : DK} (ok : Ok K Γ H G l) (r : RVs K G xs ds) (h : Q' (.tup ds) l) (hQ : Post K Γ G Q' Q) (p : Addr) (n : H p = none) : Q (.ref p) (upd H p (.tup xs)) := by
  have e : GLe G (setG G p (.tup xs)) := GLe.set (ok.free n)
  exact hQ _ _ _ _ _ e (ok.newTup n) (.tup (.inl setG_same) (r.mono e)) h
def dTup (t : DA) : DE := fun τ l Q => t τ l fun ds l1 => ds.length ≤ 16777216 ∧ Q (.tup ds) l1
def dLst (t : DA) : DE := fun τ l Q => t τ l fun ds l1 => ds.length ≤ 16777216 ∧ newL ds l1 Q
theorem line_of {n : Nat} (h : n ≤ 16777216) : n ≤ sizeLine := h
theorem q_tup {t : DA} {x1} (h : QA X Γ es t) : QE X Γ (.Tuple es x1 pos) (dTup t) :=
  PE.imp (pe_tup h) fun σ H Q h => by
    obtain ⟨G, τ, l, Q', sr, ok, ht, hQ⟩ := h
    exact ⟨G, τ, l, _, sr, ok, ht, fun vs ds H2 G2 l2 e ok2 rv q => ⟨by rw [rv.length]; exact q.1, fun p n => newT_ok ok2 rv q.2 (Post.mono hQ e) p n⟩⟩
theorem q_lst {t : DA} (h : QA X Γ es t) : QE X Γ (.List es pos) (dLst t) :=
  PE.imp (pe_lst h) fun σ H Q h => by
    obtain ⟨G, τ, l, Q', sr, ok, ht, hQ⟩ := h
    exact ⟨G, τ, l, _, sr, ok, ht, fun vs ds H2 G2 l2 e ok2 rv q => ⟨by rw [rv.length]; exact q.1, fun p n => newL_ok ok2 rv q.2 (Post.mono hQ e) p n⟩⟩
end
end Z

namespace Z
open PySem PySem.Spec PyProof.Rows L2
/-! ### sequences in data -/
/-- a tracked list -/
def asM (l : M) : D → List D → Prop
  | .lst xs, ds => xs = ds
  | .ref a, ds => (a, MO.lst ds) ∈ l
  | _, _ => False
/-- a list, read -/
def asL (l : M) : D → List D → Prop
  | .lst xs, ds => xs = ds
  | .scr xs, ds => xs = ds
  | .ref a, ds => (a, MO.lst ds) ∈ l
  | _, _ => False
/-- a list or a tuple, read -/
def asQ (l : M) : D → List D → Prop
  | .lst xs, ds => xs = ds
  | .scr xs, ds => xs = ds
  | .tup xs, ds => xs = ds
  | .ref a, ds => (a, MO.lst ds) ∈ l
  | _, _ => False
section
variable {K : PySem.W.Frag} {Γ : En} {H : Hp} {G : GM} {l : M} {v : V} {d : D} {ds : List D}
theorem asM_at (ok : Ok K Γ H G l) (r : RV K G v d) (h : asM l d ds) : ∃ a xs, v = .ref a ∧ H a = some (.lst xs) ∧ RVs K G xs ds := by
  cases r with
  | lst p r => cases h; exact ⟨_, _, rfl, ok.lstH p, r⟩
  | ref a => obtain ⟨xs, e, r⟩ := ok.mem _ h; exact ⟨_, xs, rfl, e, r⟩
  | _ => exact h.elim
theorem asL_at (ok : Ok K Γ H G l) (r : RV K G v d) (h : asL l d ds) : ∃ a xs, v = .ref a ∧ SqL K H a xs ∧ RVs K G xs ds := by
  cases r with
  | lst p r => cases h; exact ⟨_, _, rfl, SqL.of (ok.lstH p), r⟩
  | scr p r => cases h; exact ⟨_, _, rfl, ok.sqL p, r⟩
  | ref a => obtain ⟨xs, e, r⟩ := ok.mem _ h; exact ⟨_, xs, rfl, SqL.of e, r⟩
  | _ => exact h.elim
theorem asQ_at (ok : Ok K Γ H G l) (r : RV K G v d) (h : asQ l d ds) : ∃ a xs, v = .ref a ∧ (SqL K H a xs ∨ SqT K H a xs) ∧ RVs K G xs ds := by
  cases r with
  | lst p r => cases h; exact ⟨_, _, rfl, .inl (SqL.of (ok.lstH p)), r⟩
  | scr p r => cases h; exact ⟨_, _, rfl, .inl (ok.sqL p), r⟩
  | tup p r => cases h; exact ⟨_, _, rfl, .inr (ok.sqT p), r⟩
  | ref a => obtain ⟨xs, e, r⟩ := ok.mem _ h; exact ⟨_, xs, rfl, .inl (SqL.of e), r⟩
  | _ => exact h.elim
theorem RVs.ints : ∀ {ns : List Int} {xs : List V}, RVs K G xs (ns.map D.int) → xs = ns.map V.int
  | [], _, .nil => rfl
  | n :: ns, _, .cons h t => by cases h; rw [RVs.ints t]; rfl
theorem RVs.strs : ∀ {ns : List Str} {xs : List V}, RVs K G xs (ns.map D.str) → xs = ns.map V.str
  | [], _, .nil => rfl
  | n :: ns, _, .cons h t => by cases h; rw [RVs.strs t]; rfl
theorem RVs.bls : ∀ {ns : List Bool} {xs : List V}, RVs K G xs (ns.map D.bl) → xs = ns.map V.bl
  | [], _, .nil => rfl
  | n :: ns, _, .cons h t => by cases h; rw [RVs.bls t]; rfl
theorem RVs.ofInts (ns : List Int) : RVs K G (ns.map V.int) (ns.map D.int) := by
  induction ns with
  | nil => exact .nil
  | cons n ns ih => exact .cons (.int n) ih
end
/-! ### arithmetic -/
def MulOk (i j : Int) : Prop := CMul i j ∨ CMulW i j
def DivOk (i j : Int) : Prop := 0 < j ∧ (j < 1073741824 ∨ j.natAbs.log2 < 9000)
def oAdd : D2 := fun x y l Q => match x, y with
  | .int i, .int j => Q (.int (i + j)) l
  | .str a, .str b => a.length + b.length ≤ 16777216 ∧ Q (.str (a ++ b)) l
  | .tup xs, .tup ys => xs.length + ys.length ≤ 16777216 ∧ Q (.tup (xs ++ ys)) l
  | x, y => ∃ xs ys, asM l x xs ∧ asM l y ys ∧ xs.length + ys.length ≤ 16777216 ∧ newL (xs ++ ys) l Q
def oSub : D2 := fun x y l Q => match x, y with
  | .int i, .int j => Q (.int (i - j)) l
  | _, _ => False
def oMul : D2 := fun x y l Q => match x, y with
  | .int i, .int j => MulOk i j ∧ Q (.int (i * j)) l
  | _, _ => False
def oDiv : D2 := fun x y l Q => match x, y with
  | .int i, .int j => DivOk i j ∧ Q (.int (i / j)) l
  | _, _ => False
def oMod : D2 := fun x y l Q => match x, y with
  | .int i, .int j => 0 < j ∧ Q (.int (i % j)) l
  | _, _ => False
def oPow : D2 := fun x y l Q => match x, y with
  | .int i, .int j => CPow i j ∧ Q (.int (i ^ j.toNat)) l
  | _, _ => False
def oNeg : D1 := fun x l Q => match x with
  | .int i => Q (.int (-i)) l
  | _ => False
section
variable {X : Cx} {K : PySem.W.Frag}
theorem post_of {Γ : En} {H : Hp} {G : GM} {l : M} {Q : VK} {Q' : DK} {v : V} {d : D} (ok : Ok K Γ H G l) (hQ : Post K Γ G Q' Q) (r : RV K G v d) (q : Q' d l) : Q v H := hQ v d H G l (GLe.refl G) ok r q
abbrev rAddV (K : PySem.W.Frag) : R2 := fun x y H Q => (rI0 fun i j => .int (i + j)) x y H Q ∨ ((∃ i j, x = .str i ∧ y = .str j ∧ i.length + j.length ≤ sizeLine ∧ Q (.str (i ++ j)) H) ∨ (rCatA K x y H Q ∨ rCat x y H Q))
theorem op_addV : OpR X (binaryOp .Add) (rAddV X.K) := OpR.or op_add (OpR.or op_add_str (OpR.or op_catA op_cat))
theorem l_add : Lift2 K oAdd (rAddV K) := by
  intro Γ H G l x y a b Q Q' ok rx ry h hQ
  have gen : (∃ xs ys, asM l a xs ∧ asM l b ys ∧ xs.length + ys.length ≤ 16777216 ∧ newL (xs ++ ys) l Q') → rAddV K x y H Q := by
    rintro ⟨xs, ys, h1, h2, hz, hn⟩
    obtain ⟨p, us, rfl, e1, r1⟩ := asM_at ok rx h1
    obtain ⟨q, ws, rfl, e2, r2⟩ := asM_at ok ry h2
    refine .inr (.inr (.inr ⟨p, q, us, ws, rfl, rfl, e1, e2, by rw [r1.length, r2.length]; exact hz, fun t n => ?_⟩))
    exact newL_ok ok (r1.append r2) hn hQ t n
  cases a <;> cases b <;> first | exact gen h | skip
  case int.int i j => cases rx; cases ry; exact .inl ⟨i, j, rfl, rfl, post_of ok hQ (.int _) h⟩
  case str.str i j => cases rx; cases ry; exact .inr (.inl ⟨i, j, rfl, rfl, h.1, post_of ok hQ (.str _) h.2⟩)
  case tup.tup xs ys =>
    cases rx with
    | tup p1 r1 => cases ry with
      | tup p2 r2 =>
        rename_i a1 us a2 ws
        refine .inr (.inr (.inl ⟨a1, a2, us, ws, rfl, rfl, ok.sqT p1, ok.sqT p2, by rw [r1.length, r2.length]; exact h.1, fun e => ?_, fun _ e => ?_, fun _ _ p n => newT_ok ok (r1.append r2) h.2 hQ p n⟩))
        · subst e; cases r1; exact post_of ok hQ (.tup p2 r2) h.2
        · subst e; cases r2; exact post_of ok hQ (.tup p1 r1) (by have := h.2; rwa [List.append_nil] at this)
theorem l_int2 {C : Int → Int → Prop} {g : Int → Int → Int} {r : D2} (hr : ∀ a b l Q, r a b l Q → ∃ i j, a = .int i ∧ b = .int j ∧ C i j ∧ Q (.int (g i j)) l) : Lift2 K r (rI C fun i j => .int (g i j)) := by
  intro Γ H G l x y a b Q Q' ok rx ry h hQ
  obtain ⟨i, j, rfl, rfl, c, q⟩ := hr _ _ _ _ h
  cases rx; cases ry
  exact ⟨i, j, rfl, rfl, c, post_of ok hQ (.int _) q⟩
theorem l_sub : Lift2 K oSub (rI0 fun i j => .int (i - j)) := by
  intro Γ H G l x y a b Q Q' ok rx ry h hQ
  cases a <;> cases b <;> first | exact h.elim | skip
  cases rx; cases ry
  exact ⟨_, _, rfl, rfl, post_of ok hQ (.int _) h⟩
theorem op_mulV : OpR X (binaryOp .Mult) (fun x y H Q => rI CMul (fun i j => .int (i * j)) x y H Q ∨ rI CMulW (fun i j => .int (i * j)) x y H Q) := OpR.or op_mul op_mulW
theorem l_mul : Lift2 K oMul (fun x y H Q => rI CMul (fun i j => .int (i * j)) x y H Q ∨ rI CMulW (fun i j => .int (i * j)) x y H Q) := by
  intro Γ H G l x y a b Q Q' ok rx ry h hQ
  cases a <;> cases b <;> first | exact h.elim | skip
  cases rx; cases ry
  rcases h.1 with c | c
  · exact .inl ⟨_, _, rfl, rfl, c, post_of ok hQ (.int _) h.2⟩
  · exact .inr ⟨_, _, rfl, rfl, c, post_of ok hQ (.int _) h.2⟩
theorem op_divV : OpR X (binaryOp .FloorDiv) (fun x y H Q => rI CDiv (fun i j => .int (i / j)) x y H Q ∨ rI CDivW (fun i j => .int (i / j)) x y H Q) := OpR.or op_fdiv op_fdivW
theorem l_div : Lift2 K oDiv (fun x y H Q => rI CDiv (fun i j => .int (i / j)) x y H Q ∨ rI CDivW (fun i j => .int (i / j)) x y H Q) := by
  intro Γ H G l x y a b Q Q' ok rx ry h hQ
  cases a <;> cases b <;> first | exact h.elim | skip
  cases rx; cases ry
  obtain ⟨⟨h0, c | c⟩, h⟩ := h
  · exact .inl ⟨_, _, rfl, rfl, ⟨h0, c⟩, post_of ok hQ (.int _) h⟩
  · exact .inr ⟨_, _, rfl, rfl, ⟨h0, c⟩, post_of ok hQ (.int _) h⟩
theorem l_mod : Lift2 K oMod (rI (fun _ j => 0 < j) fun i j => .int (i % j)) := by
  intro Γ H G l x y a b Q Q' ok rx ry h hQ
  cases a <;> cases b <;> first | exact h.elim | skip
  cases rx; cases ry
  exact ⟨_, _, rfl, rfl, h.1, post_of ok hQ (.int _) h.2⟩
theorem l_pow : Lift2 K oPow (rI CPow fun i j => .int (i ^ j.toNat)) := by
  intro Γ H G l x y a b Q Q' ok rx ry h hQ
  cases a <;> cases b <;> first | exact h.elim | skip
  cases rx; cases ry
  exact ⟨_, _, rfl, rfl, h.1, post_of ok hQ (.int _) h.2⟩
theorem l_neg : Lift1 K oNeg (rU fun i => .int (-i)) := by
  intro Γ H G l x a Q Q' ok rx h hQ
  cases a <;> first | exact h.elim | skip
  cases rx
  exact ⟨_, rfl, post_of ok hQ (.int _) h⟩
end
/-! ### comparisons -/
/-- what == reads -/
inductive Py (l : M) : D → PyData → Prop
  | non : Py l .non .none
  | bl (b : Bool) : Py l (.bl b) (.bool b)
  | int (i : Int) : Py l (.int i) (.int i)
  | str (x : Str) : Py l (.str x) (.str x)
  | tup {ds : List D} {ps : List PyData} (h : Paired (Py l) ds ps) : Py l (.tup ds) (.tuple ps)
  | lst {ds : List D} {ps : List PyData} (h : Paired (Py l) ds ps) : Py l (.lst ds) (.list ps)
  | scr {ds : List D} {ps : List PyData} (h : Paired (Py l) ds ps) : Py l (.scr ds) (.list ps)
  | ref {a : Addr} {ds : List D} {ps : List PyData} (m : (a, MO.lst ds) ∈ l) (h : Paired (Py l) ds ps) : Py l (.ref a) (.list ps)
section
variable {K : PySem.W.Frag} {Γ : En} {H : Hp} {G : GM} {l : M}
mutual
theorem Py.dp (ok : Ok K Γ H G l) : ∀ (p : PyData) (d : D) (v : V), Py l d p → RV K G v d → Dp K H v p
  | .none, _, _, .non, .non => .non
  | .bool _, _, _, .bl b, .bl _ => .bl b
  | .int _, _, _, .int i, .int _ => .int i
  | .str _, _, _, .str x, .str _ => .str x
  | .tuple ps, _, _, .tup h, .tup p r => .tup (ok.sqT p) (Py.dpAll ok ps _ _ h r)
  | .list ps, _, _, .lst h, .lst p r => .lst (SqL.of (ok.lstH p)) (Py.dpAll ok ps _ _ h r)
  | .list ps, _, _, .scr h, .scr p r => .lst (ok.sqL p) (Py.dpAll ok ps _ _ h r)
  | .list ps, _, _, .ref (a := a) m h, rr => by
    cases rr
    obtain ⟨xs, e, r⟩ := ok.mem _ m
    exact .lst (SqL.of e) (Py.dpAll ok ps _ _ h r)
theorem Py.dpAll (ok : Ok K Γ H G l) : ∀ (ps : List PyData) (ds : List D) (vs : List V), Paired (Py l) ds ps → RVs K G vs ds → DpAll K H vs ps
  | [], _, _, .nil, .nil => .nil
  | p :: ps, _, _, .cons h t, .cons r rs => .cons (Py.dp ok p _ _ h r) (Py.dpAll ok ps _ _ t rs)
end
end
def eqG (l : M) (x y : D) (f : Bool → Bool) (Q : DK) : Prop := ∃ p q, Py l x p ∧ Py l y q ∧ SeqAt.shaped p = true ∧ SeqAt.shaped q = true ∧ Q (.bl (f (PyData.eqv p q))) l
def oEqF (f : Bool → Bool) : D2 := fun x y l Q => match x, y with
  | .int i, .int j => Q (.bl (f (decide (i = j)))) l
  | .str i, .str j => Q (.bl (f (decide (i = j)))) l
  | .bl i, .bl j => Q (.bl (f (decide (i = j)))) l
  | x, y => eqG l x y f Q
abbrev oEq : D2 := oEqF id
abbrev oNe : D2 := oEqF (!·)
def oCmp (f : Int → Int → Bool) (g : Str → Str → Bool) : D2 := fun x y l Q => match x, y with
  | .int i, .int j => Q (.bl (f i j)) l
  | .str i, .str j => Q (.bl (g i j)) l
  | _, _ => False
abbrev strLt (i j : Str) : Bool := decide (i.cps.toList < j.cps.toList)
abbrev strLe (i j : Str) : Bool := !decide (j.cps.toList < i.cps.toList)
abbrev oLt : D2 := oCmp (fun i j => decide (i < j)) strLt
abbrev oLe : D2 := oCmp (fun i j => decide (i ≤ j)) strLe
def oGt : D2 := fun x y l Q => match x, y with
  | .int i, .int j => Q (.bl (decide (j < i))) l
  | _, _ => False
def oGe : D2 := fun x y l Q => match x, y with
  | .int i, .int j => Q (.bl (decide (j ≤ i))) l
  | _, _ => False
/-- x is None -/
def nonB : D → Bool
  | .non => true
  | _ => false
def oIs : D2 := fun x y l Q => y = .non ∧ Q (.bl (nonB x)) l
def oIsN : D2 := fun x y l Q => y = .non ∧ Q (.bl (!nonB x)) l
section
variable {X : Cx} {K : PySem.W.Frag}
theorem op_eqV (hu : X.A.units + 64 < cLine) : OpR X (compareOp .Eq) (fun x y H Q => rEq x y H Q ∨ rEqD X.K x y H Q) := OpR.or op_eq (op_eqD hu)
theorem op_neV (hu : X.A.units + 64 < cLine) : OpR X (compareOp .NotEq) (fun x y H Q => rNe x y H Q ∨ rNeD X.K x y H Q) := OpR.or op_ne (op_neD hu)
theorem dI {i j : Int} : decide (V.int i = V.int j) = decide (i = j) := by
  by_cases h : i = j
  · subst h; simp
  · rw [decide_eq_false h, decide_eq_false (fun e => h (V.int.inj e))]
theorem dS {i j : Str} : decide (V.str i = V.str j) = decide (i = j) := by
  by_cases h : i = j
  · subst h; simp
  · rw [decide_eq_false h, decide_eq_false (fun e => h (V.str.inj e))]
theorem dBl {i j : Bool} : decide (V.bl i = V.bl j) = decide (i = j) := by
  by_cases h : i = j
  · subst h; simp
  · rw [decide_eq_false h, decide_eq_false (fun e => h (V.bl.inj e))]
theorem l_eq : Lift2 K oEq (fun x y H Q => rEq x y H Q ∨ rEqD K x y H Q) := by
  intro Γ H G l x y a b Q Q' ok rx ry h hQ
  have gen : eqG l a b id Q' → rEq x y H Q ∨ rEqD K x y H Q := by
    rintro ⟨p, q, h1, h2, s1, s2, q1⟩
    exact .inr ⟨p, q, h1.dp ok _ _ _ rx, h2.dp ok _ _ _ ry, s1, s2, post_of ok hQ (.bl _) q1⟩
  cases a <;> cases b <;> first | exact gen h | skip
  case int.int i j => cases rx; cases ry; exact .inl ⟨rfl, by rw [dI]; exact post_of ok hQ (.bl _) h⟩
  case str.str i j => cases rx; cases ry; exact .inl ⟨rfl, by rw [dS]; exact post_of ok hQ (.bl _) h⟩
  case bl.bl i j => cases rx; cases ry; exact .inl ⟨rfl, by rw [dBl]; exact post_of ok hQ (.bl _) h⟩
theorem l_ne : Lift2 K oNe (fun x y H Q => rNe x y H Q ∨ rNeD K x y H Q) := by
  intro Γ H G l x y a b Q Q' ok rx ry h hQ
  have gen : eqG l a b (!·) Q' → rNe x y H Q ∨ rNeD K x y H Q := by
    rintro ⟨p, q, h1, h2, s1, s2, q1⟩
    exact .inr ⟨p, q, h1.dp ok _ _ _ rx, h2.dp ok _ _ _ ry, s1, s2, post_of ok hQ (.bl _) q1⟩
  cases a <;> cases b <;> first | exact gen h | skip
  case int.int i j => cases rx; cases ry; exact .inl ⟨rfl, by rw [dI]; exact post_of ok hQ (.bl _) h⟩
  case str.str i j => cases rx; cases ry; exact .inl ⟨rfl, by rw [dS]; exact post_of ok hQ (.bl _) h⟩
  case bl.bl i j => cases rx; cases ry; exact .inl ⟨rfl, by rw [dBl]; exact post_of ok hQ (.bl _) h⟩
theorem op_ltV : OpR X (compareOp .Lt) (fun x y H Q => (rI0 fun i j => .bl (decide (i < j))) x y H Q ∨ ∃ i j, x = .str i ∧ y = .str j ∧ Q (.bl (decide (i.cps.toList < j.cps.toList))) H) := OpR.or op_lt op_lt_str
theorem op_leV : OpR X (compareOp .LtE) (fun x y H Q => (rI0 fun i j => .bl (decide (i ≤ j))) x y H Q ∨ ∃ i j, x = .str i ∧ y = .str j ∧ Q (.bl (!decide (j.cps.toList < i.cps.toList))) H) := OpR.or op_le op_le_str
theorem l_lt : Lift2 K oLt (fun x y H Q => (rI0 fun i j => .bl (decide (i < j))) x y H Q ∨ ∃ i j, x = .str i ∧ y = .str j ∧ Q (.bl (decide (i.cps.toList < j.cps.toList))) H) := by
  intro Γ H G l x y a b Q Q' ok rx ry h hQ
  cases a <;> cases b <;> first | exact h.elim | skip
  case int.int i j => cases rx; cases ry; exact .inl ⟨_, _, rfl, rfl, post_of ok hQ (.bl _) h⟩
  case str.str i j => cases rx; cases ry; exact .inr ⟨_, _, rfl, rfl, post_of ok hQ (.bl _) h⟩
theorem l_le : Lift2 K oLe (fun x y H Q => (rI0 fun i j => .bl (decide (i ≤ j))) x y H Q ∨ ∃ i j, x = .str i ∧ y = .str j ∧ Q (.bl (!decide (j.cps.toList < i.cps.toList))) H) := by
  intro Γ H G l x y a b Q Q' ok rx ry h hQ
  cases a <;> cases b <;> first | exact h.elim | skip
  case int.int i j => cases rx; cases ry; exact .inl ⟨_, _, rfl, rfl, post_of ok hQ (.bl _) h⟩
  case str.str i j => cases rx; cases ry; exact .inr ⟨_, _, rfl, rfl, post_of ok hQ (.bl _) h⟩
theorem l_gt : Lift2 K oGt (rI0 fun i j => .bl (decide (j < i))) := by
  intro Γ H G l x y a b Q Q' ok rx ry h hQ
  cases a <;> cases b <;> first | exact h.elim | skip
  cases rx; cases ry; exact ⟨_, _, rfl, rfl, post_of ok hQ (.bl _) h⟩
theorem l_ge : Lift2 K oGe (rI0 fun i j => .bl (decide (j ≤ i))) := by
  intro Γ H G l x y a b Q Q' ok rx ry h hQ
  cases a <;> cases b <;> first | exact h.elim | skip
  cases rx; cases ry; exact ⟨_, _, rfl, rfl, post_of ok hQ (.bl _) h⟩
theorem nonB_of {G : GM} {x : V} {a : D} (r : RV K G x a) : decide (x = .non) = nonB a := by
  cases r <;> first | rfl | exact decide_eq_false (fun e => nomatch e)
theorem l_is : Lift2 K oIs (fun x y H Q => y = .non ∧ Q (.bl (decide (x = .non))) H) := by
  intro Γ H G l x y a b Q Q' ok rx ry h hQ
  obtain ⟨rfl, h⟩ := h
  cases ry
  exact ⟨rfl, by rw [nonB_of rx]; exact post_of ok hQ (.bl _) h⟩
theorem l_isN : Lift2 K oIsN (fun x y H Q => y = .non ∧ Q (.bl (!decide (x = .non))) H) := by
  intro Γ H G l x y a b Q Q' ok rx ry h hQ
  obtain ⟨rfl, h⟩ := h
  cases ry
  exact ⟨rfl, by rw [nonB_of rx]; exact post_of ok hQ (.bl _) h⟩
end
/-! ### in -/
def flatD : D → Bool
  | .non => true | .bl _ => true | .int _ => true | .str _ => true | _ => false
/-- == of flat data -/
def eqF : D → D → Bool
  | .non, .non => true
  | .bl a, .bl b => a == b
  | .bl a, .int b => (if a then 1 else 0) == b
  | .int a, .bl b => a == (if b then 1 else 0)
  | .int a, .int b => a == b
  | .str a, .str b => a == b
  | _, _ => false
def inD (x : D) (xs : List D) : Bool := xs.any fun y => eqF y x
def oInF (f : Bool → Bool) : D2 := fun x y l Q => ∃ ds, asQ l y ds ∧ flatD x = true ∧ ds.all flatD = true ∧ Q (.bl (f (inD x ds))) l
abbrev oIn : D2 := oInF id
abbrev oNotIn : D2 := oInF (!·)
section
variable {X : Cx} {K : PySem.W.Frag} {G : GM}
theorem flat_of {x : V} {a : D} (r : RV K G x a) (h : flatD a = true) : flatV x = true := by cases r <;> first | rfl | exact nomatch h
theorem eqF_of {x y : V} {a b : D} (r : RV K G x a) (q : RV K G y b) (h1 : flatD a = true) (h2 : flatD b = true) : eqV x y = eqF a b := by
  cases r <;> cases q <;> first | rfl | exact nomatch h1 | exact nomatch h2
theorem inD_of {x : V} {a : D} (r : RV K G x a) (h : flatD a = true) : ∀ {xs : List V} {ds : List D}, RVs K G xs ds → ds.all flatD = true → xs.all flatV = true ∧ inV x xs = inD a ds
  | _, _, .nil, _ => ⟨rfl, rfl⟩
  | _, _, .cons (v := v) (d := d) q t, e => by
    rw [List.all_cons] at e
    have e' := Bool.and_eq_true_iff.mp e
    obtain ⟨h1, h2⟩ := inD_of r h t e'.2
    refine ⟨by rw [List.all_cons, flat_of q e'.1, h1]; rfl, ?_⟩
    unfold inV inD at h2 ⊢
    rw [List.any_cons, List.any_cons, h2, eqF_of q r e'.1 h]
theorem l_in : Lift2 K oIn (rIn K false) := by
  intro Γ H G l x y a b Q Q' ok rx ry h hQ
  obtain ⟨ds, h1, h2, h3, q⟩ := h
  obtain ⟨p, xs, rfl, hs, r⟩ := asQ_at ok ry h1
  obtain ⟨f1, f2⟩ := inD_of rx h2 r h3
  exact ⟨p, xs, rfl, hs, flat_of rx h2, f1, by rw [f2]; exact post_of ok hQ (.bl _) q⟩
theorem l_notIn : Lift2 K oNotIn (rIn K true) := by
  intro Γ H G l x y a b Q Q' ok rx ry h hQ
  obtain ⟨ds, h1, h2, h3, q⟩ := h
  obtain ⟨p, xs, rfl, hs, r⟩ := asQ_at ok ry h1
  obtain ⟨f1, f2⟩ := inD_of rx h2 r h3
  exact ⟨p, xs, rfl, hs, flat_of rx h2, f1, by rw [f2]; exact post_of ok hQ (.bl _) q⟩
end
end Z

namespace Z
open PySem PySem.Spec PyProof.Rows L2
theorem bt_len : bootBuiltins "len" = some (.builtin "len") := by decide +kernel
theorem bt_abs : bootBuiltins "abs" = some (.builtin "abs") := by decide +kernel
theorem bt_max : bootBuiltins "max" = some (.builtin "max") := by decide +kernel
theorem bt_min : bootBuiltins "min" = some (.builtin "min") := by decide +kernel
theorem bt_sum : bootBuiltins "sum" = some (.builtin "sum") := by decide +kernel
theorem bt_any : bootBuiltins "any" = some (.builtin "any") := by decide +kernel
theorem bt_all : bootBuiltins "all" = some (.builtin "all") := by decide +kernel
theorem bt_int : bootBuiltins "int" = some (.type "int") := by decide +kernel
theorem bt_str : bootBuiltins "str" = some (.type "str") := by decide +kernel
theorem bt_bool : bootBuiltins "bool" = some (.type "bool") := by decide +kernel
theorem bt_list : bootBuiltins "list" = some (.type "list") := by decide +kernel
theorem bt_tuple : bootBuiltins "tuple" = some (.type "tuple") := by decide +kernel
theorem bt_dict : bootBuiltins "dict" = some (.type "dict") := by decide +kernel
theorem bt_isinstance : bootBuiltins "isinstance" = some (.builtin "isinstance") := by decide +kernel
theorem bt_sorted : bootBuiltins "sorted" = some (.builtin "sorted") := by decide +kernel
/-! ### built-in calls -/
def one (P : D → Prop) : List D → Prop
  | [x] => P x
  | _ => False
def oLen : DL := fun ds l Q => match ds with
  | [.str y] => y.length ≤ 16777216 ∧ Q (.int y.length) l
  | [x] => ∃ xs, asQ l x xs ∧ Q (.int xs.length) l
  | _ => False
def oAbs : DL := fun ds l Q => match ds with
  | [.int i] => Q (.int (if i < 0 then -i else i)) l
  | _ => False
def oMax : DL := fun ds l Q => match ds with
  | [.int i, .int j] => Q (.int (if j > i then j else i)) l
  | [x] => ∃ ns : List Int, asL l x (ns.map .int) ∧ 0 < ns.length ∧ ∀ m, m ∈ ns → (∀ y, y ∈ ns → y ≤ m) → Q (.int m) l
  | _ => False
def oMin : DL := fun ds l Q => match ds with
  | [.int i, .int j] => Q (.int (if j < i then j else i)) l
  | [x] => ∃ ns : List Int, asL l x (ns.map .int) ∧ 0 < ns.length ∧ ∀ m, m ∈ ns → (∀ y, y ∈ ns → m ≤ y) → Q (.int m) l
  | _ => False
def oSum : DL := fun ds l Q => one (fun x => ∃ ns : List Int, asL l x (ns.map .int) ∧ Q (.int ns.sum) l) ds
def oAny : DL := fun ds l Q => one (fun x => ∃ bs : List Bool, asL l x (bs.map .bl) ∧ Q (.bl (bs.any id)) l) ds
def oAll : DL := fun ds l Q => one (fun x => ∃ bs : List Bool, asL l x (bs.map .bl) ∧ Q (.bl (bs.all id)) l) ds
def oIntC : DL := fun ds l Q => match ds with
  | [.int i] => Q (.int i) l
  | [.bl k] => Q (.int (if k then 1 else 0)) l
  | _ => False
def oListC : DL := fun ds l Q => one (fun x => ∃ xs, asQ l x xs ∧ newL xs l Q) ds
def oTupC : DL := fun ds l Q => one (fun x => ∃ xs, asQ l x xs ∧ Q (.tup xs) l) ds
section
variable {X : Cx} {Γ : En} {x : Str} {p pos : Pos} {e : Expr} {es : List Expr} {id T : String} {r : List V → Hp → VK → Prop} {r' : DL} {t : DA}
theorem q_callB (hc : CallR X (.builtin id) r) (L : LiftL X.K r' r) (hv : bootBuiltins x = some (.builtin id)) (hg : Gl X x) (hm : X.mg x = none) (ha : QA X Γ (e :: es) t) (hn : x ≠ "__name__" := by decide) (hdb : (x == ("__debug__" : Str)) = false := by decide)
    (he : starEach (e :: es) X.env = (false, eval e X.env) :: starEach es X.env := by rfl) (hpl : (backTo pos (starEach es X.env)).any (·.1) = false := by rfl) : QE X Γ (.Call (.Name x p) (e :: es) [] pos) (dCB r' t) :=
  PE.imp (pe_callB hc hg hm hv ha hn hdb he hpl) fun σ H Q h => le_args L h
theorem q_callTy (hc : CallR X (.type T) r) (L : LiftL X.K r' r) (hv : bootBuiltins x = some (.type T)) (hg : Gl X x) (hm : X.mg x = none) (ha : QA X Γ (e :: es) t) (hn : x ≠ "__name__" := by decide) (hdb : (x == ("__debug__" : Str)) = false := by decide)
    (he : starEach (e :: es) X.env = (false, eval e X.env) :: starEach es X.env := by rfl) (hpl : (backTo pos (starEach es X.env)).any (·.1) = false := by rfl) : QE X Γ (.Call (.Name x p) (e :: es) [] pos) (dCB r' t) :=
  PE.imp (pe_callTy hc hg hm hv ha hn hdb he hpl) fun σ H Q h => le_args L h
variable {K : PySem.W.Frag}
theorem one_of {G : GM} {xs : List V} {ds : List D} {P : D → Prop} (r : RVs K G xs ds) (h : one P ds) : ∃ v d, xs = [v] ∧ ds = [d] ∧ RV K G v d ∧ P d := by
  cases r with
  | nil => exact h.elim
  | cons rd t =>
    cases t with
    | nil => exact ⟨_, _, rfl, rfl, rd, h⟩
    | cons _ _ => exact h.elim
theorem l_len : LiftL K oLen (fun xs H Q => ∃ x n, xs = [x] ∧ LenV K x H n ∧ Q (.int n) H) := by
  intro Γ H G l xs ds Q Q' ok r h hQ
  cases r with
  | nil => exact h.elim
  | cons rd rt =>
    rename_i v _ d _
    cases rt with
    | nil =>
      have gen : (∃ xs, asQ l d xs ∧ Q' (.int xs.length) l) → ∃ x n, [v] = [x] ∧ LenV K x H n ∧ Q (.int n) H := by
        rintro ⟨ys, h1, q⟩
        obtain ⟨p, us, rfl, hs, rs⟩ := asQ_at ok rd h1
        exact ⟨_, us.length, rfl, hs.imp (fun z => ⟨us, z, rfl⟩) (fun z => ⟨us, z, rfl⟩), by rw [rs.length]; exact post_of ok hQ (.int _) q⟩
      cases d <;> first | exact gen h | skip
      case str y => cases rd; exact ⟨_, y.length, rfl, ⟨h.1, rfl⟩, post_of ok hQ (.int _) h.2⟩
    | cons _ _ => cases d <;> exact h.elim
theorem l_abs : LiftL K oAbs (fun xs H Q => ∃ i, xs = [.int i] ∧ Q (.int (if i < 0 then -i else i)) H) := by
  intro Γ H G l xs ds Q Q' ok r h hQ
  cases r with
  | nil => exact h.elim
  | cons rd rt =>
    cases rt with
    | nil => cases rd <;> first | exact h.elim | exact ⟨_, rfl, post_of ok hQ (.int _) h⟩
    | cons _ _ => cases rd <;> exact h.elim
theorem l_intC : LiftL K oIntC (fun xs H Q => (∃ i, xs = [.int i] ∧ Q (.int i) H) ∨ ∃ k, xs = [.bl k] ∧ Q (.int (if k then 1 else 0)) H) := by
  intro Γ H G l xs ds Q Q' ok r h hQ
  cases r with
  | nil => exact h.elim
  | cons rd rt =>
    cases rt with
    | nil => cases rd <;> first | exact h.elim | exact .inl ⟨_, rfl, post_of ok hQ (.int _) h⟩ | exact .inr ⟨_, rfl, post_of ok hQ (.int _) h⟩
    | cons _ _ => cases rd <;> exact h.elim
abbrev rMaxV (K : PySem.W.Frag) : List V → Hp → VK → Prop := fun xs H Q => (∃ i j, xs = [.int i, .int j] ∧ Q (.int (if j > i then j else i)) H) ∨ rMax K xs H Q
abbrev rMinV (K : PySem.W.Frag) : List V → Hp → VK → Prop := fun xs H Q => (∃ i j, xs = [.int i, .int j] ∧ Q (.int (if j < i then j else i)) H) ∨ rMin K xs H Q
theorem call_maxV (hc : X.calm = true) : CallR X (.builtin "max") (rMaxV X.K) := CallR.or (call_max2 hc) (cr_max hc)
theorem call_minV (hc : X.calm = true) : CallR X (.builtin "min") (rMinV X.K) := CallR.or (call_min2 hc) (cr_min hc)
theorem l_max : LiftL K oMax (rMaxV K) := by
  intro Γ H G l xs ds Q Q' ok r h hQ
  cases r with
  | nil => exact h.elim
  | cons rd rt =>
    cases rt with
    | nil =>
      rename_i v d
      have h' : ∃ ns : List Int, asL l d (ns.map .int) ∧ 0 < ns.length ∧ ∀ m, m ∈ ns → (∀ y, y ∈ ns → y ≤ m) → Q' (.int m) l := by cases d <;> exact h
      obtain ⟨ns, h1, hz, q⟩ := h'
      obtain ⟨p, us, rfl, hs, rs⟩ := asL_at ok rd h1
      obtain rfl := rs.ints
      exact .inr ⟨p, ns, rfl, hs, hz, fun m m1 m2 => post_of ok hQ (.int _) (q m m1 m2)⟩
    | cons rd2 rt2 =>
      cases rt2 with
      | cons _ _ => cases rd <;> first | exact h.elim | (cases rd2 <;> exact h.elim)
      | nil => cases rd <;> first | exact h.elim | (cases rd2 <;> first | exact h.elim | exact .inl ⟨_, _, rfl, post_of ok hQ (.int _) h⟩)
theorem l_min : LiftL K oMin (rMinV K) := by
  intro Γ H G l xs ds Q Q' ok r h hQ
  cases r with
  | nil => exact h.elim
  | cons rd rt =>
    cases rt with
    | nil =>
      rename_i v d
      have h' : ∃ ns : List Int, asL l d (ns.map .int) ∧ 0 < ns.length ∧ ∀ m, m ∈ ns → (∀ y, y ∈ ns → m ≤ y) → Q' (.int m) l := by cases d <;> exact h
      obtain ⟨ns, h1, hz, q⟩ := h'
      obtain ⟨p, us, rfl, hs, rs⟩ := asL_at ok rd h1
      obtain rfl := rs.ints
      exact .inr ⟨p, ns, rfl, hs, hz, fun m m1 m2 => post_of ok hQ (.int _) (q m m1 m2)⟩
    | cons rd2 rt2 =>
      cases rt2 with
      | cons _ _ => cases rd <;> first | exact h.elim | (cases rd2 <;> exact h.elim)
      | nil => cases rd <;> first | exact h.elim | (cases rd2 <;> first | exact h.elim | exact .inl ⟨_, _, rfl, post_of ok hQ (.int _) h⟩)
theorem l_sum : LiftL K oSum (rSum K) := by
  intro Γ H G l xs ds Q Q' ok r h hQ
  obtain ⟨v, d, rfl, rfl, rd, ns, h1, q⟩ := one_of r h
  obtain ⟨p, us, rfl, hs, rs⟩ := asL_at ok rd h1
  obtain rfl := rs.ints
  exact ⟨p, ns, rfl, hs, post_of ok hQ (.int _) q⟩
theorem l_any : LiftL K oAny (rAny K) := by
  intro Γ H G l xs ds Q Q' ok r h hQ
  obtain ⟨v, d, rfl, rfl, rd, ns, h1, q⟩ := one_of r h
  obtain ⟨p, us, rfl, hs, rs⟩ := asL_at ok rd h1
  obtain rfl := rs.bls
  exact ⟨p, ns, rfl, hs, post_of ok hQ (.bl _) q⟩
theorem l_all : LiftL K oAll (rAll K) := by
  intro Γ H G l xs ds Q Q' ok r h hQ
  obtain ⟨v, d, rfl, rfl, rd, ns, h1, q⟩ := one_of r h
  obtain ⟨p, us, rfl, hs, rs⟩ := asL_at ok rd h1
  obtain rfl := rs.bls
  exact ⟨p, ns, rfl, hs, post_of ok hQ (.bl _) q⟩
theorem l_listC : LiftL K oListC (fun xs H Q => ∃ p ys, xs = [.ref p] ∧ (SqL K H p ys ∨ SqT K H p ys) ∧ ∀ l, H l = none → Q (.ref l) (upd H l (.lst ys))) := by
  intro Γ H G l xs ds Q Q' ok r h hQ
  obtain ⟨v, d, rfl, rfl, rd, ns, h1, q⟩ := one_of r h
  obtain ⟨p, us, rfl, hs, rs⟩ := asQ_at ok rd h1
  exact ⟨p, us, rfl, hs, fun t n => newL_ok ok rs q hQ t n⟩
theorem l_tupC : LiftL K oTupC (fun xs H Q => ∃ p ys, xs = [.ref p] ∧ ((SqL K H p ys ∧ ∀ l, H l = none → Q (.ref l) (upd H l (.tup ys))) ∨ (SqT K H p ys ∧ Q (.ref p) H))) := by
  intro Γ H G l xs ds Q Q' ok r h hQ
  obtain ⟨v, d, rfl, rfl, rd, ns, h1, q⟩ := one_of r h
  by_cases ht : ∃ ys, d = .tup ys
  · obtain ⟨ys, rfl⟩ := ht
    cases h1
    cases rd with
    | tup p rr => exact ⟨_, _, rfl, .inr ⟨ok.sqT p, post_of ok hQ (.tup p rr) q⟩⟩
  · have h2 : asL l d ns := by cases d <;> first | exact h1 | exact absurd ⟨_, rfl⟩ ht
    obtain ⟨p, us, rfl, hs, rs⟩ := asL_at ok rd h2
    exact ⟨p, us, rfl, .inl ⟨hs, fun t n => newT_ok ok rs q hQ t n⟩⟩
end
/-! ### subscripts, slices -/
def oIx : D2 := fun x y l Q => match x, y with
  | .str z, .int i => z.length ≤ 16777216 ∧ ∃ c, atI z.cps.toList i = some c ∧ Q (.str ⟨#[c]⟩) l
  | x, .int i => ∃ xs d, asQ l x xs ∧ atI xs i = some d ∧ Q d l
  | _, _ => False
def cutG {α : Type} (xs : List α) (lo hi : Option Int) : List α := (xs.drop (HT.sIx xs.length 0 lo)).take (HT.sIx xs.length xs.length hi - HT.sIx xs.length 0 lo)
theorem cutG_V (xs : List V) (lo hi : Option Int) : cutG xs lo hi = cutV xs lo hi := rfl
theorem RVs.cut {K : PySem.W.Frag} {G : GM} {xs : List V} {ds : List D} (r : RVs K G xs ds) (lo hi : Option Int) : RVs K G (cutV xs lo hi) (cutG ds lo hi) := by
  unfold cutV cutG
  rw [r.length]
  exact (r.drop _).take _
theorem cutG_whole {α : Type} {xs : List α} {lo hi : Option Int} (h : HT.sIx xs.length 0 lo = 0 ∧ HT.sIx xs.length xs.length hi = xs.length) : cutG xs lo hi = xs := by
  unfold cutG; rw [h.1, h.2]; simp
theorem cutG_from {α : Type} (xs : List α) (k : Nat) : cutG xs (some (k : Int)) none = xs.drop k := by
  unfold cutG
  rw [HT.sIx_nat, HT.sIx_none]
  rcases Nat.le_total k xs.length with h | h
  · rw [Nat.min_eq_left h]; exact List.take_of_length_le (by rw [List.length_drop]; exact Nat.le_refl _)
  · rw [Nat.min_eq_right h, List.drop_eq_nil_of_le h]; simp
theorem cutG_upto {α : Type} (xs : List α) (k : Nat) : cutG xs none (some (k : Int)) = xs.take k := by
  unfold cutG
  rw [HT.sIx_nat, HT.sIx_none, Nat.sub_zero, List.drop_zero]
  rcases Nat.le_total k xs.length with h | h
  · rw [Nat.min_eq_left h]
  · rw [Nat.min_eq_right h, List.take_of_length_le (Nat.le_refl _), List.take_of_length_le h]
def oSl : D → Option Int → Option Int → M → DK → Prop := fun x lo hi l Q => match x with
  | .tup xs => Q (.tup (cutG xs lo hi)) l
  | .str z => z.length ≤ 16777216 ∧ Q (.str (cutS z lo hi)) l
  | x => ∃ xs, asL l x xs ∧ newL (cutG xs lo hi) l Q
def dSl (te : DE) (tl th : DO) : DE := fun τ l Q => te τ l fun x l1 => tl τ l1 fun lo l2 => th τ l2 fun hi l3 => oSl x lo hi l3 Q
def dNoPart : DO := fun _ l Q => Q none l
def dPart (t : DE) : DO := fun τ l Q => t τ l fun d l1 => ∃ i, d = .int i ∧ Q (some i) l1
section
variable {X : Cx} {K : PySem.W.Frag} {Γ : En} {a b e : Expr} {ta tb te : DE} {pos p2 : Pos} {lo hi : Option Expr} {tl th : DO}
theorem l_ix : Lift2 K oIx (rIx K) := by
  intro Γ H G l x y a b Q Q' ok rx ry h hQ
  have gen : ∀ i, y = .int i → (∃ xs d, asQ l a xs ∧ atI xs i = some d ∧ Q' d l) → rIx K x y H Q := by
    rintro i rfl ⟨ys, d, h1, h2, q⟩
    obtain ⟨p, us, rfl, hs, rs⟩ := asQ_at ok rx h1
    have h3 : ∃ v, atI us i = some v ∧ RV K G v d := by
      unfold atI at h2 ⊢
      rw [rs.length]
      cases e : ixN ys.length i with
      | none => rw [e] at h2; cases h2
      | some j =>
        rw [e] at h2
        obtain ⟨v, hv, rv⟩ := rs.get (i := j) h2
        exact ⟨v, hv, rv⟩
    obtain ⟨v, hv, rv⟩ := h3
    rcases hs with hs | hs
    · exact .inl ⟨p, us, i, v, rfl, rfl, hs, hv, post_of ok hQ rv q⟩
    · exact .inr (.inl ⟨p, us, i, v, rfl, rfl, hs, hv, post_of ok hQ rv q⟩)
  cases b with
  | int i =>
    cases ry
    cases a <;> first | exact gen i rfl h | skip
    case str z =>
      cases rx
      obtain ⟨hz, c, hc, q⟩ := h
      exact .inr (.inr ⟨z, i, c, rfl, rfl, hz, hc, post_of ok hQ (.str _) q⟩)
  | _ => cases a <;> exact h.elim
theorem q_ix (ha : QE X Γ a ta) (hb : QE X Γ b tb) (hs : PlainIx b := by exact fun _ _ => rfl) : QE X Γ (.Subscript a b pos) (dOp oIx ta tb) :=
  PE.imp (pe_ix ix_seq ha hb hs) fun σ H Q h => le_two l_ix h
theorem qo_none : QO X Γ none dNoPart := PO.imp po_none fun σ H Q h => by
  obtain ⟨G, τ, l, Q', sr, ok, hq, hQ⟩ := h
  exact hQ none H G l (GLe.refl G) ok hq
theorem qo_some (h : QE X Γ e te) : QO X Γ (some e) (dPart te) := PO.imp (po_some h) fun σ H Q h => by
  obtain ⟨G, τ, l, Q', sr, ok, ht, hQ⟩ := h
  refine ⟨G, τ, l, _, sr, ok, ht, fun v d H2 G2 l2 e ok2 rv q => ?_⟩
  obtain ⟨i, rfl, q⟩ := q
  cases rv
  exact ⟨i, rfl, hQ _ H2 G2 l2 e ok2 q⟩
abbrev rSlV (K : PySem.W.Frag) : V → Option Int → Option Int → Hp → VK → Prop := fun x lo hi H Q => rSlL K x lo hi H Q ∨ (rSlA K x lo hi H Q ∨ rSlS x lo hi H Q)
theorem sl_V : SlR X (rSlV X.K) := SlR.or sl_list (SlR.or sl_tupA sl_str)
theorem l_sl {H : Hp} {G : GM} {l : M} {x : V} {d : D} {lo hi : Option Int} {Q : VK} {Q' : DK} (ok : Ok K Γ H G l) (rx : RV K G x d) (h : oSl d lo hi l Q') (hQ : Post K Γ G Q' Q) : rSlV K x lo hi H Q := by
  have gen : (∃ xs, asL l d xs ∧ newL (cutG xs lo hi) l Q') → rSlV K x lo hi H Q := by
    rintro ⟨xs, h1, q⟩
    obtain ⟨p, us, rfl, hs, rs⟩ := asL_at ok rx h1
    exact .inl ⟨p, us, rfl, hs, fun t n => newL_ok ok (rs.cut lo hi) q hQ t n⟩
  cases d <;> first | exact gen h | skip
  case str z => cases rx; exact .inr (.inr ⟨z, rfl, h.1, post_of ok hQ (.str _) h.2⟩)
  case tup xs =>
    cases rx with
    | tup p r =>
      rename_i a us
      refine .inr (.inl ⟨a, us, rfl, ok.sqT p, fun w => ?_, fun _ t n => newT_ok ok (r.cut lo hi) h hQ t n⟩)
      have w' : cutG xs lo hi = xs := cutG_whole (by rw [← r.length]; exact w)
      rw [show oSl (.tup xs) lo hi l Q' = Q' (.tup (cutG xs lo hi)) l from rfl, w'] at h
      exact post_of ok hQ (.tup p r) h
theorem q_sl (he : QE X Γ e te) (hl : QO X Γ lo tl) (hu : QO X Γ hi th) : QE X Γ (.Subscript e (.Slice lo hi none p2) pos) (dSl te tl th) :=
  PE.imp (pe_slice sl_V he hl hu) fun σ H Q h => by
    obtain ⟨G, τ, l, Q', sr, ok, ht, hQ⟩ := h
    exact ⟨G, τ, l, _, sr, ok, ht, fun v d H2 G2 l2 e ok2 rv q => ⟨G2, τ, l2, _, sr.mono e, ok2, q, fun o H3 G3 l3 e2 ok3 q2 =>
      ⟨G3, τ, l3, _, sr.mono (e.trans e2), ok3, q2, fun o2 H4 G4 l4 e3 ok4 q3 => l_sl ok4 (rv.mono (e2.trans e3)) q3 (Post.mono hQ (e.trans (e2.trans e3)))⟩⟩⟩
end
/-! ### fields -/
def oFld (P : Addr → Prop) (f : Str) : D1 := fun x l Q => match x with
  | .obj C fs => P C ∧ ∃ d, fs.lookup f = some d ∧ Q d l
  | .ref a => ∃ C fs d, (a, MO.ins C fs) ∈ l ∧ P C ∧ fs.lookup f = some d ∧ Q d l
  | _ => False
section
variable {X : Cx} {Γ : En} {e : Expr} {te : DE} {pos : Pos} {f : Str}
theorem q_fld {P : Addr → Prop} (hP : ∀ C, P C → Cls X.K C ∧ NoAttr X.K C f) (he : QE X Γ e te) (hb : attributeBase e f X.env (eval e X.env) = eval e X.env := by rfl) : QE X Γ (.Attribute e f pos) (dUn (oFld P f) te) :=
  PE.imp (pe_fld he hb) fun σ H Q h => by
    obtain ⟨G, τ, l, Q', sr, ok, ht, hQ⟩ := h
    refine ⟨G, τ, l, _, sr, ok, ht, fun v d H2 G2 l2 e ok2 rv q => ?_⟩
    cases rv with
    | obj p r =>
      obtain ⟨hC, d, hl, q⟩ := q
      obtain ⟨u, hu, ru⟩ := r.lookup hl
      obtain ⟨dx, hH⟩ := ok2.per _ _ p
      exact ⟨_, _, dx, _, u, rfl, hH, (hP _ hC).1, (hP _ hC).2, hu, post_of ok2 (Post.mono hQ e) ru q⟩
    | ref a =>
      obtain ⟨C, fs, d, hm, hC, hl, q⟩ := q
      obtain ⟨dx, us, hH, r⟩ := ok2.mem _ hm
      obtain ⟨u, hu, ru⟩ := r.lookup hl
      exact ⟨_, _, dx, _, u, rfl, hH, (hP _ hC).1, (hP _ hC).2, hu, post_of ok2 (Post.mono hQ e) ru q⟩
    | _ => exact q.elim
end
/-! ### isinstance against a built-in type -/
def isB (t T : String) : Bool := t == T || (t == "bool" && T == "int")
inductive TyD (l : M) : D → String → Prop
  | non : TyD l .non "NoneType"
  | bl (b : Bool) : TyD l (.bl b) "bool"
  | int (i : Int) : TyD l (.int i) "int"
  | str (x : Str) : TyD l (.str x) "str"
  | tup (ds : List D) : TyD l (.tup ds) "tuple"
  | lst (ds : List D) : TyD l (.lst ds) "list"
  | scr (ds : List D) : TyD l (.scr ds) "list"
  | ref {a : Addr} {ds : List D} (m : (a, MO.lst ds) ∈ l) : TyD l (.ref a) "list"
  | dK {a : Addr} {kvs : List (Key × D)} (m : (a, MO.dK kvs) ∈ l) : TyD l (.ref a) "dict"
def tyNames : List String := ["int", "bool", "str", "tuple", "list", "dict"]
def valNames : List String := ["NoneType", "int", "bool", "str", "tuple", "list", "dict"]
theorem kit_all : (valNames.all fun t => tyNames.all fun T => decide (kitB t T = some (isB t T))) = true := by decide +kernel
theorem TyD.name {l : M} {d : D} {t : String} (h : TyD l d t) : t ∈ valNames := by cases h <;> decide
theorem kit_of {K : PySem.W.Frag} {t T : String} (h1 : t ∈ valNames) (h2 : T ∈ tyNames) : PySem.W.kitOne K (.type t) (.type T) = some (isB t T) :=
  kit_ty (of_decide_eq_true (List.all_eq_true.mp (List.all_eq_true.mp kit_all t h1) T h2))
theorem TyD.ty {K : PySem.W.Frag} {Γ : En} {H : Hp} {G : GM} {l : M} {v : V} {d : D} {t : String} (ok : Ok K Γ H G l) (r : RV K G v d) (h : TyD l d t) : TyX K H v (.type t) := by
  cases h with
  | non => cases r; exact .base .non
  | bl b => cases r; exact .base (.bl b)
  | int b => cases r; exact .base (.int b)
  | str b => cases r; exact .base (.str b)
  | tup ds => cases r with
    | tup p _ => rcases p with p | ⟨o, its, n, h1, h2, _⟩
                 · exact .base (.tup (ok.per _ _ p))
                 · exact .kTuple h1 h2
  | lst ds => cases r with
    | lst p _ => exact .base (.lst (ok.lstH p))
  | scr ds => cases r with
    | scr p _ => rcases p with p | ⟨o, its, n, h1, h2, _⟩
                 · obtain ⟨o, e⟩ := ok.per _ _ p; exact .base (.frz e)
                 · exact .kList h1 h2
  | ref m => cases r; obtain ⟨xs, e, _⟩ := ok.mem _ m; exact .base (.lst e)
  | dK m => cases r; obtain ⟨xs, e, _⟩ := ok.mem _ m; exact .base (.dK e)
def oIsi (T : String) : D1 := fun x l Q => ∃ t, TyD l x t ∧ Q (.bl (isB t T)) l
section
variable {X : Cx} {Γ : En} {a e : Expr} {te : DE} {pos p p2 : Pos} {T : Str} {S : String}
theorem q_isi (hS : S ∈ tyNames) (hg : Gl X "isinstance") (hm : X.mg "isinstance" = none) (hgT : Gl X T) (hmT : X.mg T = none) (hbT : bootBuiltins T = some (.type S)) (he : QE X Γ e te) (hdT : (T == ("__debug__" : Str)) = false := by decide) (hnT : T ≠ "__name__" := by decide)
    (hst : starEach (e :: [.Name T p2]) X.env = (false, eval e X.env) :: starEach [.Name T p2] X.env := by rfl) (hst2 : starEach (.Name T p2 :: []) X.env = (false, eval (.Name T p2) X.env) :: starEach [] X.env := by rfl)
    (hpl : (backTo pos (starEach [.Name T p2] X.env)).any (·.1) = false := by rfl) :
    QE X Γ (.Call (.Name "isinstance" p) [e, .Name T p2] [] pos) (dUn (oIsi S) te) :=
  PE.imp (pe_callB (x := "isinstance") call_isi hg hm bt_isinstance (pa_cons he (pa_cons (pe_bltn (v := .ty S) hgT hmT hbT rfl hnT hdT) pa_nil hst2) hst) (by decide) (by decide) hst hpl) fun σ H Q h => by
    obtain ⟨G, τ, l, Q', sr, ok, ht, hQ⟩ := h
    refine ⟨G, τ, l, _, sr, ok, ht, fun v d H2 G2 l2 e ok2 rv q => ?_⟩
    obtain ⟨t, h1, q⟩ := q
    exact ⟨v, .ty S, .type t, .type S, isB t S, rfl, .ty S, h1.ty ok2 rv, kit_of h1.name hS, post_of ok2 (Post.mono hQ e) (.bl _) q⟩
end
/-! ### chains of comparisons -/
def dCh (r : D2) (tx : D → M → DK → Prop) (tb : DE) : D → S → M → DK → Prop := fun x τ l Q => tb τ l fun y l1 => r x y l1 fun z l2 => ∃ k, z = .bl k ∧ if k = true then tx y l2 Q else Q (.bl false) l2
def dChain (r r' : D2) (ta tb tc : DE) : DE := fun τ l Q => ta τ l fun x l1 => tb τ l1 fun y l2 => r x y l2 fun z l3 => ∃ k, z = .bl k ∧ if k = true then tc τ l3 fun w l4 => r' y w l4 Q else Q (.bl false) l3
def dChain3 (r r' r2 : D2) (ta tb tc td : DE) : DE := fun τ l Q => ta τ l fun x l1 => tb τ l1 fun y l2 => r x y l2 fun z l3 => ∃ k, z = .bl k ∧
  if k = true then tc τ l3 fun w l4 => r' y w l4 fun z2 l5 => ∃ k, z2 = .bl k ∧ if k = true then td τ l5 fun u l6 => r2 w u l6 Q else Q (.bl false) l5 else Q (.bl false) l3
def tChain3 (r r' r2 : R2) (ta tb tc td : TE) : TE := fun σ H Q => ta σ H fun x H1 => tb σ H1 fun y H2 => r x y H2 fun z H3 => ∃ k, z = .bl k ∧
  if k = true then tc σ H3 fun w H4 => r' y w H4 fun z2 H5 => ∃ k, z2 = .bl k ∧ if k = true then td σ H5 fun u H6 => r2 w u H6 Q else Q (.bl false) H5 else Q (.bl false) H3
section
variable {X : Cx} {Γ : En} {a b c d : Expr} {pos : Pos} {op op' op2 : CmpOp}
theorem pe_chain3 {r r' r2 : R2} {ta tb tc td : TE} (ho : OpR X (compareOp op) r) (ho' : OpR X (compareOp op') r') (ho2 : OpR X (compareOp op2) r2) (ha : PE X a ta) (hb : PE X b tb) (hc : PE X c tc) (hd : PE X d td)
    (hm : lastMarks [op, op', op2] [b, c, d] = false := by with_unfolding_all rfl) : PE X (.Compare a [op, op', op2] [b, c, d] pos) (tChain3 r r' r2 ta tb tc td) := by
  refine ⟨fun pins s σ H Q I h => ?_⟩
  refine Compare_chain (thn (ha.run pins s σ H _ I h) fun v s1 ⟨x, H1, I1, r1, q1⟩ => chain_link (thn (hb.run pins s1 σ H1 _ I1 q1) fun u s2 ⟨y, H2, I2, r2, q2⟩ =>
    thn (ho pins s2 σ H2 x y v u _ I2 r1 r2 q2) fun d s3 ⟨z, H3, I3, r3, k, e, q3⟩ => ?_)) hm
  subst e
  cases r3
  refine wpAny_truthy_bool ?_
  cases k with
  | false => exact ite_ff ⟨.bl false, H3, I3, rfl, q3⟩
  | true =>
    refine ite_tt (chain_link (thn (hc.run pins s3 σ H3 _ I3 q3) fun w' s4 ⟨z', H4, I4, r4, q4⟩ => thn (ho' pins s4 σ H4 y z' u w' _ I4 r2 r4 q4) fun d' s5 ⟨z2, H5, I5, r5, k2, e2, q5⟩ => ?_))
    subst e2
    cases r5
    refine wpAny_truthy_bool ?_
    cases k2 with
    | false => exact ite_ff ⟨.bl false, H5, I5, rfl, q5⟩
    | true => exact ite_tt (chain_last (thn (hd.run pins s5 σ H5 _ I5 q5) fun w2 s6 ⟨z3, H6, I6, r6, q6⟩ => ho2 pins s6 σ H6 z' z3 w' w2 Q I6 r4 r6 q6))
theorem pt_chain3 {r r' r2 : R2} {ta tb tc td : TE} (ho : OpR X (compareOp op) r) (ho' : OpR X (compareOp op') r') (ho2 : OpR X (compareOp op2) r2) (ha : PE X a ta) (hb : PE X b tb) (hc : PE X c tc) (hd : PE X d td)
    (hm : lastMarks [op, op', op2] [b, c, d] = false := by with_unfolding_all rfl) : PT X (.Compare a [op, op', op2] [b, c, d] pos) (tTest (tChain3 r r' r2 ta tb tc td)) := by
  refine ⟨fun pins s σ H Q I h => ?_⟩
  refine isTrue_chain (thn (ha.run pins s σ H _ I h) fun v s1 ⟨x, H1, I1, r1, q1⟩ => test_link (thn (hb.run pins s1 σ H1 _ I1 q1) fun u s2 ⟨y, H2, I2, r2, q2⟩ =>
    thn (ho pins s2 σ H2 x y v u _ I2 r1 r2 q2) fun d s3 ⟨z, H3, I3, r3, k, e, q3⟩ => ?_)) hm
  subst e
  cases r3
  refine wpAny_truthy_bool ?_
  cases k with
  | false =>
    obtain ⟨k', e', q'⟩ := q3
    cases e'
    exact ite_ff ⟨H3, I3, q'⟩
  | true =>
    refine ite_tt (test_link (thn (hc.run pins s3 σ H3 _ I3 q3) fun w' s4 ⟨z', H4, I4, r4, q4⟩ => thn (ho' pins s4 σ H4 y z' u w' _ I4 r2 r4 q4) fun d' s5 ⟨z2, H5, I5, r5, k2, e2, q5⟩ => ?_))
    subst e2
    cases r5
    refine wpAny_truthy_bool ?_
    cases k2 with
    | false =>
      obtain ⟨k', e', q'⟩ := q5
      cases e'
      exact ite_ff ⟨H5, I5, q'⟩
    | true =>
      refine ite_tt (test_last (thn (hd.run pins s5 σ H5 _ I5 q5) fun w2 s6 ⟨z3, H6, I6, r6, q6⟩ => thn (ho2 pins s6 σ H6 z' z3 w' w2 _ I6 r4 r6 q6) fun d2 s7 ⟨z4, H7, I7, r7, k3, e3, q7⟩ => ?_))
      subst e3
      cases r7
      exact wpAny_truthy_bool ⟨H7, I7, q7⟩
variable {K : PySem.W.Frag} {r r' r2 : R2} {s s' s2 : D2} {ta tb tc td : DE}
theorem le_chain (L : Lift2 K s r) (L' : Lift2 K s' r') {σ : L2.St} {H : Hp} {Q : VK} (h : le K Γ (dChain s s' ta tb tc) σ H Q) : tChain r r' (le K Γ ta) (le K Γ tb) (le K Γ tc) σ H Q := by
  obtain ⟨G, τ, l, Q', sr, ok, ht, hQ⟩ := h
  refine ⟨G, τ, l, _, sr, ok, ht, fun v1 d1 H1 G1 l1 e1 ok1 rv1 q1 => ⟨G1, τ, l1, _, sr.mono e1, ok1, q1, fun v2 d2 H2 G2 l2 e2 ok2 rv2 q2 => ?_⟩⟩
  refine L Γ H2 G2 l2 v1 v2 d1 d2 _ _ ok2 (rv1.mono e2) rv2 q2 fun v3 d3 H3 G3 l3 e3 ok3 rv3 q3 => ?_
  obtain ⟨k, rfl, q3⟩ := q3
  cases rv3
  refine ⟨k, rfl, ?_⟩
  have e13 := e1.trans (e2.trans e3)
  cases k
  · exact hQ _ _ H3 G3 l3 e13 ok3 (.bl _) q3
  · exact ⟨G3, τ, l3, _, sr.mono e13, ok3, q3, fun v4 d4 H4 G4 l4 e4 ok4 rv4 q4 => L' Γ H4 G4 l4 v2 v4 d2 d4 Q Q' ok4 (rv2.mono (e3.trans e4)) rv4 q4 (Post.mono hQ (e13.trans e4))⟩
theorem le_chain3 (L : Lift2 K s r) (L' : Lift2 K s' r') (Lb : Lift2 K s2 r2) {σ : L2.St} {H : Hp} {Q : VK} (h : le K Γ (dChain3 s s' s2 ta tb tc td) σ H Q) : tChain3 r r' r2 (le K Γ ta) (le K Γ tb) (le K Γ tc) (le K Γ td) σ H Q := by
  obtain ⟨G, τ, l, Q', sr, ok, ht, hQ⟩ := h
  refine ⟨G, τ, l, _, sr, ok, ht, fun v1 d1 H1 G1 l1 e1 ok1 rv1 q1 => ⟨G1, τ, l1, _, sr.mono e1, ok1, q1, fun v2 d2 H2 G2 l2 e2 ok2 rv2 q2 => ?_⟩⟩
  refine L Γ H2 G2 l2 v1 v2 d1 d2 _ _ ok2 (rv1.mono e2) rv2 q2 fun v3 d3 H3 G3 l3 e3 ok3 rv3 q3 => ?_
  obtain ⟨k, rfl, q3⟩ := q3
  cases rv3
  refine ⟨k, rfl, ?_⟩
  have e13 := e1.trans (e2.trans e3)
  cases k
  · exact hQ _ _ H3 G3 l3 e13 ok3 (.bl _) q3
  · refine ⟨G3, τ, l3, _, sr.mono e13, ok3, q3, fun v4 d4 H4 G4 l4 e4 ok4 rv4 q4 => ?_⟩
    refine L' Γ H4 G4 l4 v2 v4 d2 d4 _ _ ok4 (rv2.mono (e3.trans e4)) rv4 q4 fun v5 d5 H5 G5 l5 e5 ok5 rv5 q5 => ?_
    obtain ⟨k, rfl, q5⟩ := q5
    cases rv5
    refine ⟨k, rfl, ?_⟩
    have e15 := e13.trans (e4.trans e5)
    cases k
    · exact hQ _ _ H5 G5 l5 e15 ok5 (.bl _) q5
    · exact ⟨G5, τ, l5, _, sr.mono e15, ok5, q5, fun v6 d6 H6 G6 l6 e6 ok6 rv6 q6 => Lb Γ H6 G6 l6 v4 v6 d4 d6 Q Q' ok6 (rv4.mono (e5.trans e6)) rv6 q6 (Post.mono hQ (e15.trans e6))⟩
theorem q_chain (ho : OpR X (compareOp op) r) (ho' : OpR X (compareOp op') r') (L : Lift2 X.K s r) (L' : Lift2 X.K s' r') (ha : QE X Γ a ta) (hb : QE X Γ b tb) (hc : QE X Γ c tc) (hm : lastMarks [op, op'] [b, c] = false := by with_unfolding_all rfl) :
    QE X Γ (.Compare a [op, op'] [b, c] pos) (dChain s s' ta tb tc) := PE.imp (pe_chain ho ho' ha hb hc hm) fun σ H Q h => le_chain L L' h
theorem t_chain (ho : OpR X (compareOp op) r) (ho' : OpR X (compareOp op') r') (L : Lift2 X.K s r) (L' : Lift2 X.K s' r') (ha : QE X Γ a ta) (hb : QE X Γ b tb) (hc : QE X Γ c tc) (hm : lastMarks [op, op'] [b, c] = false := by with_unfolding_all rfl) :
    QT X Γ (.Compare a [op, op'] [b, c] pos) (dB (dChain s s' ta tb tc)) := PT.imp (pt_chain ho ho' ha hb hc hm) fun σ H Q h => le_chain L L' (by
      have h1 := lt_B h
      exact h1)
theorem q_chain3 (ho : OpR X (compareOp op) r) (ho' : OpR X (compareOp op') r') (ho2 : OpR X (compareOp op2) r2) (L : Lift2 X.K s r) (L' : Lift2 X.K s' r') (Lb : Lift2 X.K s2 r2) (ha : QE X Γ a ta) (hb : QE X Γ b tb) (hc : QE X Γ c tc) (hd : QE X Γ d td)
    (hm : lastMarks [op, op', op2] [b, c, d] = false := by with_unfolding_all rfl) : QE X Γ (.Compare a [op, op', op2] [b, c, d] pos) (dChain3 s s' s2 ta tb tc td) := PE.imp (pe_chain3 ho ho' ho2 ha hb hc hd hm) fun σ H Q h => le_chain3 L L' Lb h
theorem t_chain3 (ho : OpR X (compareOp op) r) (ho' : OpR X (compareOp op') r') (ho2 : OpR X (compareOp op2) r2) (L : Lift2 X.K s r) (L' : Lift2 X.K s' r') (Lb : Lift2 X.K s2 r2) (ha : QE X Γ a ta) (hb : QE X Γ b tb) (hc : QE X Γ c tc) (hd : QE X Γ d td)
    (hm : lastMarks [op, op', op2] [b, c, d] = false := by with_unfolding_all rfl) : QT X Γ (.Compare a [op, op', op2] [b, c, d] pos) (dB (dChain3 s s' s2 ta tb tc td)) := PT.imp (pt_chain3 ho ho' ho2 ha hb hc hd hm) fun σ H Q h => le_chain3 L L' Lb (by
      have h1 := lt_B h
      exact h1)
end
end Z

namespace Z
open PySem PySem.Spec PyProof.Rows L2
/-! ### targets: names, tuples of them -/
inductive Tg where
  | nm (i : Nat) | tp (ts : List Tg)
mutual
def Tg.hand (K : PySem.W.Frag) : Tg → TG
  | .nm i => gName i
  | .tp ts => gTup K ts.length (Tg.hands K ts)
def Tg.hands (K : PySem.W.Frag) : List Tg → TGs
  | [] => gNil
  | t :: ts => gCons (Tg.hand K t) (Tg.hands K ts)
end
mutual
def Tg.put : Tg → D → S → (S → Prop) → Prop
  | .nm i, d, τ, Q => Q (τ.set i (some d))
  | .tp ts, .tup ds, τ, Q => Tg.puts ts ds τ Q
  | .tp _, _, _, _ => False
def Tg.puts : List Tg → List D → S → (S → Prop) → Prop
  | [], [], τ, Q => Q τ
  | t :: ts, d :: ds, τ, Q => Tg.put t d τ fun τ1 => Tg.puts ts ds τ1 Q
  | _, _, _, _ => False
end
mutual
def Tg.slots : Tg → List Nat
  | .nm i => [i]
  | .tp ts => Tg.slotss ts
def Tg.slotss : List Tg → List Nat
  | [] => []
  | t :: ts => Tg.slots t ++ Tg.slotss ts
end
section
variable {K : PySem.W.Frag} {Γ : En} {H : Hp} {G : GM} {l : M}
mutual
theorem Tg.ok (k : Ok K Γ H G l) : ∀ (t : Tg) (v : V) (d : D) (σ : L2.St) (τ : S) (Q : L2.St → Hp → Prop) (Q' : S → Prop), SR K G σ τ → RV K G v d → t.put d τ Q' →
    (∀ σ2 τ2, SR K G σ2 τ2 → (σ2.length = σ.length ∧ ∀ j, j ∉ t.slots → σ2[j]? = σ[j]?) → Q' τ2 → Q σ2 H) → t.hand K v σ H Q
  | .nm i, v, d, σ, τ, Q, Q', sr, rv, h, hQ => hQ _ _ (sr.set rv i) ⟨List.length_set .., fun j hj => List.getElem?_set_ne (fun e => hj (by rw [e]; exact List.mem_singleton.mpr rfl))⟩ h
  | .tp ts, v, d, σ, τ, Q, Q', sr, rv, h, hQ => by
    cases rv with
    | tup p r =>
      rename_i a xs ds
      unfold Tg.put at h
      have hl : xs.length = ts.length := r.length.trans (Tg.puts_len ts ds τ Q' h)
      unfold Tg.hand
      exact ⟨a, xs, rfl, k.sqT p, hl, Tg.oks k ts xs ds σ τ Q Q' sr r h (fun σ2 τ2 s2 hj q => hQ σ2 τ2 s2 ⟨hj.1, fun j n => hj.2 j (by unfold Tg.slots at n; exact n)⟩ q)⟩
    | _ => unfold Tg.put at h; exact h.elim
theorem Tg.oks (k : Ok K Γ H G l) : ∀ (ts : List Tg) (vs : List V) (ds : List D) (σ : L2.St) (τ : S) (Q : L2.St → Hp → Prop) (Q' : S → Prop), SR K G σ τ → RVs K G vs ds → Tg.puts ts ds τ Q' →
    (∀ σ2 τ2, SR K G σ2 τ2 → (σ2.length = σ.length ∧ ∀ j, j ∉ Tg.slotss ts → σ2[j]? = σ[j]?) → Q' τ2 → Q σ2 H) → Tg.hands K ts vs σ H Q
  | [], vs, ds, σ, τ, Q, Q', sr, rv, h, hQ => by
    cases rv with
    | nil => unfold Tg.puts at h; unfold Tg.hands; exact ⟨rfl, hQ σ τ sr ⟨rfl, fun _ _ => rfl⟩ h⟩
    | cons _ _ => unfold Tg.puts at h; exact h.elim
  | t :: ts, vs, ds, σ, τ, Q, Q', sr, rv, h, hQ => by
    cases rv with
    | nil => unfold Tg.puts at h; exact h.elim
    | cons r rs =>
      unfold Tg.puts at h
      unfold Tg.hands
      refine ⟨_, _, rfl, Tg.ok k t _ _ σ τ _ _ sr r h fun σ2 τ2 s2 hj q => ?_⟩
      refine Tg.oks k ts _ _ σ2 τ2 Q Q' s2 rs q fun σ3 τ3 s3 hj3 q3 => hQ σ3 τ3 s3 ⟨hj3.1.trans hj.1, fun j n => ?_⟩ q3
      unfold Tg.slotss at n
      rw [List.mem_append, not_or] at n
      exact (hj3.2 j n.2).trans (hj.2 j n.1)
theorem Tg.puts_len : ∀ (ts : List Tg) (ds : List D) (τ : S) (Q : S → Prop), Tg.puts ts ds τ Q → ds.length = ts.length
  | [], [], _, _, _ => rfl
  | t :: ts, d :: ds, τ, Q, h => by
    unfold Tg.puts at h
    have := Tg.put_some t d τ _ h
    obtain ⟨τ1, h1⟩ := this
    rw [List.length_cons, List.length_cons, Tg.puts_len ts ds τ1 Q h1]
  | [], _ :: _, _, _, h => by unfold Tg.puts at h; exact h.elim
  | _ :: _, [], _, _, h => by unfold Tg.puts at h; exact h.elim
theorem Tg.put_some : ∀ (t : Tg) (d : D) (τ : S) (Q : S → Prop), t.put d τ Q → ∃ τ1, Q τ1
  | .nm i, d, τ, Q, h => ⟨_, h⟩
  | .tp ts, d, τ, Q, h => by
    cases d <;> first | (unfold Tg.put at h; exact h.elim) | skip
    case tup ds => unfold Tg.put at h; exact Tg.puts_some ts ds τ Q h
theorem Tg.puts_some : ∀ (ts : List Tg) (ds : List D) (τ : S) (Q : S → Prop), Tg.puts ts ds τ Q → ∃ τ1, Q τ1
  | [], [], τ, Q, h => by unfold Tg.puts at h; exact ⟨τ, h⟩
  | t :: ts, d :: ds, τ, Q, h => by
    unfold Tg.puts at h
    obtain ⟨τ1, h1⟩ := Tg.put_some t d τ _ h
    exact Tg.puts_some ts ds τ1 Q h1
  | [], _ :: _, _, _, h => by unfold Tg.puts at h; exact h.elim
  | _ :: _, [], _, _, h => by unfold Tg.puts at h; exact h.elim
end
end
abbrev QG (X : Cx) (e : Expr) (t : Tg) : Prop := PG X e (t.hand X.K)
abbrev QGs (X : Cx) (e : List Expr) (t : List Tg) : Prop := PGs X e (Tg.hands X.K t)
section
variable {X : Cx} {pos : Pos}
theorem qg_nm {i : Nat} {x : Str} (hN : X.N.Nodup) (hi : X.N[i]? = some x) (hx : Loc X.env.scope x) (hf : X.fn x = true ∨ X.env.scope.names.lookup x = some .local := by first | exact .inl rfl | exact .inr rfl | assumption) : QG X (.Name x pos) (.nm i) := by
  unfold QG Tg.hand; exact pg_name hN hi hx hf
theorem qgs_nil : QGs X [] [] := by unfold QGs Tg.hands; exact pgs_nil
theorem qgs_cons {e : Expr} {es : List Expr} {t : Tg} {u : List Tg} (h1 : QG X e t) (h2 : QGs X es u)
    (hs : (assignEach (e :: es) X.env).map (·.2) = assign e X.env :: (assignEach es X.env).map (·.2) := by rfl) : QGs X (e :: es) (t :: u) := by unfold QGs Tg.hands; exact pgs_cons h1 h2 hs
theorem qg_tp {es : List Expr} {k : Nat} {ts : List Tg} (hc : X.calm = true) (h : QGs X es ts)
    (hn : (assignEach es X.env).length = ts.length := by rfl) (hst : (assignEach es X.env).findIdx? (·.1) = none := by rfl) : QG X (.Tuple es k pos) (.tp ts) := by unfold QG Tg.hand; exact pg_tup hc h hn hst
end
/-! ### statements -/
def dNext : DS := fun nx _ _ _ τ l => nx τ l
def dSeq (t u : DS) : DS := fun nx rt bk ct τ l => t (fun τ l => u nx rt bk ct τ l) rt bk ct τ l
def dBreak : DS := fun _ _ bk _ τ l => bk τ l
def dCont : DS := fun _ _ _ ct τ l => ct τ l
def dDrop (te : DE) : DS := fun nx _ _ _ τ l => te τ l fun _ l1 => nx τ l1
/-- a list of the small heap may be frozen -/
def Fz (d : D) (l : M) (Q : DK) : Prop := Q d l ∨ ∃ i a ds, d = .ref a ∧ l[i]? = some (a, MO.lst ds) ∧ Q (.lst ds) (l.eraseIdx i)
def dRet (te : DE) : DS := fun _ rt _ _ τ l => te τ l fun d l1 => Fz d l1 rt
def dRetN : DS := fun _ rt _ _ _ l => rt .non l
def dAsg (te : DE) (i : Nat) : DS := fun nx _ _ _ τ l => te τ l fun d l1 => Fz d l1 fun d l2 => nx (τ.set i (some d)) l2
def dAsgT (te : DE) (g : Tg) : DS := fun nx _ _ _ τ l => te τ l fun d l1 => g.put d τ fun τ2 => nx τ2 l1
def dIfS (c : DT) (t u : DS) : DS := fun nx rt bk ct τ l => c τ l fun b l1 => if b = true then t nx rt bk ct τ l1 else u nx rt bk ct τ l1
def dNever : DS := fun _ _ _ _ _ _ => False
section
variable {X : Cx} {Γ : En} {st : Stmt} {rest : List Stmt} {t u : DS} {e : Expr} {te : DE} {pos : Pos}
theorem Fz_ok {K : PySem.W.Frag} {H : Hp} {G : GM} {l : M} {v : V} {d : D} {Q : VK} {Q' : DK} (ok : Ok K Γ H G l) (r : RV K G v d) (h : Fz d l Q') (hQ : Post K Γ G Q' Q) : Q v H := by
  rcases h with h | ⟨i, a, ds, rfl, hi, h⟩
  · exact post_of ok hQ r h
  · cases r
    obtain ⟨xs, e, r⟩ := ok.mem _ (mem_of_get hi)
    obtain ⟨ok2, le2⟩ := ok.freeze (g := .lst xs) hi e
    exact hQ _ _ _ _ _ le2 ok2 (.lst setG_same (r.mono le2)) h
theorem qs_nil : QSs X Γ [] dNext := PSs.imp pss_nil fun D σ H h => by
  obtain ⟨G, τ, l, nx, rt, bk, ct, sr, ok, h, h1, _⟩ := h
  exact h1 σ τ H G l (GLe.refl G) sr ok h
theorem qs_cons (h1 : QS X Γ st t) (h2 : QSs X Γ rest u) : QSs X Γ (st :: rest) (dSeq t u) := PSs.imp (pss_cons h1 h2) fun D σ H h => by
  obtain ⟨G, τ, l, nx, rt, bk, ct, sr, ok, h, a1, a2, a3, a4⟩ := h
  exact ⟨G, τ, l, _, rt, bk, ct, sr, ok, h, fun σ2 τ2 H2 G2 l2 e s2 k2 q => ⟨G2, τ2, l2, nx, rt, bk, ct, s2, k2, q, fun σ3 τ3 H3 G3 l3 e3 => a1 σ3 τ3 H3 G3 l3 (e.trans e3), fun v d H3 G3 l3 e3 => a2 v d H3 G3 l3 (e.trans e3),
    fun σ3 τ3 H3 G3 l3 e3 => a3 σ3 τ3 H3 G3 l3 (e.trans e3), fun σ3 τ3 H3 G3 l3 e3 => a4 σ3 τ3 H3 G3 l3 (e.trans e3)⟩, a2, a3, a4⟩
theorem qs_one (h1 : QS X Γ st t) : QSs X Γ [st] t := pss_one h1
theorem qs_pass : QS X Γ (.Pass pos) dNext := PS.imp ps_pass fun D σ H h => by
  obtain ⟨G, τ, l, nx, rt, bk, ct, sr, ok, h, h1, _⟩ := h
  exact h1 σ τ H G l (GLe.refl G) sr ok h
theorem qs_break : QS X Γ (.Break pos) dBreak := PS.imp ps_break fun D σ H h => by
  obtain ⟨G, τ, l, nx, rt, bk, ct, sr, ok, h, _, _, h3, _⟩ := h
  exact h3 σ τ H G l (GLe.refl G) sr ok h
theorem qs_cont : QS X Γ (.Continue pos) dCont := PS.imp ps_continue fun D σ H h => by
  obtain ⟨G, τ, l, nx, rt, bk, ct, sr, ok, h, _, _, _, h4⟩ := h
  exact h4 σ τ H G l (GLe.refl G) sr ok h
theorem qs_never : QS X Γ st dNever := PS.imp ps_never fun D σ H h => by
  obtain ⟨G, τ, l, nx, rt, bk, ct, sr, ok, h, _⟩ := h
  exact h.elim
theorem qss_never {sts : List Stmt} : QSs X Γ sts dNever := PSs.imp pss_never fun D σ H h => by
  obtain ⟨G, τ, l, nx, rt, bk, ct, sr, ok, h, _⟩ := h
  exact h.elim
theorem qs_expr (he : QE X Γ e te) (hs : swapsWith e none pos.line X.env = pure false := by rfl) : QS X Γ (.Expr e pos) (dDrop te) := PS.imp (ps_expr he hs) fun D σ H h => by
  obtain ⟨G, τ, l, nx, rt, bk, ct, sr, ok, h, h1, _⟩ := h
  exact ⟨G, τ, l, _, sr, ok, h, fun v d H2 G2 l2 e k2 rv q => h1 σ τ H2 G2 l2 e (sr.mono e) k2 q⟩
theorem qs_ret (he : QE X Γ e te) : QS X Γ (.Return (some e) pos) (dRet te) := PS.imp (ps_ret he) fun D σ H h => by
  obtain ⟨G, τ, l, nx, rt, bk, ct, sr, ok, h, _, h2, _⟩ := h
  exact ⟨G, τ, l, _, sr, ok, h, fun v d H2 G2 l2 e k2 rv q => Fz_ok k2 rv q fun v d H3 G3 l3 e3 => h2 v d H3 G3 l3 (e.trans e3)⟩
theorem qs_retN : QS X Γ (.Return none pos) dRetN := PS.imp ps_retN fun D σ H h => by
  obtain ⟨G, τ, l, nx, rt, bk, ct, sr, ok, h, _, h2, _⟩ := h
  exact h2 _ _ H G l (GLe.refl G) ok .non h
theorem asg_ok {K : PySem.W.Frag} {i : Nat} {D : Ends} {σ : L2.St} {H : Hp} (h : ls K Γ (dAsg te i) D σ H) : tAsg (le K Γ te) (gName i) D σ H := by
  obtain ⟨G, τ, l, nx, rt, bk, ct, sr, ok, h, h1, _⟩ := h
  refine ⟨G, τ, l, _, sr, ok, h, fun v d H2 G2 l2 e k2 rv q => ?_⟩
  exact Fz_ok (Q := fun x H1 => gName i x σ H1 D.nx) k2 rv q fun v d H3 G3 l3 e3 k3 rv3 q3 => h1 _ _ H3 G3 l3 (e.trans e3) ((sr.mono (e.trans e3)).set rv3 i) k3 q3
theorem qs_set {i : Nat} {x : Str} {pos' : Pos} (hN : X.N.Nodup) (hi : X.N[i]? = some x) (hx : Loc X.env.scope x) (he : QE X Γ e te) (hs : swapsWith e (some (.Name x pos')) pos.line X.env = pure false := by rfl) (hf : X.fn x = true ∨ X.env.scope.names.lookup x = some .local := by first | exact .inl rfl | exact .inr rfl | assumption) :
    QS X Γ (.Assign [.Name x pos'] e pos) (dAsg te i) := PS.imp (ps_set hN hi hx he hs hf) fun D σ H h => asg_ok h
theorem qs_asgT {tg : Expr} {g : Tg} (he : QE X Γ e te) (hg : QG X tg g) (hs : swapsWithSole [tg] e pos.line X.env = pure false := by rfl) (hw : swappedStores [tg] e X.env = pure none := by rfl)
    (h1 : (assignEach [tg] X.env).map (·.2) = [assign tg X.env] := by rfl) : QS X Γ (.Assign [tg] e pos) (dAsgT te g) := PS.imp (ps_asg he hg hs hw h1) fun D σ H h => by
  obtain ⟨G, τ, l, nx, rt, bk, ct, sr, ok, h, h1, _⟩ := h
  refine ⟨G, τ, l, _, sr, ok, h, fun v d H2 G2 l2 e k2 rv q => ?_⟩
  exact Tg.ok k2 g v d σ τ D.nx _ (sr.mono e) rv q fun σ2 τ2 s2 _ q2 => h1 σ2 τ2 H2 G2 l2 e s2 k2 q2
theorem qs_if {c : Expr} {a b : List Stmt} {tc : DT} (hc : QT X Γ c tc) (ha : QSs X Γ a t) (hb : QSs X Γ b u) : QS X Γ (.If c a b pos) (dIfS tc t u) := PS.imp (ps_if hc ha hb) fun D σ H h => by
  obtain ⟨G, τ, l, nx, rt, bk, ct, sr, ok, h, a1, a2, a3, a4⟩ := h
  refine ⟨G, τ, l, _, sr, ok, h, fun c H2 G2 l2 e k2 q => ?_⟩
  cases c
  · exact ⟨G2, τ, l2, nx, rt, bk, ct, sr.mono e, k2, q, fun σ3 τ3 H3 G3 l3 e3 => a1 σ3 τ3 H3 G3 l3 (e.trans e3), fun v d H3 G3 l3 e3 => a2 v d H3 G3 l3 (e.trans e3),
      fun σ3 τ3 H3 G3 l3 e3 => a3 σ3 τ3 H3 G3 l3 (e.trans e3), fun σ3 τ3 H3 G3 l3 e3 => a4 σ3 τ3 H3 G3 l3 (e.trans e3)⟩
  · exact ⟨G2, τ, l2, nx, rt, bk, ct, sr.mono e, k2, q, fun σ3 τ3 H3 G3 l3 e3 => a1 σ3 τ3 H3 G3 l3 (e.trans e3), fun v d H3 G3 l3 e3 => a2 v d H3 G3 l3 (e.trans e3),
      fun σ3 τ3 H3 G3 l3 e3 => a3 σ3 τ3 H3 G3 l3 (e.trans e3), fun σ3 τ3 H3 G3 l3 e3 => a4 σ3 τ3 H3 G3 l3 (e.trans e3)⟩
end
/-! ### xs[i] = v, o.f = v, x op= e -/
def dSetSub (te to ti : DE) : DS := fun nx _ _ _ τ l => te τ l fun d l1 => to τ l1 fun o l2 => ti τ l2 fun i l3 => ∃ a n ds k j, o = .ref a ∧ l3[n]? = some (a, MO.lst ds) ∧ i = .int k ∧ ixN ds.length k = some j ∧ nx τ (l3.set n (a, .lst (ds.set j d)))
def dSetFld (P : Addr → Prop) (te to : DE) (f : Str) : DS := fun nx _ _ _ τ l => te τ l fun d l1 => to τ l1 fun o l2 => ∃ a n C fs, o = .ref a ∧ l2[n]? = some (a, MO.ins C fs) ∧ P C ∧ fs.length < 1000 ∧ nx τ (l2.set n (a, .ins C (putD f d fs)))
def dAug (i : Nat) (te : DE) (r : D2) : DS := fun nx _ _ _ τ l => ∃ x, τ[i]? = some (some x) ∧ te τ l fun y l1 => r x y l1 fun z l2 => nx (τ.set i (some z)) l2
section
variable {X : Cx} {Γ : En} {e o i : Expr} {te to ti : DE} {pos tpos pos' : Pos}
theorem qs_setSub (he : QE X Γ e te) (ho : QE X Γ o to) (hi : QE X Γ i ti)
    (ha : ∀ v, assign (.Subscript o i tpos) X.env v = (do
      let ov ← holding [v] (eval o X.env)
      let iv ← holding [v, ov] (eval i X.env)
      standAt tpos
      holding [v, ov, iv] (setItem ov iv v)
      release [v, ov, iv] []) := by intro _; rfl) (hs : swapsWithSole [.Subscript o i tpos] e pos.line X.env = pure false := by rfl) (hw : swappedStores [.Subscript o i tpos] e X.env = pure none := by rfl)
    (h1 : (assignEach [.Subscript o i tpos] X.env).map (·.2) = [assign (.Subscript o i tpos) X.env] := by rfl) : QS X Γ (.Assign [.Subscript o i tpos] e pos) (dSetSub te to ti) :=
  PS.imp (ps_asg he (pg_sub ho hi set_list ha) hs hw h1) fun D σ H h => by
    obtain ⟨G, τ, l, nx, rt, bk, ct, sr, ok, h, h1, _⟩ := h
    refine ⟨G, τ, l, _, sr, ok, h, fun v d H2 G2 l2 e k2 rv q => ⟨G2, τ, l2, _, sr.mono e, k2, q, fun v3 d3 H3 G3 l3 e3 k3 rv3 q3 => ⟨G3, τ, l3, _, sr.mono (e.trans e3), k3, q3, fun v4 d4 H4 G4 l4 e4 k4 rv4 q4 => ?_⟩⟩⟩
    obtain ⟨a, n, ds, k, j, rfl, hn, rfl, hj, q4⟩ := q4
    cases rv3
    cases rv4
    obtain ⟨xs, hH, rs⟩ := k4.mem _ (mem_of_get hn)
    have rv' := rv.mono (e3.trans e4)
    refine ⟨a, xs, k, j, rfl, rfl, hH, by rw [rs.length]; exact hj, ?_⟩
    exact h1 σ τ _ G4 _ (e.trans (e3.trans e4)) (sr.mono (e.trans (e3.trans e4))) (k4.write (o' := .lst (ds.set j d)) hn ⟨_, upd_same, rs.set j rv'⟩) q4
theorem qs_setFld {P : Addr → Prop} {f : Str} (hP : ∀ C, P C → Cls X.K C ∧ NoAttr X.K C f) (he : QE X Γ e te) (ho : QE X Γ o to) (hs : swapsWith e (some (.Attribute o f pos')) pos.line X.env = pure false := by rfl) : QS X Γ (.Assign [.Attribute o f pos'] e pos) (dSetFld P te to f) :=
  PS.imp (ps_fld ho he hs) fun D σ H h => by
    obtain ⟨G, τ, l, nx, rt, bk, ct, sr, ok, h, h1, _⟩ := h
    refine ⟨G, τ, l, _, sr, ok, h, fun v d H2 G2 l2 e k2 rv q => ⟨G2, τ, l2, _, sr.mono e, k2, q, fun v3 d3 H3 G3 l3 e3 k3 rv3 q3 => ?_⟩⟩
    obtain ⟨a, n, C, fs, rfl, hn, hC, hz, q3⟩ := q3
    cases rv3
    obtain ⟨dx, us, hH, rf⟩ := k3.mem _ (mem_of_get hn)
    refine ⟨a, C, dx, us, rfl, hH, (hP C hC).1, (hP C hC).2, by rw [rf.length]; exact hz, ?_⟩
    exact h1 σ τ _ G3 _ (e.trans e3) (sr.mono (e.trans e3)) (k3.write (o' := .ins C (putD f d fs)) hn ⟨dx, _, upd_same, rf.put (rv.mono e3)⟩) q3
theorem qs_aug {n : Nat} {x : Str} {op : Operator} {r : D2} {r0 : R2} (hN : X.N.Nodup) (hi : X.N[n]? = some x) (hx : Loc X.env.scope x) (he : QE X Γ e te) (ho : OpR X (inplaceOp op) r0) (L : Lift2 X.K r r0) (hf : X.fn x = true ∨ X.env.scope.names.lookup x = some .local := by first | exact .inl rfl | exact .inr rfl | assumption) :
    QS X Γ (.AugAssign (.Name x pos') op e pos) (dAug n te r) := PS.imp (ps_aug hN hi hx he (ti := r0) ho hf) fun D σ H h => by
  obtain ⟨G, τ, l, nx, rt, bk, ct, sr, ok, ⟨d, hd, h⟩, h1, _⟩ := h
  obtain ⟨v, hv, rv⟩ := sr.2 n d hd
  refine ⟨v, hv, G, τ, l, _, sr, ok, h, fun v2 d2 H2 G2 l2 e2 k2 rv2 q => ?_⟩
  exact L Γ H2 G2 l2 v v2 d d2 _ _ k2 (rv.mono e2) rv2 q fun v3 d3 H3 G3 l3 e3 k3 rv3 q3 => h1 _ _ H3 G3 l3 (e2.trans e3) ((sr.mono (e2.trans e3)).set rv3 n) k3 q3
end
/-! ### while -/
def dWhile (c : DT) (tb : DS) : DS := fun nx rt _ _ τ l => ∃ W : Nat → S → M → Prop, (∃ m, W m τ l) ∧ ∀ m τ l, W m τ l →
  c τ l fun b l1 => if b = true then tb (fun τ l => ∃ m', m' < m ∧ W m' τ l) rt nx (fun τ l => ∃ m', m' < m ∧ W m' τ l) τ l1 else nx τ l1
section
variable {X : Cx} {Γ : En} {pos : Pos}
theorem qs_while {c : Expr} {body : List Stmt} {tc : DT} {tb : DS} (hp : PassesOwn (model X.prog X.w) X.A X.env X.xe) (hc : QT X Γ c tc) (hb : QSs X Γ body tb) : QS X Γ (.While c body [] pos) (dWhile tc tb) := PS.imp (ps_while hp hc hb) fun D σ H h => by
  obtain ⟨G, τ, l, nx, rt, bk, ct, sr, ok, ⟨W, ⟨m0, h0⟩, hs⟩, a1, a2, a3, a4⟩ := h
  refine ⟨fun m σ H => ∃ G2 τ2 l2, GLe G G2 ∧ SR X.K G2 σ τ2 ∧ Ok X.K Γ H G2 l2 ∧ W m τ2 l2, ⟨m0, G, τ, l, GLe.refl G, sr, ok, h0⟩, ?_⟩
  rintro m σ H ⟨G2, τ2, l2, e, sr2, k2, hw⟩
  refine ⟨G2, τ2, l2, _, sr2, k2, hs m τ2 l2 hw, fun b H3 G3 l3 e3 k3 q => ?_⟩
  cases b
  · exact a1 σ τ2 H3 G3 l3 (e.trans e3) (sr2.mono e3) k3 q
  · refine ⟨fun σ' H' => ∃ m', m' < m ∧ ∃ G2 τ2 l2, GLe G G2 ∧ SR X.K G2 σ' τ2 ∧ Ok X.K Γ H' G2 l2 ∧ W m' τ2 l2, fun _ _ h => h, ?_⟩
    refine ⟨G3, τ2, l3, _, rt, nx, _, sr2.mono e3, k3, q, fun σ4 τ4 H4 G4 l4 e4 s4 k4 ⟨m', hm, w⟩ => ⟨m', hm, G4, τ4, l4, e.trans (e3.trans e4), s4, k4, w⟩, fun v d H4 G4 l4 e4 => a2 v d H4 G4 l4 (e.trans (e3.trans e4)),
      fun σ4 τ4 H4 G4 l4 e4 => a1 σ4 τ4 H4 G4 l4 (e.trans (e3.trans e4)), fun σ4 τ4 H4 G4 l4 e4 s4 k4 ⟨m', hm, w⟩ => ⟨m', hm, G4, τ4, l4, e.trans (e3.trans e4), s4, k4, w⟩⟩
end
end Z

namespace Z
open PySem PySem.Spec PyProof.Rows L2
/-! ### zip of two texts -/
def ItzS (a b : Str) : It :=
  ⟨fun i _ => i < a.cps.size ∧ i < b.cps.size,
    fun i H v H' => ∃ T c d, v = .ref T ∧ H T = none ∧ H' = upd H T (.tup [.str ⟨#[c]⟩, .str ⟨#[d]⟩]) ∧ a.cps[i]? = some c ∧ b.cps[i]? = some d,
    fun i _ => i ≤ a.cps.size ∧ i ≤ b.cps.size ∧ (i = a.cps.size ∨ i = b.cps.size)⟩
theorem turn_zipS {P : Program} {w : World} {K : PySem.W.Frag} {elts : List Expr} {kk : Nat} {tpos : Pos} {a b : Str} {t1 t2 : Tok} {z TI TO i1 i2 : Addr} (D : ZipSep2 z TI TO i1 i2 [i1] [i2]) :
    Turn P w K (.Tuple elts kk tpos) (ItzS a b) [z, TI, TO, i1, i2] z (fun i h => IsZip h z TI TO .none ∧ IsTupOf2 h TI (.ref i1) (.ref i2) ∧ (∃ x y, IsTupOf2 h TO x y) ∧ h.IsStrIter i1 (strIterType a) a t1 i ∧ h.IsStrIter i2 (strIterType b) b t2 i) where
  mem := by simp
  obj := fun i h st c hc => by
    obtain ⟨hz, hTI, ⟨x, y, hTO⟩, ⟨o1, e1, _, d1⟩, ⟨o2, e2, _, d2⟩⟩ := st
    have e' : c = z ∨ c = TI ∨ c = TO ∨ c = i1 ∨ c = i2 := by simpa using hc
    rcases e' with q | q | q | q | q
    · rw [q]; exact ⟨_, hz, fun v q => nomatch q⟩
    · rw [q]; exact ⟨_, hTI, fun v q => nomatch q⟩
    · rw [q]; exact ⟨_, hTO, fun v q => nomatch q⟩
    · rw [q]; exact ⟨o1, e1, fun v q => by rw [d1] at q; cases q⟩
    · rw [q]; exact ⟨o2, e2, fun v q => by rw [d2] at q; cases q⟩
  keep := fun i h h' st k => by
    obtain ⟨hz, hTI, ⟨x, y, hTO⟩, ⟨o1, e1, r1⟩, ⟨o2, e2, r2⟩⟩ := st
    exact ⟨k z (by simp) _ hz, k TI (by simp) _ hTI, ⟨x, y, k TO (by simp) _ hTO⟩, ⟨o1, k i1 (by simp) _ e1, r1⟩, ⟨o2, k i2 (by simp) _ e2, r2⟩⟩
  item := by
    intro X hP hw hK hc i pins s σ H E I hf st hg
    subst hP hw hK
    obtain ⟨hz, hTI, ⟨x0, y0, hTO⟩, h1, h2⟩ := st
    have hh : X.A.in1.handled = none := I.ok.hd hc
    have hzl : z < s.heap.objs.size := Heap.lt_size hz
    refine wpAny_pyNext_zipD2_item D (Draws.text hh i1 a t1) (Draws.text hh i2 b t2) hz hTI hTO h1 h2 hg.1 hg.2 fun u u2 h' tk p1 p2 z' TO' h1' h2' hT hsz hk => ?_
    obtain ⟨c, tc, hc1, rfl⟩ := p1
    obtain ⟨d, td, hd1, rfl⟩ := p2
    refine ⟨_, rfl, wpAny_letOwnedTupleGo_zip (s := { s with heap := h', toks := tk }) z' fun h'' z'' sb => ?_⟩
    have hT2 : h''.get? s.heap.objs.size = some { cls := .type "tuple", data := .seq #[.str ⟨#[c]⟩ tc, .str ⟨#[d]⟩ td] } := (sb.2 _ (Nat.ne_of_gt hzl)).trans hT
    have new : ObjOk X.prog X.w (upd H s.heap.objs.size (.tup [.str ⟨#[c]⟩, .str ⟨#[d]⟩])) h'' s.heap.objs.size (.tup [.str ⟨#[c]⟩, .str ⟨#[d]⟩]) :=
      ⟨by show 2 ≤ sizeLine; decide, [.str ⟨#[c]⟩ tc, .str ⟨#[d]⟩ td], .cons ⟨tc, rfl⟩ (.cons ⟨td, rfl⟩ .nil), ⟨_, hT2, rfl, _, rfl⟩⟩
    have I1 : Inv X pins σ (upd H s.heap.objs.size (.tup [.str ⟨#[c]⟩, .str ⟨#[d]⟩])) { s with heap := h'', toks := tk } :=
      I.turnedNew (t' := tk) (ch := [z, TI, TO, i1, i2]) (fun c o hb q => (sb.2 c (fun q' => hb (by simp [q']))).trans (hk c o (fun q' => hb (by simp [q'])) (fun q' => hb (by simp [q'])) (fun q' => hb (by simp [q'])) (fun q' => hb (by simp [q'])) q)) hf (Nat.le_refl _) new
    have s1 : ∀ {j : Addr} {ty : String} {x : Str} {t : Tok} {n : Nat}, j ≠ z → h'.IsStrIter j ty x t n → h''.IsStrIter j ty x t n := fun hj y => by
      obtain ⟨o, e, r⟩ := y
      exact ⟨o, (sb.2 _ hj).trans e, r⟩
    refine ⟨.ref s.heap.objs.size, _, I1, rfl, ⟨_, c, d, rfl, I.hok.fresh (Nat.le_refl _), rfl, hc1, hd1⟩, ⟨z'', ?_, ⟨.str ⟨#[c]⟩ tc, .str ⟨#[d]⟩ td, ?_⟩, ?_, ?_⟩, fun c hcm => ?_⟩
    · exact (sb.2 _ D.TIz).trans (hk _ _ D.TIz D.TITO D.TIi1 D.TIi2 hTI)
    · exact (sb.2 _ D.TOz).trans TO'
    · exact s1 (fun e => D.zi1 e.symm) h1'
    · exact s1 (fun e => D.zi2 e.symm) h2'
    · have hlt : c < s.heap.objs.size := by
        have e' : c = z ∨ c = TI ∨ c = TO ∨ c = i1 ∨ c = i2 := by simpa using hcm
        rcases e' with q | q | q | q | q
        · rw [q]; exact hzl
        · rw [q]; exact Heap.lt_size hTI
        · rw [q]; exact Heap.lt_size hTO
        · rw [q]; obtain ⟨_, e1, _⟩ := h1; exact Heap.lt_size e1
        · rw [q]; obtain ⟨_, e2, _⟩ := h2; exact Heap.lt_size e2
      rw [upd_ne (Nat.ne_of_lt hlt)]
      exact (hf c hcm).1
  done := by
    intro X hP hw hK hc i pins s σ H E I hf st hg
    subst hP hw hK
    obtain ⟨hz, hTI, ⟨x0, y0, hTO⟩, h1, h2⟩ := st
    have hh : X.A.in1.handled = none := I.ok.hd hc
    exact wpAny_pyNext_zipD2_end D (Draws.text hh i1 a t1) (Draws.text hh i2 b t2) hz hTI hTO h1 h2 hg.1 hg.2.1 hg.2.2 fun h' tk hk => ⟨rfl, I.turnedL (t' := tk) (ch := [z, TI, TO, i1, i2]) (fun c o hb q =>
      hk c o (fun q' => hb (by simp [q'])) (fun q' => hb (by simp [q'])) (fun q' => hb (by simp [q'])) (fun q' => hb (by simp [q'])) q) hf⟩
  self := fun A i s Q E st h => wpAny_pyIter_zip st.1 h
def iZipB (K : PySem.W.Frag) (ta : TA) : TI := fun σ H R => ta σ H fun vs H1 => (∃ a b xs ys, vs = [.ref a, .ref b] ∧ ((SqL K H1 a xs ∧ SqL K H1 b ys ∧ R (Itz K a b) H1) ∨ (SqT K H1 a xs ∧ SqT K H1 b ys ∧ R (RZ.ItzT K a b) H1))) ∨ ∃ x y, vs = [.str x, .str y] ∧ R (ItzS x y) H1
theorem pi_zipB {X : Cx} {e e2 : Expr} {ta : TA} {p pos tpos : Pos} {elts : List Expr} {kk : Nat} (hg : Gl X "zip") (hm : X.mg "zip" = none) (ha : PA X [e, e2] ta)
    (hs : starEach [e, e2] X.env = (false, eval e X.env) :: starEach [e2] X.env := by rfl) (hpl : (backTo pos (starEach [e2] X.env)).any (·.1) = false := by rfl) :
    PI X (.Tuple elts kk tpos) (.Call (.Name "zip" p) [e, e2] [] pos) (iZipB X.K ta) := by
  refine ⟨fun pins s σ H R I h => ?_⟩
  refine Call_ (ld_blt I hg hm PyProof.Rows.boot_zip (PyProof.Rows.callWith_type1 (thn (ha.run pos pins s σ H _ I h) fun us s1 ⟨vs, H1, I1, r1, q1⟩ => ?_) hs hpl))
  have fresh5 : ∀ c, c ∈ [s1.heap.objs.size + 4, s1.heap.objs.size + 2, s1.heap.objs.size + 3, s1.heap.objs.size, s1.heap.objs.size + 1] → FpOk X pins H1 c := fun c hcm => by
    have e' : c = s1.heap.objs.size + 4 ∨ c = s1.heap.objs.size + 2 ∨ c = s1.heap.objs.size + 3 ∨ c = s1.heap.objs.size ∨ c = s1.heap.objs.size + 1 := by simpa using hcm
    have hle : s1.heap.objs.size ≤ c := by
      rcases e' with z | z | z | z | z
      · rw [z]; exact Nat.le_add_right _ _
      · rw [z]; exact Nat.le_add_right _ _
      · rw [z]; exact Nat.le_add_right _ _
      · rw [z]; exact Nat.le_refl _
      · rw [z]; exact Nat.le_add_right _ _
    exact I1.fpOk hle (I1.hok.fresh hle)
  rcases q1 with ⟨a, b, xs, ys, ex, q1⟩ | ⟨x, y, ex, q⟩
  · subst ex
    cases r1 with
    | cons r rr =>
      cases rr with
      | cons r' rr =>
        cases rr
        cases r
        cases r'
        rcases q1 with ⟨hqx, hqy, q⟩ | ⟨hqx, hqy, q⟩
        · obtain ⟨its, rv, p1, _⟩ := I1.list hqx
          obtain ⟨its2, rv2, p2, _⟩ := I1.list hqy
          refine call_zip_2 p1.isList p2.isList fun h' hz hTI hTO h1 h2 hsz hk => wpAny_pyIter_zip hz ?_
          have I2 : Inv X pins σ H1 { s1 with heap := h' } := I1.kept (t' := s1.toks) hk
          exact ⟨s1.heap.objs.size + 4, [s1.heap.objs.size + 4, s1.heap.objs.size + 2, s1.heap.objs.size + 3, s1.heap.objs.size, s1.heap.objs.size + 1], _, _, H1, rfl, I2, turn_zip (PySem.W.ktu_apart s1.heap.objs.size a b p1.lt p2.lt), ⟨hz, hTI, ⟨_, _, hTO⟩, h1, h2⟩, fun c hc => fresh5 c hc, q⟩
        · obtain ⟨its, rv, p1, _⟩ := I1.tuple hqx
          obtain ⟨its2, rv2, p2, _⟩ := I1.tuple hqy
          obtain ⟨o1, ho1, _⟩ := id p1
          obtain ⟨o2, ho2, _⟩ := id p2
          refine RZ.call_zipT (show s1.heap.IsTuple a its.toArray from p1) (show s1.heap.IsTuple b its2.toArray from p2) fun h' hz hTI hTO h1 h2 hsz hk => wpAny_pyIter_zip hz ?_
          have I2 : Inv X pins σ H1 { s1 with heap := h' } := I1.kept (t' := s1.toks) hk
          exact ⟨s1.heap.objs.size + 4, [s1.heap.objs.size + 4, s1.heap.objs.size + 2, s1.heap.objs.size + 3, s1.heap.objs.size, s1.heap.objs.size + 1], _, _, H1, rfl, I2, RZ.turn_zipT (PySem.W.ktu_apart s1.heap.objs.size a b (Heap.lt_size ho1) (Heap.lt_size ho2)), ⟨hz, hTI, ⟨_, _, hTO⟩, h1, h2⟩, fun c hc => fresh5 c hc, q⟩
  · subst ex
    cases r1 with
    | cons r rr =>
      cases rr with
      | cons r' rr =>
        cases rr
        obtain ⟨t1, rfl⟩ := r
        obtain ⟨t2, rfl⟩ := r'
        refine zip_begins2 (begins_text x t1) (begins_text y t2) trivial trivial fun h' hz hTI hTO h1 h2 hsz hk => wpAny_pyIter_zip hz ?_
        have I2 : Inv X pins σ H1 { s1 with heap := h' } := I1.kept (t' := s1.toks) hk
        exact ⟨s1.heap.objs.size + 4, [s1.heap.objs.size + 4, s1.heap.objs.size + 2, s1.heap.objs.size + 3, s1.heap.objs.size, s1.heap.objs.size + 1], _, _, H1, rfl, I2, turn_zipS (zip_sep2 (fp1 := []) (fp2 := []) (fun _ h => nomatch h) (fun _ h => nomatch h)), ⟨hz, hTI, ⟨_, _, hTO⟩, ⟨_, h1, rfl, rfl⟩, ⟨_, h2, rfl, rfl⟩⟩, fun c hc => fresh5 c hc, q⟩
end Z

namespace Z
open PySem PySem.Spec PyProof.Rows L2
/-! ### what is walked -/
abbrev DI := S → M → (List D → (M → Prop) → M → Prop) → Prop
structure Wk (K : PySem.W.Frag) (Γ : En) (J : It) (G1 : GM) (xs : List D) (st : M → Prop) : Prop where
  go : ∀ i H G l, GLe G1 G → Ok K Γ H G l → st l → i < xs.length → J.go i H
  stop : ∀ i H G l, GLe G1 G → Ok K Γ H G l → st l → xs.length ≤ i → i ≤ xs.length → J.stop i H
  yld : ∀ i H G l x H', GLe G1 G → Ok K Γ H G l → st l → i < xs.length → J.yld i H x H' → ∃ d G', xs[i]? = some d ∧ GLe G G' ∧ Ok K Γ H' G' l ∧ RV K G' x d ∧ (∀ b o, H b = some o → H' b = some o) ∧ ∀ a g, G' a = some g → G a = some g ∨ H a = none
def li (K : PySem.W.Frag) (t : DI) : TI := fun σ H R => ∃ Γ G τ l Q', SR K G σ τ ∧ Ok K Γ H G l ∧ t τ l Q' ∧ ∀ J H2 G2 l2 xs st, GLe G G2 → Ok K Γ H2 G2 l2 → (∀ Γ', Wk K Γ' J G2 xs st) → Q' xs st l2 → R J H2
abbrev QI (X : Cx) (tg iter : Expr) (t : DI) : Prop := PI X tg iter (li X.K t)
theorem PI.imp {X : Cx} {tg e : Expr} {t t' : TI} (h : PI X tg e t) (m : ∀ σ H R, t' σ H R → t σ H R) : PI X tg e t' := ⟨fun pins s σ H R I q => h.run pins s σ H R I (m _ _ _ q)⟩
/-- a list, a tuple, a text -/
def iAny (K : PySem.W.Frag) (tl : TE) : TI := fun σ H R => tl σ H fun x H1 => (∃ a, x = .ref a ∧ (∃ xs, SqL K H1 a xs) ∧ R (Itl K a) H1) ∨ (∃ a, x = .ref a ∧ (∃ xs, SqT K H1 a xs) ∧ R (Itt K a) H1) ∨ (∃ y, x = .str y ∧ R (Its y) H1)
theorem pi_any {X : Cx} {tg e : Expr} {tl : TE} (hl : PE X e tl) : PI X tg e (iAny X.K tl) := by
  refine ⟨fun pins s σ H R I h => ?_⟩
  refine thn (hl.run pins s σ H _ I h) fun v s1 ⟨x, H1, I1, r1, q1⟩ => ?_
  rcases q1 with ⟨a, rfl, ⟨xs, hq⟩, q⟩ | ⟨a, rfl, ⟨xs, hq⟩, q⟩ | ⟨y, rfl, q⟩
  · cases r1
    obtain ⟨its, rv, p, hz⟩ := I1.list hq
    refine wpAny_pyIter_list p.isList ?_
    refine ⟨s1.heap.objs.size, [s1.heap.objs.size], _, _, H1, rfl, I1.kept (t' := s1.toks) fun b o e => Heap.get?_push_of_some _ e, turn_list a _, ⟨_, Heap.get?_push_size _ rfl, rfl, rfl⟩, fun b hb => ?_, q⟩
    have e : b = s1.heap.objs.size := by simpa using hb
    subst e
    exact I1.fpOk (Nat.le_refl _) (I1.hok.fresh (Nat.le_refl _))
  · cases r1
    obtain ⟨its, rv, p, hz⟩ := I1.tuple hq
    refine wpAny_pyIter_tuple (show s1.heap.IsTuple a its.toArray from p) ?_
    refine ⟨s1.heap.objs.size, [s1.heap.objs.size], _, _, H1, rfl, I1.kept (t' := s1.toks) fun b o e => Heap.get?_push_of_some _ e, turn_tuple a _, ⟨_, Heap.get?_push_size _ rfl, rfl, rfl⟩, fun b hb => ?_, q⟩
    have e : b = s1.heap.objs.size := by simpa using hb
    subst e
    exact I1.fpOk (Nat.le_refl _) (I1.hok.fresh (Nat.le_refl _))
  · obtain ⟨t, rfl⟩ := r1
    cases ha : y.cps.all (· < 128)
    · exact wpAny_pyIter_wide ha (pi_one (tk := s1.toks) I1 _ (turn_str _ y t "str_iterator" (.inr rfl)) ⟨_, Heap.get?_push_size _ rfl, rfl, rfl⟩ q)
    · exact wpAny_pyIter_ascii ha (pi_one (tk := s1.toks) I1 _ (turn_str _ y t "str_ascii_iterator" (.inl rfl)) ⟨_, Heap.get?_push_size _ rfl, rfl, rfl⟩ q)
def signs (y : Str) : List D := y.cps.toList.map fun c => .str ⟨#[c]⟩
def diAny (t : DE) : DI := fun τ l Q => t τ l fun d l1 => match d with
  | .str y => Q (signs y) (fun _ => True) l1
  | d => ∃ ds, asQ l1 d ds ∧ Q ds (fun l => asQ l d ds) l1
def rngD (lo : Int) (n : Nat) : List D := (List.range n).map fun i => .int (lo + (i : Nat))
def rngC (lo c : Int) (n : Nat) : List D := (List.range n).map fun i => .int (lo + (i : Nat) * c)
def diR1 (t : DA) : DI := fun τ l Q => t τ l fun ds l1 => ∃ j : Int, ds = [.int j] ∧ -(2 ^ 62) ≤ j ∧ j < 2 ^ 62 ∧ Q (rngD 0 j.toNat) (fun _ => True) l1
def diR2 (t : DA) : DI := fun τ l Q => t τ l fun ds l1 => ∃ i j : Int, ds = [.int i, .int j] ∧ (-(2 ^ 62) ≤ i ∧ i < 2 ^ 62 ∧ -(2 ^ 62) ≤ j ∧ j < 2 ^ 62) ∧ Q (rngD i (j - i).toNat) (fun _ => True) l1
def diR3 (t : DA) : DI := fun τ l Q => t τ l fun ds l1 => ∃ (i j c : Int) (n : Nat), ds = [.int i, .int j, .int c] ∧ RgC i j c n ∧ Q (rngC i c n) (fun _ => True) l1
def enumD (xs : List D) : List D := xs.zipIdx.map fun p => .tup [.int (p.2 : Nat), p.1]
def zipD (xs ys : List D) : List D := (xs.zip ys).map fun p => .tup [p.1, p.2]
def diEnum (t : DA) : DI := fun τ l Q => t τ l fun ds l1 => ∃ d xs, ds = [d] ∧ asL l1 d xs ∧ Q (enumD xs) (fun l => asL l d xs) l1
def asT : D → List D → Prop
  | .tup xs, ds => xs = ds
  | _, _ => False
def diZip (t : DA) : DI := fun τ l Q => t τ l fun ds l1 => (∃ d e xs ys, ds = [d, e] ∧ ((asL l1 d xs ∧ asL l1 e ys ∧ Q (zipD xs ys) (fun l => asL l d xs ∧ asL l e ys) l1) ∨ (asT d xs ∧ asT e ys ∧ Q (zipD xs ys) (fun _ => True) l1))) ∨
  ∃ x y, ds = [.str x, .str y] ∧ Q (zipD (signs x) (signs y)) (fun _ => True) l1
section
variable {K : PySem.W.Frag} {Γ : En}
theorem two_T (k : Ok K Γ H G l) (r : RV K G v d) (h : asT d ds) : ∃ a xs, v = .ref a ∧ SqT K H a xs ∧ RVs K G xs ds := by
  cases r with
  | tup p r => cases h; exact ⟨_, _, rfl, k.sqT p, r⟩
  | _ => exact h.elim
theorem wk_list {a : Addr} {d : D} {ds : List D} {G1 : GM} (r : RV K G1 (.ref a) d) : Wk K Γ (Itl K a) G1 ds (fun l => asL l d ds) where
  go := fun i H G l e k s hi => by
    obtain ⟨b, xs, eb, h1, h2⟩ := asL_at k (r.mono e) s
    cases eb
    have : i < xs.length := by rw [h2.length]; exact hi
    exact ⟨xs, xs[i], h1, List.getElem?_eq_getElem this⟩
  stop := fun i H G l e k s hi hi2 => by
    obtain ⟨b, xs, eb, h1, h2⟩ := asL_at k (r.mono e) s
    cases eb
    exact ⟨xs, h1, by rw [h2.length]; exact hi⟩
  yld := fun i H G l x H' e k s hi hy => by
    obtain ⟨b, xs, eb, h1, h2⟩ := asL_at k (r.mono e) s
    cases eb
    obtain ⟨rfl, hx⟩ := hy
    obtain ⟨d', hd, rd⟩ := h2.getV (hx xs h1)
    exact ⟨d', G, hd, GLe.refl G, k, rd, fun _ _ e => e, fun _ _ e => .inl e⟩
theorem wk_tup {a : Addr} {d : D} {ds : List D} {G1 : GM} (r : RV K G1 (.ref a) d) (s : asT d ds) {st : M → Prop} : Wk K Γ (Itt K a) G1 ds st where
  go := fun i H G l e k _ hi => by
    obtain ⟨b, xs, eb, h1, h2⟩ := two_T k (r.mono e) s
    cases eb
    have : i < xs.length := by rw [h2.length]; exact hi
    exact ⟨xs, xs[i], h1, List.getElem?_eq_getElem this⟩
  stop := fun i H G l e k _ hi hi2 => by
    obtain ⟨b, xs, eb, h1, h2⟩ := two_T k (r.mono e) s
    cases eb
    exact ⟨xs, h1, by rw [h2.length]; exact hi⟩
  yld := fun i H G l x H' e k _ hi hy => by
    obtain ⟨b, xs, eb, h1, h2⟩ := two_T k (r.mono e) s
    cases eb
    obtain ⟨rfl, hx⟩ := hy
    obtain ⟨d', hd, rd⟩ := h2.getV (hx xs h1)
    exact ⟨d', G, hd, GLe.refl G, k, rd, fun _ _ e => e, fun _ _ e => .inl e⟩
theorem wk_str {y : Str} {G1 : GM} {st : M → Prop} : Wk K Γ (Its y) G1 (signs y) st where
  go := fun i H G l e k _ hi => by
    show i < y.cps.size
    unfold signs at hi
    rwa [List.length_map, Array.length_toList] at hi
  stop := fun i H G l e k _ hi hi2 => by
    show y.cps.size ≤ i
    unfold signs at hi
    rwa [List.length_map, Array.length_toList] at hi
  yld := fun i H G l x H' e k _ hi hy => by
    obtain ⟨rfl, c, hc, rfl⟩ := hy
    refine ⟨.str ⟨#[c]⟩, G, ?_, GLe.refl G, k, .str _, fun _ _ e => e, fun _ _ e => .inl e⟩
    unfold signs
    rw [List.getElem?_map, Array.getElem?_toList, hc]; rfl
theorem wk_range {lo : Int} {n : Nat} {G1 : GM} {st : M → Prop} : Wk K Γ (Itr lo n) G1 (rngD lo n) st where
  go := fun i H G l e k _ hi => by unfold rngD at hi; rw [List.length_map, List.length_range] at hi; exact hi
  stop := fun i H G l e k _ hi hi2 => by unfold rngD at hi; rw [List.length_map, List.length_range] at hi; exact hi
  yld := fun i H G l x H' e k _ hi hy => by
    obtain ⟨rfl, rfl⟩ := hy
    refine ⟨.int (lo + (i : Nat)), G, ?_, GLe.refl G, k, .int _, fun _ _ e => e, fun _ _ e => .inl e⟩
    unfold rngD at hi ⊢
    rw [List.length_map, List.length_range] at hi
    rw [List.getElem?_map, List.getElem?_range hi]; rfl
theorem wk_rangeC {lo c : Int} {n : Nat} {G1 : GM} {st : M → Prop} : Wk K Γ (Itc lo c n) G1 (rngC lo c n) st where
  go := fun i H G l e k _ hi => by unfold rngC at hi; rw [List.length_map, List.length_range] at hi; exact hi
  stop := fun i H G l e k _ hi hi2 => by unfold rngC at hi; rw [List.length_map, List.length_range] at hi; exact hi
  yld := fun i H G l x H' e k _ hi hy => by
    obtain ⟨rfl, rfl⟩ := hy
    refine ⟨.int (lo + (i : Nat) * c), G, ?_, GLe.refl G, k, .int _, fun _ _ e => e, fun _ _ e => .inl e⟩
    unfold rngC at hi ⊢
    rw [List.length_map, List.length_range] at hi
    rw [List.getElem?_map, List.getElem?_range hi]; rfl
theorem new2 {H : Hp} {G : GM} {l : M} {T : Addr} {x y : V} {d e : D} (k : Ok K Γ H G l) (n : H T = none) (r1 : RV K G x d) (r2 : RV K G y e) :
    ∃ G', GLe G G' ∧ Ok K Γ (upd H T (.tup [x, y])) G' l ∧ RV K G' (.ref T) (.tup [d, e]) ∧ (∀ b o, H b = some o → upd H T (.tup [x, y]) b = some o) ∧ ∀ a g, G' a = some g → G a = some g ∨ H a = none := by
  have le : GLe G (setG G T (.tup [x, y])) := GLe.set (k.free n)
  exact ⟨_, le, k.newTup n, .tup (.inl setG_same) (.cons (r1.mono le) (.cons (r2.mono le) .nil)), fun b o e => by rw [upd_ne (ne_of_none e n)]; exact e, fun a g e => by
    by_cases z : a = T
    · subst z; exact .inr n
    · rw [setG_ne z] at e; exact .inl e⟩
theorem enum_at {xs : List D} {i : Nat} {d : D} (h : xs[i]? = some d) : (enumD xs)[i]? = some (.tup [.int (i : Nat), d]) := by
  unfold enumD
  rw [List.getElem?_map, List.getElem?_zipIdx, h]
  simp
theorem enum_len (xs : List D) : (enumD xs).length = xs.length := by unfold enumD; rw [List.length_map, List.length_zipIdx]
theorem zip_len (xs ys : List D) : (zipD xs ys).length = min xs.length ys.length := by unfold zipD; rw [List.length_map, List.length_zip]
theorem zip_at {xs ys : List D} {i : Nat} {d e : D} (h : xs[i]? = some d) (h2 : ys[i]? = some e) : (zipD xs ys)[i]? = some (.tup [d, e]) := by
  unfold zipD
  rw [List.getElem?_map, (List.getElem?_zip_eq_some (z := (d, e))).mpr ⟨h, h2⟩]; rfl
theorem wk_enum {a : Addr} {d : D} {ds : List D} {G1 : GM} (r : RV K G1 (.ref a) d) : Wk K Γ (Ite K a) G1 (enumD ds) (fun l => asL l d ds) where
  go := fun i H G l e k s hi => by
    obtain ⟨b, xs, eb, h1, h2⟩ := asL_at k (r.mono e) s
    cases eb
    have : i < xs.length := by rw [h2.length]; rw [enum_len] at hi; exact hi
    exact ⟨xs, xs[i], h1, List.getElem?_eq_getElem this⟩
  stop := fun i H G l e k s hi hi2 => by
    obtain ⟨b, xs, eb, h1, h2⟩ := asL_at k (r.mono e) s
    cases eb
    exact ⟨xs, h1, by rw [h2.length]; rw [enum_len] at hi; exact hi⟩
  yld := fun i H G l x H' e k s hi hy => by
    obtain ⟨b, xs, eb, h1, h2⟩ := asL_at k (r.mono e) s
    cases eb
    obtain ⟨T, y, rfl, n, rfl, hx⟩ := hy
    obtain ⟨d', hd, rd⟩ := h2.getV (hx xs h1)
    obtain ⟨G', g1, g2, g3, g4⟩ := new2 k n (.int ((i : Nat) : Int)) rd
    exact ⟨_, G', enum_at hd, g1, g2, g3, g4⟩
theorem wk_zipL {a b : Addr} {d e : D} {ds es : List D} {G1 : GM} (r : RV K G1 (.ref a) d) (r2 : RV K G1 (.ref b) e) : Wk K Γ (Itz K a b) G1 (zipD ds es) (fun l => asL l d ds ∧ asL l e es) where
  go := fun i H G l le k s hi => by
    obtain ⟨_, xs, eb, h1, h2⟩ := asL_at k (r.mono le) s.1
    obtain ⟨_, ys, eb2, h3, h4⟩ := asL_at k (r2.mono le) s.2
    cases eb; cases eb2
    rw [zip_len] at hi
    have q1 : i < xs.length := by rw [h2.length]; omega
    have q2 : i < ys.length := by rw [h4.length]; omega
    exact ⟨xs, ys, xs[i], ys[i], h1, h3, List.getElem?_eq_getElem q1, List.getElem?_eq_getElem q2⟩
  stop := fun i H G l le k s hi hi2 => by
    obtain ⟨_, xs, eb, h1, h2⟩ := asL_at k (r.mono le) s.1
    obtain ⟨_, ys, eb2, h3, h4⟩ := asL_at k (r2.mono le) s.2
    cases eb; cases eb2
    rw [zip_len] at hi
    exact ⟨xs, ys, h1, h3, by rw [h2.length, h4.length]; omega⟩
  yld := fun i H G l x H' le k s hi hy => by
    obtain ⟨_, xs, eb, h1, h2⟩ := asL_at k (r.mono le) s.1
    obtain ⟨_, ys, eb2, h3, h4⟩ := asL_at k (r2.mono le) s.2
    cases eb; cases eb2
    obtain ⟨T, y, z, rfl, n, rfl, hx, hz⟩ := hy
    obtain ⟨d1, hd1, rd1⟩ := h2.getV (hx xs h1)
    obtain ⟨d2, hd2, rd2⟩ := h4.getV (hz ys h3)
    obtain ⟨G', g1, g2, g3, g4⟩ := new2 k n rd1 rd2
    exact ⟨_, G', zip_at hd1 hd2, g1, g2, g3, g4⟩
theorem wk_zipT {a b : Addr} {d e : D} {ds es : List D} {G1 : GM} (r : RV K G1 (.ref a) d) (r2 : RV K G1 (.ref b) e) (s1 : asT d ds) (s2 : asT e es) {st : M → Prop} : Wk K Γ (RZ.ItzT K a b) G1 (zipD ds es) st where
  go := fun i H G l le k _ hi => by
    obtain ⟨_, xs, eb, h1, h2⟩ := two_T k (r.mono le) s1
    obtain ⟨_, ys, eb2, h3, h4⟩ := two_T k (r2.mono le) s2
    cases eb; cases eb2
    rw [zip_len] at hi
    have q1 : i < xs.length := by rw [h2.length]; omega
    have q2 : i < ys.length := by rw [h4.length]; omega
    exact ⟨xs, ys, xs[i], ys[i], h1, h3, List.getElem?_eq_getElem q1, List.getElem?_eq_getElem q2⟩
  stop := fun i H G l le k _ hi hi2 => by
    obtain ⟨_, xs, eb, h1, h2⟩ := two_T k (r.mono le) s1
    obtain ⟨_, ys, eb2, h3, h4⟩ := two_T k (r2.mono le) s2
    cases eb; cases eb2
    rw [zip_len] at hi
    exact ⟨xs, ys, h1, h3, by rw [h2.length, h4.length]; omega⟩
  yld := fun i H G l x H' le k _ hi hy => by
    obtain ⟨_, xs, eb, h1, h2⟩ := two_T k (r.mono le) s1
    obtain ⟨_, ys, eb2, h3, h4⟩ := two_T k (r2.mono le) s2
    cases eb; cases eb2
    obtain ⟨T, y, z, rfl, n, rfl, hx, hz⟩ := hy
    obtain ⟨d1, hd1, rd1⟩ := h2.getV (hx xs h1)
    obtain ⟨d2, hd2, rd2⟩ := h4.getV (hz ys h3)
    obtain ⟨G', g1, g2, g3, g4⟩ := new2 k n rd1 rd2
    exact ⟨_, G', zip_at hd1 hd2, g1, g2, g3, g4⟩
theorem sign_at {x : Str} {i c : Nat} (h : x.cps[i]? = some c) : (signs x)[i]? = some (.str ⟨#[c]⟩) := by
  unfold signs
  rw [List.getElem?_map, Array.getElem?_toList, h]; rfl
theorem signs_len (x : Str) : (signs x).length = x.cps.size := by unfold signs; rw [List.length_map, Array.length_toList]
theorem wk_zipS {x y : Str} {G1 : GM} {st : M → Prop} : Wk K Γ (ItzS x y) G1 (zipD (signs x) (signs y)) st where
  go := fun i H G l e k _ hi => by
    rw [zip_len, signs_len, signs_len] at hi
    exact ⟨by omega, by omega⟩
  stop := fun i H G l e k _ hi hi2 => by
    rw [zip_len, signs_len, signs_len] at hi hi2
    exact ⟨by omega, by omega, by omega⟩
  yld := fun i H G l v H' e k _ hi hy => by
    obtain ⟨T, c, d, rfl, n, rfl, h1, h2⟩ := hy
    obtain ⟨G', g1, g2, g3, g4⟩ := new2 k n (.str ⟨#[c]⟩) (.str ⟨#[d]⟩)
    exact ⟨_, G', zip_at (sign_at h1) (sign_at h2), g1, g2, g3, g4⟩
end
section
variable {X : Cx} {tg e e2 e3 : Expr} {te : DE} {ta : DA} {p pos tpos : Pos} {elts : List Expr} {kk : Nat}
theorem qi_any (he : ∀ Γ, QE X Γ e te) : QI X tg e (diAny te) := ⟨fun pins s σ H R I h => by
  obtain ⟨Γ, G, τ, l, Q', sr, ok, h, hQ⟩ := h
  refine (pi_any (he Γ)).run pins s σ H R I ⟨G, τ, l, _, sr, ok, h, fun v d H2 G2 l2 e k2 rv q => ?_⟩
  have gen : (∃ ds, asQ l2 d ds ∧ Q' ds (fun l => asQ l d ds) l2) → (∃ a, v = .ref a ∧ (∃ xs, SqL X.K H2 a xs) ∧ R (Itl X.K a) H2) ∨ (∃ a, v = .ref a ∧ (∃ xs, SqT X.K H2 a xs) ∧ R (Itt X.K a) H2) ∨ (∃ y, v = .str y ∧ R (Its y) H2) := by
    rintro ⟨ds, h1, q⟩
    by_cases ht : ∃ ys, d = .tup ys
    · obtain ⟨ys, rfl⟩ := ht
      cases h1
      cases rv with
      | tup p r => exact .inr (.inl ⟨_, rfl, ⟨_, k2.sqT p⟩, hQ _ H2 G2 l2 _ _ e k2 (fun Γ' => wk_tup (.tup p r) rfl) q⟩)
    · have h2 : ∀ l, asL l d ds = asQ l d ds := fun l => by cases d <;> first | rfl | exact absurd ⟨_, rfl⟩ ht
      have h3 : asL l2 d ds := by rw [h2]; exact h1
      obtain ⟨a, us, rfl, hs, rs⟩ := asL_at k2 rv h3
      refine .inl ⟨a, rfl, ⟨_, hs⟩, hQ _ H2 G2 l2 _ _ e k2 (fun Γ' => ?_) q⟩
      have w := wk_list (Γ := Γ') (ds := ds) rv
      have e4 : (fun l => asL l d ds) = (fun l => asQ l d ds) := funext h2
      rw [e4] at w
      exact w
  cases d <;> first | exact gen q | skip
  case str y => cases rv; exact .inr (.inr ⟨y, rfl, hQ _ H2 G2 l2 _ _ e k2 (fun Γ' => wk_str) q⟩)⟩
theorem qi_r1 (hg : Gl X "range") (hm : X.mg "range" = none) (ha : ∀ Γ, QA X Γ [e] ta) (hs : starEach [e] X.env = [(false, eval e X.env)] := by rfl) : QI X tg (.Call (.Name "range" p) [e] [] pos) (diR1 ta) := ⟨fun pins s σ H R I h => by
  obtain ⟨Γ, G, τ, l, Q', sr, ok, h, hQ⟩ := h
  refine (pi_range1 hg hm (ha Γ) hs).run pins s σ H R I ⟨G, τ, l, _, sr, ok, h, fun vs ds H2 G2 l2 e k2 rv q => ?_⟩
  obtain ⟨j, rfl, h1, h2, q⟩ := q
  obtain rfl := RVs.ints (ns := [j]) rv
  exact ⟨j, rfl, h1, h2, hQ _ H2 G2 l2 _ _ e k2 (fun Γ' => wk_range) q⟩⟩
theorem qi_r2 (hg : Gl X "range") (hm : X.mg "range" = none) (ha : ∀ Γ, QA X Γ [e, e2] ta) (hs : starEach [e, e2] X.env = [(false, eval e X.env), (false, eval e2 X.env)] := by rfl) (hs2 : starEach [e2] X.env = [(false, eval e2 X.env)] := by rfl) : QI X tg (.Call (.Name "range" p) [e, e2] [] pos) (diR2 ta) := ⟨fun pins s σ H R I h => by
  obtain ⟨Γ, G, τ, l, Q', sr, ok, h, hQ⟩ := h
  refine (pi_range2 hg hm (ha Γ) hs hs2).run pins s σ H R I ⟨G, τ, l, _, sr, ok, h, fun vs ds H2 G2 l2 e k2 rv q => ?_⟩
  obtain ⟨i, j, rfl, h1, q⟩ := q
  obtain rfl := RVs.ints (ns := [i, j]) rv
  exact ⟨i, j, rfl, h1, hQ _ H2 G2 l2 _ _ e k2 (fun Γ' => wk_range) q⟩⟩
theorem qi_r3 (hg : Gl X "range") (hm : X.mg "range" = none) (ha : ∀ Γ, QA X Γ [e, e2, e3] ta) (hs : starEach [e, e2, e3] X.env = (false, eval e X.env) :: starEach [e2, e3] X.env := by rfl) (hpl : (backTo pos (starEach [e2, e3] X.env)).any (·.1) = false := by rfl) : QI X tg (.Call (.Name "range" p) [e, e2, e3] [] pos) (diR3 ta) := ⟨fun pins s σ H R I h => by
  obtain ⟨Γ, G, τ, l, Q', sr, ok, h, hQ⟩ := h
  refine (pi_range3 hg hm (ha Γ) hs hpl).run pins s σ H R I ⟨G, τ, l, _, sr, ok, h, fun vs ds H2 G2 l2 e k2 rv q => ?_⟩
  obtain ⟨i, j, c, n, rfl, h1, q⟩ := q
  obtain rfl := RVs.ints (ns := [i, j, c]) rv
  exact ⟨i, j, c, n, rfl, h1, hQ _ H2 G2 l2 _ _ e k2 (fun Γ' => wk_rangeC) q⟩⟩
theorem qi_enum (hg : Gl X "enumerate") (hm : X.mg "enumerate" = none) (ha : ∀ Γ, QA X Γ [e] ta) (hs : starEach [e] X.env = [(false, eval e X.env)] := by rfl) : QI X (.Tuple elts kk tpos) (.Call (.Name "enumerate" p) [e] [] pos) (diEnum ta) := ⟨fun pins s σ H R I h => by
  obtain ⟨Γ, G, τ, l, Q', sr, ok, h, hQ⟩ := h
  refine (pi_enum hg hm (ha Γ) hs).run pins s σ H R I ⟨G, τ, l, _, sr, ok, h, fun vs ds H2 G2 l2 e k2 rv q => ?_⟩
  obtain ⟨d, xs, rfl, h1, q⟩ := q
  cases rv with
  | cons r t =>
    cases t
    obtain ⟨a, us, rfl, hs, rs⟩ := asL_at k2 r h1
    exact ⟨a, us, rfl, hs, hQ _ H2 G2 l2 _ _ e k2 (fun Γ' => wk_enum r) q⟩⟩
theorem qi_zip (hg : Gl X "zip") (hm : X.mg "zip" = none) (ha : ∀ Γ, QA X Γ [e, e2] ta) (hs : starEach [e, e2] X.env = (false, eval e X.env) :: starEach [e2] X.env := by rfl) (hpl : (backTo pos (starEach [e2] X.env)).any (·.1) = false := by rfl) :
    QI X (.Tuple elts kk tpos) (.Call (.Name "zip" p) [e, e2] [] pos) (diZip ta) := ⟨fun pins s σ H R I h => by
  obtain ⟨Γ, G, τ, l, Q', sr, ok, h, hQ⟩ := h
  refine (pi_zipB hg hm (ha Γ) hs hpl).run pins s σ H R I ⟨G, τ, l, _, sr, ok, h, fun vs ds H2 G2 l2 e k2 rv q => ?_⟩
  rcases q with ⟨d, d2, xs, ys, rfl, q⟩ | ⟨x, y, rfl, q⟩
  · cases rv with
    | cons r t =>
      cases t with
      | cons r2 t =>
        cases t
        rcases q with ⟨h1, h2, q⟩ | ⟨h1, h2, q⟩
        · obtain ⟨a, us, rfl, hs, rs⟩ := asL_at k2 r h1
          obtain ⟨b, ws, rfl, hs2, rs2⟩ := asL_at k2 r2 h2
          exact .inl ⟨a, b, us, ws, rfl, .inl ⟨hs, hs2, hQ _ H2 G2 l2 _ _ e k2 (fun Γ' => wk_zipL r r2) q⟩⟩
        · obtain ⟨a, us, rfl, hs, rs⟩ := two_T k2 r h1
          obtain ⟨b, ws, rfl, hs2, rs2⟩ := two_T k2 r2 h2
          exact .inl ⟨a, b, us, ws, rfl, .inr ⟨hs, hs2, hQ _ H2 G2 l2 _ _ e k2 (fun Γ' => wk_zipT r r2 h1 h2) q⟩⟩
  · obtain rfl := RVs.strs (ns := [x, y]) rv
    exact .inr ⟨x, y, rfl, hQ _ H2 G2 l2 _ _ e k2 (fun Γ' => wk_zipS) q⟩⟩
end
/-! ### for -/
/-- objects of the small heap may be forgotten, or stand in another order -/
def SubM (l' l : M) : Prop := l' = l ∨ ∃ is : List Nat, is.Nodup ∧ l' = is.filterMap (fun i => l[i]?)
theorem nd_pick {l : M} (nd : (keys l).Nodup) : ∀ {is : List Nat}, is.Nodup → (keys (is.filterMap (fun i => l[i]?))).Nodup ∧ (∀ p ∈ is.filterMap (fun i => l[i]?), p ∈ l) ∧ ∀ a ∈ keys (is.filterMap (fun i => l[i]?)), ∃ i ∈ is, (keys l)[i]? = some a
  | [], _ => ⟨List.nodup_nil, fun p hp => by simp at hp, fun a ha => by simp at ha⟩
  | i :: is, h => by
    obtain ⟨h1, h2⟩ := List.nodup_cons.mp h
    obtain ⟨n1, n2, n3⟩ := nd_pick nd (is := is) h2
    cases e : l[i]? with
    | none =>
      have e' : (i :: is).filterMap (fun i => l[i]?) = is.filterMap (fun i => l[i]?) := by rw [List.filterMap_cons, e]
      rw [e']
      exact ⟨n1, n2, fun a ha => let ⟨j, hj, q⟩ := n3 a ha; ⟨j, List.mem_cons_of_mem _ hj, q⟩⟩
    | some p =>
      have e' : (i :: is).filterMap (fun i => l[i]?) = p :: is.filterMap (fun i => l[i]?) := by rw [List.filterMap_cons, e]
      rw [e']
      have ki : (keys l)[i]? = some p.1 := by show (l.map (·.1))[i]? = _; rw [List.getElem?_map, e]; rfl
      refine ⟨?_, ?_, ?_⟩
      · show (p.1 :: keys _).Nodup
        rw [List.nodup_cons]
        refine ⟨fun hm => ?_, n1⟩
        obtain ⟨j, hj, q⟩ := n3 _ hm
        have ij : i = j := (List.getElem?_inj (by
          rcases Nat.lt_or_ge i (keys l).length with z | z
          · exact z
          · rw [List.getElem?_eq_none_iff.mpr z] at ki; cases ki) nd).mp (ki.trans q.symm)
        subst ij
        exact h1 hj
      · intro q hq
        rcases List.mem_cons.mp hq with z | z
        · subst z; exact mem_of_get e
        · exact n2 q z
      · intro a ha
        rcases List.mem_cons.mp ha with z | z
        · subst z; exact ⟨i, List.mem_cons_self, ki⟩
        · obtain ⟨j, hj, q⟩ := n3 a z; exact ⟨j, List.mem_cons_of_mem _ hj, q⟩
theorem Ok.subM {K : PySem.W.Frag} {Γ : En} {H : Hp} {G : GM} {l l' : M} (k : Ok K Γ H G l) (h : SubM l' l) : Ok K Γ H G l' := by
  rcases h with rfl | ⟨is, h1, rfl⟩
  · exact k
  · obtain ⟨n1, n2, _⟩ := nd_pick k.nd h1
    exact k.sub n1 n2
def We (P : DN) : DN := fun τ l => ∃ l', SubM l' l ∧ P τ l'
/-- what a def hands back: objects may be forgotten -/
def Wr (Q : DK) : DK := fun d l => ∃ l', SubM l' l ∧ Q d l'
def dFor (ti : DI) (g : Tg) (tb : DS) : DS := fun nx rt _ _ τ l => ti τ l fun xs st l1 => ∃ W : Nat → S → M → Prop, W 0 τ l1 ∧ (∀ i τ l, i ≤ xs.length → W i τ l → st l) ∧
  (∀ i x τ l, xs[i]? = some x → W i τ l → g.put x τ fun τ2 => tb (We (W (i + 1))) rt nx (We (W (i + 1))) τ2 l) ∧ (∀ τ l, W xs.length τ l → nx τ l)
section
variable {X : Cx} {Γ : En} {pos : Pos}
theorem qs_for {tg iter : Expr} {body : List Stmt} {ti : DI} {g : Tg} {tb : DS} (hp : PassesOwn (model X.prog X.w) X.A X.env X.xe) (hc : X.calm = true) (hi : QI X tg iter ti) (hg : QG X tg g) (hb : QSs X Γ body tb)
    (hs : ∀ x, foldedSetIterable iter X.env x = pure x := by intro _; rfl) : QS X Γ (.For tg iter body [] pos) (dFor ti g tb) := PS.imp (ps_for hp hc hi hg hb hs) fun D σ H h => by
  obtain ⟨G, τ, l, nx, rt, bk, ct, sr, ok, h, a1, a2, a3, a4⟩ := h
  refine ⟨Γ, G, τ, l, _, sr, ok, h, fun J H1 G1 l1 xs st e1 ok1 wk ⟨W, h0, hst, hs, hd⟩ => ?_⟩
  refine ⟨fun i m σ H => ∃ G2 τ2 l2, GLe G1 G2 ∧ SR X.K G2 σ τ2 ∧ Ok X.K Γ H G2 l2 ∧ W i τ2 l2 ∧ i + m = xs.length, ⟨xs.length, G1, τ, l1, GLe.refl _, sr.mono e1, ok1, h0, Nat.zero_add _⟩, ?_⟩
  rintro i m σ2 H2 ⟨G2, τ2, l2, e2, sr2, k2, hw, hm⟩
  by_cases hi : i < xs.length
  · refine .inr ⟨(wk Γ).go i H2 G2 l2 e2 k2 (hst i τ2 l2 (by omega) hw) hi, fun σ' H' => ∃ G3 τ3 l3, GLe G1 G3 ∧ SR X.K G3 σ' τ3 ∧ Ok X.K Γ H' G3 l3 ∧ We (W (i + 1)) τ3 l3, fun σ' H' ⟨G3, τ3, l3, e3, s3, k3, l4, hl, w3⟩ => ⟨m - 1, by omega, G3, τ3, l4, e3, s3, k3.subM hl, w3, by omega⟩, fun x H' hy => ?_⟩
    obtain ⟨d, G3, hx, e3, k3, rv, _⟩ := (wk Γ).yld i H2 G2 l2 x H' e2 k2 (hst i τ2 l2 (by omega) hw) hi hy
    have e13 := e2.trans e3
    refine Tg.ok k3 g x d σ2 τ2 _ _ (sr2.mono e3) rv (hs i d τ2 l2 hx hw) fun σ4 τ4 s4 _ q => ?_
    refine ⟨G3, τ4, l2, _, rt, nx, _, s4, k3, q, fun σ5 τ5 H5 G5 l5 e5 s5 k5 w => ⟨G5, τ5, l5, e13.trans e5, s5, k5, w⟩, fun v d H5 G5 l5 e5 => a2 v d H5 G5 l5 (e1.trans (e13.trans e5)),
      fun σ5 τ5 H5 G5 l5 e5 => a1 σ5 τ5 H5 G5 l5 (e1.trans (e13.trans e5)), fun σ5 τ5 H5 G5 l5 e5 s5 k5 w => ⟨G5, τ5, l5, e13.trans e5, s5, k5, w⟩⟩
  · have hi2 : i = xs.length := by omega
    subst hi2
    exact .inl ⟨(wk Γ).stop _ H2 G2 l2 e2 k2 (hst _ τ2 l2 (Nat.le_refl _) hw) (Nat.le_refl _) (Nat.le_refl _), a1 σ2 τ2 H2 G2 l2 (e1.trans e2) sr2 k2 (hd τ2 l2 hw)⟩
end
end Z

namespace Z
open PySem PySem.Spec PyProof.Rows L2
/-! ### list comprehensions -/
section
variable {K : PySem.W.Frag} {Γ : En} {H : Hp} {G : GM} {l : M}
theorem Ok.other (k : Ok K Γ H G l) {p : Addr} {ho : HO} (hk : p ∉ keys l) (hG : G p = none) (hΓ : Γ.H p = none) : Ok K Γ (upd H p ho) G l where
  nd := k.nd
  fr := k.fr
  mem := fun q hq => (k.mem q hq).move (GLe.refl G) (upd_ne (fun e => hk (List.mem_map.mpr ⟨q, hq, e⟩)))
  per := fun a g e => (k.per a g e).move (upd_ne (by intro z; subst z; rw [hG] at e; cases e))
  keep := fun a o e h => by rw [upd_ne (by intro z; subst z; rw [hΓ] at e; cases e)]; exact k.keep a o e h
  ext := k.ext
  new := k.new
  newG := k.newG
  ff := fun a ha => upd_there (k.ff a ha)
theorem Ok.notKey (k : Ok K Γ H G l) {p : Addr} (n : H p = none) : p ∉ keys l := fun h => by
  obtain ⟨q, hq, e⟩ := List.mem_map.mp h; exact k.keyNe n q hq e
theorem Ok.adopt (k : Ok K Γ H G l) {p : Addr} {o : MO} (hk : p ∉ keys l) (hG : G p = none) (hΓ : Γ.H p = none) (hm : MOk K G H p o) : Ok K Γ H G ((p, o) :: l) where
  nd := by
    rw [show keys ((p, o) :: l) = p :: keys l from rfl, List.nodup_cons]
    exact ⟨hk, k.nd⟩
  fr := fun q hq => by
    rcases List.mem_cons.mp hq with e | e
    · subst e; exact hG
    · exact k.fr q e
  mem := fun q hq => by
    rcases List.mem_cons.mp hq with e | e
    · subst e; exact hm
    · exact k.mem q e
  per := k.per
  keep := k.keep
  ext := k.ext
  new := fun q hq => by
    rcases List.mem_cons.mp hq with e | e
    · subst e; exact .inr hΓ
    · exact k.new q e
  newG := k.newG
  ff := k.ff
theorem pick_all : ∀ l : M, pick l (l.map fun _ => true) = l
  | [] => rfl
  | x :: l => by show x :: pick l _ = _; rw [pick_all l]
theorem Ok.all (k : Ok K Γ H G l) : Ok K ⟨H, G, keys l⟩ H G l := by
  have h := k.called (l.map fun _ => true)
  rwa [pick_all] at h
theorem Ok.back (k : Ok K Γ H G l) {H2 : Hp} {G2 : GM} {l2 : M} (c : Ok K ⟨H, G, keys l⟩ H2 G2 l2) : Ok K Γ H2 G2 l2 := by
  have c' : Ok K ⟨H, G, keys (pick l (l.map fun _ => true))⟩ H2 G2 l2 := by rw [pick_all]; exact c
  exact (k.after c').sub c.nd fun p hp => (merge_perm l (l.map fun _ => true) l2).symm.subset (List.mem_append_left _ hp)
/-- an object beside the small heap -/
structure Side (K : PySem.W.Frag) (Γ : En) (H : Hp) (G : GM) (l : M) (p : Addr) (ho : HO) : Prop where
  at_ : H p = some ho
  nk : p ∉ keys l
  nG : G p = none
  nΓ : Γ.H p = none
theorem Side.over {p : Addr} {ho : HO} (s : Side K Γ H G l p ho) {H2 : Hp} {G2 : GM} {l2 : M} (c : Ok K ⟨H, G, keys l⟩ H2 G2 l2) : Side K Γ H2 G2 l2 p ho where
  at_ := c.keep p ho s.at_ s.nk
  nk := fun h => by
    obtain ⟨q, hq, e⟩ := List.mem_map.mp h
    rcases c.new q hq with z | z
    · exact s.nk (by rw [← e]; exact z)
    · rw [e] at z; exact absurd (s.at_.symm.trans z) (fun y => nomatch y)
  nG := by
    cases e : G2 p with
    | none => rfl
    | some g =>
      rcases c.newG p g e with z | z | z
      · exact absurd (s.nG.symm.trans z) (fun y => nomatch y)
      · exact absurd (s.at_.symm.trans z) (fun y => nomatch y)
      · exact absurd z s.nk
  nΓ := s.nΓ
end
def wipeD (τ : S) : List Nat → S
  | [] => τ
  | v :: vs => (wipeD τ vs).set v none
theorem SR.wipe {K : PySem.W.Frag} {G : GM} {σ : L2.St} {τ : S} (h : SR K G σ τ) : ∀ vs : List Nat, SR K G (L2.wipe σ vs) (wipeD τ vs)
  | [] => h
  | v :: vs => (SR.wipe h vs).gone v
theorem wipe_in {σ : L2.St} {i : Nat} : ∀ {vs : List Nat}, i ∈ vs → i < σ.length → (L2.wipe σ vs)[i]? = some none
  | v :: vs, h, hl => by
    unfold L2.wipe
    by_cases e : v = i
    · subst e
      rw [List.getElem?_set_self (by rw [wipe_length]; exact hl)]
    · rw [List.getElem?_set_ne e]
      rcases List.mem_cons.mp h with z | z
      · exact absurd z.symm e
      · exact wipe_in z hl
theorem wipe_eq {σ σ2 : L2.St} {vs : List Nat} (hl : σ2.length = σ.length) (h : ∀ j, j ∉ vs → σ2[j]? = σ[j]?) : L2.wipe σ2 vs = L2.wipe σ vs := by
  apply List.ext_getElem?
  intro j
  by_cases hj : j ∈ vs
  · by_cases hb : j < σ.length
    · rw [wipe_in hj (by rw [hl]; exact hb), wipe_in hj hb]
    · rw [List.getElem?_eq_none_iff.mpr (by rw [wipe_length]; omega), List.getElem?_eq_none_iff.mpr (by rw [wipe_length]; omega)]
  · rw [wipe_out hj, wipe_out hj]; exact h j hj
theorem wipe_twice {σ : L2.St} {vs : List Nat} : L2.wipe (L2.wipe σ vs) vs = L2.wipe σ vs := wipe_eq (wipe_length _ _) fun j hj => wipe_out hj
def dYes : DT := fun _ l Q => Q true l
def leA (K : PySem.W.Frag) (t : DE) : TE := fun σ H Q => ∃ Γ, le K Γ t σ H Q
def ltA (K : PySem.W.Frag) (t : DT) : TT := fun σ H Q => ∃ Γ, lt K Γ t σ H Q
theorem pe_A {X : Cx} {e : Expr} {t : DE} (h : ∀ Γ, QE X Γ e t) : PE X e (leA X.K t) := ⟨fun pins s σ H Q I ⟨Γ, q⟩ => (h Γ).run pins s σ H Q I q⟩
theorem pt_A {X : Cx} {e : Expr} {t : DT} (h : ∀ Γ, QT X Γ e t) : PT X e (ltA X.K t) := ⟨fun pins s σ H Q I ⟨Γ, q⟩ => (h Γ).run pins s σ H Q I q⟩
abbrev QTs (X : Cx) (es : List Expr) (t : DT) : Prop := PTs X es (ltA X.K t)
theorem qts_nil {X : Cx} : QTs X [] dYes := ⟨fun pins s σ H Q I q => by
  obtain ⟨Γ, G, τ, l, Q', sr, ok, h, hQ⟩ := q
  exact pts_nil.run pins s σ H Q I (show tYes σ H Q from hQ true H G l (GLe.refl G) ok h)⟩
theorem qts_one {X : Cx} {c : Expr} {t : DT} (h : ∀ Γ, QT X Γ c t) : QTs X [c] t := pts_one (pt_A h)
def dLc (ti : DI) (g : Tg) (tt : DT) (te : DE) (vs : List Nat) : DE := fun τ l Q => ti τ l fun xs st l1 => ∃ W : Nat → List D → M → Prop, W 0 [] l1 ∧ (∀ i acc l, i ≤ xs.length → W i acc l → st l) ∧
  (∀ i x acc l, xs[i]? = some x → W i acc l → g.put x (wipeD τ vs) fun τ2 => tt τ2 l fun b l3 => if b = true then te τ2 l3 fun y l4 => acc.length < 16777216 ∧ W (i + 1) (acc ++ [y]) l4 else W (i + 1) acc l3) ∧
  (∀ acc l, W xs.length acc l → newL acc l Q)
theorem le_lc {K : PySem.W.Frag} {Γ : En} {ti : DI} {g : Tg} {tt : DT} {te : DE} {vs : List Nat} (hv : ∀ j ∈ g.slots, j ∈ vs) {σ : L2.St} {H : Hp} {Q : VK} (h : le K Γ (dLc ti g tt te vs) σ H Q) : tLc (li K ti) (g.hand K) (ltA K tt) (leA K te) vs σ H Q := by
  obtain ⟨G, τ, l, Q', sr, ok, h, hQ⟩ := h
  refine ⟨Γ, G, τ, l, _, sr, ok, h, fun J H1 G1 l1 xs st e1 ok1 wk ⟨W, h0, hst, hs, hd⟩ Da nDa => ?_⟩
  have sd : Side K Γ (upd H1 Da (.lst [])) G1 l1 Da (.lst []) := ⟨upd_same, ok1.notKey nDa, ok1.free nDa, ok1.freeΓ nDa⟩
  refine ⟨fun i m H => ∃ G2 l2 acc us, GLe G1 G2 ∧ Ok K Γ H G2 l2 ∧ W i acc l2 ∧ i + m = xs.length ∧ Side K Γ H G2 l2 Da (.lst us) ∧ RVs K G2 us acc,
    ⟨xs.length, G1, l1, [], [], GLe.refl _, ok1.other sd.nk sd.nG sd.nΓ, h0, Nat.zero_add _, sd, .nil⟩, ?_⟩
  rintro i m H2 ⟨G2, l2, acc, us, e2, k2, hw, hm, s2, ra⟩
  by_cases hi : i < xs.length
  · refine .inr ⟨(wk Γ).go i H2 G2 l2 e2 k2 (hst i acc l2 (by omega) hw) hi, fun H' => ∃ G3 l3 acc us, GLe G1 G3 ∧ Ok K Γ H' G3 l3 ∧ W (i + 1) acc l3 ∧ Side K Γ H' G3 l3 Da (.lst us) ∧ RVs K G3 us acc,
      fun H' ⟨G3, l3, acc, us, e3, k3, w3, s3, r3⟩ => ⟨m - 1, by omega, G3, l3, acc, us, e3, k3, w3, by omega, s3, r3⟩, fun x H' hy => ?_⟩
    obtain ⟨d, G3, hx, e3, k3, rv, kp, ng⟩ := (wk Γ).yld i H2 G2 l2 x H' e2 k2 (hst i acc l2 (by omega) hw) hi hy
    have e13 := e2.trans e3
    have s3 : Side K Γ H' G3 l2 Da (.lst us) := ⟨kp _ _ s2.at_, s2.nk, by
      cases e : G3 Da with
      | none => rfl
      | some g' => rcases ng Da g' e with z | z
                   · exact absurd (s2.nG.symm.trans z) (fun y => nomatch y)
                   · exact absurd (s2.at_.symm.trans z) (fun y => nomatch y), s2.nΓ⟩
    refine Tg.ok k3 g x d _ _ _ _ ((sr.mono (e1.trans e13)).wipe vs) rv (hs i d acc l2 hx hw) fun σ4 τ4 s4 hj q => ⟨?_, ?_⟩
    · rw [wipe_eq hj.1 (fun j n => hj.2 j (fun z => n (hv j z)))]; exact wipe_twice
    · refine ⟨⟨H', G3, keys l2⟩, G3, τ4, l2, _, s4, k3.all, q, fun b H5 G5 l5 e5 k5 q5 => ?_⟩
      have s5 := s3.over k5
      have k5' := k3.back k5
      cases b with
      | false => exact ⟨G5, l5, acc, us, e13.trans e5, k5', q5, s5, ra.mono (e3.trans e5)⟩
      | true =>
        refine ⟨⟨H5, G5, keys l5⟩, G5, τ4, l5, _, s4.mono e5, k5'.all, q5, fun v d H6 G6 l6 e6 k6 rv6 ⟨hz, w6⟩ => ?_⟩
        have s6 := s5.over k6
        have k6' := k5'.back k6
        have ra6 := ra.mono (e3.trans (e5.trans e6))
        refine ⟨us, s6.at_, by rw [ra6.length]; exact hz, G6, l6, acc ++ [d], us ++ [v], e13.trans (e5.trans e6), k6'.other s6.nk s6.nG s6.nΓ, w6, ⟨upd_same, s6.nk, s6.nG, s6.nΓ⟩, ra6.append (.one rv6)⟩
  · have hi2 : i = xs.length := by omega
    subst hi2
    refine .inl ⟨(wk Γ).stop _ H2 G2 l2 e2 k2 (hst _ acc l2 (Nat.le_refl _) hw) (Nat.le_refl _) (Nat.le_refl _), ?_⟩
    have e12 := e1.trans e2
    rcases hd acc l2 hw with q | q
    · exact hQ _ _ H2 G2 _ e12 (k2.adopt (o := .lst acc) s2.nk s2.nG s2.nΓ ⟨us, s2.at_, ra⟩) (.ref Da) (q Da)
    · have k3 : Ok K Γ H2 G2 ((Da, .lst acc) :: l2) := k2.adopt (o := .lst acc) s2.nk s2.nG s2.nΓ ⟨us, s2.at_, ra⟩
      obtain ⟨k4, e4⟩ := k3.freeze (i := 0) (g := .lst us) rfl s2.at_
      exact hQ _ _ H2 _ _ (e12.trans e4) k4 (.lst setG_same (ra.mono e4)) q
section
variable {X : Cx} {Γ : En} {elt tg iter : Expr} {ifs : List Expr} {scope : Scope} {own : List (Str × Nat)} {pos : Pos} {ti : DI} {g : Tg} {tt : DT} {te : DE}
theorem q_lc (own : List (Str × Nat)) (hc : X.calm = true) (hN : X.N.Nodup) (hi : QI X tg iter ti) (ok : BlkOk X.N X.env.scope scope own)
    (hg : ∀ (s : Shared) (H : Hp) (C : Addr) (cl : List (Str × Addr)) (fp : List Addr), QG (X.blk s H scope (compEnvC scope cl C X.env) fp) tg g)
    (ht : ∀ (s : Shared) (H : Hp) (C : Addr) (cl : List (Str × Addr)) (fp : List Addr), QTs (X.blk s H scope (compEnvC scope cl C X.env) fp) ifs tt)
    (he : ∀ (s : Shared) (H : Hp) (C : Addr) (cl : List (Str × Addr)) (fp : List Addr) (Γ' : En), QE (X.blk s H scope (compEnvC scope cl C X.env) fp) Γ' elt te)
    (hv : (g.slots.all fun j => (own.map (·.2)).contains j) = true := by rfl) (hs : ∀ x, foldedSetIterable iter X.env x = pure x := by intro _; rfl) :
    QE X Γ (.ListComp elt [⟨tg, iter, ifs, 0⟩] scope pos) (dLc ti g tt te (own.map (·.2))) :=
  PE.imp (pe_lc hc hN hi ok hg ht (fun s H C cl fp => pe_A (he s H C cl fp)) hs) fun σ H Q h => le_lc (fun j hj => List.contains_iff_mem.mp (List.all_eq_true.mp hv j hj)) h
theorem qs_setLc (own : List (Str × Nat)) {i : Nat} {y : Str} {py spos : Pos} (hc : X.calm = true) (hN : X.N.Nodup) (hy : X.N[i]? = some y) (hyl : X.env.scope.names.lookup y = some .local)
    (hsw : swapsWith (.ListComp elt [⟨tg, iter, ifs, 0⟩] scope pos) (some (.Name y py)) spos.line X.env = pure true) (hi : QI X tg iter ti) (ok : BlkOk X.N X.env.scope scope own)
    (hg : ∀ (s : Shared) (H : Hp) (C : Addr) (cl : List (Str × Addr)) (fp : List Addr), QG (X.blk s H scope (compEnvC scope cl C X.env) fp) tg g)
    (ht : ∀ (s : Shared) (H : Hp) (C : Addr) (cl : List (Str × Addr)) (fp : List Addr), QTs (X.blk s H scope (compEnvC scope cl C X.env) fp) ifs tt)
    (he : ∀ (s : Shared) (H : Hp) (C : Addr) (cl : List (Str × Addr)) (fp : List Addr) (Γ' : En), QE (X.blk s H scope (compEnvC scope cl C X.env) fp) Γ' elt te)
    (hv : (g.slots.all fun j => (own.map (·.2)).contains j) = true := by rfl) (hs : ∀ x, foldedSetIterable iter X.env x = pure x := by intro _; rfl) :
    QS X Γ (.Assign [.Name y py] (.ListComp elt [⟨tg, iter, ifs, 0⟩] scope pos) spos) (dAsg (dLc ti g tt te (own.map (·.2))) i) :=
  PS.imp (ps_setLc hc hN hy hyl hsw hi ok hg ht (fun s H C cl fp => pe_A (he s H C cl fp)) hs) fun D σ H h => by
    have h1 := asg_ok h
    exact le_lc (fun j hj => List.contains_iff_mem.mp (List.all_eq_true.mp hv j hj)) h1
end
/-! ### calls of the text's own defs -/
abbrev DX := Addr → List (Str × D) → M → Prop
abbrev SpD := List D → M → DK → DX → Prop
def XDok (K : PySem.W.Frag) (G : GM) (H : Hp) (d : Option Addr) (fs : List (Str × D)) : Prop := match fs with
  | [] => d = none
  | fs => ∃ a us, d = some a ∧ H a = some (.xd us) ∧ RVf K G us fs
def lsp (K : PySem.W.Frag) (sp : SpD) : Sp := fun vs H Q E => ∃ G l ds Q' E', RVs K G vs ds ∧ Ok K ⟨H, G, keys l⟩ H G l ∧ sp ds l Q' E' ∧
  (∀ v d H2 G2 l2, Ok K ⟨H, G, keys l⟩ H2 G2 l2 → RV K G2 v d → Q' d l2 → Q v H2) ∧
  (∀ C d fs H2 G2 l2, Ok K ⟨H, G, keys l⟩ H2 G2 l2 → XDok K G2 H2 d fs → E' C fs l2 → E (.ref C) d H2)
def startD (N : List Str) (ds : List D) : S := ds.map some ++ List.replicate (N.length - ds.length) none
def noN : DN := fun _ _ => False
def noX : DX := fun _ _ _ => False
theorem SR.start {K : PySem.W.Frag} {G : GM} {N : List Str} {vs : List V} {ds : List D} (r : RVs K G vs ds) : SR K G (L2.start N vs) (startD N ds) := by
  have hl := r.length
  refine ⟨by unfold L2.start startD; simp [hl], fun i d e => ?_⟩
  unfold startD at e
  unfold L2.start
  by_cases hi : i < ds.length
  · rw [List.getElem?_append_left (by rw [List.length_map]; exact hi), List.getElem?_map] at e
    have e2 : ds[i]? = some d := by
      cases q : ds[i]? with
      | none => rw [q] at e; cases e
      | some x => rw [q] at e; cases e; rfl
    obtain ⟨v, hv, rv⟩ := r.get e2
    refine ⟨v, ?_, rv⟩
    rw [List.getElem?_append_left (by rw [List.length_map, hl]; exact hi), List.getElem?_map, hv]; rfl
  · rw [List.getElem?_append_right (by rw [List.length_map]; omega), List.getElem?_replicate] at e
    split at e <;> cases e
/-- THE RULE for a def of the text -/
theorem zfn {P : Program} {w : World} {K : PySem.W.Frag} {mg : Str → Option Value} {base : Heap} {x qual : Str} {params : Arguments} {body : List Stmt} {scope : Scope} {dvs : List V} {kws : List (Str × V)} {f : Addr} {fd : FuncData} {N ps : List Str} {k : Nat}
    (F : FunD K x qual params body scope dvs kws f fd) (S : FnScope N ps scope) (sp : SpD) (t : DS) (len : ∀ ds l Q E, sp ds l Q E → ds.length = ps.length)
    (der : ∀ (cdv : Value) (A : Around) (outer : List Env) (s : Shared) (H : Hp) (E : XK) (Γ : En), Room k (A.deeper (envOfC qual scope s.heap.objs.size f cdv)) → QSs (cxOf CX0 P w K mg base N qual scope f cdv A outer s H E).nox Γ body t)
    (sat : ∀ ds l Q E, sp ds l Q E → t (fun _ l => Wr Q .non l) (Wr Q) noN noN (startD N ds) l) : FnOk P w K mg base CX0 (k + 1) f fd ps (lsp K sp) := by
  refine F.ok S (fun vs H Q E h => ?_) (fun cdv A outer s H vs Q E hr h => ?_)
  · obtain ⟨G, l, ds, Q', E', r, ok, h, _⟩ := h
    exact r.length.trans (len ds l Q' E' h)
  · obtain ⟨G, l, ds, Q', E', r, ok, h, hQ, _⟩ := h
    refine ⟨_, PSs.nox (der cdv A outer s H E ⟨H, G, keys l⟩ hr), G, startD N ds, l, _, Wr Q', noN, noN, SR.start r, ok, sat ds l Q' E' h, ?_, ?_, ?_, ?_⟩
    · intro σ2 τ2 H2 G2 l2 e s2 k2 ⟨l3, hs, q⟩
      exact hQ _ _ H2 G2 l3 (k2.subM hs) .non q
    · intro v d H2 G2 l2 e k2 rv ⟨l3, hs, q⟩
      exact hQ v d H2 G2 l3 (k2.subM hs) rv q
    · intro σ2 τ2 H2 G2 l2 e s2 k2 q
      exact q.elim
    · intro σ2 τ2 H2 G2 l2 e s2 k2 q
      exact q.elim
def CallP (sp : SpD) (ds : List D) (l : M) (Q : DK) : Prop := ∃ m, sp ds (pick l m) (fun d l2 => Q d (mergeM l m l2)) noX
def dCall (sp : SpD) (t : DA) : DE := fun τ l Q => t τ l fun ds l1 => CallP sp ds l1 Q
theorem lsp_call {K : PySem.W.Frag} {Γ : En} {H : Hp} {G : GM} {l : M} {sp : SpD} {vs : List V} {ds : List D} {Q : VK} {Q' : DK} {E : XK} (ok : Ok K Γ H G l) (r : RVs K G vs ds) {m : List Bool} (h : sp ds (pick l m) (fun d l2 => Q' d (mergeM l m l2)) noX) (hQ : Post K Γ G Q' Q) : lsp K sp vs H Q E :=
  ⟨G, pick l m, ds, _, noX, r, ok.called m, h, fun v d H2 G2 l2 k2 rv q => hQ v d H2 G2 _ k2.ext (ok.after k2) rv q, fun C d fs H2 G2 l2 _ _ q => q.elim⟩
theorem le_call {K : PySem.W.Frag} {Γ : En} {sp : SpD} {t : DA} {E : XK} {σ : L2.St} {H : Hp} {Q : VK} (h : le K Γ (dCall sp t) σ H Q) : tCall (lsp K sp) [] E (la K Γ t) σ H Q := by
  obtain ⟨G, τ, l, Q', sr, ok, h, hQ⟩ := h
  refine ⟨G, τ, l, _, sr, ok, h, fun vs ds H2 G2 l2 e k2 rv ⟨m, q⟩ => ?_⟩
  show lsp K sp (vs ++ []) H2 Q E
  rw [List.append_nil]
  exact lsp_call k2 rv q (Post.mono hQ e)
section
variable {X : Cx} {Γ : En} {k : Nat} {f : Addr} {fd : FuncData} {ps : List Str} {sp : SpD} {x : Str} {p pos : Pos} {e : Expr} {es : List Expr} {t : DA}
theorem q_call (F : FnOk X.prog X.w X.K X.mg X.base CX0 k f fd ps (lsp X.K sp)) (hr : Room k X.A) (hg : Gl X x) (hm : X.mg x = some (.ref f)) (hk : PySem.W.keepIn X.K (.ref f) = true) (hb : Binds X.K fd ps []) (ha : QA X Γ (e :: es) t)
    (hdb : (x == ("__debug__" : Str)) = false := by decide) (he : starEach (e :: es) X.env = (false, eval e X.env) :: starEach es X.env := by rfl) (hpl : (backTo pos (starEach es X.env)).any (·.1) = false := by rfl) :
    QE X Γ (.Call (.Name x p) (e :: es) [] pos) (dCall sp t) := PE.imp (pe_call F hr hg hm hk hb .nil pass0 ha hdb he hpl) fun σ H Q h => le_call h
theorem q_call0 (F : FnOk X.prog X.w X.K X.mg X.base CX0 k f fd ps (lsp X.K sp)) (hr : Room k X.A) (hg : Gl X x) (hm : X.mg x = some (.ref f)) (hk : PySem.W.keepIn X.K (.ref f) = true) (hb : Binds X.K fd ps [])
    (hdb : (x == ("__debug__" : Str)) = false := by decide) : QE X Γ (.Call (.Name x p) [] [] pos) (dCall sp dNil) := PE.imp (pe_call0 F hr hg hm hk hb .nil pass0 hdb) fun σ H Q h => by
  obtain ⟨G, τ, l, Q', sr, ok, ⟨m, h⟩, hQ⟩ := h
  exact lsp_call ok .nil h hQ
end
/-! ### methods of own classes -/
def clsOf (l : M) : D → Addr → Prop
  | .obj C _, C' => C = C'
  | .ref a, C' => ∃ fs, (a, MO.ins C' fs) ∈ l
  | _, _ => False
def noFld (l : M) (m : Str) : D → Prop
  | .obj _ fs => fs.lookup m = none
  | .ref a => ∃ C fs, (a, MO.ins C fs) ∈ l ∧ fs.lookup m = none
  | _ => False
def dMeth (C : Addr) (m : Str) (sp : SpD) (te : DE) (t : DA) : DE := fun τ l Q => te τ l fun x l1 => clsOf l1 x C ∧ noFld l1 m x ∧ t τ l1 fun ds l2 => CallP sp (x :: ds) l2 Q
section
variable {X : Cx} {Γ : En} {k : Nat} {f C : Addr} {fd : FuncData} {ps : List Str} {sp : SpD} {m : Str} {p pos apos : Pos} {e o : Expr} {es : List Expr} {te : DE} {t : DA}
theorem ins_at {K : PySem.W.Frag} {H : Hp} {G : GM} {l : M} {v : V} {d : D} (ok : Ok K Γ H G l) (r : RV K G v d) (h : clsOf l d C) (h2 : noFld l m d) : ∃ a dx fs, v = .ref a ∧ H a = some (.ins C dx fs) ∧ fs.lookup m = none := by
  cases r with
  | obj p r =>
    obtain ⟨dx, e⟩ := ok.per _ _ p
    cases h
    exact ⟨_, dx, _, rfl, e, r.lookupN h2⟩
  | ref a =>
    obtain ⟨C2, fs, h2, h3⟩ := h2
    obtain ⟨fs3, h⟩ := h
    obtain ⟨dx, us, e, r⟩ := ok.mem _ h
    obtain ⟨dx2, us2, e2, r2⟩ := ok.mem _ h2
    have e3 := e.symm.trans e2
    cases e3
    exact ⟨_, dx, us, rfl, e, r2.lookupN h3⟩
  | _ => exact h.elim
theorem q_meth {pl : Sem Bool} (ho : QE X Γ o te) (c : Cls X.K C) (hm : Meth X.K C m f) (F : FnOk X.prog X.w X.K X.mg X.base CX0 k f fd ps (lsp X.K sp)) (hr : Room k X.A) (hb : Binds X.K fd ps []) (ha : QA X Γ (e :: es) t)
    (hst : starEach (e :: es) X.env = (false, eval e X.env) :: starEach es X.env := by rfl) (hpl : (backTo pos (starEach es X.env)).any (·.1) = false := by rfl)
    (ht : eval (.Call (.Attribute o m apos) (e :: es) [] pos) X.env = (do
      let ov ← eval o X.env
      standAt apos.atName
      let (f, first) ← holding [ov] (getMethod ov m pl)
      callWith pos f first (backTo pos (starEach (e :: es) X.env)) (backToKw pos (keywordEach [] X.env))) := by rfl) :
    QE X Γ (.Call (.Attribute o m apos) (e :: es) [] pos) (dMeth C m sp te t) := PE.imp (pe_meth ho c hm F hr hb .nil pass0 ha hst hpl ht) fun σ H Q h => by
  obtain ⟨G, τ, l, Q', sr, ok, h, hQ⟩ := h
  refine ⟨G, τ, l, _, sr, ok, h, fun v d H2 G2 l2 e2 k2 rv ⟨h1, h2, h3⟩ => ?_⟩
  obtain ⟨a, dx, fs, rfl, hH, hl⟩ := ins_at k2 rv h1 h2
  refine ⟨a, dx, fs, rfl, hH, hl, G2, τ, l2, _, sr.mono e2, k2, h3, fun vs ds H3 G3 l3 e3 k3 rvs ⟨mk, q⟩ => ?_⟩
  show lsp X.K sp (_ :: (vs ++ [])) H3 Q E0
  rw [List.append_nil]
  exact lsp_call k3 (.cons (rv.mono e3) rvs) q (Post.mono hQ (e2.trans e3))
theorem q_meth0 {pl : Sem Bool} (ho : QE X Γ o te) (c : Cls X.K C) (hm : Meth X.K C m f) (F : FnOk X.prog X.w X.K X.mg X.base CX0 k f fd ps (lsp X.K sp)) (hr : Room k X.A) (hb : Binds X.K fd ps [])
    (ht : eval (.Call (.Attribute o m apos) [] [] pos) X.env = (do
      let ov ← eval o X.env
      standAt apos.atName
      let (f, first) ← holding [ov] (getMethod ov m pl)
      callWith pos f first (backTo pos (starEach [] X.env)) (backToKw pos (keywordEach [] X.env))) := by rfl) :
    QE X Γ (.Call (.Attribute o m apos) [] [] pos) (dMeth C m sp te dNil) := PE.imp (pe_meth0 ho c hm F hr hb .nil pass0 ht) fun σ H Q h => by
  obtain ⟨G, τ, l, Q', sr, ok, h, hQ⟩ := h
  refine ⟨G, τ, l, _, sr, ok, h, fun v d H2 G2 l2 e2 k2 rv ⟨h1, h2, h3⟩ => ?_⟩
  obtain ⟨a, dx, fs, rfl, hH, hl⟩ := ins_at k2 rv h1 h2
  obtain ⟨mk, q⟩ := h3
  exact ⟨a, dx, fs, rfl, hH, hl, lsp_call k2 (.cons rv .nil) q (Post.mono hQ e2)⟩
end
/-! ### making an instance -/
def dMake (C : Addr) (sp : SpD) (g : List D → List D → List D) (n m : Nat) (t tk : DA) : DE := fun τ l Q => t τ l fun ds l1 => tk τ l1 fun zs l2 => ds.length = n ∧ zs.length = m ∧ ∀ x, sp (g (.ref x :: ds) zs) [(x, .ins C [])]
  (fun d l3 => d = .non ∧ ∃ fs, l3 = [(x, .ins C fs)] ∧ (Q (.obj C fs) l2 ∨ Q (.ref x) ((x, .ins C fs) :: l2))) noX
theorem make_ok {K : PySem.W.Frag} {Γ : En} {H : Hp} {G : GM} {l : M} {C : Addr} {sp : SpD} {us : List V} {zs : List D} {Q : VK} {Q' : DK} {E : XK} (ok : Ok K Γ H G l) {x dx : Addr} (n1 : H x = none) (n2 : H dx = none) (ne : dx ≠ x)
    (r : ∀ G', GLe G G' → RVs K G' us zs)
    (h : sp zs [(x, .ins C [])] (fun d l3 => d = .non ∧ ∃ fs, l3 = [(x, .ins C fs)] ∧ (Q' (.obj C fs) l ∨ Q' (.ref x) ((x, .ins C fs) :: l))) noX) (hQ : Post K Γ G Q' Q) :
    lsp K sp us (upd (upd H dx (.own x)) x (.ins C dx [])) (fun v H2 => v = .non ∧ Q (.ref x) H2) E := by
  have k1 : Ok K Γ (upd H dx (.own x)) G l := ok.other (ok.notKey n2) (ok.free n2) (ok.freeΓ n2)
  have nx : upd H dx (.own x) x = none := by rw [upd_ne (fun e => ne e.symm)]; exact n1
  have k2 : Ok K Γ (upd (upd H dx (.own x)) x (.ins C dx [])) G ((x, .ins C []) :: l) := k1.newMut (o := .ins C []) nx ⟨dx, [], upd_same, .nil⟩
  have kc := k2.called [true]
  have ep : pick ((x, .ins C []) :: l) [true] = [(x, MO.ins C [])] := by
    show (x, MO.ins C []) :: pick l [] = _
    cases l <;> rfl
  rw [ep] at kc
  refine ⟨G, [(x, .ins C [])], zs, _, noX, r G (GLe.refl G), kc, h, fun v d H2 G2 l2 k3 rv q => ?_, fun _ _ _ _ _ _ _ _ q => q.elim⟩
  obtain ⟨rfl, fs, rfl, q⟩ := q
  cases rv
  refine ⟨rfl, ?_⟩
  have k3' : Ok K ⟨upd (upd H dx (.own x)) x (.ins C dx []), G, keys (pick ((x, MO.ins C []) :: l) [true])⟩ H2 G2 [(x, .ins C fs)] := by rw [ep]; exact k3
  have k4 := k2.after k3'
  have em : mergeM ((x, MO.ins C []) :: l) [true] [(x, .ins C fs)] = (x, .ins C fs) :: l := by
    unfold mergeM
    rw [ep]
    show [] ++ (x, MO.ins C fs) :: weave l [] [] = _
    cases l <;> rfl
  rw [em] at k4
  rcases q with q | q
  · obtain ⟨dx2, vs, e, rf⟩ := k4.mem _ List.mem_cons_self
    obtain ⟨k5, e5⟩ := k4.freeze (i := 0) (g := .ins C vs) rfl ⟨dx2, e⟩
    exact hQ _ _ H2 _ _ (k3.ext.trans e5) k5 (.obj setG_same (rf.mono e5)) q
  · exact hQ _ _ H2 G2 _ k3.ext k4 (.ref x) q
section
variable {X : Cx} {Γ : En} {k n : Nat} {f C : Addr} {fd : FuncData} {ps ks : List Str} {sp : SpD} {x : Str} {p pos : Pos} {e : Expr} {es : List Expr} {kws : List Keyword} {t tk : DA} {gv : List Value → List Value → List Value} {gV : List V → List V → List V} {gD : List D → List D → List D}
theorem q_make (M : Mk X.K C f) (F : FnOk X.prog X.w X.K X.mg X.base CX0 k f fd ps (lsp X.K sp)) (hr : Room (k + 1) X.A) (hg : Gl X x) (hm : X.mg x = some (.ref C)) (hb : Binds X.K fd ps []) (ha : QA X Γ (e :: es) t)
    (hdb : (x == ("__debug__" : Str)) = false := by decide) (he : starEach (e :: es) X.env = (false, eval e X.env) :: starEach es X.env := by rfl) (hpl : (backTo pos (starEach es X.env)).any (·.1) = false := by rfl) :
    QE X Γ (.Call (.Name x p) (e :: es) [] pos) (dMake C sp (fun a _ => a) (e :: es).length 0 t dNil) := PE.imp (pe_make M F hr hg hm hb .nil pass0 ha hdb he hpl) fun σ H Q h => by
  obtain ⟨G, τ, l, Q', sr, ok, h, hQ⟩ := h
  refine ⟨G, τ, l, _, sr, ok, h, fun vs ds H2 G2 l2 e2 k2 rv ⟨_, _, q⟩ x dx n1 n2 ne => ?_⟩
  show lsp X.K sp (_ :: (vs ++ [])) _ _ E0
  rw [List.append_nil]
  exact make_ok k2 n1 n2 ne (fun G' e' => .cons (.ref x) (rv.mono e')) (q x) (Post.mono hQ e2)
theorem q_makeK (M : Mk X.K C f) (F : FnOk X.prog X.w X.K X.mg X.base CX0 k f fd ps (lsp X.K sp)) (hr : Room (k + 1) X.A) (hg : Gl X x) (hm : X.mg x = some (.ref C)) (hb : KBn X.K fd ps (n + 1) ks gv gV)
    (hG : ∀ {G : GM} {vs zs : List V} {ds es : List D}, RVs X.K G vs ds → RVs X.K G zs es → RVs X.K G (gV vs zs) (gD ds es)) (ha : QA X Γ (e :: es) t) (hkw : PK X kws (la X.K Γ tk))
    (hall : (backToKw pos (keywordEach kws X.env)).all (·.1.isSome) = true := by rfl) (hks : (backToKw pos (keywordEach kws X.env)).filterMap (·.1) = ks := by rfl) (hdb : (x == ("__debug__" : Str)) = false := by decide)
    (he : starEach (e :: es) X.env = (false, eval e X.env) :: starEach es X.env := by rfl) (hpl : ((backTo pos (starEach (e :: es) X.env)).any (·.1) || (backToKw pos (keywordEach kws X.env)).any (·.1.isNone)) = false := by rfl) :
    QE X Γ (.Call (.Name x p) (e :: es) kws pos) (dMake C sp gD n ks.length t tk) := PE.imp (pe_makeK M F hr hg hm hb pass0 ha hkw hall hks hdb he hpl) fun σ H Q h => by
  obtain ⟨G, τ, l, Q', sr, ok, h, hQ⟩ := h
  refine ⟨G, τ, l, _, sr, ok, h, fun vs ds H2 G2 l2 e2 k2 rv q => ⟨G2, τ, l2, _, sr.mono e2, k2, q, fun zs es H3 G3 l3 e3 k3 rz ⟨h1, h2, q⟩ => ⟨by rw [rv.length]; exact h1, by rw [rz.length]; exact h2, fun x dx n1 n2 ne => ?_⟩⟩⟩
  exact make_ok k3 n1 n2 ne (fun G' e' => hG (.cons (.ref x) (rv.mono (e3.trans e'))) (rz.mono e')) (q x) (Post.mono hQ (e2.trans e3))
end
/-! ### methods of lists and texts -/
def dApp (to te : DE) : DE := fun τ l Q => to τ l fun x l1 => ∃ a ds0, x = .ref a ∧ (a, MO.lst ds0) ∈ l1 ∧ te τ l1 fun y l2 => ∃ i ds, l2[i]? = some (a, MO.lst ds) ∧ ds.length < 16777216 ∧ Q .non (l2.set i (a, .lst (ds ++ [y])))
def dPop (to te : DE) : DE := fun τ l Q => to τ l fun x l1 => ∃ a ds0, x = .ref a ∧ (a, MO.lst ds0) ∈ l1 ∧ te τ l1 fun y l2 => ∃ (n : Nat) (ds : List D) (i : Int) (k : Nat) (d : D), l2[n]? = some (a, MO.lst ds) ∧ y = .int i ∧ -(2 ^ 63) ≤ i ∧ i < 2 ^ 63 ∧ seqIndex? i ds.length = some k ∧ ds[k]? = some d ∧ Q d (l2.set n (a, .lst (ds.eraseIdx k)))
def dPop0 (to : DE) : DE := fun τ l Q => to τ l fun x l1 => ∃ (a : Addr) (n : Nat) (ds : List D) (d : D), x = .ref a ∧ l1[n]? = some (a, MO.lst ds) ∧ ds[ds.length - 1]? = some d ∧ Q d (l1.set n (a, .lst ds.dropLast))
def dJoin (to te : DE) : DE := fun τ l Q => to τ l fun x l1 => ∃ a, x = .str a ∧ te τ l1 fun y l2 => ∃ ys : List Str, asQ l2 y (ys.map .str) ∧ (ys.map (·.length)).sum + ys.length * a.length ≤ 16777216 ∧ Q (.str (Txt.join a ys)) l2
section
variable {X : Cx} {Γ : En} {o e : Expr} {to te : DE} {apos cpos : Pos}
theorem q_app (ho : QE X Γ o to) (he : QE X Γ e te) (hbase : attributeBase o "append" X.env (eval o X.env) = eval o X.env := by rfl)
    (hfew : ((backTo cpos (starEach (e :: []) X.env)).all (fun x => !x.1) && (backToKw cpos (keywordEach [] X.env)).all (fun x => x.1.isSome)
      && decide ((e :: []).length + ([] : List Keyword).length + (if ([] : List Keyword).isEmpty then 0 else 1) < 30)) = true := by rfl)
    (hline : (apos.endLine == cpos.line) = true := by rfl) (hs : starEach (e :: []) X.env = (false, eval e X.env) :: starEach [] X.env := by rfl) (hplain : (backTo cpos (starEach [] X.env)).any (·.1) = false := by rfl) :
    QE X Γ (.Call (.Attribute o "append" apos) [e] [] cpos) (dApp to te) := PE.imp (pe_bm PySem.F.plainAttrs_list PySem.F.slot_list_append PySem.F.type_list_append mt_append ho (pa_cons he pa_nil hs) hbase hfew hline hs hplain) fun σ H Q h => by
  obtain ⟨G, τ, l, Q', sr, ok, h, hQ⟩ := h
  refine ⟨G, τ, l, _, sr, ok, h, fun v d H2 G2 l2 e2 k2 rv q => ?_⟩
  obtain ⟨a, ds0, rfl, hm, q⟩ := q
  cases rv
  obtain ⟨xs0, e0, _⟩ := k2.mem _ hm
  refine ⟨Or.inl ⟨rfl, xs0, SqL.of e0⟩, G2, τ, l2, _, sr.mono e2, k2, q, fun y b H3 G3 l3 e3 k3 rb q3 => ?_⟩
  obtain ⟨i, ds, hi, hz, q3⟩ := q3
  obtain ⟨xs, hH, rs⟩ := k3.mem _ (mem_of_get hi)
  refine ⟨a, xs, y, rfl, rfl, hH, by rw [rs.length]; exact hz, ?_⟩
  exact hQ _ _ _ G3 _ (e2.trans e3) (k3.write (o' := .lst (ds ++ [b])) hi ⟨_, upd_same, rs.append (.one rb)⟩) .non q3
theorem q_pop (ho : QE X Γ o to) (he : QE X Γ e te) (hbase : attributeBase o "pop" X.env (eval o X.env) = eval o X.env := by rfl)
    (hfew : ((backTo cpos (starEach (e :: []) X.env)).all (fun x => !x.1) && (backToKw cpos (keywordEach [] X.env)).all (fun x => x.1.isSome)
      && decide ((e :: []).length + ([] : List Keyword).length + (if ([] : List Keyword).isEmpty then 0 else 1) < 30)) = true := by rfl)
    (hline : (apos.endLine == cpos.line) = true := by rfl) (hs : starEach (e :: []) X.env = (false, eval e X.env) :: starEach [] X.env := by rfl) (hplain : (backTo cpos (starEach [] X.env)).any (·.1) = false := by rfl) :
    QE X Γ (.Call (.Attribute o "pop" apos) [e] [] cpos) (dPop to te) := PE.imp (pe_bm PySem.F.plainAttrs_list PySem.F.slot_list_pop PySem.F.type_list_pop mt_popAt ho (pa_cons he pa_nil hs) hbase hfew hline hs hplain) fun σ H Q h => by
  obtain ⟨G, τ, l, Q', sr, ok, h, hQ⟩ := h
  refine ⟨G, τ, l, _, sr, ok, h, fun v d H2 G2 l2 e2 k2 rv q => ?_⟩
  obtain ⟨a, ds0, rfl, hm, q⟩ := q
  cases rv
  obtain ⟨xs0, e0, _⟩ := k2.mem _ hm
  refine ⟨Or.inl ⟨rfl, xs0, SqL.of e0⟩, G2, τ, l2, _, sr.mono e2, k2, q, fun y b H3 G3 l3 e3 k3 rb q3 => ?_⟩
  obtain ⟨n, ds, i, k, d, hi, rfl, h1, h2, hk, hd, q3⟩ := q3
  cases rb
  obtain ⟨xs, hH, rs⟩ := k3.mem _ (mem_of_get hi)
  obtain ⟨u, hu, ru⟩ := rs.get hd
  refine ⟨a, xs, i, k, u, rfl, rfl, hH, h1, h2, by rw [rs.length]; exact hk, hu, ?_⟩
  exact hQ _ _ _ G3 _ (e2.trans e3) (k3.write (o' := .lst (ds.eraseIdx k)) hi ⟨_, upd_same, rs.eraseIdx k⟩) ru q3
theorem q_pop0 (ho : QE X Γ o to) (hbase : attributeBase o "pop" X.env (eval o X.env) = eval o X.env := by rfl) (hline : (apos.endLine == cpos.line) = true := by rfl) :
    QE X Γ (.Call (.Attribute o "pop" apos) [] [] cpos) (dPop0 to) := PE.imp (pe_bm0 PySem.F.plainAttrs_list PySem.F.slot_list_pop PySem.F.type_list_pop mt_pop ho hbase hline) fun σ H Q h => by
  obtain ⟨G, τ, l, Q', sr, ok, h, hQ⟩ := h
  refine ⟨G, τ, l, _, sr, ok, h, fun v d H2 G2 l2 e2 k2 rv q => ?_⟩
  obtain ⟨a, n, ds, d, rfl, hi, hd, q3⟩ := q
  cases rv
  obtain ⟨xs, hH, rs⟩ := k2.mem _ (mem_of_get hi)
  obtain ⟨u, hu, ru⟩ := rs.get hd
  refine ⟨Or.inl ⟨rfl, xs, SqL.of hH⟩, a, xs, u, rfl, rfl, hH, by rw [rs.length]; exact hu, ?_⟩
  exact hQ _ _ _ G2 _ e2 (k2.write (o' := .lst ds.dropLast) hi ⟨_, upd_same, rs.dropLast⟩) ru q3
theorem q_join (ho : QE X Γ o to) (he : QE X Γ e te) (hs : starEach [e] X.env = [(false, eval e X.env)] := by rfl) (hbase : attributeBase o "join" X.env (eval o X.env) = eval o X.env := by rfl) (hline : (apos.endLine == cpos.line) = true := by rfl) :
    QE X Γ (.Call (.Attribute o "join" apos) [e] [] cpos) (dJoin to te) := PE.imp (pe_join ho he hs hbase hline) fun σ H Q h => by
  obtain ⟨G, τ, l, Q', sr, ok, h, hQ⟩ := h
  refine ⟨G, τ, l, _, sr, ok, h, fun v d H2 G2 l2 e2 k2 rv q => ?_⟩
  obtain ⟨a, rfl, q⟩ := q
  cases rv
  refine ⟨⟨a, rfl⟩, G2, τ, l2, _, sr.mono e2, k2, q, fun y b H3 G3 l3 e3 k3 rb q3 => ?_⟩
  obtain ⟨ys, h1, hz, q3⟩ := q3
  obtain ⟨p, xs, rfl, hsq, rs⟩ := asQ_at k3 rb h1
  obtain rfl := rs.strs
  exact ⟨a, p, ys, rfl, rfl, hsq, hz, hQ _ _ _ G3 _ (e2.trans e3) k3 (.str _) q3⟩
end
end Z

namespace Z
open PySem PySem.Spec PyProof.Rows L2
/-- a def keeps its promise, and how it is called -/
def Good (P : Program) (w : World) (K : PySem.W.Frag) (mg : Str → Option Value) (base : Heap) (k : Nat) (f : Addr) (ps : List Str) (sp : SpD) : Prop :=
  ∃ fd, FnOk P w K mg base CX0 k f fd ps (lsp K sp) ∧ PySem.W.keepIn K (.ref f) = true ∧ L2.Binds K fd ps []
/-- the same of one whose keyword-only parameters are given by name: n values, then these -/
def GoodK (P : Program) (w : World) (K : PySem.W.Frag) (mg : Str → Option Value) (base : Heap) (k : Nat) (f : Addr) (ps : List Str) (n : Nat) (ks : List Str) (sp : SpD) : Prop :=
  ∃ fd gv gV, FnOk P w K mg base CX0 k f fd ps (lsp K sp) ∧ PySem.W.keepIn K (.ref f) = true ∧ KBn K fd ps n ks gv gV ∧ ∀ {G : GM} {vs zs : List V} {ds es : List D}, RVs K G vs ds → RVs K G zs es → RVs K G (gV vs zs) (ds ++ es)
theorem GoodK.mk {P : Program} {w : World} {K : PySem.W.Frag} {mg : Str → Option Value} {base : Heap} {k n : Nat} {f : Addr} {fd : FuncData} {ps ks : List Str} {sp : SpD} (h : FnOk P w K mg base CX0 k f fd ps (lsp K sp)) (kp : PySem.W.keepIn K (.ref f) = true)
    (b : ∃ mv : List Value, KBn K fd ps n ks (fun us ws => us ++ mv ++ ws) (fun vs zs => vs ++ [] ++ zs)) : GoodK P w K mg base k f ps n ks sp := by
  obtain ⟨mv, b⟩ := b
  refine ⟨fd, _, _, h, kp, b, fun r1 r2 => ?_⟩
  rw [List.append_nil]
  exact r1.append r2
/-- the law's script -/
theorem law_lsp {K : PySem.W.Frag} {H : Hp} {a : Addr} {ns : List Int} {sp : SpD} {E : XK} (hO : Only H) (hS : SqL K H a (ns.map V.int)) (h : sp [.scr (ns.map .int)] [] (fun d _ => d = .bl true) noX) :
    lsp K sp [.ref a] H (fun v _ => v = .bl true) E := by
  have go : ∀ G : GM, PLis K G a (ns.map V.int) → (∀ b g, G b = some g → GOk H b g) → lsp K sp [.ref a] H (fun v _ => v = .bl true) E := fun G p hg =>
    ⟨G, [], [.scr (ns.map .int)], _, noX, .cons (.scr p (RVs.ofInts ns)) .nil, ⟨List.nodup_nil, fun _ z => (nomatch z), fun _ z => (nomatch z), hg, fun _ _ e _ => e, GLe.refl G, fun _ z => (nomatch z), fun _ _ e => .inl e, fun _ z => (nomatch z)⟩, h,
      fun v d H2 G2 l2 _ rv q => by subst q; cases rv; rfl, fun _ _ _ _ _ _ _ _ q => q.elim⟩
  rcases hS with (h1 | h1) | h1
  · rcases hO a with e | ⟨o, xs, e⟩
    · rw [e] at h1; cases h1
    · rw [e] at h1; cases h1
  · refine go (fun b => if b = a then some (.frz (ns.map V.int)) else none) (.inl (if_pos rfl)) fun b g e => ?_
    by_cases z : b = a
    · subst z; rw [if_pos rfl] at e; cases e; exact h1
    · rw [if_neg z] at e; cases e
  · exact go (fun _ => none) (.inr h1) fun _ _ e => nomatch e
end Z

namespace Z
open PySem PySem.Spec PyProof.Rows L2
/-! ### steps of a reading: each lemma's first hole is what goes on, the others are asked behind it -/
section
variable {τ : S} {l : M} {Q : DK} {ta tb tc td te to ti : DE} {t u tx : DS} {nx bk ct : DN} {rt : DK} {a b d : D} {i j : Int} {c : DT} {QB : Bool → M → Prop} {tt tu : DT} {n m : Nat}
theorem s_seq (h : t (fun τ l => u nx rt bk ct τ l) rt bk ct τ l) : dSeq t u nx rt bk ct τ l := h
/-- a place where ways meet -/
theorem s_mid (W : DN) (h1 : ∀ nx' : DN, (∀ τ l, W τ l → nx' τ l) → t nx' rt bk ct τ l) (h2 : ∀ τ l, W τ l → u nx rt bk ct τ l) : dSeq t u nx rt bk ct τ l := h1 _ h2
theorem s_asg (h : te τ l fun d l1 => Fz d l1 fun d l2 => nx (τ.set n (some d)) l2) : dAsg te n nx rt bk ct τ l := h
theorem s_asgT {g : Tg} (h : te τ l fun d l1 => g.put d τ fun τ2 => nx τ2 l1) : dAsgT te g nx rt bk ct τ l := h
theorem s_drop (h : te τ l fun _ l1 => nx τ l1) : dDrop te nx rt bk ct τ l := h
theorem s_ret (h : te τ l fun d l1 => Fz d l1 rt) : dRet te nx rt bk ct τ l := h
theorem s_retN (h : rt .non l) : dRetN nx rt bk ct τ l := h
theorem s_next (h : nx τ l) : dNext nx rt bk ct τ l := h
theorem s_brk (h : bk τ l) : dBreak nx rt bk ct τ l := h
theorem s_cont (h : ct τ l) : dCont nx rt bk ct τ l := h
theorem s_if (h : c τ l fun b l1 => if b = true then t nx rt bk ct τ l1 else u nx rt bk ct τ l1) : dIfS c t u nx rt bk ct τ l := h
theorem s_var (q : Q d l) (h : τ[n]? = some (some d) := by rfl) : dVar n τ l Q := ⟨d, h, q⟩
theorem s_c (q : Q d l) : dC d τ l Q := q
theorem s_op {r : D2} (h : ta τ l fun x l1 => tb τ l1 fun y l2 => r x y l2 Q) : dOp r ta tb τ l Q := h
theorem s_un {r : D1} (h : ta τ l fun x l1 => r x l1 Q) : dUn r ta τ l Q := h
theorem s_cb {r : DL} {t : DA} (h : t τ l fun ds l1 => r ds l1 Q) : dCB r t τ l Q := h
theorem s_tup {t : DA} (h : t τ l fun ds l1 => ds.length ≤ 16777216 ∧ Q (.tup ds) l1) : dTup t τ l Q := h
theorem s_lst {t : DA} (h : t τ l fun ds l1 => ds.length ≤ 16777216 ∧ newL ds l1 Q) : dLst t τ l Q := h
theorem s_nil {QA : List D → M → Prop} (h : QA [] l) : dNil τ l QA := h
theorem s_cons {QA : List D → M → Prop} {t : DA} (h : te τ l fun d l1 => t τ l1 fun ds l2 => QA (d :: ds) l2) : dCons te t τ l QA := h
theorem s_add (q : Q (.int (i + j)) l) : oAdd (.int i) (.int j) l Q := q
theorem s_addT {xs ys : List D} (q : Q (.tup (xs ++ ys)) l) (h : xs.length + ys.length ≤ 16777216) : oAdd (.tup xs) (.tup ys) l Q := ⟨h, q⟩
theorem s_addS {x y : Str} (q : Q (.str (x ++ y)) l) (h : x.length + y.length ≤ 16777216) : oAdd (.str x) (.str y) l Q := ⟨h, q⟩
theorem s_addL {xs ys : List D} (q : newL (xs ++ ys) l Q) (h : xs.length + ys.length ≤ 16777216) : oAdd (.lst xs) (.lst ys) l Q := ⟨xs, ys, rfl, rfl, h, q⟩
theorem s_sub (q : Q (.int (i - j)) l) : oSub (.int i) (.int j) l Q := q
theorem s_mul (q : Q (.int (i * j)) l) (h : MulOk i j) : oMul (.int i) (.int j) l Q := ⟨h, q⟩
theorem s_div (q : Q (.int (i / j)) l) (h : DivOk i j) : oDiv (.int i) (.int j) l Q := ⟨h, q⟩
theorem s_mod (q : Q (.int (i % j)) l) (h : 0 < j) : oMod (.int i) (.int j) l Q := ⟨h, q⟩
theorem s_pow (q : Q (.int (i ^ j.toNat)) l) (h : CPow i j) : oPow (.int i) (.int j) l Q := ⟨h, q⟩
theorem s_neg (q : Q (.int (-i)) l) : oNeg (.int i) l Q := q
theorem s_eqI (q : Q (.bl (decide (i = j))) l) : oEq (.int i) (.int j) l Q := q
theorem s_eqS {x y : Str} (q : Q (.bl (decide (x = y))) l) : oEq (.str x) (.str y) l Q := q
theorem s_neI (q : Q (.bl (!decide (i = j))) l) : oNe (.int i) (.int j) l Q := q
theorem s_neS {x y : Str} (q : Q (.bl (!decide (x = y))) l) : oNe (.str x) (.str y) l Q := q
theorem s_lt (q : Q (.bl (decide (i < j))) l) : oLt (.int i) (.int j) l Q := q
theorem s_le (q : Q (.bl (decide (i ≤ j))) l) : oLe (.int i) (.int j) l Q := q
theorem s_leS {x y : Str} (q : Q (.bl (strLe x y)) l) : oLe (.str x) (.str y) l Q := q
theorem s_ltS {x y : Str} (q : Q (.bl (strLt x y)) l) : oLt (.str x) (.str y) l Q := q
theorem s_gt (q : Q (.bl (decide (j < i))) l) : oGt (.int i) (.int j) l Q := q
theorem s_ge (q : Q (.bl (decide (j ≤ i))) l) : oGe (.int i) (.int j) l Q := q
theorem s_is (q : Q (.bl (nonB a)) l) : oIs a .non l Q := ⟨rfl, q⟩
theorem s_isN (q : Q (.bl (!nonB a)) l) : oIsN a .non l Q := ⟨rfl, q⟩
theorem s_B (h : te τ l fun d l1 => ∃ b, d = .bl b ∧ QB b l1) : dB te τ l QB := h
theorem s_bl {k : Bool} {P : Bool → Prop} (h : P k) : ∃ b, D.bl k = .bl b ∧ P b := ⟨k, rfl, h⟩
theorem s_andT (h : tt τ l fun c l1 => if c = true then tu τ l1 QB else QB false l1) : dAnd tt tu τ l QB := h
theorem s_orT (h : tt τ l fun c l1 => if c = true then QB true l1 else tu τ l1 QB) : dOr tt tu τ l QB := h
theorem s_notT (h : tt τ l fun c l1 => QB (!c) l1) : dNot tt τ l QB := h
theorem s_andV (h : ta τ l fun x l1 => ∃ c, x = .bl c ∧ if c = true then tb τ l1 Q else Q (.bl false) l1) : dAndV ta tb τ l Q := h
theorem s_orV (h : ta τ l fun x l1 => ∃ c, x = .bl c ∧ if c = true then Q (.bl true) l1 else tb τ l1 Q) : dOrV ta tb τ l Q := h
theorem s_notV (h : ta τ l fun x l1 => ∃ c, x = .bl c ∧ Q (.bl (!c)) l1) : dNotV ta τ l Q := h
theorem s_ifE (h : tt τ l fun c l1 => if c = true then ta τ l1 Q else tb τ l1 Q) : dIf tt ta tb τ l Q := h
theorem s_ch {r r' : D2} (h : ta τ l fun x l1 => tb τ l1 fun y l2 => r x y l2 fun z l3 => ∃ k, z = .bl k ∧ if k = true then tc τ l3 fun w l4 => r' y w l4 Q else Q (.bl false) l3) : dChain r r' ta tb tc τ l Q := h
theorem s_ch3 {r r' r2 : D2} (h : ta τ l fun x l1 => tb τ l1 fun y l2 => r x y l2 fun z l3 => ∃ k, z = .bl k ∧
  if k = true then tc τ l3 fun w l4 => r' y w l4 fun z2 l5 => ∃ k, z2 = .bl k ∧ if k = true then td τ l5 fun u l6 => r2 w u l6 Q else Q (.bl false) l5 else Q (.bl false) l3) : dChain3 r r' r2 ta tb tc td τ l Q := h
theorem s_ite {k : Bool} {A B : Prop} (h1 : k = true → A) (h2 : k = false → B) : if k = true then A else B := by cases k <;> simp_all
theorem s_yes {k : Bool} {A B : Prop} (h : A) (hk : k = true) : if k = true then A else B := by rw [if_pos hk]; exact h
theorem s_no {k : Bool} {A B : Prop} (h : B) (hk : k = false) : if k = true then A else B := by subst hk; exact h
theorem s_tt {A B : Prop} (h : A) : if true = true then A else B := by rw [if_pos rfl]; exact h
theorem s_ff {A B : Prop} (h : B) : if false = true then A else B := by rw [if_neg Bool.false_ne_true]; exact h
theorem s_ntt {A B : Prop} (h : B) : if (!true) = true then A else B := by rw [if_neg (by decide)]; exact h
theorem s_nff {A B : Prop} (h : A) : if (!false) = true then A else B := by rw [if_pos (by decide)]; exact h
theorem s_dyes {QB : Bool → M → Prop} (h : QB true l) : dYes τ l QB := h
theorem s_fz (h : Q d l) : Fz d l Q := .inl h
theorem s_frz {p : Addr} {ds : List D} (h : Q (.lst ds) (l.eraseIdx n)) (hn : l[n]? = some (p, MO.lst ds)) : Fz (.ref p) l Q := .inr ⟨n, p, ds, rfl, hn, h⟩
theorem s_newF {ds : List D} (h : Q (.lst ds) l) : newL ds l Q := .inr h
theorem s_newM {ds : List D} (h : ∀ p, Q (.ref p) ((p, .lst ds) :: l)) : newL ds l Q := .inl h
theorem s_and {A B : Prop} (h : B) (h1 : A) : A ∧ B := ⟨h1, h⟩
theorem s_intC (q : Q (.int i) l) : oIntC [.int i] l Q := q
theorem s_abs (q : Q (.int (if i < 0 then -i else i)) l) : oAbs [.int i] l Q := q
theorem s_max2 (q : Q (.int (if j > i then j else i)) l) : oMax [.int i, .int j] l Q := q
theorem s_min2 (q : Q (.int (if j < i then j else i)) l) : oMin [.int i, .int j] l Q := q
theorem s_maxL {ns : List Int} {xs : List D} (e : xs = ns.map .int) (hz : 0 < ns.length) (h : ∀ m, m ∈ ns → (∀ y, y ∈ ns → y ≤ m) → Q (.int m) l) : oMax [.lst xs] l Q := by
  subst e
  exact ⟨ns, rfl, hz, h⟩
theorem s_minL {ns : List Int} {xs : List D} (e : xs = ns.map .int) (hz : 0 < ns.length) (h : ∀ m, m ∈ ns → (∀ y, y ∈ ns → m ≤ y) → Q (.int m) l) : oMin [.lst xs] l Q := by
  subst e
  exact ⟨ns, rfl, hz, h⟩
theorem s_lenS {y : Str} (q : Q (.int y.length) l) (h : y.length ≤ 16777216) : oLen [.str y] l Q := ⟨h, q⟩
theorem s_lenL {xs : List D} (q : Q (.int xs.length) l) : oLen [.lst xs] l Q := ⟨xs, rfl, q⟩
theorem s_lenC {xs : List D} (q : Q (.int xs.length) l) : oLen [.scr xs] l Q := ⟨xs, rfl, q⟩
theorem s_lenT {xs : List D} (q : Q (.int xs.length) l) : oLen [.tup xs] l Q := ⟨xs, rfl, q⟩
theorem s_lenR {p : Addr} {xs : List D} (hm : (p, MO.lst xs) ∈ l) (q : Q (.int xs.length) l) : oLen [.ref p] l Q := ⟨xs, hm, q⟩
theorem s_sumL {ns : List Int} (q : Q (.int ns.sum) l) : oSum [.lst (ns.map .int)] l Q := ⟨ns, rfl, q⟩
theorem s_sumL' {ns : List Int} {xs : List D} (h : xs = ns.map .int) (q : Q (.int ns.sum) l) : oSum [.lst xs] l Q := ⟨ns, h, q⟩
theorem s_anyL {bs : List Bool} {xs : List D} (h : xs = bs.map .bl) (q : Q (.bl (bs.any id)) l) : oAny [.lst xs] l Q := ⟨bs, h, q⟩
theorem s_allL {bs : List Bool} {xs : List D} (h : xs = bs.map .bl) (q : Q (.bl (bs.all id)) l) : oAll [.lst xs] l Q := ⟨bs, h, q⟩
theorem s_listL {xs : List D} (q : newL xs l Q) : oListC [.lst xs] l Q := ⟨xs, rfl, q⟩
theorem s_listT {xs : List D} (q : newL xs l Q) : oListC [.tup xs] l Q := ⟨xs, rfl, q⟩
theorem s_listC {xs : List D} (q : newL xs l Q) : oListC [.scr xs] l Q := ⟨xs, rfl, q⟩
theorem s_listR {p : Addr} {xs : List D} (hm : (p, MO.lst xs) ∈ l) (q : newL xs l Q) : oListC [.ref p] l Q := ⟨xs, hm, q⟩
theorem s_tupL {xs : List D} (q : Q (.tup xs) l) : oTupC [.lst xs] l Q := ⟨xs, rfl, q⟩
theorem s_tupT {xs : List D} (q : Q (.tup xs) l) : oTupC [.tup xs] l Q := ⟨xs, rfl, q⟩
theorem s_tupR {p : Addr} {xs : List D} (hm : (p, MO.lst xs) ∈ l) (q : Q (.tup xs) l) : oTupC [.ref p] l Q := ⟨xs, hm, q⟩
theorem s_ixT {xs : List D} {d : D} (h : atI xs i = some d) (q : Q d l) : oIx (.tup xs) (.int i) l Q := ⟨xs, d, rfl, h, q⟩
theorem s_ixL {xs : List D} {d : D} (h : atI xs i = some d) (q : Q d l) : oIx (.lst xs) (.int i) l Q := ⟨xs, d, rfl, h, q⟩
theorem s_ixC {xs : List D} {d : D} (h : atI xs i = some d) (q : Q d l) : oIx (.scr xs) (.int i) l Q := ⟨xs, d, rfl, h, q⟩
theorem s_ixR {p : Addr} {xs : List D} {d : D} (hm : (p, MO.lst xs) ∈ l) (h : atI xs i = some d) (q : Q d l) : oIx (.ref p) (.int i) l Q := ⟨xs, d, hm, h, q⟩
theorem s_ixS {z : Str} {k : Nat} (q : Q (.str ⟨#[k]⟩) l) (h : atI z.cps.toList i = some k) (hz : z.length ≤ 16777216) : oIx (.str z) (.int i) l Q := ⟨hz, k, h, q⟩
theorem s_sl {tl th : DO} (h : te τ l fun x l1 => tl τ l1 fun lo l2 => th τ l2 fun hi l3 => oSl x lo hi l3 Q) : dSl te tl th τ l Q := h
theorem s_np {QO : Option Int → M → Prop} (h : QO none l) : dNoPart τ l QO := h
theorem s_pt {QO : Option Int → M → Prop} (h : te τ l fun d l1 => ∃ i, d = .int i ∧ QO (some i) l1) : dPart te τ l QO := h
theorem s_ptI {P : Int → Prop} (h : P i) : ∃ k, D.int i = .int k ∧ P k := ⟨i, rfl, h⟩
theorem s_slT {xs : List D} {lo hi : Option Int} (q : Q (.tup (cutG xs lo hi)) l) : oSl (.tup xs) lo hi l Q := q
theorem s_slS {z : Str} {lo hi : Option Int} (q : Q (.str (cutS z lo hi)) l) (h : z.length ≤ 16777216) : oSl (.str z) lo hi l Q := ⟨h, q⟩
theorem s_slL {xs : List D} {lo hi : Option Int} (q : newL (cutG xs lo hi) l Q) : oSl (.lst xs) lo hi l Q := ⟨xs, rfl, q⟩
theorem s_slC {xs : List D} {lo hi : Option Int} (q : newL (cutG xs lo hi) l Q) : oSl (.scr xs) lo hi l Q := ⟨xs, rfl, q⟩
theorem s_slR {p : Addr} {xs : List D} {lo hi : Option Int} (hm : (p, MO.lst xs) ∈ l) (q : newL (cutG xs lo hi) l Q) : oSl (.ref p) lo hi l Q := ⟨xs, hm, q⟩
theorem s_fldO {P : Addr → Prop} {f : Str} {C : Addr} {fs : List (Str × D)} {d : D} (h : fs.lookup f = some d) (q : Q d l) (hP : P C) : oFld P f (.obj C fs) l Q := ⟨hP, d, h, q⟩
theorem s_fldR {P : Addr → Prop} {f : Str} {C p : Addr} {fs : List (Str × D)} {d : D} (hm : (p, MO.ins C fs) ∈ l) (h : fs.lookup f = some d) (q : Q d l) (hP : P C) : oFld P f (.ref p) l Q := ⟨C, fs, d, hm, hP, h, q⟩
theorem s_isi {T : String} {k : String} (h : TyD l a k) (q : Q (.bl (isB k T)) l) : oIsi T a l Q := ⟨k, h, q⟩
theorem s_call {sp : SpD} {t : DA} (h : t τ l fun ds l1 => CallP sp ds l1 Q) : dCall sp t τ l Q := h
theorem s_app (h : to τ l fun x l1 => ∃ a ds0, x = .ref a ∧ (a, MO.lst ds0) ∈ l1 ∧ te τ l1 fun y l2 => ∃ i ds, l2[i]? = some (a, MO.lst ds) ∧ ds.length < 16777216 ∧ Q .non (l2.set i (a, .lst (ds ++ [y])))) : dApp to te τ l Q := h
theorem s_put {g : Nat} {P : S → Prop} (h : P (τ.set g (some d))) : (Tg.nm g).put d τ P := h
theorem s_putT {ts : List Tg} {ds : List D} {P : S → Prop} (h : Tg.puts ts ds τ P) : (Tg.tp ts).put (.tup ds) τ P := h
theorem s_puts {t : Tg} {ts : List Tg} {ds : List D} {P : S → Prop} (h : t.put d τ fun τ1 => Tg.puts ts ds τ1 P) : Tg.puts (t :: ts) (d :: ds) τ P := h
theorem s_puts0 {P : S → Prop} (h : P τ) : Tg.puts [] [] τ P := h
theorem s_join (h : to τ l fun x l1 => ∃ a, x = .str a ∧ te τ l1 fun y l2 => ∃ ys : List Str, asQ l2 y (ys.map .str) ∧ (ys.map (·.length)).sum + ys.length * a.length ≤ 16777216 ∧ Q (.str (Txt.join a ys)) l2) : dJoin to te τ l Q := h
theorem s_strE {x : Str} {P : Str → Prop} (h : P x) : ∃ a, D.str x = .str a ∧ P a := ⟨x, rfl, h⟩
theorem s_meth {C : Addr} {m : Str} {sp : SpD} {t : DA} (h : te τ l fun x l1 => clsOf l1 x C ∧ noFld l1 m x ∧ t τ l1 fun ds l2 => CallP sp (x :: ds) l2 Q) : dMeth C m sp te t τ l Q := h
theorem s_aug {r : D2} (h : te τ l fun y l1 => r d y l1 fun z l2 => nx (τ.set n (some z)) l2) (hd : τ[n]? = some (some d) := by rfl) : dAug n te r nx rt bk ct τ l := ⟨d, hd, h⟩
theorem s_wk {P : DN} (h : P τ l) : We P τ l := ⟨l, .inl rfl, h⟩
theorem s_wr (h : Q d l) : Wr Q d l := ⟨l, .inl rfl, h⟩
theorem s_wrP (is : List Nat) (nd : is.Nodup) (h : Q d (is.filterMap fun i => l[i]?)) : Wr Q d l := ⟨_, .inr ⟨is, nd, rfl⟩, h⟩
end
theorem at_nat {α : Type} {xs : List α} {i : Int} {d : α} (h0 : 0 ≤ i) (h : xs[i.toNat]? = some d) : atI xs i = some d := by
  have e : i = ((i.toNat : Nat) : Int) := by omega
  rw [e]; exact atI_nat h
theorem at0 {α : Type} {a : α} {l : List α} : atI (a :: l) 0 = some a := at_nat (by decide) rfl
theorem at1 {α : Type} {a b : α} {l : List α} : atI (a :: b :: l) 1 = some b := at_nat (by decide) rfl
theorem at2 {α : Type} {a b c : α} {l : List α} : atI (a :: b :: c :: l) 2 = some c := at_nat (by decide) rfl
theorem at3 {α : Type} {a b c d : α} {l : List α} : atI (a :: b :: c :: d :: l) 3 = some d := at_nat (by decide) rfl
theorem at4 {α : Type} {a b c d e : α} {l : List α} : atI (a :: b :: c :: d :: e :: l) 4 = some e := at_nat (by decide) rfl
theorem ix_nat {n : Nat} {i : Int} (h0 : 0 ≤ i) (h : i < n) : ixN n i = some i.toNat := by
  unfold ixN; rw [if_pos h0, if_pos h]
theorem ixl0 {n : Nat} : ixN (n + 1) 0 = some 0 := ix_nat (by decide) (by omega)
theorem ixl1 {n : Nat} : ixN (n + 2) 1 = some 1 := ix_nat (by decide) (by omega)
theorem ixl2 {n : Nat} : ixN (n + 3) 2 = some 2 := ix_nat (by decide) (by omega)
theorem ixl3 {n : Nat} : ixN (n + 4) 3 = some 3 := ix_nat (by decide) (by omega)
theorem ixl4 {n : Nat} : ixN (n + 5) 4 = some 4 := ix_nat (by decide) (by omega)
theorem s_make {τ : S} {l : M} {Q : DK} {C : Addr} {sp : SpD} {g : List D → List D → List D} {n m : Nat} {t tk : DA} (h : t τ l fun ds l1 => tk τ l1 fun zs l2 => ds.length = n ∧ zs.length = m ∧ ∀ x, sp (g (.ref x :: ds) zs) [(x, .ins C [])]
  (fun d l3 => d = .non ∧ ∃ fs, l3 = [(x, .ins C fs)] ∧ (Q (.obj C fs) l2 ∨ Q (.ref x) ((x, .ins C fs) :: l2))) noX) : dMake C sp g n m t tk τ l Q := h
theorem s_setFld {τ : S} {l : M} {P : Addr → Prop} {te to : DE} {f : Str} {nx bk ct : DN} {rt : DK} (h : te τ l fun d l1 => to τ l1 fun o l2 => ∃ a n C fs, o = .ref a ∧ l2[n]? = some (a, MO.ins C fs) ∧ P C ∧ fs.length < 1000 ∧ nx τ (l2.set n (a, .ins C (putD f d fs)))) : dSetFld P te to f nx rt bk ct τ l := h
theorem s_setSub {τ : S} {l : M} {te to ti : DE} {nx bk ct : DN} {rt : DK} (h : te τ l fun d l1 => to τ l1 fun o l2 => ti τ l2 fun i l3 => ∃ a n ds k j, o = .ref a ∧ l3[n]? = some (a, MO.lst ds) ∧ i = .int k ∧ ixN ds.length k = some j ∧ nx τ (l3.set n (a, .lst (ds.set j d)))) : dSetSub te to ti nx rt bk ct τ l := h
theorem s_stR {τ : S} {l : M} {p : Addr} {nx : DN} {d : D} {n j : Nat} {k : Int} {ds : List D} (h : nx τ (l.set n (p, .lst (ds.set j d)))) (hn : l[n]? = some (p, MO.lst ds)) (hj : ixN ds.length k = some j) :
    ∃ a n ds k' j, D.ref p = .ref a ∧ l[n]? = some (a, MO.lst ds) ∧ D.int k = .int k' ∧ ixN ds.length k' = some j ∧ nx τ (l.set n (a, .lst (ds.set j d))) := ⟨p, n, ds, k, j, rfl, hn, rfl, hj, h⟩
/-! ### calls: the small heap that is handed on -/
theorem c_none {sp : SpD} {ds : List D} {l : M} {Q : DK} (h : sp ds [] (fun d l2 => Q d (l2 ++ l)) noX) : CallP sp ds l Q := by
  refine ⟨[], ?_⟩
  have e1 : pick l [] = [] := by cases l <;> rfl
  have e2 : ∀ l2, mergeM l [] l2 = l2 ++ l := fun l2 => by
    unfold mergeM
    rw [e1]
    show l2.take (l2.length - 0) ++ weave l [] (l2.drop (l2.length - 0)) = l2 ++ l
    rw [Nat.sub_zero, List.take_length, List.drop_length]
    cases l <;> simp [weave]
  rw [e1]
  exact (funext fun d => funext fun l2 => by rw [e2] : (fun d l2 => Q d (mergeM l [] l2)) = fun d l2 => Q d (l2 ++ l)) ▸ h
theorem c_0 {sp : SpD} {ds : List D} {l : M} {Q : DK} {p : Addr × MO} (h : sp ds [p] (fun d l2 => Q d (mergeM (p :: l) [true] l2)) noX) : CallP sp ds (p :: l) Q := by
  refine ⟨[true], ?_⟩
  have e1 : pick (p :: l) [true] = [p] := by
    show p :: pick l [] = _
    cases l <;> rfl
  rw [e1]; exact h
theorem merge_0 {p q : Addr × MO} {l : M} : mergeM (p :: l) [true] [q] = q :: l := by
  have e1 : pick (p :: l) [true] = [p] := by
    show p :: pick l [] = _
    cases l <;> rfl
  unfold mergeM
  rw [e1]
  show [] ++ q :: weave l [] [] = _
  cases l <;> rfl
theorem merge_02 {p q r : Addr × MO} {l : M} : mergeM (p :: l) [true] [r, q] = r :: q :: l := by
  have e1 : pick (p :: l) [true] = [p] := by
    show p :: pick l [] = _
    cases l <;> rfl
  unfold mergeM
  rw [e1]
  show [r] ++ q :: weave l [] [] = _
  cases l <;> rfl
theorem c_1 {sp : SpD} {ds : List D} {l : M} {Q : DK} {p q : Addr × MO} (h : sp ds [q] (fun d l2 => Q d (mergeM (p :: q :: l) [false, true] l2)) noX) : CallP sp ds (p :: q :: l) Q := by
  refine ⟨[false, true], ?_⟩
  have e1 : pick (p :: q :: l) [false, true] = [q] := by
    show q :: pick l [] = _
    cases l <;> rfl
  rw [e1]; exact h
theorem merge_1 {p q r : Addr × MO} {l : M} : mergeM (p :: q :: l) [false, true] [r] = p :: r :: l := by
  have e1 : pick (p :: q :: l) [false, true] = [q] := by
    show q :: pick l [] = _
    cases l <;> rfl
  unfold mergeM
  rw [e1]
  show [] ++ p :: r :: weave l [] [] = _
  cases l <;> rfl
theorem c_2 {sp : SpD} {ds : List D} {l : M} {Q : DK} {p p2 q : Addr × MO} (h : sp ds [q] (fun d l2 => Q d (mergeM (p :: p2 :: q :: l) [false, false, true] l2)) noX) : CallP sp ds (p :: p2 :: q :: l) Q := by
  refine ⟨[false, false, true], ?_⟩
  have e1 : pick (p :: p2 :: q :: l) [false, false, true] = [q] := by
    show q :: pick l [] = _
    cases l <;> rfl
  rw [e1]; exact h
theorem merge_2 {p p2 q r : Addr × MO} {l : M} : mergeM (p :: p2 :: q :: l) [false, false, true] [r] = p :: p2 :: r :: l := by
  have e1 : pick (p :: p2 :: q :: l) [false, false, true] = [q] := by
    show q :: pick l [] = _
    cases l <;> rfl
  unfold mergeM
  rw [e1]
  show [] ++ p :: p2 :: r :: weave l [] [] = _
  cases l <;> rfl
/-! ### loops -/
theorem s_for {τ : S} {l : M} {nx bk ct : DN} {rt : DK} {ti : DI} {g : Tg} {tb : DS} (h : ti τ l fun xs st l1 => ∃ W : Nat → S → M → Prop, W 0 τ l1 ∧ (∀ i τ l, i ≤ xs.length → W i τ l → st l) ∧
  (∀ i x τ l, xs[i]? = some x → W i τ l → g.put x τ fun τ2 => tb (We (W (i + 1))) rt nx (We (W (i + 1))) τ2 l) ∧ (∀ τ l, W xs.length τ l → nx τ l)) : dFor ti g tb nx rt bk ct τ l := h
section
variable {τ : S} {l : M} {nx : DN} {rt : DK} {g : Tg} {tb : DS} {QI : List D → (M → Prop) → M → Prop}
theorem s_r1 {t : DA} (h : t τ l fun ds l1 => ∃ j : Int, ds = [.int j] ∧ -(2 ^ 62) ≤ j ∧ j < 2 ^ 62 ∧ QI (rngD 0 j.toNat) (fun _ => True) l1) : diR1 t τ l QI := h
theorem s_r2 {t : DA} (h : t τ l fun ds l1 => ∃ i j : Int, ds = [.int i, .int j] ∧ (-(2 ^ 62) ≤ i ∧ i < 2 ^ 62 ∧ -(2 ^ 62) ≤ j ∧ j < 2 ^ 62) ∧ QI (rngD i (j - i).toNat) (fun _ => True) l1) : diR2 t τ l QI := h
theorem s_any {te : DE} (h : te τ l fun d l1 => match d with
  | .str y => QI (signs y) (fun _ => True) l1
  | d => ∃ ds, asQ l1 d ds ∧ QI ds (fun l => asQ l d ds) l1) : diAny te τ l QI := h
theorem s_en {t : DA} (h : t τ l fun ds l1 => ∃ d xs, ds = [d] ∧ asL l1 d xs ∧ QI (enumD xs) (fun l => asL l d xs) l1) : diEnum t τ l QI := h
theorem s_zp {t : DA} (h : t τ l fun ds l1 => (∃ d e xs ys, ds = [d, e] ∧ ((asL l1 d xs ∧ asL l1 e ys ∧ QI (zipD xs ys) (fun l => asL l d xs ∧ asL l e ys) l1) ∨ (asT d xs ∧ asT e ys ∧ QI (zipD xs ys) (fun _ => True) l1))) ∨
  ∃ x y, ds = [.str x, .str y] ∧ QI (zipD (signs x) (signs y)) (fun _ => True) l1) : diZip t τ l QI := h
theorem s_r1j {P : Int → Prop} {j : Int} (h : P j) : ∃ k : Int, [D.int j] = [.int k] ∧ P k := ⟨j, rfl, h⟩
theorem s_r2j {P : Int → Int → Prop} {i j : Int} (h : P i j) : ∃ k m : Int, [D.int i, D.int j] = [.int k, .int m] ∧ P k m := ⟨i, j, rfl, h⟩
theorem rng_at {lo : Int} {n i : Nat} {x : D} (h : (rngD lo n)[i]? = some x) : i < n ∧ x = .int (lo + (i : Nat)) := by
  unfold rngD at h
  rw [List.getElem?_map] at h
  by_cases hi : i < n
  · rw [List.getElem?_range hi] at h; cases h; exact ⟨hi, rfl⟩
  · rw [List.getElem?_eq_none_iff.mpr (by rw [List.length_range]; omega)] at h; cases h
theorem rng_len {lo : Int} {n : Nat} : (rngD lo n).length = n := by unfold rngD; rw [List.length_map, List.length_range]
/-- a loop over a range -/
theorem z_rng {lo : Int} {n : Nat} (W : Nat → S → M → Prop) (h0 : W 0 τ l) (hs : ∀ i τ l, i < n → W i τ l → g.put (.int (lo + (i : Nat))) τ fun τ2 => tb (We (W (i + 1))) rt nx (We (W (i + 1))) τ2 l) (hd : ∀ τ l, W n τ l → nx τ l) :
    ∃ W : Nat → S → M → Prop, W 0 τ l ∧ (∀ i τ l, i ≤ (rngD lo n).length → W i τ l → True) ∧
    (∀ i x τ l, (rngD lo n)[i]? = some x → W i τ l → g.put x τ fun τ2 => tb (We (W (i + 1))) rt nx (We (W (i + 1))) τ2 l) ∧ (∀ τ l, W (rngD lo n).length τ l → nx τ l) :=
  ⟨W, h0, fun _ _ _ _ _ => trivial, fun i x τ l hx hw => by obtain ⟨hi, rfl⟩ := rng_at hx; exact hs i τ l hi hw, fun τ l hw => hd τ l (by rw [rng_len] at hw; exact hw)⟩
/-- a loop over data -/
theorem z_for {xs : List D} {st : M → Prop} (W : Nat → S → M → Prop) (h0 : W 0 τ l) (hst : ∀ i τ l, i ≤ xs.length → W i τ l → st l) (hs : ∀ i x τ l, xs[i]? = some x → W i τ l → g.put x τ fun τ2 => tb (We (W (i + 1))) rt nx (We (W (i + 1))) τ2 l) (hd : ∀ τ l, W xs.length τ l → nx τ l) :
    ∃ W : Nat → S → M → Prop, W 0 τ l ∧ (∀ i τ l, i ≤ xs.length → W i τ l → st l) ∧
    (∀ i x τ l, xs[i]? = some x → W i τ l → g.put x τ fun τ2 => tb (We (W (i + 1))) rt nx (We (W (i + 1))) τ2 l) ∧ (∀ τ l, W xs.length τ l → nx τ l) := ⟨W, h0, hst, hs, hd⟩
theorem s_wkP {P : DN} (is : List Nat) (nd : is.Nodup) (h : P τ (is.filterMap fun i => l[i]?)) : We P τ l := ⟨_, .inr ⟨is, nd, rfl⟩, h⟩
variable {Q : DK} {tt : DT} {te : DE} {vs : List Nat}
theorem s_lc {ti : DI} (h : ti τ l fun xs st l1 => ∃ W : Nat → List D → M → Prop, W 0 [] l1 ∧ (∀ i acc l, i ≤ xs.length → W i acc l → st l) ∧
  (∀ i x acc l, xs[i]? = some x → W i acc l → g.put x (wipeD τ vs) fun τ2 => tt τ2 l fun b l3 => if b = true then te τ2 l3 fun y l4 => acc.length < 16777216 ∧ W (i + 1) (acc ++ [y]) l4 else W (i + 1) acc l3) ∧
  (∀ acc l, W xs.length acc l → newL acc l Q)) : dLc ti g tt te vs τ l Q := h
/-- a comprehension whose elements leave the small heap as it is -/
theorem z_lc {xs : List D} {st : M → Prop} {α : Type} (us : List α) (emb : α → D) (keep : α → Bool) (f : α → D) (hx : xs = us.map emb) (hz : us.length < 16777216) (hst : st l)
    (hs : ∀ u ∈ us, ∀ (P : DK) (R : M → Prop), (keep u = true → P (f u) l) → (keep u = false → R l) → g.put (emb u) (wipeD τ vs) fun τ2 => tt τ2 l fun b l3 => if b = true then te τ2 l3 P else R l3)
    (hd : newL ((us.filter keep).map f) l Q) :
    ∃ W : Nat → List D → M → Prop, W 0 [] l ∧ (∀ i acc l, i ≤ xs.length → W i acc l → st l) ∧
    (∀ i x acc l, xs[i]? = some x → W i acc l → g.put x (wipeD τ vs) fun τ2 => tt τ2 l fun b l3 => if b = true then te τ2 l3 fun y l4 => acc.length < 16777216 ∧ W (i + 1) (acc ++ [y]) l4 else W (i + 1) acc l3) ∧
    (∀ acc l, W xs.length acc l → newL acc l Q) := by
  subst hx
  refine ⟨fun i acc l' => l' = l ∧ acc = ((us.take i).filter keep).map f, ⟨rfl, by simp⟩, fun i acc l' _ h => by rw [h.1]; exact hst, fun i x acc l' hx ⟨e1, e2⟩ => ?_, fun acc l' ⟨e1, e2⟩ => ?_⟩
  · subst e1 e2
    rw [List.getElem?_map] at hx
    cases hu : us[i]? with
    | none => rw [hu] at hx; cases hx
    | some u =>
      rw [hu] at hx
      cases hx
      have ht : us.take (i + 1) = us.take i ++ [u] := by rw [List.take_add_one, hu]; rfl
      refine hs u (mem_of_get hu) _ _ (fun hk => ?_) (fun hk => ?_)
      · refine ⟨?_, rfl, ?_⟩
        · refine Nat.lt_of_le_of_lt ?_ hz
          rw [List.length_map]
          exact Nat.le_trans (List.length_filter_le _ _) (by rw [List.length_take]; omega)
        · rw [ht, List.filter_append, List.map_append]
          simp [hk]
      · refine ⟨rfl, ?_⟩
        rw [ht, List.filter_append, List.map_append]
        simp [hk]
  · subst e1 e2
    rw [List.length_map, List.take_length]
    exact hd
/-- .. without a test -/
theorem z_map {xs : List D} {st : M → Prop} {α : Type} (us : List α) (emb : α → D) (f : α → D) (hx : xs = us.map emb) (hz : us.length < 16777216) (hst : st l)
    (hs : ∀ u ∈ us, ∀ (P : DK), P (f u) l → g.put (emb u) (wipeD τ vs) fun τ2 => te τ2 l P) (hd : newL (us.map f) l Q) :
    ∃ W : Nat → List D → M → Prop, W 0 [] l ∧ (∀ i acc l, i ≤ xs.length → W i acc l → st l) ∧
    (∀ i x acc l, xs[i]? = some x → W i acc l → g.put x (wipeD τ vs) fun τ2 => dYes τ2 l fun b l3 => if b = true then te τ2 l3 fun y l4 => acc.length < 16777216 ∧ W (i + 1) (acc ++ [y]) l4 else W (i + 1) acc l3) ∧
    (∀ acc l, W xs.length acc l → newL acc l Q) :=
  z_lc us emb (fun _ => true) f hx hz hst (fun u hu P R h1 _ => by
    have h := hs u hu P (h1 rfl)
    exact h) (by rw [List.filter_eq_self.mpr (fun _ _ => rfl)]; exact hd)
end
/-! bounds that steps ask for -/
theorem mulR {i j : Int} (h1 : -(2 ^ 64) < j) (h2 : j < 2 ^ 64) : MulOk i j := .inl (.inr ⟨h1, h2⟩)
theorem mulL {i j : Int} (h1 : -(2 ^ 64) < i) (h2 : i < 2 ^ 64) : MulOk i j := .inl (.inl ⟨h1, h2⟩)
theorem divS {i j : Int} (h1 : 0 < j) (h2 : j < 1073741824) : DivOk i j := ⟨h1, .inl h2⟩
/-! guards: what a step looks like, before its side conditions are tried -/
section
variable {l : M} {Q : DK} {i j : Int} {p C : Addr} {xs : List D} {f : Str} {fs : List (Str × D)} {P : Addr → Prop} {T : String} {lo hi : Option Int}
theorem g_mul (h : oMul (.int i) (.int j) l Q) : oMul (.int i) (.int j) l Q := h
theorem g_div (h : oDiv (.int i) (.int j) l Q) : oDiv (.int i) (.int j) l Q := h
theorem g_mod (h : oMod (.int i) (.int j) l Q) : oMod (.int i) (.int j) l Q := h
theorem g_pow (h : oPow (.int i) (.int j) l Q) : oPow (.int i) (.int j) l Q := h
theorem g_lenR (h : oLen [.ref p] l Q) : oLen [.ref p] l Q := h
theorem g_listR (h : oListC [.ref p] l Q) : oListC [.ref p] l Q := h
theorem g_tupR (h : oTupC [.ref p] l Q) : oTupC [.ref p] l Q := h
theorem g_ixT (h : oIx (.tup xs) (.int i) l Q) : oIx (.tup xs) (.int i) l Q := h
theorem g_ixL (h : oIx (.lst xs) (.int i) l Q) : oIx (.lst xs) (.int i) l Q := h
theorem g_ixC (h : oIx (.scr xs) (.int i) l Q) : oIx (.scr xs) (.int i) l Q := h
theorem g_ixR (h : oIx (.ref p) (.int i) l Q) : oIx (.ref p) (.int i) l Q := h
theorem g_slR (h : oSl (.ref p) lo hi l Q) : oSl (.ref p) lo hi l Q := h
theorem g_fldO (h : oFld P f (.obj C fs) l Q) : oFld P f (.obj C fs) l Q := h
theorem g_fldR (h : oFld P f (.ref p) l Q) : oFld P f (.ref p) l Q := h
theorem g_isiR (h : oIsi T (.ref p) l Q) : oIsi T (.ref p) l Q := h
theorem g_st {k : Int} {d : D} {nx : DN} {τ : S} (h : ∃ a n ds k' j, D.ref p = .ref a ∧ l[n]? = some (a, MO.lst ds) ∧ D.int k = .int k' ∧ ixN ds.length k' = some j ∧ nx τ (l.set n (a, .lst (ds.set j d)))) :
    ∃ a n ds k' j, D.ref p = .ref a ∧ l[n]? = some (a, MO.lst ds) ∧ D.int k = .int k' ∧ ixN ds.length k' = some j ∧ nx τ (l.set n (a, .lst (ds.set j d))) := h
theorem g_apR {P : Addr → Prop} (h : ∃ a ds0, D.ref p = .ref a ∧ (a, MO.lst ds0) ∈ l ∧ P a) : ∃ a ds0, D.ref p = .ref a ∧ (a, MO.lst ds0) ∈ l ∧ P a := h
theorem s_apR {P : Addr → Prop} {ds0 : List D} (hm : (p, MO.lst ds0) ∈ l) (h : P p) : ∃ a ds0, D.ref p = .ref a ∧ (a, MO.lst ds0) ∈ l ∧ P a := ⟨p, ds0, rfl, hm, h⟩
theorem g_apE {P : M → Prop} {y : D} (h : ∃ (n : Nat) (ds : List D), l[n]? = some (p, MO.lst ds) ∧ ds.length < 16777216 ∧ P (l.set n (p, .lst (ds ++ [y])))) : ∃ (n : Nat) (ds : List D), l[n]? = some (p, MO.lst ds) ∧ ds.length < 16777216 ∧ P (l.set n (p, .lst (ds ++ [y]))) := h
theorem s_apE {P : M → Prop} {y : D} {ds : List D} (n : Nat) (hn : l[n]? = some (p, MO.lst ds)) (h : P (l.set n (p, .lst (ds ++ [y])))) (hz : ds.length < 16777216) : ∃ (n : Nat) (ds : List D), l[n]? = some (p, MO.lst ds) ∧ ds.length < 16777216 ∧ P (l.set n (p, .lst (ds ++ [y]))) := ⟨n, ds, hn, hz, h⟩
end
/-! ### == of like data -/
def okD : Nat → D → Bool
  | _, .non => true
  | _, .bl _ => true
  | _, .int _ => true
  | _, .str x => PyData.strOk x
  | n + 1, .tup ds => ds.all (okD n)
  | n + 1, .lst ds => ds.all (okD n)
  | n + 1, .scr ds => ds.all (okD n)
  | _, _ => false
mutual
def pyD : D → PyData
  | .non => .none
  | .bl b => .bool b
  | .int i => .int i
  | .str x => .str x
  | .tup ds => .tuple (pyDs ds)
  | .lst ds => .list (pyDs ds)
  | .scr ds => .list (pyDs ds)
  | .obj _ _ => .none
  | .ref _ => .none
def pyDs : List D → List PyData
  | [] => []
  | d :: ds => pyD d :: pyDs ds
end
theorem okD_all {l : M} {n : Nat} (ih : ∀ d, okD n d = true → Py l d (pyD d) ∧ (pyD d).canLay0 = true ∧ (pyD d).depth ≤ n) : ∀ ds : List D, ds.all (okD n) = true → Paired (Py l) ds (pyDs ds) ∧ PyData.canLayAll0 (pyDs ds) = true ∧ PyData.depthAll (pyDs ds) ≤ n
  | [], _ => by
    unfold pyDs
    exact ⟨.nil, by simp [PyData.canLayAll0], by simp [PyData.depthAll]⟩
  | d :: ds, h => by
    rw [List.all_cons] at h
    have h' := Bool.and_eq_true_iff.mp h
    obtain ⟨a1, a2, a3⟩ := ih d h'.1
    obtain ⟨b1, b2, b3⟩ := okD_all ih ds h'.2
    unfold pyDs
    refine ⟨.cons a1 b1, by simp only [PyData.canLayAll0, a2, b2, Bool.and_self], ?_⟩
    simp only [PyData.depthAll]
    omega
theorem okD_py {l : M} : ∀ (n : Nat) (d : D), okD n d = true → Py l d (pyD d) ∧ (pyD d).canLay0 = true ∧ (pyD d).depth ≤ n
  | n, .non, _ => ⟨by unfold pyD; exact .non, by unfold pyD; simp [PyData.canLay0], by unfold pyD; simp [PyData.depth]⟩
  | n, .bl b, _ => ⟨by unfold pyD; exact .bl b, by unfold pyD; simp [PyData.canLay0], by unfold pyD; simp [PyData.depth]⟩
  | n, .int b, _ => ⟨by unfold pyD; exact .int b, by unfold pyD; simp [PyData.canLay0], by unfold pyD; simp [PyData.depth]⟩
  | n, .str x, h => ⟨by unfold pyD; exact .str x, by unfold pyD; unfold okD at h; simp only [PyData.canLay0]; exact h, by unfold pyD; simp [PyData.depth]⟩
  | n + 1, .tup ds, h => by
    unfold okD at h
    obtain ⟨a, b, c⟩ := okD_all (fun d => okD_py n d) ds h
    unfold pyD
    exact ⟨.tup a, by simp only [PyData.canLay0]; exact b, by simp only [PyData.depth]; omega⟩
  | n + 1, .lst ds, h => by
    unfold okD at h
    obtain ⟨a, b, c⟩ := okD_all (fun d => okD_py n d) ds h
    unfold pyD
    exact ⟨.lst a, by simp only [PyData.canLay0]; exact b, by simp only [PyData.depth]; omega⟩
  | n + 1, .scr ds, h => by
    unfold okD at h
    obtain ⟨a, b, c⟩ := okD_all (fun d => okD_py n d) ds h
    unfold pyD
    exact ⟨.scr a, by simp only [PyData.canLay0]; exact b, by simp only [PyData.depth]; omega⟩
  | 0, .tup ds, h => by unfold okD at h; cases h
  | 0, .lst ds, h => by unfold okD at h; cases h
  | 0, .scr ds, h => by unfold okD at h; cases h
  | 0, .obj _ _, h => by unfold okD at h; cases h
  | 0, .ref _, h => by unfold okD at h; cases h
  | n + 1, .obj _ _, h => by unfold okD at h; cases h
  | n + 1, .ref _, h => by unfold okD at h; cases h
theorem okD_shaped {l : M} {n : Nat} {d : D} (h : okD n d = true) (hn : n ≤ 64) : Py l d (pyD d) ∧ SeqAt.shaped (pyD d) = true := by
  obtain ⟨a, b, c⟩ := okD_py (l := l) n d h
  exact ⟨a, Bool.and_eq_true_iff.mpr ⟨b, decide_eq_true (by omega)⟩⟩
theorem eqG_self {l : M} {d : D} {f : Bool → Bool} {Q : DK} (n : Nat) (hn : n ≤ 64) (h : okD n d = true) (q : Q (.bl (f true)) l) : eqG l d d f Q := by
  obtain ⟨a, b⟩ := okD_shaped (l := l) h hn
  refine ⟨_, _, a, a, b, b, ?_⟩
  rw [PySem.SeqAt.eqv_refl _ (SeqAt.canLay_of_shaped b)]; exact q
theorem s_eqTs {l : M} {xs : List D} {Q : DK} (n : Nat) (hn : n ≤ 64) (h : okD n (.tup xs) = true) (q : Q (.bl true) l) : oEq (.tup xs) (.tup xs) l Q := eqG_self (f := id) n hn h q
theorem s_eqLs {l : M} {xs : List D} {Q : DK} (n : Nat) (hn : n ≤ 64) (h : okD n (.lst xs) = true) (q : Q (.bl true) l) : oEq (.lst xs) (.lst xs) l Q := eqG_self (f := id) n hn h q
theorem s_neTs {l : M} {xs : List D} {Q : DK} (n : Nat) (hn : n ≤ 64) (h : okD n (.tup xs) = true) (q : Q (.bl false) l) : oNe (.tup xs) (.tup xs) l Q := eqG_self (f := (!·)) n hn h q
theorem s_neLs {l : M} {xs : List D} {Q : DK} (n : Nat) (hn : n ≤ 64) (h : okD n (.lst xs) = true) (q : Q (.bl false) l) : oNe (.lst xs) (.lst xs) l Q := eqG_self (f := (!·)) n hn h q
theorem okD_ints (n : Nat) (ns : List Int) : okD (n + 1) (.lst (ns.map .int)) = true := by
  unfold okD
  rw [List.all_map]
  exact List.all_eq_true.mpr fun i _ => by show okD n (.int i) = true; cases n <;> rfl
theorem pyDs_ints : ∀ ns : List Int, pyDs (ns.map .int) = ns.map PyData.int
  | [] => by unfold pyDs; rfl
  | n :: ns => by
    have h := pyDs_ints ns
    show pyDs (.int n :: ns.map .int) = .int n :: ns.map PyData.int
    rw [← h, show pyDs (.int n :: ns.map .int) = pyD (.int n) :: pyDs (ns.map .int) from by rw [pyDs]]
    rw [pyD]
theorem eqv_ints : ∀ ns ms : List Int, PyData.eqvAll (ns.map PyData.int) (ms.map PyData.int) = decide (ns = ms)
  | [], [] => by simp [PyData.eqvAll]
  | [], _ :: _ => by simp [PyData.eqvAll]
  | _ :: _, [] => by simp [PyData.eqvAll]
  | n :: ns, m :: ms => by
    rw [List.map_cons, List.map_cons, PyData.eqvAll, eqv_ints ns ms]
    rw [show PyData.eqv (.int n) (.int m) = (n == m) by simp [PyData.eqv]]
    by_cases h : n = m
    · subst h; simp
    · simp [h]
theorem s_eqIs {l : M} {ns ms : List Int} {Q : DK} (q : Q (.bl (decide (ns = ms))) l) : oEq (.lst (ns.map .int)) (.lst (ms.map .int)) l Q := by
  obtain ⟨a, b⟩ := okD_shaped (l := l) (okD_ints 0 ns) (by decide)
  obtain ⟨c, d⟩ := okD_shaped (l := l) (okD_ints 0 ms) (by decide)
  refine ⟨_, _, a, c, b, d, ?_⟩
  have e : ∀ ks : List Int, pyD (.lst (ks.map .int)) = .list (ks.map PyData.int) := fun ks => by unfold pyD; rw [pyDs_ints]
  rw [e, e, PyData.eqv, eqv_ints]; exact q
end Z

namespace Hd
open PySem PySem.Spec PyProof.Rows L2 Z

def top (i : Nat) : Stmt := PySem.Challenge.pw_busyspan_k53_broken_logs.main.body.getD i (.Pass ⟨0, 0, 0, 0⟩)
def d_u_wall : He.DefD := ⟨("_wall", none), "_wall", "_wall", defArgs (top 0), defBody (top 0), defScope (top 0), [], []⟩
def d_u_is_letter : He.DefD := ⟨("_is_letter", none), "_is_letter", "_is_letter", defArgs (top 8), defBody (top 8), defScope (top 8), [], []⟩
def d_u_is_letters : He.DefD := ⟨("_is_letters", none), "_is_letters", "_is_letters", defArgs (top 9), defBody (top 9), defScope (top 9), [], []⟩
def d_is_name : He.DefD := ⟨("is_name", none), "is_name", "is_name", defArgs (top 10), defBody (top 10), defScope (top 10), [], []⟩
def d_is_hold : He.DefD := ⟨("is_hold", none), "is_hold", "is_hold", defArgs (top 11), defBody (top 11), defScope (top 11), [], []⟩
def d_u_segment_text : He.DefD := ⟨("_segment_text", none), "_segment_text", "_segment_text", defArgs (top 12), defBody (top 12), defScope (top 12), [], []⟩
def d_u_frame_text : He.DefD := ⟨("_frame_text", none), "_frame_text", "_frame_text", defArgs (top 13), defBody (top 13), defScope (top 13), [], []⟩
def d_task_text : He.DefD := ⟨("task_text", none), "task_text", "task_text", defArgs (top 14), defBody (top 14), defScope (top 14), [], []⟩
def d_most_sum : He.DefD := ⟨("most_sum", none), "most_sum", "most_sum", defArgs (top 16), defBody (top 16), defScope (top 16), [], []⟩
def d_least_sum : He.DefD := ⟨("least_sum", none), "least_sum", "least_sum", defArgs (top 17), defBody (top 17), defScope (top 17), [], []⟩
def d_u_copied : He.DefD := ⟨("_copied", none), "_copied", "_copied", defArgs (top 26), defBody (top 26), defScope (top 26), [], []⟩
def d_u_check_frame : He.DefD := ⟨("_check_frame", none), "_check_frame", "_check_frame", defArgs (top 27), defBody (top 27), defScope (top 27), [], []⟩
def d_u_check_frames : He.DefD := ⟨("_check_frames", none), "_check_frames", "_check_frames", defArgs (top 28), defBody (top 28), defScope (top 28), [], []⟩
def d_u_longer : He.DefD := ⟨("_longer", none), "_longer", "_longer", defArgs (top 29), defBody (top 29), defScope (top 29), [], []⟩
def d_u_changed_frame : He.DefD := ⟨("_changed_frame", none), "_changed_frame", "_changed_frame", defArgs (top 30), defBody (top 30), defScope (top 30), [], []⟩
def d_Task____init__ : He.DefD := ⟨("Task", some "__init__"), "__init__", "Task.__init__", defArgs (inClass (top 31) 0), defBody (inClass (top 31) 0), defScope (inClass (top 31) 0), [], [("jitter", .int 0)]⟩
def d_Task____eq__ : He.DefD := ⟨("Task", some "__eq__"), "__eq__", "Task.__eq__", defArgs (inClass (top 31) 2), defBody (inClass (top 31) 2), defScope (inClass (top 31) 2), [], []⟩
def d_Task____len__ : He.DefD := ⟨("Task", some "__len__"), "__len__", "Task.__len__", defArgs (inClass (top 31) 3), defBody (inClass (top 31) 3), defScope (inClass (top 31) 3), [], []⟩
def d_Task____str__ : He.DefD := ⟨("Task", some "__str__"), "__str__", "Task.__str__", defArgs (inClass (top 31) 4), defBody (inClass (top 31) 4), defScope (inClass (top 31) 4), [], []⟩
def d_Task__most_work : He.DefD := ⟨("Task", some "most_work"), "most_work", "Task.most_work", defArgs (inClass (top 31) 7), defBody (inClass (top 31) 7), defScope (inClass (top 31) 7), [], []⟩
def d_Task__least_work : He.DefD := ⟨("Task", some "least_work"), "least_work", "Task.least_work", defArgs (inClass (top 31) 8), defBody (inClass (top 31) 8), defScope (inClass (top 31) 8), [], []⟩
def d_Task__share : He.DefD := ⟨("Task", some "share"), "share", "Task.share", defArgs (inClass (top 31) 9), defBody (inClass (top 31) 9), defScope (inClass (top 31) 9), [], []⟩
def d_Task__changed : He.DefD := ⟨("Task", some "changed"), "changed", "Task.changed", defArgs (inClass (top 31) 10), defBody (inClass (top 31) 10), defScope (inClass (top 31) 10), [], []⟩
def d_Task__renamed : He.DefD := ⟨("Task", some "renamed"), "renamed", "Task.renamed", defArgs (inClass (top 31) 11), defBody (inClass (top 31) 11), defScope (inClass (top 31) 11), [], []⟩
def d_length_fits : He.DefD := ⟨("length_fits", none), "length_fits", "length_fits", defArgs (top 33), defBody (top 33), defScope (top 33), [], []⟩
def d_u_earliest_arrivals : He.DefD := ⟨("_earliest_arrivals", none), "_earliest_arrivals", "_earliest_arrivals", defArgs (top 34), defBody (top 34), defScope (top 34), [], []⟩
def d_explained : He.DefD := ⟨("explained", none), "explained", "explained", defArgs (top 35), defBody (top 35), defScope (top 35), [], []⟩
def d_break_index : He.DefD := ⟨("break_index", none), "break_index", "break_index", defArgs (top 36), defBody (top 36), defScope (top 36), [], []⟩
def d_u_law_cell : He.DefD := ⟨("_law_cell", none), "_law_cell", "_law_cell", defArgs (top 38), defBody (top 38), defScope (top 38), [], []⟩
def d_u_law_bag : He.DefD := ⟨("_law_bag", none), "_law_bag", "_law_bag", defArgs (top 39), defBody (top 39), defScope (top 39), [], []⟩
def d_u_law_take : He.DefD := ⟨("_law_take", none), "_law_take", "_law_take", defArgs (top 40), defBody (top 40), defScope (top 40), [], []⟩
def d_u_law_number : He.DefD := ⟨("_law_number", none), "_law_number", "_law_number", defArgs (top 41), defBody (top 41), defScope (top 41), [], []⟩
def d_u_law_word : He.DefD := ⟨("_law_word", none), "_law_word", "_law_word", defArgs (top 42), defBody (top 42), defScope (top 42), [], []⟩
def d_u_law_work : He.DefD := ⟨("_law_work", none), "_law_work", "_law_work", defArgs (top 43), defBody (top 43), defScope (top 43), [], []⟩
def d_u_law_rows : He.DefD := ⟨("_law_rows", none), "_law_rows", "_law_rows", defArgs (top 44), defBody (top 44), defScope (top 44), [], []⟩
def d_u_law_low : He.DefD := ⟨("_law_low", none), "_law_low", "_law_low", defArgs (top 45), defBody (top 45), defScope (top 45), [], []⟩
def d_u_law_high : He.DefD := ⟨("_law_high", none), "_law_high", "_law_high", defArgs (top 46), defBody (top 46), defScope (top 46), [], []⟩
def d_u_law_good : He.DefD := ⟨("_law_good", none), "_law_good", "_law_good", defArgs (top 47), defBody (top 47), defScope (top 47), [], []⟩
def d_u_law_bent : He.DefD := ⟨("_law_bent", none), "_law_bent", "_law_bent", defArgs (top 48), defBody (top 48), defScope (top 48), [], []⟩
def d_u_law_kept : He.DefD := ⟨("_law_kept", none), "_law_kept", "_law_kept", defArgs (top 49), defBody (top 49), defScope (top 49), [], []⟩
def d_u_law_due : He.DefD := ⟨("_law_due", none), "_law_due", "_law_due", defArgs (top 50), defBody (top 50), defScope (top 50), [], []⟩
def d_u_law_right : He.DefD := ⟨("_law_right", none), "_law_right", "_law_right", defArgs (top 51), defBody (top 51), defScope (top 51), [], []⟩
def d_u_law_around : He.DefD := ⟨("_law_around", none), "_law_around", "_law_around", defArgs (top 52), defBody (top 52), defScope (top 52), [], []⟩
def d_law : He.DefD := ⟨("law", none), "law", "law", defArgs (top 53), defBody (top 53), defScope (top 53), [], []⟩
def fn0 : List He.DefD := [d_u_wall, d_u_is_letter, d_u_is_letters, d_is_name, d_is_hold, d_u_segment_text, d_u_frame_text, d_task_text, d_most_sum, d_least_sum, d_u_copied, d_u_check_frame, d_u_check_frames, d_u_longer, d_u_changed_frame, d_Task____init__, d_Task____eq__, d_Task____len__]
def fn1 : List He.DefD := [d_Task____str__, d_Task__most_work, d_Task__least_work, d_Task__share, d_Task__changed, d_Task__renamed, d_length_fits, d_u_earliest_arrivals, d_explained, d_break_index, d_u_law_cell, d_u_law_bag, d_u_law_take, d_u_law_number, d_u_law_word, d_u_law_work, d_u_law_rows, d_u_law_low]
def fn2 : List He.DefD := [d_u_law_high, d_u_law_good, d_u_law_bent, d_u_law_kept, d_u_law_due, d_u_law_right, d_u_law_around, d_law]
def fn : List He.DefD := fn0 ++ fn1 ++ fn2
def fa0 : List He.Fa := [.glo "_wall", .glo "BusyError", .glo "InvalidTask", .glo "Unfit", .glo "_is_letter", .glo "_is_letters", .glo "is_name", .glo "is_hold", .glo "_segment_text", .glo "_frame_text", .glo "task_text", .glo "most_sum", .glo "least_sum", .glo "_copied", .glo "_check_frame", .glo "_check_frames", .glo "_longer", .glo "_changed_frame"]
def fa1 : List He.Fa := [.glo "Task", .glo "length_fits", .glo "_earliest_arrivals", .glo "explained", .glo "break_index", .glo "_law_cell", .glo "_law_bag", .glo "_law_take", .glo "_law_number", .glo "_law_word", .glo "_law_work", .glo "_law_rows", .glo "_law_low", .glo "_law_high", .glo "_law_good", .glo "_law_bent", .glo "_law_kept", .glo "_law_due"]
def fa2 : List He.Fa := [.glo "_law_right", .glo "_law_around", .glo "law", .free "ValueError", .free "abs", .free "all", .free "any", .free "bool", .free "enumerate", .free "int", .free "isinstance", .free "len", .free "list", .free "max", .free "property", .free "range", .free "staticmethod", .free "str"]
def fa3 : List He.Fa := [.free "sum", .free "super", .free "tuple", .free "zip", .int "MOST_LETTERS" 8, .int "MOST_LOCKS" 4, .int "MOST_FRAMES" 4, .int "MOST_SEGMENTS" 4, .int "MOST_GAP" 240, .int "MOST_DUE" 480, .int "MOST_LENGTH" 240, .int "MOST_JITTER" 240, .cls "Task", .mkr "Task", .meth "Task" "__eq__", .meth "Task" "__len__", .meth "Task" "__str__", .meth "Task" "most_work"]
def fa4 : List He.Fa := [.meth "Task" "least_work", .meth "Task" "share", .meth "Task" "changed", .meth "Task" "renamed", .noat "Task" "name", .noat "Task" "frames", .noat "Task" "jitter"]
def fa : List He.Fa := fa0 ++ fa1 ++ fa2 ++ fa3 ++ fa4
def names0 : List PySem.Str := ["_wall", "BusyError", "InvalidTask", "Unfit", "MOST_LETTERS", "MOST_LOCKS", "_is_letter", "_is_letters", "is_name", "is_hold", "_segment_text", "_frame_text", "task_text", "most_sum", "least_sum", "MOST_FRAMES", "MOST_SEGMENTS", "MOST_GAP"]
def names1 : List PySem.Str := ["MOST_DUE", "MOST_LENGTH", "MOST_JITTER", "KINDS", "_copied", "_check_frame", "_check_frames", "_longer", "_changed_frame", "Task", "length_fits", "_earliest_arrivals", "explained", "break_index", "_law_cell", "_law_bag", "_law_take", "_law_number"]
def names2 : List PySem.Str := ["_law_word", "_law_work", "_law_rows", "_law_low", "_law_high", "_law_good", "_law_bent", "_law_kept", "_law_due", "_law_right", "_law_around"]
def names : List PySem.Str := names0 ++ names1 ++ names2
abbrev R : PySem.W.OpenRow := PySem.W.OpenLaw.row PySem.Challenge.rw_busyspan_k53_broken_logs
abbrev hk : PySem.W.Hook := He.hookD 6 fa fn
def ob (s : PySem.W.SharedT) : He.AlD := He.obsDG 6 fa fn (HandSHeadRun.getT s)
theorem ob_eq (s : PySem.W.SharedT) : ob s = hk.obs s.abs := He.obsDG_eq (HandSHeadRun.getT_eq s)
/-- what the head tells -/
def Tx (K : PySem.W.Frag) (mg : PySem.Str → Option Value) : Prop := ∃ h : Heap, K.In h ∧ h.Ns mainGlobals mg ∧ He.SaysD fa fn K
section
variable {K : PySem.W.Frag} {mg : PySem.Str → Option Value}
theorem mG__wall (T : Tx K mg) : mg "_wall" = some (.ref (He.ga K "_wall")) := by
  obtain ⟨h, X, G, c⟩ := T
  exact He.glo_ok X G (c.fact 0 (f := .glo "_wall") rfl)
theorem mG_BusyError (T : Tx K mg) : mg "BusyError" = some (.ref (He.ga K "BusyError")) := by
  obtain ⟨h, X, G, c⟩ := T
  exact He.glo_ok X G (c.fact 1 (f := .glo "BusyError") rfl)
theorem mG_InvalidTask (T : Tx K mg) : mg "InvalidTask" = some (.ref (He.ga K "InvalidTask")) := by
  obtain ⟨h, X, G, c⟩ := T
  exact He.glo_ok X G (c.fact 2 (f := .glo "InvalidTask") rfl)
theorem mG_Unfit (T : Tx K mg) : mg "Unfit" = some (.ref (He.ga K "Unfit")) := by
  obtain ⟨h, X, G, c⟩ := T
  exact He.glo_ok X G (c.fact 3 (f := .glo "Unfit") rfl)
theorem mG__is_letter (T : Tx K mg) : mg "_is_letter" = some (.ref (He.ga K "_is_letter")) := by
  obtain ⟨h, X, G, c⟩ := T
  exact He.glo_ok X G (c.fact 4 (f := .glo "_is_letter") rfl)
theorem mG__is_letters (T : Tx K mg) : mg "_is_letters" = some (.ref (He.ga K "_is_letters")) := by
  obtain ⟨h, X, G, c⟩ := T
  exact He.glo_ok X G (c.fact 5 (f := .glo "_is_letters") rfl)
theorem mG_is_name (T : Tx K mg) : mg "is_name" = some (.ref (He.ga K "is_name")) := by
  obtain ⟨h, X, G, c⟩ := T
  exact He.glo_ok X G (c.fact 6 (f := .glo "is_name") rfl)
theorem mG_is_hold (T : Tx K mg) : mg "is_hold" = some (.ref (He.ga K "is_hold")) := by
  obtain ⟨h, X, G, c⟩ := T
  exact He.glo_ok X G (c.fact 7 (f := .glo "is_hold") rfl)
theorem mG__segment_text (T : Tx K mg) : mg "_segment_text" = some (.ref (He.ga K "_segment_text")) := by
  obtain ⟨h, X, G, c⟩ := T
  exact He.glo_ok X G (c.fact 8 (f := .glo "_segment_text") rfl)
theorem mG__frame_text (T : Tx K mg) : mg "_frame_text" = some (.ref (He.ga K "_frame_text")) := by
  obtain ⟨h, X, G, c⟩ := T
  exact He.glo_ok X G (c.fact 9 (f := .glo "_frame_text") rfl)
theorem mG_task_text (T : Tx K mg) : mg "task_text" = some (.ref (He.ga K "task_text")) := by
  obtain ⟨h, X, G, c⟩ := T
  exact He.glo_ok X G (c.fact 10 (f := .glo "task_text") rfl)
theorem mG_most_sum (T : Tx K mg) : mg "most_sum" = some (.ref (He.ga K "most_sum")) := by
  obtain ⟨h, X, G, c⟩ := T
  exact He.glo_ok X G (c.fact 11 (f := .glo "most_sum") rfl)
theorem mG_least_sum (T : Tx K mg) : mg "least_sum" = some (.ref (He.ga K "least_sum")) := by
  obtain ⟨h, X, G, c⟩ := T
  exact He.glo_ok X G (c.fact 12 (f := .glo "least_sum") rfl)
theorem mG__copied (T : Tx K mg) : mg "_copied" = some (.ref (He.ga K "_copied")) := by
  obtain ⟨h, X, G, c⟩ := T
  exact He.glo_ok X G (c.fact 13 (f := .glo "_copied") rfl)
theorem mG__check_frame (T : Tx K mg) : mg "_check_frame" = some (.ref (He.ga K "_check_frame")) := by
  obtain ⟨h, X, G, c⟩ := T
  exact He.glo_ok X G (c.fact 14 (f := .glo "_check_frame") rfl)
theorem mG__check_frames (T : Tx K mg) : mg "_check_frames" = some (.ref (He.ga K "_check_frames")) := by
  obtain ⟨h, X, G, c⟩ := T
  exact He.glo_ok X G (c.fact 15 (f := .glo "_check_frames") rfl)
theorem mG__longer (T : Tx K mg) : mg "_longer" = some (.ref (He.ga K "_longer")) := by
  obtain ⟨h, X, G, c⟩ := T
  exact He.glo_ok X G (c.fact 16 (f := .glo "_longer") rfl)
theorem mG__changed_frame (T : Tx K mg) : mg "_changed_frame" = some (.ref (He.ga K "_changed_frame")) := by
  obtain ⟨h, X, G, c⟩ := T
  exact He.glo_ok X G (c.fact 17 (f := .glo "_changed_frame") rfl)
theorem mG_Task (T : Tx K mg) : mg "Task" = some (.ref (He.ga K "Task")) := by
  obtain ⟨h, X, G, c⟩ := T
  exact He.glo_ok X G (c.fact 18 (f := .glo "Task") rfl)
theorem mG_length_fits (T : Tx K mg) : mg "length_fits" = some (.ref (He.ga K "length_fits")) := by
  obtain ⟨h, X, G, c⟩ := T
  exact He.glo_ok X G (c.fact 19 (f := .glo "length_fits") rfl)
theorem mG__earliest_arrivals (T : Tx K mg) : mg "_earliest_arrivals" = some (.ref (He.ga K "_earliest_arrivals")) := by
  obtain ⟨h, X, G, c⟩ := T
  exact He.glo_ok X G (c.fact 20 (f := .glo "_earliest_arrivals") rfl)
theorem mG_explained (T : Tx K mg) : mg "explained" = some (.ref (He.ga K "explained")) := by
  obtain ⟨h, X, G, c⟩ := T
  exact He.glo_ok X G (c.fact 21 (f := .glo "explained") rfl)
theorem mG_break_index (T : Tx K mg) : mg "break_index" = some (.ref (He.ga K "break_index")) := by
  obtain ⟨h, X, G, c⟩ := T
  exact He.glo_ok X G (c.fact 22 (f := .glo "break_index") rfl)
theorem mG__law_cell (T : Tx K mg) : mg "_law_cell" = some (.ref (He.ga K "_law_cell")) := by
  obtain ⟨h, X, G, c⟩ := T
  exact He.glo_ok X G (c.fact 23 (f := .glo "_law_cell") rfl)
theorem mG__law_bag (T : Tx K mg) : mg "_law_bag" = some (.ref (He.ga K "_law_bag")) := by
  obtain ⟨h, X, G, c⟩ := T
  exact He.glo_ok X G (c.fact 24 (f := .glo "_law_bag") rfl)
theorem mG__law_take (T : Tx K mg) : mg "_law_take" = some (.ref (He.ga K "_law_take")) := by
  obtain ⟨h, X, G, c⟩ := T
  exact He.glo_ok X G (c.fact 25 (f := .glo "_law_take") rfl)
theorem mG__law_number (T : Tx K mg) : mg "_law_number" = some (.ref (He.ga K "_law_number")) := by
  obtain ⟨h, X, G, c⟩ := T
  exact He.glo_ok X G (c.fact 26 (f := .glo "_law_number") rfl)
theorem mG__law_word (T : Tx K mg) : mg "_law_word" = some (.ref (He.ga K "_law_word")) := by
  obtain ⟨h, X, G, c⟩ := T
  exact He.glo_ok X G (c.fact 27 (f := .glo "_law_word") rfl)
theorem mG__law_work (T : Tx K mg) : mg "_law_work" = some (.ref (He.ga K "_law_work")) := by
  obtain ⟨h, X, G, c⟩ := T
  exact He.glo_ok X G (c.fact 28 (f := .glo "_law_work") rfl)
theorem mG__law_rows (T : Tx K mg) : mg "_law_rows" = some (.ref (He.ga K "_law_rows")) := by
  obtain ⟨h, X, G, c⟩ := T
  exact He.glo_ok X G (c.fact 29 (f := .glo "_law_rows") rfl)
theorem mG__law_low (T : Tx K mg) : mg "_law_low" = some (.ref (He.ga K "_law_low")) := by
  obtain ⟨h, X, G, c⟩ := T
  exact He.glo_ok X G (c.fact 30 (f := .glo "_law_low") rfl)
theorem mG__law_high (T : Tx K mg) : mg "_law_high" = some (.ref (He.ga K "_law_high")) := by
  obtain ⟨h, X, G, c⟩ := T
  exact He.glo_ok X G (c.fact 31 (f := .glo "_law_high") rfl)
theorem mG__law_good (T : Tx K mg) : mg "_law_good" = some (.ref (He.ga K "_law_good")) := by
  obtain ⟨h, X, G, c⟩ := T
  exact He.glo_ok X G (c.fact 32 (f := .glo "_law_good") rfl)
theorem mG__law_bent (T : Tx K mg) : mg "_law_bent" = some (.ref (He.ga K "_law_bent")) := by
  obtain ⟨h, X, G, c⟩ := T
  exact He.glo_ok X G (c.fact 33 (f := .glo "_law_bent") rfl)
theorem mG__law_kept (T : Tx K mg) : mg "_law_kept" = some (.ref (He.ga K "_law_kept")) := by
  obtain ⟨h, X, G, c⟩ := T
  exact He.glo_ok X G (c.fact 34 (f := .glo "_law_kept") rfl)
theorem mG__law_due (T : Tx K mg) : mg "_law_due" = some (.ref (He.ga K "_law_due")) := by
  obtain ⟨h, X, G, c⟩ := T
  exact He.glo_ok X G (c.fact 35 (f := .glo "_law_due") rfl)
theorem mG__law_right (T : Tx K mg) : mg "_law_right" = some (.ref (He.ga K "_law_right")) := by
  obtain ⟨h, X, G, c⟩ := T
  exact He.glo_ok X G (c.fact 36 (f := .glo "_law_right") rfl)
theorem mG__law_around (T : Tx K mg) : mg "_law_around" = some (.ref (He.ga K "_law_around")) := by
  obtain ⟨h, X, G, c⟩ := T
  exact He.glo_ok X G (c.fact 37 (f := .glo "_law_around") rfl)
theorem mG_law (T : Tx K mg) : mg "law" = some (.ref (He.ga K "law")) := by
  obtain ⟨h, X, G, c⟩ := T
  exact He.glo_ok X G (c.fact 38 (f := .glo "law") rfl)
theorem m_ValueError (T : Tx K mg) : mg "ValueError" = none := by
  obtain ⟨h, X, G, c⟩ := T
  exact He.free_ok X G (c.fact 39 (f := .free "ValueError") rfl)
theorem m_abs (T : Tx K mg) : mg "abs" = none := by
  obtain ⟨h, X, G, c⟩ := T
  exact He.free_ok X G (c.fact 40 (f := .free "abs") rfl)
theorem m_all (T : Tx K mg) : mg "all" = none := by
  obtain ⟨h, X, G, c⟩ := T
  exact He.free_ok X G (c.fact 41 (f := .free "all") rfl)
theorem m_any (T : Tx K mg) : mg "any" = none := by
  obtain ⟨h, X, G, c⟩ := T
  exact He.free_ok X G (c.fact 42 (f := .free "any") rfl)
theorem m_bool (T : Tx K mg) : mg "bool" = none := by
  obtain ⟨h, X, G, c⟩ := T
  exact He.free_ok X G (c.fact 43 (f := .free "bool") rfl)
theorem m_enumerate (T : Tx K mg) : mg "enumerate" = none := by
  obtain ⟨h, X, G, c⟩ := T
  exact He.free_ok X G (c.fact 44 (f := .free "enumerate") rfl)
theorem m_int (T : Tx K mg) : mg "int" = none := by
  obtain ⟨h, X, G, c⟩ := T
  exact He.free_ok X G (c.fact 45 (f := .free "int") rfl)
theorem m_isinstance (T : Tx K mg) : mg "isinstance" = none := by
  obtain ⟨h, X, G, c⟩ := T
  exact He.free_ok X G (c.fact 46 (f := .free "isinstance") rfl)
theorem m_len (T : Tx K mg) : mg "len" = none := by
  obtain ⟨h, X, G, c⟩ := T
  exact He.free_ok X G (c.fact 47 (f := .free "len") rfl)
theorem m_list (T : Tx K mg) : mg "list" = none := by
  obtain ⟨h, X, G, c⟩ := T
  exact He.free_ok X G (c.fact 48 (f := .free "list") rfl)
theorem m_max (T : Tx K mg) : mg "max" = none := by
  obtain ⟨h, X, G, c⟩ := T
  exact He.free_ok X G (c.fact 49 (f := .free "max") rfl)
theorem m_property (T : Tx K mg) : mg "property" = none := by
  obtain ⟨h, X, G, c⟩ := T
  exact He.free_ok X G (c.fact 50 (f := .free "property") rfl)
theorem m_range (T : Tx K mg) : mg "range" = none := by
  obtain ⟨h, X, G, c⟩ := T
  exact He.free_ok X G (c.fact 51 (f := .free "range") rfl)
theorem m_staticmethod (T : Tx K mg) : mg "staticmethod" = none := by
  obtain ⟨h, X, G, c⟩ := T
  exact He.free_ok X G (c.fact 52 (f := .free "staticmethod") rfl)
theorem m_str (T : Tx K mg) : mg "str" = none := by
  obtain ⟨h, X, G, c⟩ := T
  exact He.free_ok X G (c.fact 53 (f := .free "str") rfl)
theorem m_sum (T : Tx K mg) : mg "sum" = none := by
  obtain ⟨h, X, G, c⟩ := T
  exact He.free_ok X G (c.fact 54 (f := .free "sum") rfl)
theorem m_super (T : Tx K mg) : mg "super" = none := by
  obtain ⟨h, X, G, c⟩ := T
  exact He.free_ok X G (c.fact 55 (f := .free "super") rfl)
theorem m_tuple (T : Tx K mg) : mg "tuple" = none := by
  obtain ⟨h, X, G, c⟩ := T
  exact He.free_ok X G (c.fact 56 (f := .free "tuple") rfl)
theorem m_zip (T : Tx K mg) : mg "zip" = none := by
  obtain ⟨h, X, G, c⟩ := T
  exact He.free_ok X G (c.fact 57 (f := .free "zip") rfl)
theorem mI_MOST_LETTERS (T : Tx K mg) : ∃ t, mg "MOST_LETTERS" = some (.int 8 t) := by
  obtain ⟨h, X, G, c⟩ := T
  exact He.int_ok X G (c.fact 58 (f := .int "MOST_LETTERS" 8) rfl)
theorem mI_MOST_LOCKS (T : Tx K mg) : ∃ t, mg "MOST_LOCKS" = some (.int 4 t) := by
  obtain ⟨h, X, G, c⟩ := T
  exact He.int_ok X G (c.fact 59 (f := .int "MOST_LOCKS" 4) rfl)
theorem mI_MOST_FRAMES (T : Tx K mg) : ∃ t, mg "MOST_FRAMES" = some (.int 4 t) := by
  obtain ⟨h, X, G, c⟩ := T
  exact He.int_ok X G (c.fact 60 (f := .int "MOST_FRAMES" 4) rfl)
theorem mI_MOST_SEGMENTS (T : Tx K mg) : ∃ t, mg "MOST_SEGMENTS" = some (.int 4 t) := by
  obtain ⟨h, X, G, c⟩ := T
  exact He.int_ok X G (c.fact 61 (f := .int "MOST_SEGMENTS" 4) rfl)
theorem mI_MOST_GAP (T : Tx K mg) : ∃ t, mg "MOST_GAP" = some (.int 240 t) := by
  obtain ⟨h, X, G, c⟩ := T
  exact He.int_ok X G (c.fact 62 (f := .int "MOST_GAP" 240) rfl)
theorem mI_MOST_DUE (T : Tx K mg) : ∃ t, mg "MOST_DUE" = some (.int 480 t) := by
  obtain ⟨h, X, G, c⟩ := T
  exact He.int_ok X G (c.fact 63 (f := .int "MOST_DUE" 480) rfl)
theorem mI_MOST_LENGTH (T : Tx K mg) : ∃ t, mg "MOST_LENGTH" = some (.int 240 t) := by
  obtain ⟨h, X, G, c⟩ := T
  exact He.int_ok X G (c.fact 64 (f := .int "MOST_LENGTH" 240) rfl)
theorem mI_MOST_JITTER (T : Tx K mg) : ∃ t, mg "MOST_JITTER" = some (.int 240 t) := by
  obtain ⟨h, X, G, c⟩ := T
  exact He.int_ok X G (c.fact 65 (f := .int "MOST_JITTER" 240) rfl)
theorem mC_Task (T : Tx K mg) : Cls K (He.ga K "Task") := by
  obtain ⟨h, X, G, c⟩ := T
  exact He.cls_ok (c.fact 66 (f := .cls "Task") rfl)
theorem mK_Task (T : Tx K mg) : Mk K (He.ga K "Task") (He.ma K (He.ga K "Task") "__init__") := by
  obtain ⟨h, X, G, c⟩ := T
  exact He.mkr_ok (c.fact 67 (f := .mkr "Task") rfl)
theorem mM_Task___eq__ (T : Tx K mg) : Meth K (He.ga K "Task") "__eq__" (He.ma K (He.ga K "Task") "__eq__") := by
  obtain ⟨h, X, G, c⟩ := T
  exact He.meth_ok (c.fact 68 (f := .meth "Task" "__eq__") rfl)
theorem mM_Task___len__ (T : Tx K mg) : Meth K (He.ga K "Task") "__len__" (He.ma K (He.ga K "Task") "__len__") := by
  obtain ⟨h, X, G, c⟩ := T
  exact He.meth_ok (c.fact 69 (f := .meth "Task" "__len__") rfl)
theorem mM_Task___str__ (T : Tx K mg) : Meth K (He.ga K "Task") "__str__" (He.ma K (He.ga K "Task") "__str__") := by
  obtain ⟨h, X, G, c⟩ := T
  exact He.meth_ok (c.fact 70 (f := .meth "Task" "__str__") rfl)
theorem mM_Task_most_work (T : Tx K mg) : Meth K (He.ga K "Task") "most_work" (He.ma K (He.ga K "Task") "most_work") := by
  obtain ⟨h, X, G, c⟩ := T
  exact He.meth_ok (c.fact 71 (f := .meth "Task" "most_work") rfl)
theorem mM_Task_least_work (T : Tx K mg) : Meth K (He.ga K "Task") "least_work" (He.ma K (He.ga K "Task") "least_work") := by
  obtain ⟨h, X, G, c⟩ := T
  exact He.meth_ok (c.fact 72 (f := .meth "Task" "least_work") rfl)
theorem mM_Task_share (T : Tx K mg) : Meth K (He.ga K "Task") "share" (He.ma K (He.ga K "Task") "share") := by
  obtain ⟨h, X, G, c⟩ := T
  exact He.meth_ok (c.fact 73 (f := .meth "Task" "share") rfl)
theorem mM_Task_changed (T : Tx K mg) : Meth K (He.ga K "Task") "changed" (He.ma K (He.ga K "Task") "changed") := by
  obtain ⟨h, X, G, c⟩ := T
  exact He.meth_ok (c.fact 74 (f := .meth "Task" "changed") rfl)
theorem mM_Task_renamed (T : Tx K mg) : Meth K (He.ga K "Task") "renamed" (He.ma K (He.ga K "Task") "renamed") := by
  obtain ⟨h, X, G, c⟩ := T
  exact He.meth_ok (c.fact 75 (f := .meth "Task" "renamed") rfl)
theorem mN_Task_name (T : Tx K mg) : NoAttr K (He.ga K "Task") "name" := by
  obtain ⟨h, X, G, c⟩ := T
  exact He.noat_ok (c.fact 76 (f := .noat "Task" "name") rfl)
theorem mN_Task_frames (T : Tx K mg) : NoAttr K (He.ga K "Task") "frames" := by
  obtain ⟨h, X, G, c⟩ := T
  exact He.noat_ok (c.fact 77 (f := .noat "Task" "frames") rfl)
theorem mN_Task_jitter (T : Tx K mg) : NoAttr K (He.ga K "Task") "jitter" := by
  obtain ⟨h, X, G, c⟩ := T
  exact He.noat_ok (c.fact 78 (f := .noat "Task" "jitter") rfl)
theorem mF_u_wall (T : Tx K mg) : ∃ fd, FunD K "_wall" "_wall" (defArgs (top 0)) (defBody (top 0)) (defScope (top 0)) [] [] (He.fAd K ("_wall", none)) fd := by
  obtain ⟨h, X, G, c⟩ := T
  exact c.def_ 0 (d := d_u_wall) rfl
theorem mF_u_is_letter (T : Tx K mg) : ∃ fd, FunD K "_is_letter" "_is_letter" (defArgs (top 8)) (defBody (top 8)) (defScope (top 8)) [] [] (He.fAd K ("_is_letter", none)) fd := by
  obtain ⟨h, X, G, c⟩ := T
  exact c.def_ 1 (d := d_u_is_letter) rfl
theorem mF_u_is_letters (T : Tx K mg) : ∃ fd, FunD K "_is_letters" "_is_letters" (defArgs (top 9)) (defBody (top 9)) (defScope (top 9)) [] [] (He.fAd K ("_is_letters", none)) fd := by
  obtain ⟨h, X, G, c⟩ := T
  exact c.def_ 2 (d := d_u_is_letters) rfl
theorem mF_is_name (T : Tx K mg) : ∃ fd, FunD K "is_name" "is_name" (defArgs (top 10)) (defBody (top 10)) (defScope (top 10)) [] [] (He.fAd K ("is_name", none)) fd := by
  obtain ⟨h, X, G, c⟩ := T
  exact c.def_ 3 (d := d_is_name) rfl
theorem mF_is_hold (T : Tx K mg) : ∃ fd, FunD K "is_hold" "is_hold" (defArgs (top 11)) (defBody (top 11)) (defScope (top 11)) [] [] (He.fAd K ("is_hold", none)) fd := by
  obtain ⟨h, X, G, c⟩ := T
  exact c.def_ 4 (d := d_is_hold) rfl
theorem mF_u_segment_text (T : Tx K mg) : ∃ fd, FunD K "_segment_text" "_segment_text" (defArgs (top 12)) (defBody (top 12)) (defScope (top 12)) [] [] (He.fAd K ("_segment_text", none)) fd := by
  obtain ⟨h, X, G, c⟩ := T
  exact c.def_ 5 (d := d_u_segment_text) rfl
theorem mF_u_frame_text (T : Tx K mg) : ∃ fd, FunD K "_frame_text" "_frame_text" (defArgs (top 13)) (defBody (top 13)) (defScope (top 13)) [] [] (He.fAd K ("_frame_text", none)) fd := by
  obtain ⟨h, X, G, c⟩ := T
  exact c.def_ 6 (d := d_u_frame_text) rfl
theorem mF_task_text (T : Tx K mg) : ∃ fd, FunD K "task_text" "task_text" (defArgs (top 14)) (defBody (top 14)) (defScope (top 14)) [] [] (He.fAd K ("task_text", none)) fd := by
  obtain ⟨h, X, G, c⟩ := T
  exact c.def_ 7 (d := d_task_text) rfl
theorem mF_most_sum (T : Tx K mg) : ∃ fd, FunD K "most_sum" "most_sum" (defArgs (top 16)) (defBody (top 16)) (defScope (top 16)) [] [] (He.fAd K ("most_sum", none)) fd := by
  obtain ⟨h, X, G, c⟩ := T
  exact c.def_ 8 (d := d_most_sum) rfl
theorem mF_least_sum (T : Tx K mg) : ∃ fd, FunD K "least_sum" "least_sum" (defArgs (top 17)) (defBody (top 17)) (defScope (top 17)) [] [] (He.fAd K ("least_sum", none)) fd := by
  obtain ⟨h, X, G, c⟩ := T
  exact c.def_ 9 (d := d_least_sum) rfl
theorem mF_u_copied (T : Tx K mg) : ∃ fd, FunD K "_copied" "_copied" (defArgs (top 26)) (defBody (top 26)) (defScope (top 26)) [] [] (He.fAd K ("_copied", none)) fd := by
  obtain ⟨h, X, G, c⟩ := T
  exact c.def_ 10 (d := d_u_copied) rfl
theorem mF_u_check_frame (T : Tx K mg) : ∃ fd, FunD K "_check_frame" "_check_frame" (defArgs (top 27)) (defBody (top 27)) (defScope (top 27)) [] [] (He.fAd K ("_check_frame", none)) fd := by
  obtain ⟨h, X, G, c⟩ := T
  exact c.def_ 11 (d := d_u_check_frame) rfl
theorem mF_u_check_frames (T : Tx K mg) : ∃ fd, FunD K "_check_frames" "_check_frames" (defArgs (top 28)) (defBody (top 28)) (defScope (top 28)) [] [] (He.fAd K ("_check_frames", none)) fd := by
  obtain ⟨h, X, G, c⟩ := T
  exact c.def_ 12 (d := d_u_check_frames) rfl
theorem mF_u_longer (T : Tx K mg) : ∃ fd, FunD K "_longer" "_longer" (defArgs (top 29)) (defBody (top 29)) (defScope (top 29)) [] [] (He.fAd K ("_longer", none)) fd := by
  obtain ⟨h, X, G, c⟩ := T
  exact c.def_ 13 (d := d_u_longer) rfl
theorem mF_u_changed_frame (T : Tx K mg) : ∃ fd, FunD K "_changed_frame" "_changed_frame" (defArgs (top 30)) (defBody (top 30)) (defScope (top 30)) [] [] (He.fAd K ("_changed_frame", none)) fd := by
  obtain ⟨h, X, G, c⟩ := T
  exact c.def_ 14 (d := d_u_changed_frame) rfl
theorem mF_Task____init__ (T : Tx K mg) : ∃ fd, FunD K "__init__" "Task.__init__" (defArgs (inClass (top 31) 0)) (defBody (inClass (top 31) 0)) (defScope (inClass (top 31) 0)) [] (He.DefD.kws K d_Task____init__) (He.fAd K ("Task", some "__init__")) fd := by
  obtain ⟨h, X, G, c⟩ := T
  exact c.def_ 15 (d := d_Task____init__) rfl
theorem mF_Task____eq__ (T : Tx K mg) : ∃ fd, FunD K "__eq__" "Task.__eq__" (defArgs (inClass (top 31) 2)) (defBody (inClass (top 31) 2)) (defScope (inClass (top 31) 2)) [] [] (He.fAd K ("Task", some "__eq__")) fd := by
  obtain ⟨h, X, G, c⟩ := T
  exact c.def_ 16 (d := d_Task____eq__) rfl
theorem mF_Task____len__ (T : Tx K mg) : ∃ fd, FunD K "__len__" "Task.__len__" (defArgs (inClass (top 31) 3)) (defBody (inClass (top 31) 3)) (defScope (inClass (top 31) 3)) [] [] (He.fAd K ("Task", some "__len__")) fd := by
  obtain ⟨h, X, G, c⟩ := T
  exact c.def_ 17 (d := d_Task____len__) rfl
theorem mF_Task____str__ (T : Tx K mg) : ∃ fd, FunD K "__str__" "Task.__str__" (defArgs (inClass (top 31) 4)) (defBody (inClass (top 31) 4)) (defScope (inClass (top 31) 4)) [] [] (He.fAd K ("Task", some "__str__")) fd := by
  obtain ⟨h, X, G, c⟩ := T
  exact c.def_ 18 (d := d_Task____str__) rfl
theorem mF_Task__most_work (T : Tx K mg) : ∃ fd, FunD K "most_work" "Task.most_work" (defArgs (inClass (top 31) 7)) (defBody (inClass (top 31) 7)) (defScope (inClass (top 31) 7)) [] [] (He.fAd K ("Task", some "most_work")) fd := by
  obtain ⟨h, X, G, c⟩ := T
  exact c.def_ 19 (d := d_Task__most_work) rfl
theorem mF_Task__least_work (T : Tx K mg) : ∃ fd, FunD K "least_work" "Task.least_work" (defArgs (inClass (top 31) 8)) (defBody (inClass (top 31) 8)) (defScope (inClass (top 31) 8)) [] [] (He.fAd K ("Task", some "least_work")) fd := by
  obtain ⟨h, X, G, c⟩ := T
  exact c.def_ 20 (d := d_Task__least_work) rfl
theorem mF_Task__share (T : Tx K mg) : ∃ fd, FunD K "share" "Task.share" (defArgs (inClass (top 31) 9)) (defBody (inClass (top 31) 9)) (defScope (inClass (top 31) 9)) [] [] (He.fAd K ("Task", some "share")) fd := by
  obtain ⟨h, X, G, c⟩ := T
  exact c.def_ 21 (d := d_Task__share) rfl
theorem mF_Task__changed (T : Tx K mg) : ∃ fd, FunD K "changed" "Task.changed" (defArgs (inClass (top 31) 10)) (defBody (inClass (top 31) 10)) (defScope (inClass (top 31) 10)) [] [] (He.fAd K ("Task", some "changed")) fd := by
  obtain ⟨h, X, G, c⟩ := T
  exact c.def_ 22 (d := d_Task__changed) rfl
theorem mF_Task__renamed (T : Tx K mg) : ∃ fd, FunD K "renamed" "Task.renamed" (defArgs (inClass (top 31) 11)) (defBody (inClass (top 31) 11)) (defScope (inClass (top 31) 11)) [] [] (He.fAd K ("Task", some "renamed")) fd := by
  obtain ⟨h, X, G, c⟩ := T
  exact c.def_ 23 (d := d_Task__renamed) rfl
theorem mF_length_fits (T : Tx K mg) : ∃ fd, FunD K "length_fits" "length_fits" (defArgs (top 33)) (defBody (top 33)) (defScope (top 33)) [] [] (He.fAd K ("length_fits", none)) fd := by
  obtain ⟨h, X, G, c⟩ := T
  exact c.def_ 24 (d := d_length_fits) rfl
theorem mF_u_earliest_arrivals (T : Tx K mg) : ∃ fd, FunD K "_earliest_arrivals" "_earliest_arrivals" (defArgs (top 34)) (defBody (top 34)) (defScope (top 34)) [] [] (He.fAd K ("_earliest_arrivals", none)) fd := by
  obtain ⟨h, X, G, c⟩ := T
  exact c.def_ 25 (d := d_u_earliest_arrivals) rfl
theorem mF_explained (T : Tx K mg) : ∃ fd, FunD K "explained" "explained" (defArgs (top 35)) (defBody (top 35)) (defScope (top 35)) [] [] (He.fAd K ("explained", none)) fd := by
  obtain ⟨h, X, G, c⟩ := T
  exact c.def_ 26 (d := d_explained) rfl
theorem mF_break_index (T : Tx K mg) : ∃ fd, FunD K "break_index" "break_index" (defArgs (top 36)) (defBody (top 36)) (defScope (top 36)) [] [] (He.fAd K ("break_index", none)) fd := by
  obtain ⟨h, X, G, c⟩ := T
  exact c.def_ 27 (d := d_break_index) rfl
theorem mF_u_law_cell (T : Tx K mg) : ∃ fd, FunD K "_law_cell" "_law_cell" (defArgs (top 38)) (defBody (top 38)) (defScope (top 38)) [] [] (He.fAd K ("_law_cell", none)) fd := by
  obtain ⟨h, X, G, c⟩ := T
  exact c.def_ 28 (d := d_u_law_cell) rfl
theorem mF_u_law_bag (T : Tx K mg) : ∃ fd, FunD K "_law_bag" "_law_bag" (defArgs (top 39)) (defBody (top 39)) (defScope (top 39)) [] [] (He.fAd K ("_law_bag", none)) fd := by
  obtain ⟨h, X, G, c⟩ := T
  exact c.def_ 29 (d := d_u_law_bag) rfl
theorem mF_u_law_take (T : Tx K mg) : ∃ fd, FunD K "_law_take" "_law_take" (defArgs (top 40)) (defBody (top 40)) (defScope (top 40)) [] [] (He.fAd K ("_law_take", none)) fd := by
  obtain ⟨h, X, G, c⟩ := T
  exact c.def_ 30 (d := d_u_law_take) rfl
theorem mF_u_law_number (T : Tx K mg) : ∃ fd, FunD K "_law_number" "_law_number" (defArgs (top 41)) (defBody (top 41)) (defScope (top 41)) [] [] (He.fAd K ("_law_number", none)) fd := by
  obtain ⟨h, X, G, c⟩ := T
  exact c.def_ 31 (d := d_u_law_number) rfl
theorem mF_u_law_word (T : Tx K mg) : ∃ fd, FunD K "_law_word" "_law_word" (defArgs (top 42)) (defBody (top 42)) (defScope (top 42)) [] [] (He.fAd K ("_law_word", none)) fd := by
  obtain ⟨h, X, G, c⟩ := T
  exact c.def_ 32 (d := d_u_law_word) rfl
theorem mF_u_law_work (T : Tx K mg) : ∃ fd, FunD K "_law_work" "_law_work" (defArgs (top 43)) (defBody (top 43)) (defScope (top 43)) [] [] (He.fAd K ("_law_work", none)) fd := by
  obtain ⟨h, X, G, c⟩ := T
  exact c.def_ 33 (d := d_u_law_work) rfl
theorem mF_u_law_rows (T : Tx K mg) : ∃ fd, FunD K "_law_rows" "_law_rows" (defArgs (top 44)) (defBody (top 44)) (defScope (top 44)) [] [] (He.fAd K ("_law_rows", none)) fd := by
  obtain ⟨h, X, G, c⟩ := T
  exact c.def_ 34 (d := d_u_law_rows) rfl
theorem mF_u_law_low (T : Tx K mg) : ∃ fd, FunD K "_law_low" "_law_low" (defArgs (top 45)) (defBody (top 45)) (defScope (top 45)) [] [] (He.fAd K ("_law_low", none)) fd := by
  obtain ⟨h, X, G, c⟩ := T
  exact c.def_ 35 (d := d_u_law_low) rfl
theorem mF_u_law_high (T : Tx K mg) : ∃ fd, FunD K "_law_high" "_law_high" (defArgs (top 46)) (defBody (top 46)) (defScope (top 46)) [] [] (He.fAd K ("_law_high", none)) fd := by
  obtain ⟨h, X, G, c⟩ := T
  exact c.def_ 36 (d := d_u_law_high) rfl
theorem mF_u_law_good (T : Tx K mg) : ∃ fd, FunD K "_law_good" "_law_good" (defArgs (top 47)) (defBody (top 47)) (defScope (top 47)) [] [] (He.fAd K ("_law_good", none)) fd := by
  obtain ⟨h, X, G, c⟩ := T
  exact c.def_ 37 (d := d_u_law_good) rfl
theorem mF_u_law_bent (T : Tx K mg) : ∃ fd, FunD K "_law_bent" "_law_bent" (defArgs (top 48)) (defBody (top 48)) (defScope (top 48)) [] [] (He.fAd K ("_law_bent", none)) fd := by
  obtain ⟨h, X, G, c⟩ := T
  exact c.def_ 38 (d := d_u_law_bent) rfl
theorem mF_u_law_kept (T : Tx K mg) : ∃ fd, FunD K "_law_kept" "_law_kept" (defArgs (top 49)) (defBody (top 49)) (defScope (top 49)) [] [] (He.fAd K ("_law_kept", none)) fd := by
  obtain ⟨h, X, G, c⟩ := T
  exact c.def_ 39 (d := d_u_law_kept) rfl
theorem mF_u_law_due (T : Tx K mg) : ∃ fd, FunD K "_law_due" "_law_due" (defArgs (top 50)) (defBody (top 50)) (defScope (top 50)) [] [] (He.fAd K ("_law_due", none)) fd := by
  obtain ⟨h, X, G, c⟩ := T
  exact c.def_ 40 (d := d_u_law_due) rfl
theorem mF_u_law_right (T : Tx K mg) : ∃ fd, FunD K "_law_right" "_law_right" (defArgs (top 51)) (defBody (top 51)) (defScope (top 51)) [] [] (He.fAd K ("_law_right", none)) fd := by
  obtain ⟨h, X, G, c⟩ := T
  exact c.def_ 41 (d := d_u_law_right) rfl
theorem mF_u_law_around (T : Tx K mg) : ∃ fd, FunD K "_law_around" "_law_around" (defArgs (top 52)) (defBody (top 52)) (defScope (top 52)) [] [] (He.fAd K ("_law_around", none)) fd := by
  obtain ⟨h, X, G, c⟩ := T
  exact c.def_ 42 (d := d_u_law_around) rfl
theorem mF_law (T : Tx K mg) : ∃ fd, FunD K "law" "law" (defArgs (top 53)) (defBody (top 53)) (defScope (top 53)) [] [] (He.fAd K ("law", none)) fd := by
  obtain ⟨h, X, G, c⟩ := T
  exact c.def_ 43 (d := d_law) rfl
end
set_option maxHeartbeats 0 in
theorem run (w : World) : HandSHeadRun.RunEq R (PySem.W.view R.prog [53]) hk ob 3000 names w := by
  intro os
  kernel_rfl
def N_u_law_cell : List PySem.Str := ((["script", "spot"] : List PySem.Str))
def r_u_law_cell : DS := (dSeq (dIfS (dB (dOp oLt (dVar 1) (dCB oLen (dCons (dVar 0) dNil)))) (dRet (dCB oAbs (dCons (dOp oIx (dVar 0) (dVar 1)) dNil))) dNext) (dRet (dOp oAdd (dOp oMul (dC (.int 7919)) (dOp oAdd (dVar 1) (dC (.int 1)))) (dOp oMod (dCB oAbs (dCons (dCB oSum (dCons (dSl (dVar 0) dNoPart (dPart (dC (.int 1)))) dNil)) dNil)) (dC (.int 1000003))))))
theorem sc_u_law_cell : FnScope N_u_law_cell ((["script", "spot"] : List PySem.Str)) (defScope (top 38)) := ⟨rfl, rfl, rfl, by decide +kernel, rfl, by decide +kernel, by decide +kernel⟩
set_option maxHeartbeats 0 in
theorem ok_u_law_cell {P : Program} {w : World} {K : PySem.W.Frag} {mg : PySem.Str → Option Value} {base : Heap} (T : Tx K mg) {sp : SpD} (len : ∀ ds l Q E, sp ds l Q E → ds.length = 2)
    (sat : ∀ ds l Q E, sp ds l Q E → r_u_law_cell (fun _ l => Wr Q .non l) (Wr Q) noN noN (startD N_u_law_cell ds) l) : Good P w K mg base 1 (He.ga K "_law_cell") ((["script", "spot"] : List PySem.Str)) sp := by
  obtain ⟨fd, F⟩ := mF_u_law_cell T
  refine ⟨fd, zfn F sc_u_law_cell sp _ len (fun cdv A outer s H E Γ hr => ?_) sat, F.kp, FunD.bindsN F fun _ _ _ _ _ _ us hl => match us, hl with | [_, _], _ => rfl⟩
  have nd := (sc_u_law_cell).nd
  exact (qs_cons (qs_if (t_cmp op_ltV l_lt (qv 1) (q_callB call_len l_len bt_len (by rfl) (m_len T) (qa_cons (qv 0) qa_nil)) (nomark _)) (qs_one (qs_ret (q_callB call_abs l_abs bt_abs (by rfl) (m_abs T) (qa_cons (q_ix (qv 0) (qv 1)) qa_nil)))) qs_nil) (qs_one (qs_ret (q_op op_addV l_add (q_op op_mulV l_mul q_int (q_op op_addV l_add (qv 1) q_int)) (q_op op_mod l_mod (q_callB call_abs l_abs bt_abs (by rfl) (m_abs T) (qa_cons (q_callB (cr_sum rfl) l_sum bt_sum (by rfl) (m_sum T) (qa_cons (q_sl (qv 0) qo_none (qo_some q_int)) qa_nil)) qa_nil)) q_int)))))
def N_u_law_bag : List PySem.Str := ((["script", "spot", "cell", "rest"] : List PySem.Str))
def r_u_law_bag (s_u_law_cell : SpD) : DS := (dSeq (dAsg (dOp oMod (dCB oIntC (dCons (dCall s_u_law_cell (dCons (dVar 0) (dCons (dVar 1) dNil))) dNil)) (dOp oPow (dC (.int 10)) (dC (.int 64)))) 2) (dSeq (dAsg (dC (.int 0)) 3) (dSeq (dIfS (dB (dOp oGe (dVar 2) (dOp oPow (dC (.int 10)) (dC (.int 18))))) (dAsg (dVar 2) 3) dNext) (dRet (dLst (dCons (dVar 3) (dCons (dOp oMod (dCB oIntC (dCons (dOp oAdd (dOp oAdd (dOp oMul (dVar 2) (dC (.int 48271))) (dOp oMul (dVar 1) (dC (.int 69621)))) (dC (.int 1))) dNil)) (dC (.int 2147483647))) (dCons (dVar 1) dNil))))))))
theorem sc_u_law_bag : FnScope N_u_law_bag ((["script", "spot"] : List PySem.Str)) (defScope (top 39)) := ⟨rfl, rfl, rfl, by decide +kernel, rfl, by decide +kernel, by decide +kernel⟩
set_option maxHeartbeats 0 in
theorem ok_u_law_bag {P : Program} {w : World} {K : PySem.W.Frag} {mg : PySem.Str → Option Value} {base : Heap} (T : Tx K mg) {s_u_law_cell : SpD} (g_u_law_cell : Good P w K mg base 1 (He.ga K "_law_cell") ((["script", "spot"] : List PySem.Str)) s_u_law_cell) {sp : SpD} (len : ∀ ds l Q E, sp ds l Q E → ds.length = 2)
    (sat : ∀ ds l Q E, sp ds l Q E → r_u_law_bag s_u_law_cell (fun _ l => Wr Q .non l) (Wr Q) noN noN (startD N_u_law_bag ds) l) : Good P w K mg base 2 (He.ga K "_law_bag") ((["script", "spot"] : List PySem.Str)) sp := by
  obtain ⟨fd, F⟩ := mF_u_law_bag T
  obtain ⟨fd_u_law_cell, ok_u_law_cell, kp_u_law_cell, bi_u_law_cell⟩ := g_u_law_cell
  refine ⟨fd, zfn F sc_u_law_bag sp _ len (fun cdv A outer s H E Γ hr => ?_) sat, F.kp, FunD.bindsN F fun _ _ _ _ _ _ us hl => match us, hl with | [_, _], _ => rfl⟩
  have nd := (sc_u_law_bag).nd
  exact (qs_cons (qs_set (i := 2) nd (by rfl) (by first | exact .inl rfl | exact .inr rfl) (q_op op_mod l_mod (q_callTy call_int1 l_intC bt_int (by rfl) (m_int T) (qa_cons (q_call ok_u_law_cell (hr.mono (by decide)) (by rfl) (mG__law_cell T) kp_u_law_cell bi_u_law_cell (qa_cons (qv 0) (qa_cons (qv 1) qa_nil))) qa_nil)) (q_op op_pow l_pow q_int q_int))) (qs_cons (qs_set (i := 3) nd (by rfl) (by first | exact .inl rfl | exact .inr rfl) q_int) (qs_cons (qs_if (t_cmp op_ge l_ge (qv 2) (q_op op_pow l_pow q_int q_int) (nomark _)) (qs_one (qs_set (i := 3) nd (by rfl) (by first | exact .inl rfl | exact .inr rfl) (qv 2))) qs_nil) (qs_one (qs_ret (q_lst (qa_cons (qv 3) (qa_cons (q_op op_mod l_mod (q_callTy call_int1 l_intC bt_int (by rfl) (m_int T) (qa_cons (q_op op_addV l_add (q_op op_addV l_add (q_op op_mulV l_mul (qv 2) q_int) (q_op op_mulV l_mul (qv 1) q_int)) q_int) qa_nil)) q_int) (qa_cons (qv 1) qa_nil)))))))))
def N_u_law_take : List PySem.Str := ((["bag", "many", "digit"] : List PySem.Str))
def r_u_law_take : DS := (dSeq (dIfS (dB (dOp oGt (dOp oIx (dVar 0) (dC (.int 0))) (dC (.int 0)))) (dSeq (dAsg (dOp oMod (dCB oIntC (dCons (dOp oIx (dVar 0) (dC (.int 0))) dNil)) (dVar 1)) 2) (dSeq (dSetSub (dOp oDiv (dOp oIx (dVar 0) (dC (.int 0))) (dVar 1)) (dVar 0) (dC (.int 0))) (dRet (dVar 2)))) dNext) (dSeq (dSetSub (dOp oMod (dCB oIntC (dCons (dOp oAdd (dOp oAdd (dOp oMul (dOp oIx (dVar 0) (dC (.int 1))) (dC (.int 48271))) (dOp oMul (dOp oIx (dVar 0) (dC (.int 2))) (dOp oIx (dVar 0) (dC (.int 2))))) (dC (.int 11))) dNil)) (dC (.int 2147483647))) (dVar 0) (dC (.int 1))) (dSeq (dSetSub (dOp oAdd (dOp oIx (dVar 0) (dC (.int 2))) (dC (.int 1))) (dVar 0) (dC (.int 2))) (dRet (dOp oMod (dOp oDiv (dOp oMod (dCB oIntC (dCons (dOp oAdd (dOp oMul (dOp oIx (dVar 0) (dC (.int 1))) (dC (.int 69621))) (dOp oIx (dVar 0) (dC (.int 2)))) dNil)) (dC (.int 2147483629))) (dC (.int 97))) (dVar 1))))))
theorem sc_u_law_take : FnScope N_u_law_take ((["bag", "many"] : List PySem.Str)) (defScope (top 40)) := ⟨rfl, rfl, rfl, by decide +kernel, rfl, by decide +kernel, by decide +kernel⟩
set_option maxHeartbeats 0 in
theorem ok_u_law_take {P : Program} {w : World} {K : PySem.W.Frag} {mg : PySem.Str → Option Value} {base : Heap} (T : Tx K mg) {sp : SpD} (len : ∀ ds l Q E, sp ds l Q E → ds.length = 2)
    (sat : ∀ ds l Q E, sp ds l Q E → r_u_law_take (fun _ l => Wr Q .non l) (Wr Q) noN noN (startD N_u_law_take ds) l) : Good P w K mg base 1 (He.ga K "_law_take") ((["bag", "many"] : List PySem.Str)) sp := by
  obtain ⟨fd, F⟩ := mF_u_law_take T
  refine ⟨fd, zfn F sc_u_law_take sp _ len (fun cdv A outer s H E Γ hr => ?_) sat, F.kp, FunD.bindsN F fun _ _ _ _ _ _ us hl => match us, hl with | [_, _], _ => rfl⟩
  have nd := (sc_u_law_take).nd
  exact (qs_cons (qs_if (t_cmp op_gt l_gt (q_ix (qv 0) q_int) q_int (nomark _)) (qs_cons (qs_set (i := 2) nd (by rfl) (by first | exact .inl rfl | exact .inr rfl) (q_op op_mod l_mod (q_callTy call_int1 l_intC bt_int (by rfl) (m_int T) (qa_cons (q_ix (qv 0) q_int) qa_nil)) (qv 1))) (qs_cons (qs_setSub (q_op op_divV l_div (q_ix (qv 0) q_int) (qv 1)) (qv 0) q_int) (qs_one (qs_ret (qv 2))))) qs_nil) (qs_cons (qs_setSub (q_op op_mod l_mod (q_callTy call_int1 l_intC bt_int (by rfl) (m_int T) (qa_cons (q_op op_addV l_add (q_op op_addV l_add (q_op op_mulV l_mul (q_ix (qv 0) q_int) q_int) (q_op op_mulV l_mul (q_ix (qv 0) q_int) (q_ix (qv 0) q_int))) q_int) qa_nil)) q_int) (qv 0) q_int) (qs_cons (qs_setSub (q_op op_addV l_add (q_ix (qv 0) q_int) q_int) (qv 0) q_int) (qs_one (qs_ret (q_op op_mod l_mod (q_op op_divV l_div (q_op op_mod l_mod (q_callTy call_int1 l_intC bt_int (by rfl) (m_int T) (qa_cons (q_op op_addV l_add (q_op op_mulV l_mul (q_ix (qv 0) q_int) q_int) (q_ix (qv 0) q_int)) qa_nil)) q_int) q_int) (qv 1)))))))
def N_u_law_work : List PySem.Str := ((["bag", "large", "marks", "work", "m", "low", "more"] : List PySem.Str))
def r_u_law_work (s_u_law_take : SpD) : DS := (dSeq (dAsg (dLst (dCons (dC (.str "")) (dCons (dC (.str "")) (dCons (dC (.str "m")) (dCons (dC (.str "*")) (dCons (dC (.str "ck")) (dCons (dC (.str "abcd")) dNil))))))) 2) (dSeq (dAsg (dLst dNil) 3) (dSeq (dFor (diR1 (dCons (dOp oAdd (dC (.int 1)) (dCall s_u_law_take (dCons (dVar 0) (dCons (dC (.int 3)) dNil)))) dNil)) (.nm 4) (dSeq (dAsg (dOp oAdd (dC (.int 1)) (dCall s_u_law_take (dCons (dVar 0) (dCons (dIf (dB (dVar 1)) (dC (.int 240)) (dC (.int 2))) dNil)))) 5) (dSeq (dAsg (dCall s_u_law_take (dCons (dVar 0) (dCons (dIf (dB (dVar 1)) (dOp oSub (dC (.int 241)) (dVar 5)) (dC (.int 3))) dNil))) 6) (dDrop (dApp (dVar 3) (dTup (dCons (dVar 5) (dCons (dOp oAdd (dVar 5) (dVar 6)) (dCons (dOp oIx (dVar 2) (dCall s_u_law_take (dCons (dVar 0) (dCons (dC (.int 6)) dNil)))) dNil))))))))) (dRet (dCB oTupC (dCons (dVar 3) dNil))))))
theorem sc_u_law_work : FnScope N_u_law_work ((["bag", "large"] : List PySem.Str)) (defScope (top 43)) := ⟨rfl, rfl, rfl, by decide +kernel, rfl, by decide +kernel, by decide +kernel⟩
set_option maxHeartbeats 0 in
theorem ok_u_law_work {P : Program} {w : World} {K : PySem.W.Frag} {mg : PySem.Str → Option Value} {base : Heap} (T : Tx K mg) {s_u_law_take : SpD} (g_u_law_take : Good P w K mg base 1 (He.ga K "_law_take") ((["bag", "many"] : List PySem.Str)) s_u_law_take) {sp : SpD} (len : ∀ ds l Q E, sp ds l Q E → ds.length = 2)
    (sat : ∀ ds l Q E, sp ds l Q E → r_u_law_work s_u_law_take (fun _ l => Wr Q .non l) (Wr Q) noN noN (startD N_u_law_work ds) l) : Good P w K mg base 2 (He.ga K "_law_work") ((["bag", "large"] : List PySem.Str)) sp := by
  obtain ⟨fd, F⟩ := mF_u_law_work T
  obtain ⟨fd_u_law_take, ok_u_law_take, kp_u_law_take, bi_u_law_take⟩ := g_u_law_take
  refine ⟨fd, zfn F sc_u_law_work sp _ len (fun cdv A outer s H E Γ hr => ?_) sat, F.kp, FunD.bindsN F fun _ _ _ _ _ _ us hl => match us, hl with | [_, _], _ => rfl⟩
  have nd := (sc_u_law_work).nd
  exact (qs_cons (qs_set (i := 2) nd (by rfl) (by first | exact .inl rfl | exact .inr rfl) (q_lst (qa_cons q_str (qa_cons q_str (qa_cons q_str (qa_cons q_str (qa_cons q_str (qa_cons q_str qa_nil)))))))) (qs_cons (qs_set (i := 3) nd (by rfl) (by first | exact .inl rfl | exact .inr rfl) (q_lst qa_nil)) (qs_cons (qs_for PassesOwn.never (by rfl) (qi_r1 (by rfl) (m_range T) (fun Γ => (qa_cons (q_op op_addV l_add q_int (q_call ok_u_law_take (hr.mono (by decide)) (by rfl) (mG__law_take T) kp_u_law_take bi_u_law_take (qa_cons (qv 0) (qa_cons q_int qa_nil)))) qa_nil))) (qg_nm (i := 4) nd (by rfl) (by first | exact .inl rfl | exact .inr rfl)) (qs_cons (qs_set (i := 5) nd (by rfl) (by first | exact .inl rfl | exact .inr rfl) (q_op op_addV l_add q_int (q_call ok_u_law_take (hr.mono (by decide)) (by rfl) (mG__law_take T) kp_u_law_take bi_u_law_take (qa_cons (qv 0) (qa_cons (q_if (t_val (qv 1)) q_int q_int) qa_nil))))) (qs_cons (qs_set (i := 6) nd (by rfl) (by first | exact .inl rfl | exact .inr rfl) (q_call ok_u_law_take (hr.mono (by decide)) (by rfl) (mG__law_take T) kp_u_law_take bi_u_law_take (qa_cons (qv 0) (qa_cons (q_if (t_val (qv 1)) (q_op op_sub l_sub q_int (qv 5)) q_int) qa_nil)))) (qs_one (qs_expr (q_app (qv 3) (q_tup (qa_cons (qv 5) (qa_cons (q_op op_addV l_add (qv 5) (qv 6)) (qa_cons (q_ix (qv 2) (q_call ok_u_law_take (hr.mono (by decide)) (by rfl) (mG__law_take T) kp_u_law_take bi_u_law_take (qa_cons (qv 0) (qa_cons q_int qa_nil)))) qa_nil)))))))))) (qs_one (qs_ret (q_callTy call_tuple_of l_tupC bt_tuple (by rfl) (m_tuple T) (qa_cons (qv 3) qa_nil)))))))
def N_u_law_rows : List PySem.Str := ((["script", "size", "end", "large", "rows", "f", "bag", "gap"] : List PySem.Str))
def r_u_law_rows (s_u_law_bag s_u_law_take s_u_law_work : SpD) : DS := (dSeq (dAsg (dLst dNil) 4) (dSeq (dFor (diR1 (dCons (dVar 1) dNil)) (.nm 5) (dSeq (dAsg (dCall s_u_law_bag (dCons (dVar 0) (dCons (dOp oAdd (dC (.int 1)) (dVar 5)) dNil))) 6) (dSeq (dAsg (dOp oAdd (dC (.int 1)) (dCall s_u_law_take (dCons (dVar 6) (dCons (dIf (dB (dVar 3)) (dC (.int 240)) (dC (.int 5))) dNil)))) 7) (dDrop (dApp (dVar 4) (dTup (dCons (dVar 7) (dCons (dVar 2) (dCons (dCall s_u_law_work (dCons (dVar 6) (dCons (dVar 3) dNil))) dNil))))))))) (dRet (dVar 4))))
theorem sc_u_law_rows : FnScope N_u_law_rows ((["script", "size", "end", "large"] : List PySem.Str)) (defScope (top 44)) := ⟨rfl, rfl, rfl, by decide +kernel, rfl, by decide +kernel, by decide +kernel⟩
set_option maxHeartbeats 0 in
theorem ok_u_law_rows {P : Program} {w : World} {K : PySem.W.Frag} {mg : PySem.Str → Option Value} {base : Heap} (T : Tx K mg) {s_u_law_bag : SpD} (g_u_law_bag : Good P w K mg base 2 (He.ga K "_law_bag") ((["script", "spot"] : List PySem.Str)) s_u_law_bag) {s_u_law_take : SpD} (g_u_law_take : Good P w K mg base 1 (He.ga K "_law_take") ((["bag", "many"] : List PySem.Str)) s_u_law_take) {s_u_law_work : SpD} (g_u_law_work : Good P w K mg base 2 (He.ga K "_law_work") ((["bag", "large"] : List PySem.Str)) s_u_law_work) {sp : SpD} (len : ∀ ds l Q E, sp ds l Q E → ds.length = 4)
    (sat : ∀ ds l Q E, sp ds l Q E → r_u_law_rows s_u_law_bag s_u_law_take s_u_law_work (fun _ l => Wr Q .non l) (Wr Q) noN noN (startD N_u_law_rows ds) l) : Good P w K mg base 3 (He.ga K "_law_rows") ((["script", "size", "end", "large"] : List PySem.Str)) sp := by
  obtain ⟨fd, F⟩ := mF_u_law_rows T
  obtain ⟨fd_u_law_bag, ok_u_law_bag, kp_u_law_bag, bi_u_law_bag⟩ := g_u_law_bag
  obtain ⟨fd_u_law_take, ok_u_law_take, kp_u_law_take, bi_u_law_take⟩ := g_u_law_take
  obtain ⟨fd_u_law_work, ok_u_law_work, kp_u_law_work, bi_u_law_work⟩ := g_u_law_work
  refine ⟨fd, zfn F sc_u_law_rows sp _ len (fun cdv A outer s H E Γ hr => ?_) sat, F.kp, FunD.bindsN F fun _ _ _ _ _ _ us hl => match us, hl with | [_, _, _, _], _ => rfl⟩
  have nd := (sc_u_law_rows).nd
  exact (qs_cons (qs_set (i := 4) nd (by rfl) (by first | exact .inl rfl | exact .inr rfl) (q_lst qa_nil)) (qs_cons (qs_for PassesOwn.never (by rfl) (qi_r1 (by rfl) (m_range T) (fun Γ => (qa_cons (qv 1) qa_nil))) (qg_nm (i := 5) nd (by rfl) (by first | exact .inl rfl | exact .inr rfl)) (qs_cons (qs_set (i := 6) nd (by rfl) (by first | exact .inl rfl | exact .inr rfl) (q_call ok_u_law_bag (hr.mono (by decide)) (by rfl) (mG__law_bag T) kp_u_law_bag bi_u_law_bag (qa_cons (qv 0) (qa_cons (q_op op_addV l_add q_int (qv 5)) qa_nil)))) (qs_cons (qs_set (i := 7) nd (by rfl) (by first | exact .inl rfl | exact .inr rfl) (q_op op_addV l_add q_int (q_call ok_u_law_take (hr.mono (by decide)) (by rfl) (mG__law_take T) kp_u_law_take bi_u_law_take (qa_cons (qv 6) (qa_cons (q_if (t_val (qv 3)) q_int q_int) qa_nil))))) (qs_one (qs_expr (q_app (qv 4) (q_tup (qa_cons (qv 7) (qa_cons (qv 2) (qa_cons (q_call ok_u_law_work (hr.mono (by decide)) (by rfl) (mG__law_work T) kp_u_law_work bi_u_law_work (qa_cons (qv 6) (qa_cons (qv 3) qa_nil))) qa_nil)))))))))) (qs_one (qs_ret (qv 4)))))
def N_u_law_low : List PySem.Str := ((["row", "part"] : List PySem.Str))
def r_u_law_low : DS := (dRet (dCB oSum (dCons (dLc (diAny (dOp oIx (dVar 0) (dC (.int 2)))) (.nm 1) dYes (dOp oIx (dVar 1) (dC (.int 0))) [1]) dNil)))
theorem sc_u_law_low : FnScope N_u_law_low ((["row"] : List PySem.Str)) (defScope (top 45)) := ⟨rfl, rfl, rfl, by decide +kernel, rfl, by decide +kernel, by decide +kernel⟩
set_option maxHeartbeats 0 in
theorem ok_u_law_low {P : Program} {w : World} {K : PySem.W.Frag} {mg : PySem.Str → Option Value} {base : Heap} (T : Tx K mg) {sp : SpD} (len : ∀ ds l Q E, sp ds l Q E → ds.length = 1)
    (sat : ∀ ds l Q E, sp ds l Q E → r_u_law_low (fun _ l => Wr Q .non l) (Wr Q) noN noN (startD N_u_law_low ds) l) : Good P w K mg base 1 (He.ga K "_law_low") ((["row"] : List PySem.Str)) sp := by
  obtain ⟨fd, F⟩ := mF_u_law_low T
  refine ⟨fd, zfn F sc_u_law_low sp _ len (fun cdv A outer s H E Γ hr => ?_) sat, F.kp, FunD.bindsN F fun _ _ _ _ _ _ us hl => match us, hl with | [_], _ => rfl⟩
  have nd := (sc_u_law_low).nd
  exact (qs_one (qs_ret (q_callB (cr_sum rfl) l_sum bt_sum (by rfl) (m_sum T) (qa_cons (q_lc [("part", 1)] (by rfl) nd (qi_any (fun Γ => (q_ix (qv 0) q_int))) (blkOk_by (by kernel_rfl)) (fun _ _ _ _ _ => (qg_nm (i := 1) nd (by rfl) (by first | exact .inl rfl | exact .inr rfl))) (fun _ _ _ _ _ => qts_nil) (fun _ _ _ _ _ Γ => (q_ix (qv 1) q_int))) qa_nil))))
def N_u_law_high : List PySem.Str := ((["row", "part"] : List PySem.Str))
def r_u_law_high : DS := (dRet (dCB oSum (dCons (dLc (diAny (dOp oIx (dVar 0) (dC (.int 2)))) (.nm 1) dYes (dOp oIx (dVar 1) (dC (.int 1))) [1]) dNil)))
theorem sc_u_law_high : FnScope N_u_law_high ((["row"] : List PySem.Str)) (defScope (top 46)) := ⟨rfl, rfl, rfl, by decide +kernel, rfl, by decide +kernel, by decide +kernel⟩
set_option maxHeartbeats 0 in
theorem ok_u_law_high {P : Program} {w : World} {K : PySem.W.Frag} {mg : PySem.Str → Option Value} {base : Heap} (T : Tx K mg) {sp : SpD} (len : ∀ ds l Q E, sp ds l Q E → ds.length = 1)
    (sat : ∀ ds l Q E, sp ds l Q E → r_u_law_high (fun _ l => Wr Q .non l) (Wr Q) noN noN (startD N_u_law_high ds) l) : Good P w K mg base 1 (He.ga K "_law_high") ((["row"] : List PySem.Str)) sp := by
  obtain ⟨fd, F⟩ := mF_u_law_high T
  refine ⟨fd, zfn F sc_u_law_high sp _ len (fun cdv A outer s H E Γ hr => ?_) sat, F.kp, FunD.bindsN F fun _ _ _ _ _ _ us hl => match us, hl with | [_], _ => rfl⟩
  have nd := (sc_u_law_high).nd
  exact (qs_one (qs_ret (q_callB (cr_sum rfl) l_sum bt_sum (by rfl) (m_sum T) (qa_cons (q_lc [("part", 1)] (by rfl) nd (qi_any (fun Γ => (q_ix (qv 0) q_int))) (blkOk_by (by kernel_rfl)) (fun _ _ _ _ _ => (qg_nm (i := 1) nd (by rfl) (by first | exact .inl rfl | exact .inr rfl))) (fun _ _ _ _ _ => qts_nil) (fun _ _ _ _ _ Γ => (q_ix (qv 1) q_int))) qa_nil))))
def N_u_law_good : List PySem.Str := ((["script", "rows", "early", "bag", "arrival", "first", "size", "release", "log", "k", "own", "here", "late", "way"] : List PySem.Str))
def r_u_law_good (s_u_law_bag s_u_law_take s_u_law_low s_u_law_high : SpD) : DS := (dSeq (dAsg (dCall s_u_law_bag (dCons (dVar 0) (dCons (dC (.int 5)) dNil))) 3) (dSeq (dAsg (dOp oSub (dCall s_u_law_take (dCons (dVar 3) (dCons (dC (.int 240)) dNil))) (dC (.int 100))) 4) (dSeq (dAsg (dCall s_u_law_take (dCons (dVar 3) (dCons (dCB oLen (dCons (dVar 1) dNil)) dNil))) 5) (dSeq (dAsg (dCall s_u_law_take (dCons (dVar 3) (dCons (dC (.int 8)) dNil))) 6) (dSeq (dIfS (dB (dOp oEq (dCall s_u_law_take (dCons (dVar 3) (dCons (dC (.int 8)) dNil))) (dC (.int 7)))) (dAsg (dOp oAdd (dC (.int 8)) (dCall s_u_law_take (dCons (dVar 3) (dCons (dC (.int 50)) dNil)))) 6) dNext) (dSeq (dAsg (dVar 4) 7) (dSeq (dAsg (dLst dNil) 8) (dSeq (dFor (diR1 (dCons (dVar 6) dNil)) (.nm 9) (dSeq (dAsg (dCall s_u_law_bag (dCons (dVar 0) (dCons (dOp oAdd (dC (.int 6)) (dVar 9)) dNil))) 10) (dSeq (dAsg (dOp oIx (dVar 1) (dOp oMod (dCB oIntC (dCons (dOp oAdd (dVar 5) (dVar 9)) dNil)) (dCB oLen (dCons (dVar 1) dNil)))) 11) (dSeq (dAsg (dCall s_u_law_take (dCons (dVar 10) (dCons (dOp oAdd (dVar 2) (dC (.int 1))) dNil))) 12) (dSeq (dAsg (dCall s_u_law_take (dCons (dVar 10) (dCons (dC (.int 4)) dNil))) 13) (dSeq (dIfS (dB (dOp oLt (dVar 13) (dC (.int 2)))) (dAsg (dOp oMul (dVar 2) (dVar 13)) 12) dNext) (dSeq (dAsg (dCB oMax (dCons (dVar 7) (dCons (dOp oAdd (dVar 4) (dVar 12)) dNil))) 7) (dSeq (dDrop (dApp (dVar 8) (dTup (dCons (dVar 7) (dCons (dOp oAdd (dCall s_u_law_low (dCons (dVar 11) dNil)) (dCall s_u_law_take (dCons (dVar 10) (dCons (dOp oAdd (dOp oSub (dCall s_u_law_high (dCons (dVar 11) dNil)) (dCall s_u_law_low (dCons (dVar 11) dNil))) (dC (.int 1))) dNil)))) dNil))))) (dAsg (dOp oAdd (dOp oAdd (dVar 4) (dOp oIx (dVar 11) (dC (.int 0)))) (dCB oMax (dCons (dC (.int 0)) (dCons (dOp oSub (dCall s_u_law_take (dCons (dVar 10) (dCons (dC (.int 8)) dNil))) (dC (.int 5))) dNil)))) 4))))))))) (dRet (dVar 8))))))))))
theorem sc_u_law_good : FnScope N_u_law_good ((["script", "rows", "early"] : List PySem.Str)) (defScope (top 47)) := ⟨rfl, rfl, rfl, by decide +kernel, rfl, by decide +kernel, by decide +kernel⟩
set_option maxHeartbeats 0 in
theorem ok_u_law_good {P : Program} {w : World} {K : PySem.W.Frag} {mg : PySem.Str → Option Value} {base : Heap} (T : Tx K mg) {s_u_law_bag : SpD} (g_u_law_bag : Good P w K mg base 2 (He.ga K "_law_bag") ((["script", "spot"] : List PySem.Str)) s_u_law_bag) {s_u_law_take : SpD} (g_u_law_take : Good P w K mg base 1 (He.ga K "_law_take") ((["bag", "many"] : List PySem.Str)) s_u_law_take) {s_u_law_low : SpD} (g_u_law_low : Good P w K mg base 1 (He.ga K "_law_low") ((["row"] : List PySem.Str)) s_u_law_low) {s_u_law_high : SpD} (g_u_law_high : Good P w K mg base 1 (He.ga K "_law_high") ((["row"] : List PySem.Str)) s_u_law_high) {sp : SpD} (len : ∀ ds l Q E, sp ds l Q E → ds.length = 3)
    (sat : ∀ ds l Q E, sp ds l Q E → r_u_law_good s_u_law_bag s_u_law_take s_u_law_low s_u_law_high (fun _ l => Wr Q .non l) (Wr Q) noN noN (startD N_u_law_good ds) l) : Good P w K mg base 3 (He.ga K "_law_good") ((["script", "rows", "early"] : List PySem.Str)) sp := by
  obtain ⟨fd, F⟩ := mF_u_law_good T
  obtain ⟨fd_u_law_bag, ok_u_law_bag, kp_u_law_bag, bi_u_law_bag⟩ := g_u_law_bag
  obtain ⟨fd_u_law_take, ok_u_law_take, kp_u_law_take, bi_u_law_take⟩ := g_u_law_take
  obtain ⟨fd_u_law_low, ok_u_law_low, kp_u_law_low, bi_u_law_low⟩ := g_u_law_low
  obtain ⟨fd_u_law_high, ok_u_law_high, kp_u_law_high, bi_u_law_high⟩ := g_u_law_high
  refine ⟨fd, zfn F sc_u_law_good sp _ len (fun cdv A outer s H E Γ hr => ?_) sat, F.kp, FunD.bindsN F fun _ _ _ _ _ _ us hl => match us, hl with | [_, _, _], _ => rfl⟩
  have nd := (sc_u_law_good).nd
  exact (qs_cons (qs_set (i := 3) nd (by rfl) (by first | exact .inl rfl | exact .inr rfl) (q_call ok_u_law_bag (hr.mono (by decide)) (by rfl) (mG__law_bag T) kp_u_law_bag bi_u_law_bag (qa_cons (qv 0) (qa_cons q_int qa_nil)))) (qs_cons (qs_set (i := 4) nd (by rfl) (by first | exact .inl rfl | exact .inr rfl) (q_op op_sub l_sub (q_call ok_u_law_take (hr.mono (by decide)) (by rfl) (mG__law_take T) kp_u_law_take bi_u_law_take (qa_cons (qv 3) (qa_cons q_int qa_nil))) q_int)) (qs_cons (qs_set (i := 5) nd (by rfl) (by first | exact .inl rfl | exact .inr rfl) (q_call ok_u_law_take (hr.mono (by decide)) (by rfl) (mG__law_take T) kp_u_law_take bi_u_law_take (qa_cons (qv 3) (qa_cons (q_callB call_len l_len bt_len (by rfl) (m_len T) (qa_cons (qv 1) qa_nil)) qa_nil)))) (qs_cons (qs_set (i := 6) nd (by rfl) (by first | exact .inl rfl | exact .inr rfl) (q_call ok_u_law_take (hr.mono (by decide)) (by rfl) (mG__law_take T) kp_u_law_take bi_u_law_take (qa_cons (qv 3) (qa_cons q_int qa_nil)))) (qs_cons (qs_if (t_cmp (op_eqV hr.units) l_eq (q_call ok_u_law_take (hr.mono (by decide)) (by rfl) (mG__law_take T) kp_u_law_take bi_u_law_take (qa_cons (qv 3) (qa_cons q_int qa_nil))) q_int (nomark _)) (qs_one (qs_set (i := 6) nd (by rfl) (by first | exact .inl rfl | exact .inr rfl) (q_op op_addV l_add q_int (q_call ok_u_law_take (hr.mono (by decide)) (by rfl) (mG__law_take T) kp_u_law_take bi_u_law_take (qa_cons (qv 3) (qa_cons q_int qa_nil)))))) qs_nil) (qs_cons (qs_set (i := 7) nd (by rfl) (by first | exact .inl rfl | exact .inr rfl) (qv 4)) (qs_cons (qs_set (i := 8) nd (by rfl) (by first | exact .inl rfl | exact .inr rfl) (q_lst qa_nil)) (qs_cons (qs_for PassesOwn.never (by rfl) (qi_r1 (by rfl) (m_range T) (fun Γ => (qa_cons (qv 6) qa_nil))) (qg_nm (i := 9) nd (by rfl) (by first | exact .inl rfl | exact .inr rfl)) (qs_cons (qs_set (i := 10) nd (by rfl) (by first | exact .inl rfl | exact .inr rfl) (q_call ok_u_law_bag (hr.mono (by decide)) (by rfl) (mG__law_bag T) kp_u_law_bag bi_u_law_bag (qa_cons (qv 0) (qa_cons (q_op op_addV l_add q_int (qv 9)) qa_nil)))) (qs_cons (qs_set (i := 11) nd (by rfl) (by first | exact .inl rfl | exact .inr rfl) (q_ix (qv 1) (q_op op_mod l_mod (q_callTy call_int1 l_intC bt_int (by rfl) (m_int T) (qa_cons (q_op op_addV l_add (qv 5) (qv 9)) qa_nil)) (q_callB call_len l_len bt_len (by rfl) (m_len T) (qa_cons (qv 1) qa_nil))))) (qs_cons (qs_set (i := 12) nd (by rfl) (by first | exact .inl rfl | exact .inr rfl) (q_call ok_u_law_take (hr.mono (by decide)) (by rfl) (mG__law_take T) kp_u_law_take bi_u_law_take (qa_cons (qv 10) (qa_cons (q_op op_addV l_add (qv 2) q_int) qa_nil)))) (qs_cons (qs_set (i := 13) nd (by rfl) (by first | exact .inl rfl | exact .inr rfl) (q_call ok_u_law_take (hr.mono (by decide)) (by rfl) (mG__law_take T) kp_u_law_take bi_u_law_take (qa_cons (qv 10) (qa_cons q_int qa_nil)))) (qs_cons (qs_if (t_cmp op_ltV l_lt (qv 13) q_int (nomark _)) (qs_one (qs_set (i := 12) nd (by rfl) (by first | exact .inl rfl | exact .inr rfl) (q_op op_mulV l_mul (qv 2) (qv 13)))) qs_nil) (qs_cons (qs_set (i := 7) nd (by rfl) (by first | exact .inl rfl | exact .inr rfl) (q_callB (call_maxV rfl) l_max bt_max (by rfl) (m_max T) (qa_cons (qv 7) (qa_cons (q_op op_addV l_add (qv 4) (qv 12)) qa_nil)))) (qs_cons (qs_expr (q_app (qv 8) (q_tup (qa_cons (qv 7) (qa_cons (q_op op_addV l_add (q_call ok_u_law_low (hr.mono (by decide)) (by rfl) (mG__law_low T) kp_u_law_low bi_u_law_low (qa_cons (qv 11) qa_nil)) (q_call ok_u_law_take (hr.mono (by decide)) (by rfl) (mG__law_take T) kp_u_law_take bi_u_law_take (qa_cons (qv 10) (qa_cons (q_op op_addV l_add (q_op op_sub l_sub (q_call ok_u_law_high (hr.mono (by decide)) (by rfl) (mG__law_high T) kp_u_law_high bi_u_law_high (qa_cons (qv 11) qa_nil)) (q_call ok_u_law_low (hr.mono (by decide)) (by rfl) (mG__law_low T) kp_u_law_low bi_u_law_low (qa_cons (qv 11) qa_nil))) q_int) qa_nil)))) qa_nil))))) (qs_one (qs_set (i := 4) nd (by rfl) (by first | exact .inl rfl | exact .inr rfl) (q_op op_addV l_add (q_op op_addV l_add (qv 4) (q_ix (qv 11) q_int)) (q_callB (call_maxV rfl) l_max bt_max (by rfl) (m_max T) (qa_cons q_int (qa_cons (q_op op_sub l_sub (q_call ok_u_law_take (hr.mono (by decide)) (by rfl) (mG__law_take T) kp_u_law_take bi_u_law_take (qa_cons (qv 10) (qa_cons q_int qa_nil))) q_int) qa_nil)))))))))))))) (qs_one (qs_ret (qv 8)))))))))))
def N_u_law_bent : List PySem.Str := ((["bag", "log", "at", "pair", "way"] : List PySem.Str))
def r_u_law_bent (s_u_law_take : SpD) : DS := (dSeq (dAsg (dOp oIx (dVar 1) (dVar 2)) 3) (dSeq (dAsg (dCall s_u_law_take (dCons (dVar 0) (dCons (dC (.int 5)) dNil))) 4) (dSeq (dIfS (dB (dOp oEq (dVar 4) (dC (.int 0)))) (dAsg (dTup (dCons (dOp oSub (dOp oSub (dOp oIx (dVar 3) (dC (.int 0))) (dC (.int 1))) (dCall s_u_law_take (dCons (dVar 0) (dCons (dC (.int 3)) dNil)))) (dCons (dOp oIx (dVar 3) (dC (.int 1))) dNil))) 3) dNext) (dSeq (dIfS (dB (dOp oEq (dVar 4) (dC (.int 1)))) (dAsg (dTup (dCons (dOp oIx (dVar 3) (dC (.int 0))) (dCons (dOp oAdd (dOp oAdd (dOp oIx (dVar 3) (dC (.int 1))) (dC (.int 1))) (dCall s_u_law_take (dCons (dVar 0) (dCons (dC (.int 3)) dNil)))) dNil))) 3) dNext) (dSeq (dIfS (dB (dOp oEq (dVar 4) (dC (.int 2)))) (dAsg (dTup (dCons (dOp oIx (dVar 3) (dC (.int 0))) (dCons (dOp oSub (dOp oSub (dOp oIx (dVar 3) (dC (.int 1))) (dC (.int 1))) (dCall s_u_law_take (dCons (dVar 0) (dCons (dC (.int 3)) dNil)))) dNil))) 3) dNext) (dSeq (dIfS (dB (dOp oEq (dVar 4) (dC (.int 3)))) (dAsg (dTup (dCons (dOp oSub (dOp oIx (dVar 3) (dC (.int 0))) (dCall s_u_law_take (dCons (dVar 0) (dCons (dC (.int 260)) dNil)))) (dCons (dOp oIx (dVar 3) (dC (.int 1))) dNil))) 3) dNext) (dSeq (dIfS (dB (dOp oEq (dVar 4) (dC (.int 4)))) (dAsg (dTup (dCons (dOp oAdd (dOp oAdd (dOp oIx (dVar 3) (dC (.int 0))) (dC (.int 1))) (dCall s_u_law_take (dCons (dVar 0) (dCons (dC (.int 4)) dNil)))) (dCons (dOp oIx (dVar 3) (dC (.int 1))) dNil))) 3) dNext) (dRet (dOp oAdd (dOp oAdd (dSl (dVar 1) dNoPart (dPart (dVar 2))) (dLst (dCons (dVar 3) dNil))) (dSl (dVar 1) (dPart (dOp oAdd (dVar 2) (dC (.int 1)))) dNoPart))))))))))
theorem sc_u_law_bent : FnScope N_u_law_bent ((["bag", "log", "at"] : List PySem.Str)) (defScope (top 48)) := ⟨rfl, rfl, rfl, by decide +kernel, rfl, by decide +kernel, by decide +kernel⟩
set_option maxHeartbeats 0 in
theorem ok_u_law_bent {P : Program} {w : World} {K : PySem.W.Frag} {mg : PySem.Str → Option Value} {base : Heap} (T : Tx K mg) {s_u_law_take : SpD} (g_u_law_take : Good P w K mg base 1 (He.ga K "_law_take") ((["bag", "many"] : List PySem.Str)) s_u_law_take) {sp : SpD} (len : ∀ ds l Q E, sp ds l Q E → ds.length = 3)
    (sat : ∀ ds l Q E, sp ds l Q E → r_u_law_bent s_u_law_take (fun _ l => Wr Q .non l) (Wr Q) noN noN (startD N_u_law_bent ds) l) : Good P w K mg base 2 (He.ga K "_law_bent") ((["bag", "log", "at"] : List PySem.Str)) sp := by
  obtain ⟨fd, F⟩ := mF_u_law_bent T
  obtain ⟨fd_u_law_take, ok_u_law_take, kp_u_law_take, bi_u_law_take⟩ := g_u_law_take
  refine ⟨fd, zfn F sc_u_law_bent sp _ len (fun cdv A outer s H E Γ hr => ?_) sat, F.kp, FunD.bindsN F fun _ _ _ _ _ _ us hl => match us, hl with | [_, _, _], _ => rfl⟩
  have nd := (sc_u_law_bent).nd
  exact (qs_cons (qs_set (i := 3) nd (by rfl) (by first | exact .inl rfl | exact .inr rfl) (q_ix (qv 1) (qv 2))) (qs_cons (qs_set (i := 4) nd (by rfl) (by first | exact .inl rfl | exact .inr rfl) (q_call ok_u_law_take (hr.mono (by decide)) (by rfl) (mG__law_take T) kp_u_law_take bi_u_law_take (qa_cons (qv 0) (qa_cons q_int qa_nil)))) (qs_cons (qs_if (t_cmp (op_eqV hr.units) l_eq (qv 4) q_int (nomark _)) (qs_one (qs_set (i := 3) nd (by rfl) (by first | exact .inl rfl | exact .inr rfl) (q_tup (qa_cons (q_op op_sub l_sub (q_op op_sub l_sub (q_ix (qv 3) q_int) q_int) (q_call ok_u_law_take (hr.mono (by decide)) (by rfl) (mG__law_take T) kp_u_law_take bi_u_law_take (qa_cons (qv 0) (qa_cons q_int qa_nil)))) (qa_cons (q_ix (qv 3) q_int) qa_nil))))) qs_nil) (qs_cons (qs_if (t_cmp (op_eqV hr.units) l_eq (qv 4) q_int (nomark _)) (qs_one (qs_set (i := 3) nd (by rfl) (by first | exact .inl rfl | exact .inr rfl) (q_tup (qa_cons (q_ix (qv 3) q_int) (qa_cons (q_op op_addV l_add (q_op op_addV l_add (q_ix (qv 3) q_int) q_int) (q_call ok_u_law_take (hr.mono (by decide)) (by rfl) (mG__law_take T) kp_u_law_take bi_u_law_take (qa_cons (qv 0) (qa_cons q_int qa_nil)))) qa_nil))))) qs_nil) (qs_cons (qs_if (t_cmp (op_eqV hr.units) l_eq (qv 4) q_int (nomark _)) (qs_one (qs_set (i := 3) nd (by rfl) (by first | exact .inl rfl | exact .inr rfl) (q_tup (qa_cons (q_ix (qv 3) q_int) (qa_cons (q_op op_sub l_sub (q_op op_sub l_sub (q_ix (qv 3) q_int) q_int) (q_call ok_u_law_take (hr.mono (by decide)) (by rfl) (mG__law_take T) kp_u_law_take bi_u_law_take (qa_cons (qv 0) (qa_cons q_int qa_nil)))) qa_nil))))) qs_nil) (qs_cons (qs_if (t_cmp (op_eqV hr.units) l_eq (qv 4) q_int (nomark _)) (qs_one (qs_set (i := 3) nd (by rfl) (by first | exact .inl rfl | exact .inr rfl) (q_tup (qa_cons (q_op op_sub l_sub (q_ix (qv 3) q_int) (q_call ok_u_law_take (hr.mono (by decide)) (by rfl) (mG__law_take T) kp_u_law_take bi_u_law_take (qa_cons (qv 0) (qa_cons q_int qa_nil)))) (qa_cons (q_ix (qv 3) q_int) qa_nil))))) qs_nil) (qs_cons (qs_if (t_cmp (op_eqV hr.units) l_eq (qv 4) q_int (nomark _)) (qs_one (qs_set (i := 3) nd (by rfl) (by first | exact .inl rfl | exact .inr rfl) (q_tup (qa_cons (q_op op_addV l_add (q_op op_addV l_add (q_ix (qv 3) q_int) q_int) (q_call ok_u_law_take (hr.mono (by decide)) (by rfl) (mG__law_take T) kp_u_law_take bi_u_law_take (qa_cons (qv 0) (qa_cons q_int qa_nil)))) (qa_cons (q_ix (qv 3) q_int) qa_nil))))) qs_nil) (qs_one (qs_ret (q_op op_addV l_add (q_op op_addV l_add (q_sl (qv 1) qo_none (qo_some (qv 2))) (q_lst (qa_cons (qv 3) qa_nil))) (q_sl (qv 1) (qo_some (q_op op_addV l_add (qv 2) q_int)) qo_none)))))))))))
def N_u_is_letter : List PySem.Str := ((["sign"] : List PySem.Str))
def r_u_is_letter : DS := (dRet (dChain oLe oLe (dC (.str "a")) (dVar 0) (dC (.str "z"))))
theorem sc_u_is_letter : FnScope N_u_is_letter ((["sign"] : List PySem.Str)) (defScope (top 8)) := ⟨rfl, rfl, rfl, by decide +kernel, rfl, by decide +kernel, by decide +kernel⟩
set_option maxHeartbeats 0 in
theorem ok_u_is_letter {P : Program} {w : World} {K : PySem.W.Frag} {mg : PySem.Str → Option Value} {base : Heap} (T : Tx K mg) {sp : SpD} (len : ∀ ds l Q E, sp ds l Q E → ds.length = 1)
    (sat : ∀ ds l Q E, sp ds l Q E → r_u_is_letter (fun _ l => Wr Q .non l) (Wr Q) noN noN (startD N_u_is_letter ds) l) : Good P w K mg base 1 (He.ga K "_is_letter") ((["sign"] : List PySem.Str)) sp := by
  obtain ⟨fd, F⟩ := mF_u_is_letter T
  refine ⟨fd, zfn F sc_u_is_letter sp _ len (fun cdv A outer s H E Γ hr => ?_) sat, F.kp, FunD.bindsN F fun _ _ _ _ _ _ us hl => match us, hl with | [_], _ => rfl⟩
  have nd := (sc_u_is_letter).nd
  exact (qs_one (qs_ret (q_chain op_leV op_leV l_le l_le q_str (qv 0) q_str)))
def N_u_is_letters : List PySem.Str := ((["word", "sign"] : List PySem.Str))
def r_u_is_letters (s_u_is_letter : SpD) : DS := (dRet (dAndV (dOp oNe (dVar 0) (dC (.str ""))) (dCB oAll (dCons (dLc (diAny (dVar 0)) (.nm 1) dYes (dCall s_u_is_letter (dCons (dVar 1) dNil)) [1]) dNil))))
theorem sc_u_is_letters : FnScope N_u_is_letters ((["word"] : List PySem.Str)) (defScope (top 9)) := ⟨rfl, rfl, rfl, by decide +kernel, rfl, by decide +kernel, by decide +kernel⟩
set_option maxHeartbeats 0 in
theorem ok_u_is_letters {P : Program} {w : World} {K : PySem.W.Frag} {mg : PySem.Str → Option Value} {base : Heap} (T : Tx K mg) {s_u_is_letter : SpD} (g_u_is_letter : Good P w K mg base 1 (He.ga K "_is_letter") ((["sign"] : List PySem.Str)) s_u_is_letter) {sp : SpD} (len : ∀ ds l Q E, sp ds l Q E → ds.length = 1)
    (sat : ∀ ds l Q E, sp ds l Q E → r_u_is_letters s_u_is_letter (fun _ l => Wr Q .non l) (Wr Q) noN noN (startD N_u_is_letters ds) l) : Good P w K mg base 2 (He.ga K "_is_letters") ((["word"] : List PySem.Str)) sp := by
  obtain ⟨fd, F⟩ := mF_u_is_letters T
  obtain ⟨fd_u_is_letter, ok_u_is_letter, kp_u_is_letter, bi_u_is_letter⟩ := g_u_is_letter
  refine ⟨fd, zfn F sc_u_is_letters sp _ len (fun cdv A outer s H E Γ hr => ?_) sat, F.kp, FunD.bindsN F fun _ _ _ _ _ _ us hl => match us, hl with | [_], _ => rfl⟩
  have nd := (sc_u_is_letters).nd
  exact (qs_one (qs_ret (q_and (q_cmp (op_neV hr.units) l_ne (qv 0) q_str (nomark _)) (q_one (q_callB (cr_all rfl) l_all bt_all (by rfl) (m_all T) (qa_cons (q_lc [("sign", 1)] (by rfl) nd (qi_any (fun Γ => (qv 0))) (blkOk_by (by kernel_rfl)) (fun _ _ _ _ _ => (qg_nm (i := 1) nd (by rfl) (by first | exact .inl rfl | exact .inr rfl))) (fun _ _ _ _ _ => qts_nil) (fun _ _ _ _ _ Γ => (q_call ok_u_is_letter (hr.mono (by decide)) (by rfl) (mG__is_letter T) kp_u_is_letter bi_u_is_letter (qa_cons (qv 1) qa_nil)))) qa_nil))))))
def N_is_name : List PySem.Str := ((["word"] : List PySem.Str))
def r_is_name (s_u_is_letters : SpD) : DS := (dRet (dAndV (dUn (oIsi "str") (dVar 0)) (dAndV (dOp oLe (dCB oLen (dCons (dVar 0) dNil)) (dC (.int 8))) (dCall s_u_is_letters (dCons (dVar 0) dNil)))))
theorem sc_is_name : FnScope N_is_name ((["word"] : List PySem.Str)) (defScope (top 10)) := ⟨rfl, rfl, rfl, by decide +kernel, rfl, by decide +kernel, by decide +kernel⟩
set_option maxHeartbeats 0 in
theorem ok_is_name {P : Program} {w : World} {K : PySem.W.Frag} {mg : PySem.Str → Option Value} {base : Heap} (T : Tx K mg) {s_u_is_letters : SpD} (g_u_is_letters : Good P w K mg base 2 (He.ga K "_is_letters") ((["word"] : List PySem.Str)) s_u_is_letters) {sp : SpD} (len : ∀ ds l Q E, sp ds l Q E → ds.length = 1)
    (sat : ∀ ds l Q E, sp ds l Q E → r_is_name s_u_is_letters (fun _ l => Wr Q .non l) (Wr Q) noN noN (startD N_is_name ds) l) : Good P w K mg base 3 (He.ga K "is_name") ((["word"] : List PySem.Str)) sp := by
  obtain ⟨fd, F⟩ := mF_is_name T
  obtain ⟨fd_u_is_letters, ok_u_is_letters, kp_u_is_letters, bi_u_is_letters⟩ := g_u_is_letters
  refine ⟨fd, zfn F sc_is_name sp _ len (fun cdv A outer s H E Γ hr => ?_) sat, F.kp, FunD.bindsN F fun _ _ _ _ _ _ us hl => match us, hl with | [_], _ => rfl⟩
  have nd := (sc_is_name).nd
  exact (qs_one (qs_ret (q_and (q_isi (by decide) (by rfl) (m_isinstance T) (by rfl) (m_str T) bt_str (qv 0)) (q_and (q_cmp op_leV l_le (q_callB call_len l_len bt_len (by rfl) (m_len T) (qa_cons (qv 0) qa_nil)) (q_gint (by rfl) (mI_MOST_LETTERS T)) (nomark _)) (q_one (q_call ok_u_is_letters (hr.mono (by decide)) (by rfl) (mG__is_letters T) kp_u_is_letters bi_u_is_letters (qa_cons (qv 0) qa_nil)))))))
def N_u_copied : List PySem.Str := ((["frames", "gap", "due", "work", "least", "most", "hold"] : List PySem.Str))
def r_u_copied : DS := (dRet (dCB oTupC (dCons (dLc (diAny (dVar 0)) (.tp [(.nm 1), (.nm 2), (.nm 3)]) dYes (dTup (dCons (dVar 1) (dCons (dVar 2) (dCons (dCB oTupC (dCons (dLc (diAny (dVar 3)) (.tp [(.nm 4), (.nm 5), (.nm 6)]) dYes (dTup (dCons (dVar 4) (dCons (dVar 5) (dCons (dVar 6) dNil)))) [4, 5, 6]) dNil)) dNil)))) [1, 2, 3]) dNil)))
theorem sc_u_copied : FnScope N_u_copied ((["frames"] : List PySem.Str)) (defScope (top 26)) := ⟨rfl, rfl, rfl, by decide +kernel, rfl, by decide +kernel, by decide +kernel⟩
set_option maxHeartbeats 0 in
theorem ok_u_copied {P : Program} {w : World} {K : PySem.W.Frag} {mg : PySem.Str → Option Value} {base : Heap} (T : Tx K mg) {sp : SpD} (len : ∀ ds l Q E, sp ds l Q E → ds.length = 1)
    (sat : ∀ ds l Q E, sp ds l Q E → r_u_copied (fun _ l => Wr Q .non l) (Wr Q) noN noN (startD N_u_copied ds) l) : Good P w K mg base 1 (He.ga K "_copied") ((["frames"] : List PySem.Str)) sp := by
  obtain ⟨fd, F⟩ := mF_u_copied T
  refine ⟨fd, zfn F sc_u_copied sp _ len (fun cdv A outer s H E Γ hr => ?_) sat, F.kp, FunD.bindsN F fun _ _ _ _ _ _ us hl => match us, hl with | [_], _ => rfl⟩
  have nd := (sc_u_copied).nd
  exact (qs_one (qs_ret (q_callTy call_tuple_of l_tupC bt_tuple (by rfl) (m_tuple T) (qa_cons (q_lc [("gap", 1), ("due", 2), ("work", 3)] (by rfl) nd (qi_any (fun Γ => (qv 0))) (blkOk_by (by kernel_rfl)) (fun _ _ _ _ _ => (qg_tp (by rfl) (qgs_cons (qg_nm (i := 1) nd (by rfl) (by first | exact .inl rfl | exact .inr rfl)) (qgs_cons (qg_nm (i := 2) nd (by rfl) (by first | exact .inl rfl | exact .inr rfl)) (qgs_cons (qg_nm (i := 3) nd (by rfl) (by first | exact .inl rfl | exact .inr rfl)) qgs_nil))))) (fun _ _ _ _ _ => qts_nil) (fun _ _ _ _ _ Γ => (q_tup (qa_cons (qv 1) (qa_cons (qv 2) (qa_cons (q_callTy call_tuple_of l_tupC bt_tuple (by rfl) (m_tuple T) (qa_cons (q_lc [("least", 4), ("most", 5), ("hold", 6)] (by rfl) nd (qi_any (fun Γ => (qv 3))) (blkOk_by (by kernel_rfl)) (fun _ _ _ _ _ => (qg_tp (by rfl) (qgs_cons (qg_nm (i := 4) nd (by rfl) (by first | exact .inl rfl | exact .inr rfl)) (qgs_cons (qg_nm (i := 5) nd (by rfl) (by first | exact .inl rfl | exact .inr rfl)) (qgs_cons (qg_nm (i := 6) nd (by rfl) (by first | exact .inl rfl | exact .inr rfl)) qgs_nil))))) (fun _ _ _ _ _ => qts_nil) (fun _ _ _ _ _ Γ => (q_tup (qa_cons (qv 4) (qa_cons (qv 5) (qa_cons (qv 6) qa_nil)))))) qa_nil)) qa_nil)))))) qa_nil))))
def N_is_hold : List PySem.Str := ((["hold", "first", "second"] : List PySem.Str))
def r_is_hold (s_u_is_letters : SpD) : DS := (dSeq (dIfS (dNot (dB (dUn (oIsi "str") (dVar 0)))) (dRet (dC (.bl false))) dNext) (dSeq (dIfS (dOr (dB (dOp oEq (dVar 0) (dC (.str "")))) (dB (dOp oEq (dVar 0) (dC (.str "*"))))) (dRet (dC (.bl true))) dNext) (dSeq (dIfS (dOr (dB (dOp oGt (dCB oLen (dCons (dVar 0) dNil)) (dC (.int 4)))) (dNot (dB (dCall s_u_is_letters (dCons (dVar 0) dNil))))) (dRet (dC (.bl false))) dNext) (dRet (dCB oAll (dCons (dLc (diZip (dCons (dVar 0) (dCons (dSl (dVar 0) (dPart (dC (.int 1))) dNoPart) dNil))) (.tp [(.nm 1), (.nm 2)]) dYes (dOp oLt (dVar 1) (dVar 2)) [1, 2]) dNil))))))
theorem sc_is_hold : FnScope N_is_hold ((["hold"] : List PySem.Str)) (defScope (top 11)) := ⟨rfl, rfl, rfl, by decide +kernel, rfl, by decide +kernel, by decide +kernel⟩
set_option maxHeartbeats 0 in
theorem ok_is_hold {P : Program} {w : World} {K : PySem.W.Frag} {mg : PySem.Str → Option Value} {base : Heap} (T : Tx K mg) {s_u_is_letters : SpD} (g_u_is_letters : Good P w K mg base 2 (He.ga K "_is_letters") ((["word"] : List PySem.Str)) s_u_is_letters) {sp : SpD} (len : ∀ ds l Q E, sp ds l Q E → ds.length = 1)
    (sat : ∀ ds l Q E, sp ds l Q E → r_is_hold s_u_is_letters (fun _ l => Wr Q .non l) (Wr Q) noN noN (startD N_is_hold ds) l) : Good P w K mg base 3 (He.ga K "is_hold") ((["hold"] : List PySem.Str)) sp := by
  obtain ⟨fd, F⟩ := mF_is_hold T
  obtain ⟨fd_u_is_letters, ok_u_is_letters, kp_u_is_letters, bi_u_is_letters⟩ := g_u_is_letters
  refine ⟨fd, zfn F sc_is_hold sp _ len (fun cdv A outer s H E Γ hr => ?_) sat, F.kp, FunD.bindsN F fun _ _ _ _ _ _ us hl => match us, hl with | [_], _ => rfl⟩
  have nd := (sc_is_hold).nd
  exact (qs_cons (qs_if (t_not (t_val (q_isi (by decide) (by rfl) (m_isinstance T) (by rfl) (m_str T) bt_str (qv 0)))) (qs_one (qs_ret q_bl)) qs_nil) (qs_cons (qs_if (t_w (w_or (t_cmp (op_eqV hr.units) l_eq (qv 0) q_str (nomark _)) (w_or1 (t_cmp (op_eqV hr.units) l_eq (qv 0) q_str (nomark _))))) (qs_one (qs_ret q_bl)) qs_nil) (qs_cons (qs_if (t_w (w_or (t_cmp op_gt l_gt (q_callB call_len l_len bt_len (by rfl) (m_len T) (qa_cons (qv 0) qa_nil)) (q_gint (by rfl) (mI_MOST_LOCKS T)) (nomark _)) (w_or1 (t_not (t_val (q_call ok_u_is_letters (hr.mono (by decide)) (by rfl) (mG__is_letters T) kp_u_is_letters bi_u_is_letters (qa_cons (qv 0) qa_nil))))))) (qs_one (qs_ret q_bl)) qs_nil) (qs_one (qs_ret (q_callB (cr_all rfl) l_all bt_all (by rfl) (m_all T) (qa_cons (q_lc [("first", 1), ("second", 2)] (by rfl) nd (qi_zip (by rfl) (m_zip T) (fun Γ => (qa_cons (qv 0) (qa_cons (q_sl (qv 0) (qo_some q_int) qo_none) qa_nil)))) (blkOk_by (by kernel_rfl)) (fun _ _ _ _ _ => (qg_tp (by rfl) (qgs_cons (qg_nm (i := 1) nd (by rfl) (by first | exact .inl rfl | exact .inr rfl)) (qgs_cons (qg_nm (i := 2) nd (by rfl) (by first | exact .inl rfl | exact .inr rfl)) qgs_nil)))) (fun _ _ _ _ _ => qts_nil) (fun _ _ _ _ _ Γ => (q_cmp op_ltV l_lt (qv 1) (qv 2) (nomark _)))) qa_nil)))))))
def N_u_check_frame : List PySem.Str := ((["gap", "due", "work", "least", "most", "hold"] : List PySem.Str))
def r_u_check_frame (s_is_hold : SpD) : DS := (dSeq (dIfS (dNot (dB (dChain oLe oLe (dC (.int 1)) (dVar 0) (dC (.int 240))))) dNever dNext) (dSeq (dIfS (dNot (dB (dChain oLe oLe (dC (.int 1)) (dVar 1) (dC (.int 480))))) dNever dNext) (dSeq (dIfS (dNot (dB (dChain oLe oLe (dC (.int 1)) (dCB oLen (dCons (dVar 2) dNil)) (dC (.int 4))))) dNever dNext) (dFor (diAny (dVar 2)) (.tp [(.nm 3), (.nm 4), (.nm 5)]) (dIfS (dOr (dNot (dB (dChain3 oLe oLe oLe (dC (.int 1)) (dVar 3) (dVar 4) (dC (.int 240))))) (dNot (dB (dCall s_is_hold (dCons (dVar 5) dNil))))) dNever dNext)))))
theorem sc_u_check_frame : FnScope N_u_check_frame ((["gap", "due", "work"] : List PySem.Str)) (defScope (top 27)) := ⟨rfl, rfl, rfl, by decide +kernel, rfl, by decide +kernel, by decide +kernel⟩
set_option maxHeartbeats 0 in
theorem ok_u_check_frame {P : Program} {w : World} {K : PySem.W.Frag} {mg : PySem.Str → Option Value} {base : Heap} (T : Tx K mg) {s_is_hold : SpD} (g_is_hold : Good P w K mg base 3 (He.ga K "is_hold") ((["hold"] : List PySem.Str)) s_is_hold) {sp : SpD} (len : ∀ ds l Q E, sp ds l Q E → ds.length = 3)
    (sat : ∀ ds l Q E, sp ds l Q E → r_u_check_frame s_is_hold (fun _ l => Wr Q .non l) (Wr Q) noN noN (startD N_u_check_frame ds) l) : Good P w K mg base 4 (He.ga K "_check_frame") ((["gap", "due", "work"] : List PySem.Str)) sp := by
  obtain ⟨fd, F⟩ := mF_u_check_frame T
  obtain ⟨fd_is_hold, ok_is_hold, kp_is_hold, bi_is_hold⟩ := g_is_hold
  refine ⟨fd, zfn F sc_u_check_frame sp _ len (fun cdv A outer s H E Γ hr => ?_) sat, F.kp, FunD.bindsN F fun _ _ _ _ _ _ us hl => match us, hl with | [_, _, _], _ => rfl⟩
  have nd := (sc_u_check_frame).nd
  exact (qs_cons (qs_if (t_not (t_chain op_leV op_leV l_le l_le q_int (qv 0) (q_gint (by rfl) (mI_MOST_GAP T)))) (qs_one qs_never) qs_nil) (qs_cons (qs_if (t_not (t_chain op_leV op_leV l_le l_le q_int (qv 1) (q_gint (by rfl) (mI_MOST_DUE T)))) (qs_one qs_never) qs_nil) (qs_cons (qs_if (t_not (t_chain op_leV op_leV l_le l_le q_int (q_callB call_len l_len bt_len (by rfl) (m_len T) (qa_cons (qv 2) qa_nil)) (q_gint (by rfl) (mI_MOST_SEGMENTS T)))) (qs_one qs_never) qs_nil) (qs_one (qs_for PassesOwn.never (by rfl) (qi_any (fun Γ => (qv 2))) (qg_tp (by rfl) (qgs_cons (qg_nm (i := 3) nd (by rfl) (by first | exact .inl rfl | exact .inr rfl)) (qgs_cons (qg_nm (i := 4) nd (by rfl) (by first | exact .inl rfl | exact .inr rfl)) (qgs_cons (qg_nm (i := 5) nd (by rfl) (by first | exact .inl rfl | exact .inr rfl)) qgs_nil)))) (qs_one (qs_if (t_w (w_or (t_not (t_chain3 op_leV op_leV op_leV l_le l_le l_le q_int (qv 3) (qv 4) (q_gint (by rfl) (mI_MOST_LENGTH T)))) (w_or1 (t_not (t_val (q_call ok_is_hold (hr.mono (by decide)) (by rfl) (mG_is_hold T) kp_is_hold bi_is_hold (qa_cons (qv 5) qa_nil))))))) (qs_one qs_never) qs_nil)))))))
def N_u_check_frames : List PySem.Str := ((["frames", "jitter", "gap", "due", "work", "frame", "follower"] : List PySem.Str))
def r_u_check_frames (s_u_check_frame : SpD) : DS := (dSeq (dIfS (dNot (dB (dChain oLe oLe (dC (.int 1)) (dCB oLen (dCons (dVar 0) dNil)) (dC (.int 4))))) dNever dNext) (dSeq (dFor (diAny (dVar 0)) (.tp [(.nm 2), (.nm 3), (.nm 4)]) (dDrop (dCall s_u_check_frame (dCons (dVar 2) (dCons (dVar 3) (dCons (dVar 4) dNil)))))) (dSeq (dIfS (dOr (dNot (dB (dChain oLe oLe (dC (.int 0)) (dVar 1) (dC (.int 240))))) (dB (dCB oAny (dCons (dLc (diAny (dVar 0)) (.nm 5) dYes (dOp oGe (dVar 1) (dOp oIx (dVar 5) (dC (.int 1)))) [5]) dNil)))) dNever dNext) (dFor (diZip (dCons (dVar 0) (dCons (dOp oAdd (dSl (dVar 0) (dPart (dC (.int 1))) dNoPart) (dSl (dVar 0) dNoPart (dPart (dC (.int 1))))) dNil))) (.tp [(.nm 5), (.nm 6)]) (dIfS (dB (dOp oGt (dOp oIx (dVar 5) (dC (.int 1))) (dOp oAdd (dOp oIx (dVar 5) (dC (.int 0))) (dOp oIx (dVar 6) (dC (.int 1)))))) dNever dNext)))))
theorem sc_u_check_frames : FnScope N_u_check_frames ((["frames", "jitter"] : List PySem.Str)) (defScope (top 28)) := ⟨rfl, rfl, rfl, by decide +kernel, rfl, by decide +kernel, by decide +kernel⟩
set_option maxHeartbeats 0 in
theorem ok_u_check_frames {P : Program} {w : World} {K : PySem.W.Frag} {mg : PySem.Str → Option Value} {base : Heap} (T : Tx K mg) {s_u_check_frame : SpD} (g_u_check_frame : Good P w K mg base 4 (He.ga K "_check_frame") ((["gap", "due", "work"] : List PySem.Str)) s_u_check_frame) {sp : SpD} (len : ∀ ds l Q E, sp ds l Q E → ds.length = 2)
    (sat : ∀ ds l Q E, sp ds l Q E → r_u_check_frames s_u_check_frame (fun _ l => Wr Q .non l) (Wr Q) noN noN (startD N_u_check_frames ds) l) : Good P w K mg base 5 (He.ga K "_check_frames") ((["frames", "jitter"] : List PySem.Str)) sp := by
  obtain ⟨fd, F⟩ := mF_u_check_frames T
  obtain ⟨fd_u_check_frame, ok_u_check_frame, kp_u_check_frame, bi_u_check_frame⟩ := g_u_check_frame
  refine ⟨fd, zfn F sc_u_check_frames sp _ len (fun cdv A outer s H E Γ hr => ?_) sat, F.kp, FunD.bindsN F fun _ _ _ _ _ _ us hl => match us, hl with | [_, _], _ => rfl⟩
  have nd := (sc_u_check_frames).nd
  exact (qs_cons (qs_if (t_not (t_chain op_leV op_leV l_le l_le q_int (q_callB call_len l_len bt_len (by rfl) (m_len T) (qa_cons (qv 0) qa_nil)) (q_gint (by rfl) (mI_MOST_FRAMES T)))) (qs_one qs_never) qs_nil) (qs_cons (qs_for PassesOwn.never (by rfl) (qi_any (fun Γ => (qv 0))) (qg_tp (by rfl) (qgs_cons (qg_nm (i := 2) nd (by rfl) (by first | exact .inl rfl | exact .inr rfl)) (qgs_cons (qg_nm (i := 3) nd (by rfl) (by first | exact .inl rfl | exact .inr rfl)) (qgs_cons (qg_nm (i := 4) nd (by rfl) (by first | exact .inl rfl | exact .inr rfl)) qgs_nil)))) (qs_one (qs_expr (q_call ok_u_check_frame (hr.mono (by decide)) (by rfl) (mG__check_frame T) kp_u_check_frame bi_u_check_frame (qa_cons (qv 2) (qa_cons (qv 3) (qa_cons (qv 4) qa_nil))))))) (qs_cons (qs_if (t_w (w_or (t_not (t_chain op_leV op_leV l_le l_le q_int (qv 1) (q_gint (by rfl) (mI_MOST_JITTER T)))) (w_or1 (t_val (q_callB (cr_any rfl) l_any bt_any (by rfl) (m_any T) (qa_cons (q_lc [("frame", 5)] (by rfl) nd (qi_any (fun Γ => (qv 0))) (blkOk_by (by kernel_rfl)) (fun _ _ _ _ _ => (qg_nm (i := 5) nd (by rfl) (by first | exact .inl rfl | exact .inr rfl))) (fun _ _ _ _ _ => qts_nil) (fun _ _ _ _ _ Γ => (q_cmp op_ge l_ge (qv 1) (q_ix (qv 5) q_int) (nomark _)))) qa_nil)))))) (qs_one qs_never) qs_nil) (qs_one (qs_for PassesOwn.never (by rfl) (qi_zip (by rfl) (m_zip T) (fun Γ => (qa_cons (qv 0) (qa_cons (q_op op_addV l_add (q_sl (qv 0) (qo_some q_int) qo_none) (q_sl (qv 0) qo_none (qo_some q_int))) qa_nil)))) (qg_tp (by rfl) (qgs_cons (qg_nm (i := 5) nd (by rfl) (by first | exact .inl rfl | exact .inr rfl)) (qgs_cons (qg_nm (i := 6) nd (by rfl) (by first | exact .inl rfl | exact .inr rfl)) qgs_nil))) (qs_one (qs_if (t_cmp op_gt l_gt (q_ix (qv 5) q_int) (q_op op_addV l_add (q_ix (qv 5) q_int) (q_ix (qv 6) q_int)) (nomark _)) (qs_one qs_never) qs_nil)))))))
def N_Task____init__ : List PySem.Str := ((["self", "name", "frames", "jitter", "copied"] : List PySem.Str))
def r_Task____init__ (s_is_name s_u_copied s_u_check_frames : SpD) (C_Task : Addr) : DS := (dSeq (dIfS (dNot (dB (dCall s_is_name (dCons (dVar 1) dNil)))) dNever dNext) (dSeq (dAsg (dCall s_u_copied (dCons (dVar 2) dNil)) 4) (dSeq (dDrop (dCall s_u_check_frames (dCons (dVar 4) (dCons (dVar 3) dNil)))) (dSeq (dSetFld (· = C_Task) (dVar 1) (dVar 0) "name") (dSeq (dSetFld (· = C_Task) (dVar 4) (dVar 0) "frames") (dSetFld (· = C_Task) (dVar 3) (dVar 0) "jitter"))))))
theorem sc_Task____init__ : FnScope N_Task____init__ ((["self", "name", "frames", "jitter"] : List PySem.Str)) (defScope (inClass (top 31) 0)) := ⟨rfl, rfl, rfl, by decide +kernel, rfl, by decide +kernel, by decide +kernel⟩
set_option maxHeartbeats 0 in
theorem ok_Task____init__ {P : Program} {w : World} {K : PySem.W.Frag} {mg : PySem.Str → Option Value} {base : Heap} (T : Tx K mg) {s_is_name : SpD} (g_is_name : Good P w K mg base 3 (He.ga K "is_name") ((["word"] : List PySem.Str)) s_is_name) {s_u_copied : SpD} (g_u_copied : Good P w K mg base 1 (He.ga K "_copied") ((["frames"] : List PySem.Str)) s_u_copied) {s_u_check_frames : SpD} (g_u_check_frames : Good P w K mg base 5 (He.ga K "_check_frames") ((["frames", "jitter"] : List PySem.Str)) s_u_check_frames) {sp : SpD} (len : ∀ ds l Q E, sp ds l Q E → ds.length = 4)
    (sat : ∀ ds l Q E, sp ds l Q E → r_Task____init__ s_is_name s_u_copied s_u_check_frames (He.ga K "Task") (fun _ l => Wr Q .non l) (Wr Q) noN noN (startD N_Task____init__ ds) l) : GoodK P w K mg base 6 (He.ma K (He.ga K "Task") "__init__") ((["self", "name", "frames", "jitter"] : List PySem.Str)) 3 ((["jitter"] : List PySem.Str)) sp := by
  obtain ⟨fd, F⟩ := mF_Task____init__ T
  obtain ⟨fd_is_name, ok_is_name, kp_is_name, bi_is_name⟩ := g_is_name
  obtain ⟨fd_u_copied, ok_u_copied, kp_u_copied, bi_u_copied⟩ := g_u_copied
  obtain ⟨fd_u_check_frames, ok_u_check_frames, kp_u_check_frames, bi_u_check_frames⟩ := g_u_check_frames
  refine GoodK.mk (zfn F sc_Task____init__ sp _ len (fun cdv A outer s H E Γ hr => ?_) sat) F.kp (FunD.kbinds0 F 3 ((["jitter"] : List PySem.Str)) [] (fun us mv ws => us ++ mv ++ ws) (by intro h; cases h) (fun q hq => nomatch hq) (fun a b c => (a.append b).append c) (fun _ _ _ _ _ _ us mv ws h1 h2 h3 => match us, mv, ws, h1, h2, h3 with | [_, _, _], [], [_], _, _, _ => by first | rfl | (show _ = _; rfl)))
  have nd := (sc_Task____init__).nd
  exact (qs_cons (qs_if (t_not (t_val (q_call ok_is_name (hr.mono (by decide)) (by rfl) (mG_is_name T) kp_is_name bi_is_name (qa_cons (qv 1) qa_nil)))) (qs_one qs_never) qs_nil) (qs_cons (qs_set (i := 4) nd (by rfl) (by first | exact .inl rfl | exact .inr rfl) (q_call ok_u_copied (hr.mono (by decide)) (by rfl) (mG__copied T) kp_u_copied bi_u_copied (qa_cons (qv 2) qa_nil))) (qs_cons (qs_expr (q_call ok_u_check_frames (hr.mono (by decide)) (by rfl) (mG__check_frames T) kp_u_check_frames bi_u_check_frames (qa_cons (qv 4) (qa_cons (qv 3) qa_nil)))) (qs_cons (qs_setFld (P := (· = _)) (fun _ e => e ▸ ⟨mC_Task T, mN_Task_name T⟩) (qv 1) (qv 0)) (qs_cons (qs_setFld (P := (· = _)) (fun _ e => e ▸ ⟨mC_Task T, mN_Task_frames T⟩) (qv 4) (qv 0)) (qs_one (qs_setFld (P := (· = _)) (fun _ e => e ▸ ⟨mC_Task T, mN_Task_jitter T⟩) (qv 3) (qv 0))))))))
def N_u_law_word : List PySem.Str := ((["bag", "letters", "size", "m"] : List PySem.Str))
def r_u_law_word (s_u_law_take : SpD) : DS := (dSeq (dAsg (dC (.str "abcdefghijklmnopqrstuvwxyz")) 1) (dSeq (dAsg (dOp oAdd (dC (.int 1)) (dCall s_u_law_take (dCons (dVar 0) (dCons (dC (.int 8)) dNil)))) 2) (dRet (dJoin (dC (.str "")) (dLc (diR1 (dCons (dVar 2) dNil)) (.nm 3) dYes (dOp oIx (dVar 1) (dCall s_u_law_take (dCons (dVar 0) (dCons (dC (.int 26)) dNil)))) [3])))))
theorem sc_u_law_word : FnScope N_u_law_word ((["bag"] : List PySem.Str)) (defScope (top 42)) := ⟨rfl, rfl, rfl, by decide +kernel, rfl, by decide +kernel, by decide +kernel⟩
set_option maxHeartbeats 0 in
theorem ok_u_law_word {P : Program} {w : World} {K : PySem.W.Frag} {mg : PySem.Str → Option Value} {base : Heap} (T : Tx K mg) {s_u_law_take : SpD} (g_u_law_take : Good P w K mg base 1 (He.ga K "_law_take") ((["bag", "many"] : List PySem.Str)) s_u_law_take) {sp : SpD} (len : ∀ ds l Q E, sp ds l Q E → ds.length = 1)
    (sat : ∀ ds l Q E, sp ds l Q E → r_u_law_word s_u_law_take (fun _ l => Wr Q .non l) (Wr Q) noN noN (startD N_u_law_word ds) l) : Good P w K mg base 2 (He.ga K "_law_word") ((["bag"] : List PySem.Str)) sp := by
  obtain ⟨fd, F⟩ := mF_u_law_word T
  obtain ⟨fd_u_law_take, ok_u_law_take, kp_u_law_take, bi_u_law_take⟩ := g_u_law_take
  refine ⟨fd, zfn F sc_u_law_word sp _ len (fun cdv A outer s H E Γ hr => ?_) sat, F.kp, FunD.bindsN F fun _ _ _ _ _ _ us hl => match us, hl with | [_], _ => rfl⟩
  have nd := (sc_u_law_word).nd
  exact (qs_cons (qs_set (i := 1) nd (by rfl) (by first | exact .inl rfl | exact .inr rfl) q_str) (qs_cons (qs_set (i := 2) nd (by rfl) (by first | exact .inl rfl | exact .inr rfl) (q_op op_addV l_add q_int (q_call ok_u_law_take (hr.mono (by decide)) (by rfl) (mG__law_take T) kp_u_law_take bi_u_law_take (qa_cons (qv 0) (qa_cons q_int qa_nil))))) (qs_one (qs_ret (q_join q_str (q_lc [("m", 3)] (by rfl) nd (qi_r1 (by rfl) (m_range T) (fun Γ => (qa_cons (qv 2) qa_nil))) (blkOk_by (by kernel_rfl)) (fun _ _ _ _ _ => (qg_nm (i := 3) nd (by rfl) (by first | exact .inl rfl | exact .inr rfl))) (fun _ _ _ _ _ => qts_nil) (fun _ _ _ _ _ Γ => (q_ix (qv 1) (q_call ok_u_law_take (hr.mono (by decide)) (by rfl) (mG__law_take T) kp_u_law_take bi_u_law_take (qa_cons (qv 0) (qa_cons q_int qa_nil)))))))))))
def N_least_sum : List PySem.Str := ((["work", "segment"] : List PySem.Str))
def r_least_sum : DS := (dRet (dCB oSum (dCons (dLc (diAny (dVar 0)) (.nm 1) dYes (dOp oIx (dVar 1) (dC (.int 0))) [1]) dNil)))
theorem sc_least_sum : FnScope N_least_sum ((["work"] : List PySem.Str)) (defScope (top 17)) := ⟨rfl, rfl, rfl, by decide +kernel, rfl, by decide +kernel, by decide +kernel⟩
set_option maxHeartbeats 0 in
theorem ok_least_sum {P : Program} {w : World} {K : PySem.W.Frag} {mg : PySem.Str → Option Value} {base : Heap} (T : Tx K mg) {sp : SpD} (len : ∀ ds l Q E, sp ds l Q E → ds.length = 1)
    (sat : ∀ ds l Q E, sp ds l Q E → r_least_sum (fun _ l => Wr Q .non l) (Wr Q) noN noN (startD N_least_sum ds) l) : Good P w K mg base 1 (He.ga K "least_sum") ((["work"] : List PySem.Str)) sp := by
  obtain ⟨fd, F⟩ := mF_least_sum T
  refine ⟨fd, zfn F sc_least_sum sp _ len (fun cdv A outer s H E Γ hr => ?_) sat, F.kp, FunD.bindsN F fun _ _ _ _ _ _ us hl => match us, hl with | [_], _ => rfl⟩
  have nd := (sc_least_sum).nd
  exact (qs_one (qs_ret (q_callB (cr_sum rfl) l_sum bt_sum (by rfl) (m_sum T) (qa_cons (q_lc [("segment", 1)] (by rfl) nd (qi_any (fun Γ => (qv 0))) (blkOk_by (by kernel_rfl)) (fun _ _ _ _ _ => (qg_nm (i := 1) nd (by rfl) (by first | exact .inl rfl | exact .inr rfl))) (fun _ _ _ _ _ => qts_nil) (fun _ _ _ _ _ Γ => (q_ix (qv 1) q_int))) qa_nil))))
def N_Task__least_work : List PySem.Str := ((["self", "frame"] : List PySem.Str))
def r_Task__least_work (s_least_sum : SpD) (C_Task : Addr) : DS := (dRet (dCall s_least_sum (dCons (dOp oIx (dOp oIx (dUn (oFld (· = C_Task) "frames") (dVar 0)) (dVar 1)) (dC (.int 2))) dNil)))
theorem sc_Task__least_work : FnScope N_Task__least_work ((["self", "frame"] : List PySem.Str)) (defScope (inClass (top 31) 8)) := ⟨rfl, rfl, rfl, by decide +kernel, rfl, by decide +kernel, by decide +kernel⟩
set_option maxHeartbeats 0 in
theorem ok_Task__least_work {P : Program} {w : World} {K : PySem.W.Frag} {mg : PySem.Str → Option Value} {base : Heap} (T : Tx K mg) {s_least_sum : SpD} (g_least_sum : Good P w K mg base 1 (He.ga K "least_sum") ((["work"] : List PySem.Str)) s_least_sum) {sp : SpD} (len : ∀ ds l Q E, sp ds l Q E → ds.length = 2)
    (sat : ∀ ds l Q E, sp ds l Q E → r_Task__least_work s_least_sum (He.ga K "Task") (fun _ l => Wr Q .non l) (Wr Q) noN noN (startD N_Task__least_work ds) l) : Good P w K mg base 2 (He.ma K (He.ga K "Task") "least_work") ((["self", "frame"] : List PySem.Str)) sp := by
  obtain ⟨fd, F⟩ := mF_Task__least_work T
  obtain ⟨fd_least_sum, ok_least_sum, kp_least_sum, bi_least_sum⟩ := g_least_sum
  refine ⟨fd, zfn F sc_Task__least_work sp _ len (fun cdv A outer s H E Γ hr => ?_) sat, F.kp, FunD.bindsN F fun _ _ _ _ _ _ us hl => match us, hl with | [_, _], _ => rfl⟩
  have nd := (sc_Task__least_work).nd
  exact (qs_one (qs_ret (q_call ok_least_sum (hr.mono (by decide)) (by rfl) (mG_least_sum T) kp_least_sum bi_least_sum (qa_cons (q_ix (q_ix (q_fld (P := (· = _)) (fun _ e => e ▸ ⟨mC_Task T, mN_Task_frames T⟩) (qv 0)) (qv 1)) q_int) qa_nil))))
def N_most_sum : List PySem.Str := ((["work", "segment"] : List PySem.Str))
def r_most_sum : DS := (dRet (dCB oSum (dCons (dLc (diAny (dVar 0)) (.nm 1) dYes (dOp oIx (dVar 1) (dC (.int 1))) [1]) dNil)))
theorem sc_most_sum : FnScope N_most_sum ((["work"] : List PySem.Str)) (defScope (top 16)) := ⟨rfl, rfl, rfl, by decide +kernel, rfl, by decide +kernel, by decide +kernel⟩
set_option maxHeartbeats 0 in
theorem ok_most_sum {P : Program} {w : World} {K : PySem.W.Frag} {mg : PySem.Str → Option Value} {base : Heap} (T : Tx K mg) {sp : SpD} (len : ∀ ds l Q E, sp ds l Q E → ds.length = 1)
    (sat : ∀ ds l Q E, sp ds l Q E → r_most_sum (fun _ l => Wr Q .non l) (Wr Q) noN noN (startD N_most_sum ds) l) : Good P w K mg base 1 (He.ga K "most_sum") ((["work"] : List PySem.Str)) sp := by
  obtain ⟨fd, F⟩ := mF_most_sum T
  refine ⟨fd, zfn F sc_most_sum sp _ len (fun cdv A outer s H E Γ hr => ?_) sat, F.kp, FunD.bindsN F fun _ _ _ _ _ _ us hl => match us, hl with | [_], _ => rfl⟩
  have nd := (sc_most_sum).nd
  exact (qs_one (qs_ret (q_callB (cr_sum rfl) l_sum bt_sum (by rfl) (m_sum T) (qa_cons (q_lc [("segment", 1)] (by rfl) nd (qi_any (fun Γ => (qv 0))) (blkOk_by (by kernel_rfl)) (fun _ _ _ _ _ => (qg_nm (i := 1) nd (by rfl) (by first | exact .inl rfl | exact .inr rfl))) (fun _ _ _ _ _ => qts_nil) (fun _ _ _ _ _ Γ => (q_ix (qv 1) q_int))) qa_nil))))
def N_Task__most_work : List PySem.Str := ((["self", "frame"] : List PySem.Str))
def r_Task__most_work (s_most_sum : SpD) (C_Task : Addr) : DS := (dRet (dCall s_most_sum (dCons (dOp oIx (dOp oIx (dUn (oFld (· = C_Task) "frames") (dVar 0)) (dVar 1)) (dC (.int 2))) dNil)))
theorem sc_Task__most_work : FnScope N_Task__most_work ((["self", "frame"] : List PySem.Str)) (defScope (inClass (top 31) 7)) := ⟨rfl, rfl, rfl, by decide +kernel, rfl, by decide +kernel, by decide +kernel⟩
set_option maxHeartbeats 0 in
theorem ok_Task__most_work {P : Program} {w : World} {K : PySem.W.Frag} {mg : PySem.Str → Option Value} {base : Heap} (T : Tx K mg) {s_most_sum : SpD} (g_most_sum : Good P w K mg base 1 (He.ga K "most_sum") ((["work"] : List PySem.Str)) s_most_sum) {sp : SpD} (len : ∀ ds l Q E, sp ds l Q E → ds.length = 2)
    (sat : ∀ ds l Q E, sp ds l Q E → r_Task__most_work s_most_sum (He.ga K "Task") (fun _ l => Wr Q .non l) (Wr Q) noN noN (startD N_Task__most_work ds) l) : Good P w K mg base 2 (He.ma K (He.ga K "Task") "most_work") ((["self", "frame"] : List PySem.Str)) sp := by
  obtain ⟨fd, F⟩ := mF_Task__most_work T
  obtain ⟨fd_most_sum, ok_most_sum, kp_most_sum, bi_most_sum⟩ := g_most_sum
  refine ⟨fd, zfn F sc_Task__most_work sp _ len (fun cdv A outer s H E Γ hr => ?_) sat, F.kp, FunD.bindsN F fun _ _ _ _ _ _ us hl => match us, hl with | [_, _], _ => rfl⟩
  have nd := (sc_Task__most_work).nd
  exact (qs_one (qs_ret (q_call ok_most_sum (hr.mono (by decide)) (by rfl) (mG_most_sum T) kp_most_sum bi_most_sum (qa_cons (q_ix (q_ix (q_fld (P := (· = _)) (fun _ e => e ▸ ⟨mC_Task T, mN_Task_frames T⟩) (qv 0)) (qv 1)) q_int) qa_nil))))
def N_length_fits : List PySem.Str := ((["task", "frame", "length"] : List PySem.Str))
def r_length_fits (s_Task__least_work s_Task__most_work : SpD) (C_Task : Addr) : DS := (dRet (dChain oLe oLe (dMeth C_Task "least_work" s_Task__least_work (dVar 0) (dCons (dVar 1) dNil)) (dVar 2) (dMeth C_Task "most_work" s_Task__most_work (dVar 0) (dCons (dVar 1) dNil))))
theorem sc_length_fits : FnScope N_length_fits ((["task", "frame", "length"] : List PySem.Str)) (defScope (top 33)) := ⟨rfl, rfl, rfl, by decide +kernel, rfl, by decide +kernel, by decide +kernel⟩
set_option maxHeartbeats 0 in
theorem ok_length_fits {P : Program} {w : World} {K : PySem.W.Frag} {mg : PySem.Str → Option Value} {base : Heap} (T : Tx K mg) {s_Task__least_work : SpD} (g_Task__least_work : Good P w K mg base 2 (He.ma K (He.ga K "Task") "least_work") ((["self", "frame"] : List PySem.Str)) s_Task__least_work) {s_Task__most_work : SpD} (g_Task__most_work : Good P w K mg base 2 (He.ma K (He.ga K "Task") "most_work") ((["self", "frame"] : List PySem.Str)) s_Task__most_work) {sp : SpD} (len : ∀ ds l Q E, sp ds l Q E → ds.length = 3)
    (sat : ∀ ds l Q E, sp ds l Q E → r_length_fits s_Task__least_work s_Task__most_work (He.ga K "Task") (fun _ l => Wr Q .non l) (Wr Q) noN noN (startD N_length_fits ds) l) : Good P w K mg base 3 (He.ga K "length_fits") ((["task", "frame", "length"] : List PySem.Str)) sp := by
  obtain ⟨fd, F⟩ := mF_length_fits T
  obtain ⟨fd_Task__least_work, ok_Task__least_work, kp_Task__least_work, bi_Task__least_work⟩ := g_Task__least_work
  obtain ⟨fd_Task__most_work, ok_Task__most_work, kp_Task__most_work, bi_Task__most_work⟩ := g_Task__most_work
  refine ⟨fd, zfn F sc_length_fits sp _ len (fun cdv A outer s H E Γ hr => ?_) sat, F.kp, FunD.bindsN F fun _ _ _ _ _ _ us hl => match us, hl with | [_, _, _], _ => rfl⟩
  have nd := (sc_length_fits).nd
  exact (qs_one (qs_ret (q_chain op_leV op_leV l_le l_le (q_meth (qv 0) (mC_Task T) (mM_Task_least_work T) ok_Task__least_work (hr.mono (by decide)) bi_Task__least_work (qa_cons (qv 1) qa_nil)) (qv 2) (q_meth (qv 0) (mC_Task T) (mM_Task_most_work T) ok_Task__most_work (hr.mono (by decide)) bi_Task__most_work (qa_cons (qv 1) qa_nil)))))
def N_u_earliest_arrivals : List PySem.Str := ((["task", "log", "start_frame", "arrivals", "count", "index", "frame", "arrival", "release", "length", "gap"] : List PySem.Str))
def r_u_earliest_arrivals (s_length_fits : SpD) (C_Task : Addr) : DS := (dSeq (dAsg (dLst dNil) 3) (dSeq (dAsg (dCB oLen (dCons (dUn (oFld (· = C_Task) "frames") (dVar 0)) dNil)) 4) (dSeq (dFor (diEnum (dCons (dVar 1) dNil)) (.tp [(.nm 5), (.tp [(.nm 8), (.nm 9)])]) (dSeq (dAsg (dOp oMod (dOp oAdd (dVar 2) (dVar 5)) (dVar 4)) 6) (dSeq (dAsg (dOp oSub (dVar 8) (dUn (oFld (· = C_Task) "jitter") (dVar 0))) 7) (dSeq (dIfS (dB (dOp oGt (dVar 5) (dC (.int 0)))) (dSeq (dAsg (dOp oIx (dOp oIx (dUn (oFld (· = C_Task) "frames") (dVar 0)) (dOp oMod (dOp oSub (dOp oAdd (dVar 6) (dVar 4)) (dC (.int 1))) (dVar 4))) (dC (.int 0))) 10) (dSeq (dAsg (dCB oMax (dCons (dVar 7) (dCons (dOp oAdd (dOp oIx (dVar 3) (dUn oNeg (dC (.int 1)))) (dVar 10)) dNil))) 7) (dIfS (dB (dOp oLt (dVar 8) (dOp oIx (dOp oIx (dVar 1) (dOp oSub (dVar 5) (dC (.int 1)))) (dC (.int 0))))) dBreak dNext))) dNext) (dSeq (dIfS (dOr (dB (dOp oGt (dVar 7) (dVar 8))) (dNot (dB (dCall s_length_fits (dCons (dVar 0) (dCons (dVar 6) (dCons (dVar 9) dNil))))))) dBreak dNext) (dDrop (dApp (dVar 3) (dVar 7)))))))) (dRet (dVar 3)))))
theorem sc_u_earliest_arrivals : FnScope N_u_earliest_arrivals ((["task", "log", "start_frame"] : List PySem.Str)) (defScope (top 34)) := ⟨rfl, rfl, rfl, by decide +kernel, rfl, by decide +kernel, by decide +kernel⟩
set_option maxHeartbeats 0 in
theorem ok_u_earliest_arrivals {P : Program} {w : World} {K : PySem.W.Frag} {mg : PySem.Str → Option Value} {base : Heap} (T : Tx K mg) {s_length_fits : SpD} (g_length_fits : Good P w K mg base 3 (He.ga K "length_fits") ((["task", "frame", "length"] : List PySem.Str)) s_length_fits) {sp : SpD} (len : ∀ ds l Q E, sp ds l Q E → ds.length = 3)
    (sat : ∀ ds l Q E, sp ds l Q E → r_u_earliest_arrivals s_length_fits (He.ga K "Task") (fun _ l => Wr Q .non l) (Wr Q) noN noN (startD N_u_earliest_arrivals ds) l) : Good P w K mg base 4 (He.ga K "_earliest_arrivals") ((["task", "log", "start_frame"] : List PySem.Str)) sp := by
  obtain ⟨fd, F⟩ := mF_u_earliest_arrivals T
  obtain ⟨fd_length_fits, ok_length_fits, kp_length_fits, bi_length_fits⟩ := g_length_fits
  refine ⟨fd, zfn F sc_u_earliest_arrivals sp _ len (fun cdv A outer s H E Γ hr => ?_) sat, F.kp, FunD.bindsN F fun _ _ _ _ _ _ us hl => match us, hl with | [_, _, _], _ => rfl⟩
  have nd := (sc_u_earliest_arrivals).nd
  exact (qs_cons (qs_set (i := 3) nd (by rfl) (by first | exact .inl rfl | exact .inr rfl) (q_lst qa_nil)) (qs_cons (qs_set (i := 4) nd (by rfl) (by first | exact .inl rfl | exact .inr rfl) (q_callB call_len l_len bt_len (by rfl) (m_len T) (qa_cons (q_fld (P := (· = _)) (fun _ e => e ▸ ⟨mC_Task T, mN_Task_frames T⟩) (qv 0)) qa_nil))) (qs_cons (qs_for PassesOwn.never (by rfl) (qi_enum (by rfl) (m_enumerate T) (fun Γ => (qa_cons (qv 1) qa_nil))) (qg_tp (by rfl) (qgs_cons (qg_nm (i := 5) nd (by rfl) (by first | exact .inl rfl | exact .inr rfl)) (qgs_cons (qg_tp (by rfl) (qgs_cons (qg_nm (i := 8) nd (by rfl) (by first | exact .inl rfl | exact .inr rfl)) (qgs_cons (qg_nm (i := 9) nd (by rfl) (by first | exact .inl rfl | exact .inr rfl)) qgs_nil))) qgs_nil))) (qs_cons (qs_set (i := 6) nd (by rfl) (by first | exact .inl rfl | exact .inr rfl) (q_op op_mod l_mod (q_op op_addV l_add (qv 2) (qv 5)) (qv 4))) (qs_cons (qs_set (i := 7) nd (by rfl) (by first | exact .inl rfl | exact .inr rfl) (q_op op_sub l_sub (qv 8) (q_fld (P := (· = _)) (fun _ e => e ▸ ⟨mC_Task T, mN_Task_jitter T⟩) (qv 0)))) (qs_cons (qs_if (t_cmp op_gt l_gt (qv 5) q_int (nomark _)) (qs_cons (qs_set (i := 10) nd (by rfl) (by first | exact .inl rfl | exact .inr rfl) (q_ix (q_ix (q_fld (P := (· = _)) (fun _ e => e ▸ ⟨mC_Task T, mN_Task_frames T⟩) (qv 0)) (q_op op_mod l_mod (q_op op_sub l_sub (q_op op_addV l_add (qv 6) (qv 4)) q_int) (qv 4))) q_int)) (qs_cons (qs_set (i := 7) nd (by rfl) (by first | exact .inl rfl | exact .inr rfl) (q_callB (call_maxV rfl) l_max bt_max (by rfl) (m_max T) (qa_cons (qv 7) (qa_cons (q_op op_addV l_add (q_ix (qv 3) (q_un un_neg l_neg q_int)) (qv 10)) qa_nil)))) (qs_one (qs_if (t_cmp op_ltV l_lt (qv 8) (q_ix (q_ix (qv 1) (q_op op_sub l_sub (qv 5) q_int)) q_int) (nomark _)) (qs_one qs_break) qs_nil)))) qs_nil) (qs_cons (qs_if (t_w (w_or (t_cmp op_gt l_gt (qv 7) (qv 8) (nomark _)) (w_or1 (t_not (t_val (q_call ok_length_fits (hr.mono (by decide)) (by rfl) (mG_length_fits T) kp_length_fits bi_length_fits (qa_cons (qv 0) (qa_cons (qv 6) (qa_cons (qv 9) qa_nil))))))))) (qs_one qs_break) qs_nil) (qs_one (qs_expr (q_app (qv 3) (qv 7))))))))) (qs_one (qs_ret (qv 3))))))
def N_explained : List PySem.Str := ((["task", "log", "start_frame", "arrivals"] : List PySem.Str))
def r_explained (s_u_earliest_arrivals : SpD) (C_Task : Addr) : DS := (dSeq (dFor (diR1 (dCons (dCB oLen (dCons (dUn (oFld (· = C_Task) "frames") (dVar 0)) dNil)) dNil)) (.nm 2) (dSeq (dAsg (dCall s_u_earliest_arrivals (dCons (dVar 0) (dCons (dVar 1) (dCons (dVar 2) dNil)))) 3) (dIfS (dB (dOp oEq (dCB oLen (dCons (dVar 3) dNil)) (dCB oLen (dCons (dVar 1) dNil)))) (dRet (dTup (dCons (dVar 2) (dCons (dVar 3) dNil)))) dNext))) (dRet (dC .non)))
theorem sc_explained : FnScope N_explained ((["task", "log"] : List PySem.Str)) (defScope (top 35)) := ⟨rfl, rfl, rfl, by decide +kernel, rfl, by decide +kernel, by decide +kernel⟩
set_option maxHeartbeats 0 in
theorem ok_explained {P : Program} {w : World} {K : PySem.W.Frag} {mg : PySem.Str → Option Value} {base : Heap} (T : Tx K mg) {s_u_earliest_arrivals : SpD} (g_u_earliest_arrivals : Good P w K mg base 4 (He.ga K "_earliest_arrivals") ((["task", "log", "start_frame"] : List PySem.Str)) s_u_earliest_arrivals) {sp : SpD} (len : ∀ ds l Q E, sp ds l Q E → ds.length = 2)
    (sat : ∀ ds l Q E, sp ds l Q E → r_explained s_u_earliest_arrivals (He.ga K "Task") (fun _ l => Wr Q .non l) (Wr Q) noN noN (startD N_explained ds) l) : Good P w K mg base 5 (He.ga K "explained") ((["task", "log"] : List PySem.Str)) sp := by
  obtain ⟨fd, F⟩ := mF_explained T
  obtain ⟨fd_u_earliest_arrivals, ok_u_earliest_arrivals, kp_u_earliest_arrivals, bi_u_earliest_arrivals⟩ := g_u_earliest_arrivals
  refine ⟨fd, zfn F sc_explained sp _ len (fun cdv A outer s H E Γ hr => ?_) sat, F.kp, FunD.bindsN F fun _ _ _ _ _ _ us hl => match us, hl with | [_, _], _ => rfl⟩
  have nd := (sc_explained).nd
  exact (qs_cons (qs_for PassesOwn.never (by rfl) (qi_r1 (by rfl) (m_range T) (fun Γ => (qa_cons (q_callB call_len l_len bt_len (by rfl) (m_len T) (qa_cons (q_fld (P := (· = _)) (fun _ e => e ▸ ⟨mC_Task T, mN_Task_frames T⟩) (qv 0)) qa_nil)) qa_nil))) (qg_nm (i := 2) nd (by rfl) (by first | exact .inl rfl | exact .inr rfl)) (qs_cons (qs_set (i := 3) nd (by rfl) (by first | exact .inl rfl | exact .inr rfl) (q_call ok_u_earliest_arrivals (hr.mono (by decide)) (by rfl) (mG__earliest_arrivals T) kp_u_earliest_arrivals bi_u_earliest_arrivals (qa_cons (qv 0) (qa_cons (qv 1) (qa_cons (qv 2) qa_nil))))) (qs_one (qs_if (t_cmp (op_eqV hr.units) l_eq (q_callB call_len l_len bt_len (by rfl) (m_len T) (qa_cons (qv 3) qa_nil)) (q_callB call_len l_len bt_len (by rfl) (m_len T) (qa_cons (qv 1) qa_nil)) (nomark _)) (qs_one (qs_ret (q_tup (qa_cons (qv 2) (qa_cons (qv 3) qa_nil))))) qs_nil)))) (qs_one (qs_ret q_non)))
def N_break_index : List PySem.Str := ((["task", "log", "longest", "start_frame"] : List PySem.Str))
def r_break_index (s_u_earliest_arrivals : SpD) (C_Task : Addr) : DS := (dSeq (dAsg (dCB oMax (dCons (dLc (diR1 (dCons (dCB oLen (dCons (dUn (oFld (· = C_Task) "frames") (dVar 0)) dNil)) dNil)) (.nm 3) dYes (dCB oLen (dCons (dCall s_u_earliest_arrivals (dCons (dVar 0) (dCons (dVar 1) (dCons (dVar 3) dNil)))) dNil)) [3]) dNil)) 2) (dSeq (dIfS (dB (dOp oEq (dVar 2) (dCB oLen (dCons (dVar 1) dNil)))) (dRet (dC .non)) dNext) (dRet (dVar 2))))
theorem sc_break_index : FnScope N_break_index ((["task", "log"] : List PySem.Str)) (defScope (top 36)) := ⟨rfl, rfl, rfl, by decide +kernel, rfl, by decide +kernel, by decide +kernel⟩
set_option maxHeartbeats 0 in
theorem ok_break_index {P : Program} {w : World} {K : PySem.W.Frag} {mg : PySem.Str → Option Value} {base : Heap} (T : Tx K mg) {s_u_earliest_arrivals : SpD} (g_u_earliest_arrivals : Good P w K mg base 4 (He.ga K "_earliest_arrivals") ((["task", "log", "start_frame"] : List PySem.Str)) s_u_earliest_arrivals) {sp : SpD} (len : ∀ ds l Q E, sp ds l Q E → ds.length = 2)
    (sat : ∀ ds l Q E, sp ds l Q E → r_break_index s_u_earliest_arrivals (He.ga K "Task") (fun _ l => Wr Q .non l) (Wr Q) noN noN (startD N_break_index ds) l) : Good P w K mg base 5 (He.ga K "break_index") ((["task", "log"] : List PySem.Str)) sp := by
  obtain ⟨fd, F⟩ := mF_break_index T
  obtain ⟨fd_u_earliest_arrivals, ok_u_earliest_arrivals, kp_u_earliest_arrivals, bi_u_earliest_arrivals⟩ := g_u_earliest_arrivals
  refine ⟨fd, zfn F sc_break_index sp _ len (fun cdv A outer s H E Γ hr => ?_) sat, F.kp, FunD.bindsN F fun _ _ _ _ _ _ us hl => match us, hl with | [_, _], _ => rfl⟩
  have nd := (sc_break_index).nd
  exact (qs_cons (qs_set (i := 2) nd (by rfl) (by first | exact .inl rfl | exact .inr rfl) (q_callB (call_maxV rfl) l_max bt_max (by rfl) (m_max T) (qa_cons (q_lc [("start_frame", 3)] (by rfl) nd (qi_r1 (by rfl) (m_range T) (fun Γ => (qa_cons (q_callB call_len l_len bt_len (by rfl) (m_len T) (qa_cons (q_fld (P := (· = _)) (fun _ e => e ▸ ⟨mC_Task T, mN_Task_frames T⟩) (qv 0)) qa_nil)) qa_nil))) (blkOk_by (by kernel_rfl)) (fun _ _ _ _ _ => (qg_nm (i := 3) nd (by rfl) (by first | exact .inl rfl | exact .inr rfl))) (fun _ _ _ _ _ => qts_nil) (fun _ _ _ _ _ Γ => (q_callB call_len l_len bt_len (by rfl) (m_len T) (qa_cons (q_call ok_u_earliest_arrivals (hr.mono (by decide)) (by rfl) (mG__earliest_arrivals T) kp_u_earliest_arrivals bi_u_earliest_arrivals (qa_cons (qv 0) (qa_cons (qv 1) (qa_cons (qv 3) qa_nil)))) qa_nil)))) qa_nil))) (qs_cons (qs_if (t_cmp (op_eqV hr.units) l_eq (qv 2) (q_callB call_len l_len bt_len (by rfl) (m_len T) (qa_cons (qv 1) qa_nil)) (nomark _)) (qs_one (qs_ret q_non)) qs_nil) (qs_one (qs_ret (qv 2)))))
def N_u_law_kept : List PySem.Str := ((["rows", "early", "first", "log", "arrival", "k", "here", "soonest"] : List PySem.Str))
def r_u_law_kept (s_u_law_low s_u_law_high : SpD) : DS := (dSeq (dAsg (dC (.int 0)) 4) (dSeq (dFor (diR1 (dCons (dCB oLen (dCons (dVar 3) dNil)) dNil)) (.nm 5) (dSeq (dAsg (dOp oIx (dVar 0) (dOp oMod (dCB oIntC (dCons (dOp oAdd (dVar 2) (dVar 5)) dNil)) (dCB oLen (dCons (dVar 0) dNil)))) 6) (dSeq (dAsg (dOp oSub (dOp oIx (dOp oIx (dVar 3) (dVar 5)) (dC (.int 0))) (dVar 1)) 7) (dSeq (dIfS (dB (dOp oGt (dVar 5) (dC (.int 0)))) (dSeq (dAsg (dCB oMax (dCons (dVar 7) (dCons (dOp oAdd (dVar 4) (dOp oIx (dOp oIx (dVar 0) (dOp oMod (dCB oIntC (dCons (dOp oSub (dOp oAdd (dVar 2) (dVar 5)) (dC (.int 1))) dNil)) (dCB oLen (dCons (dVar 0) dNil)))) (dC (.int 0)))) dNil))) 7) (dIfS (dB (dOp oLt (dOp oIx (dOp oIx (dVar 3) (dVar 5)) (dC (.int 0))) (dOp oIx (dOp oIx (dVar 3) (dOp oSub (dVar 5) (dC (.int 1)))) (dC (.int 0))))) (dRet (dTup (dCons (dVar 5) (dCons (dVar 4) dNil)))) dNext)) dNext) (dSeq (dIfS (dOr (dB (dOp oGt (dVar 7) (dOp oIx (dOp oIx (dVar 3) (dVar 5)) (dC (.int 0))))) (dOr (dB (dOp oLt (dOp oIx (dOp oIx (dVar 3) (dVar 5)) (dC (.int 1))) (dCall s_u_law_low (dCons (dVar 6) dNil)))) (dB (dOp oGt (dOp oIx (dOp oIx (dVar 3) (dVar 5)) (dC (.int 1))) (dCall s_u_law_high (dCons (dVar 6) dNil)))))) (dRet (dTup (dCons (dVar 5) (dCons (dVar 4) dNil)))) dNext) (dAsg (dVar 7) 4)))))) (dRet (dTup (dCons (dCB oLen (dCons (dVar 3) dNil)) (dCons (dVar 4) dNil))))))
theorem sc_u_law_kept : FnScope N_u_law_kept ((["rows", "early", "first", "log"] : List PySem.Str)) (defScope (top 49)) := ⟨rfl, rfl, rfl, by decide +kernel, rfl, by decide +kernel, by decide +kernel⟩
set_option maxHeartbeats 0 in
theorem ok_u_law_kept {P : Program} {w : World} {K : PySem.W.Frag} {mg : PySem.Str → Option Value} {base : Heap} (T : Tx K mg) {s_u_law_low : SpD} (g_u_law_low : Good P w K mg base 1 (He.ga K "_law_low") ((["row"] : List PySem.Str)) s_u_law_low) {s_u_law_high : SpD} (g_u_law_high : Good P w K mg base 1 (He.ga K "_law_high") ((["row"] : List PySem.Str)) s_u_law_high) {sp : SpD} (len : ∀ ds l Q E, sp ds l Q E → ds.length = 4)
    (sat : ∀ ds l Q E, sp ds l Q E → r_u_law_kept s_u_law_low s_u_law_high (fun _ l => Wr Q .non l) (Wr Q) noN noN (startD N_u_law_kept ds) l) : Good P w K mg base 2 (He.ga K "_law_kept") ((["rows", "early", "first", "log"] : List PySem.Str)) sp := by
  obtain ⟨fd, F⟩ := mF_u_law_kept T
  obtain ⟨fd_u_law_low, ok_u_law_low, kp_u_law_low, bi_u_law_low⟩ := g_u_law_low
  obtain ⟨fd_u_law_high, ok_u_law_high, kp_u_law_high, bi_u_law_high⟩ := g_u_law_high
  refine ⟨fd, zfn F sc_u_law_kept sp _ len (fun cdv A outer s H E Γ hr => ?_) sat, F.kp, FunD.bindsN F fun _ _ _ _ _ _ us hl => match us, hl with | [_, _, _, _], _ => rfl⟩
  have nd := (sc_u_law_kept).nd
  exact (qs_cons (qs_set (i := 4) nd (by rfl) (by first | exact .inl rfl | exact .inr rfl) q_int) (qs_cons (qs_for PassesOwn.never (by rfl) (qi_r1 (by rfl) (m_range T) (fun Γ => (qa_cons (q_callB call_len l_len bt_len (by rfl) (m_len T) (qa_cons (qv 3) qa_nil)) qa_nil))) (qg_nm (i := 5) nd (by rfl) (by first | exact .inl rfl | exact .inr rfl)) (qs_cons (qs_set (i := 6) nd (by rfl) (by first | exact .inl rfl | exact .inr rfl) (q_ix (qv 0) (q_op op_mod l_mod (q_callTy call_int1 l_intC bt_int (by rfl) (m_int T) (qa_cons (q_op op_addV l_add (qv 2) (qv 5)) qa_nil)) (q_callB call_len l_len bt_len (by rfl) (m_len T) (qa_cons (qv 0) qa_nil))))) (qs_cons (qs_set (i := 7) nd (by rfl) (by first | exact .inl rfl | exact .inr rfl) (q_op op_sub l_sub (q_ix (q_ix (qv 3) (qv 5)) q_int) (qv 1))) (qs_cons (qs_if (t_cmp op_gt l_gt (qv 5) q_int (nomark _)) (qs_cons (qs_set (i := 7) nd (by rfl) (by first | exact .inl rfl | exact .inr rfl) (q_callB (call_maxV rfl) l_max bt_max (by rfl) (m_max T) (qa_cons (qv 7) (qa_cons (q_op op_addV l_add (qv 4) (q_ix (q_ix (qv 0) (q_op op_mod l_mod (q_callTy call_int1 l_intC bt_int (by rfl) (m_int T) (qa_cons (q_op op_sub l_sub (q_op op_addV l_add (qv 2) (qv 5)) q_int) qa_nil)) (q_callB call_len l_len bt_len (by rfl) (m_len T) (qa_cons (qv 0) qa_nil)))) q_int)) qa_nil)))) (qs_one (qs_if (t_cmp op_ltV l_lt (q_ix (q_ix (qv 3) (qv 5)) q_int) (q_ix (q_ix (qv 3) (q_op op_sub l_sub (qv 5) q_int)) q_int) (nomark _)) (qs_one (qs_ret (q_tup (qa_cons (qv 5) (qa_cons (qv 4) qa_nil))))) qs_nil))) qs_nil) (qs_cons (qs_if (t_w (w_or (t_cmp op_gt l_gt (qv 7) (q_ix (q_ix (qv 3) (qv 5)) q_int) (nomark _)) (w_or (t_cmp op_ltV l_lt (q_ix (q_ix (qv 3) (qv 5)) q_int) (q_call ok_u_law_low (hr.mono (by decide)) (by rfl) (mG__law_low T) kp_u_law_low bi_u_law_low (qa_cons (qv 6) qa_nil)) (nomark _)) (w_or1 (t_cmp op_gt l_gt (q_ix (q_ix (qv 3) (qv 5)) q_int) (q_call ok_u_law_high (hr.mono (by decide)) (by rfl) (mG__law_high T) kp_u_law_high bi_u_law_high (qa_cons (qv 6) qa_nil)) (nomark _)))))) (qs_one (qs_ret (q_tup (qa_cons (qv 5) (qa_cons (qv 4) qa_nil))))) qs_nil) (qs_one (qs_set (i := 4) nd (by rfl) (by first | exact .inl rfl | exact .inr rfl) (qv 7)))))))) (qs_one (qs_ret (q_tup (qa_cons (q_callB call_len l_len bt_len (by rfl) (m_len T) (qa_cons (qv 3) qa_nil)) (qa_cons (qv 4) qa_nil)))))))
def N_u_law_due : List PySem.Str := ((["rows", "early", "log", "best", "first"] : List PySem.Str))
def r_u_law_due (s_u_law_kept : SpD) : DS := (dSeq (dAsg (dCB oMax (dCons (dLc (diR1 (dCons (dCB oLen (dCons (dVar 0) dNil)) dNil)) (.nm 4) dYes (dOp oIx (dCall s_u_law_kept (dCons (dVar 0) (dCons (dVar 1) (dCons (dVar 4) (dCons (dVar 2) dNil))))) (dC (.int 0))) [4]) dNil)) 3) (dSeq (dIfS (dB (dOp oEq (dVar 3) (dCB oLen (dCons (dVar 2) dNil)))) (dRet (dC .non)) dNext) (dRet (dVar 3))))
theorem sc_u_law_due : FnScope N_u_law_due ((["rows", "early", "log"] : List PySem.Str)) (defScope (top 50)) := ⟨rfl, rfl, rfl, by decide +kernel, rfl, by decide +kernel, by decide +kernel⟩
set_option maxHeartbeats 0 in
theorem ok_u_law_due {P : Program} {w : World} {K : PySem.W.Frag} {mg : PySem.Str → Option Value} {base : Heap} (T : Tx K mg) {s_u_law_kept : SpD} (g_u_law_kept : Good P w K mg base 2 (He.ga K "_law_kept") ((["rows", "early", "first", "log"] : List PySem.Str)) s_u_law_kept) {sp : SpD} (len : ∀ ds l Q E, sp ds l Q E → ds.length = 3)
    (sat : ∀ ds l Q E, sp ds l Q E → r_u_law_due s_u_law_kept (fun _ l => Wr Q .non l) (Wr Q) noN noN (startD N_u_law_due ds) l) : Good P w K mg base 3 (He.ga K "_law_due") ((["rows", "early", "log"] : List PySem.Str)) sp := by
  obtain ⟨fd, F⟩ := mF_u_law_due T
  obtain ⟨fd_u_law_kept, ok_u_law_kept, kp_u_law_kept, bi_u_law_kept⟩ := g_u_law_kept
  refine ⟨fd, zfn F sc_u_law_due sp _ len (fun cdv A outer s H E Γ hr => ?_) sat, F.kp, FunD.bindsN F fun _ _ _ _ _ _ us hl => match us, hl with | [_, _, _], _ => rfl⟩
  have nd := (sc_u_law_due).nd
  exact (qs_cons (qs_set (i := 3) nd (by rfl) (by first | exact .inl rfl | exact .inr rfl) (q_callB (call_maxV rfl) l_max bt_max (by rfl) (m_max T) (qa_cons (q_lc [("first", 4)] (by rfl) nd (qi_r1 (by rfl) (m_range T) (fun Γ => (qa_cons (q_callB call_len l_len bt_len (by rfl) (m_len T) (qa_cons (qv 0) qa_nil)) qa_nil))) (blkOk_by (by kernel_rfl)) (fun _ _ _ _ _ => (qg_nm (i := 4) nd (by rfl) (by first | exact .inl rfl | exact .inr rfl))) (fun _ _ _ _ _ => qts_nil) (fun _ _ _ _ _ Γ => (q_ix (q_call ok_u_law_kept (hr.mono (by decide)) (by rfl) (mG__law_kept T) kp_u_law_kept bi_u_law_kept (qa_cons (qv 0) (qa_cons (qv 1) (qa_cons (qv 4) (qa_cons (qv 2) qa_nil))))) q_int))) qa_nil))) (qs_cons (qs_if (t_cmp (op_eqV hr.units) l_eq (qv 3) (q_callB call_len l_len bt_len (by rfl) (m_len T) (qa_cons (qv 2) qa_nil)) (nomark _)) (qs_one (qs_ret q_non)) qs_nil) (qs_one (qs_ret (qv 3)))))
def N_u_law_number : List PySem.Str := ((["thing"] : List PySem.Str))
def r_u_law_number : DS := (dRet (dAndV (dUn (oIsi "int") (dVar 0)) (dNotV (dUn (oIsi "bool") (dVar 0)))))
theorem sc_u_law_number : FnScope N_u_law_number ((["thing"] : List PySem.Str)) (defScope (top 41)) := ⟨rfl, rfl, rfl, by decide +kernel, rfl, by decide +kernel, by decide +kernel⟩
set_option maxHeartbeats 0 in
theorem ok_u_law_number {P : Program} {w : World} {K : PySem.W.Frag} {mg : PySem.Str → Option Value} {base : Heap} (T : Tx K mg) {sp : SpD} (len : ∀ ds l Q E, sp ds l Q E → ds.length = 1)
    (sat : ∀ ds l Q E, sp ds l Q E → r_u_law_number (fun _ l => Wr Q .non l) (Wr Q) noN noN (startD N_u_law_number ds) l) : Good P w K mg base 1 (He.ga K "_law_number") ((["thing"] : List PySem.Str)) sp := by
  obtain ⟨fd, F⟩ := mF_u_law_number T
  refine ⟨fd, zfn F sc_u_law_number sp _ len (fun cdv A outer s H E Γ hr => ?_) sat, F.kp, FunD.bindsN F fun _ _ _ _ _ _ us hl => match us, hl with | [_], _ => rfl⟩
  have nd := (sc_u_law_number).nd
  exact (qs_one (qs_ret (q_and (q_isi (by decide) (by rfl) (m_isinstance T) (by rfl) (m_int T) bt_int (qv 0)) (q_one (q_not (q_isi (by decide) (by rfl) (m_isinstance T) (by rfl) (m_bool T) bt_bool (qv 0)))))))
def N_u_law_right : List PySem.Str := ((["task", "rows", "early", "log", "due", "handed", "answer"] : List PySem.Str))
def r_u_law_right (s_u_law_due s_break_index s_u_law_number : SpD) : DS := (dSeq (dAsg (dCall s_u_law_due (dCons (dVar 1) (dCons (dVar 2) (dCons (dVar 3) dNil)))) 4) (dSeq (dAsg (dCB oListC (dCons (dVar 3) dNil)) 5) (dSeq (dAsg (dCall s_break_index (dCons (dVar 0) (dCons (dVar 5) dNil))) 6) (dSeq (dIfS (dB (dOp oNe (dVar 5) (dVar 3))) (dRet (dC (.bl false))) dNext) (dSeq (dIfS (dB (dOp oIs (dVar 4) (dC .non))) (dRet (dOp oIs (dVar 6) (dC .non))) dNext) (dRet (dAndV (dCall s_u_law_number (dCons (dVar 6) dNil)) (dOp oEq (dVar 6) (dVar 4)))))))))
theorem sc_u_law_right : FnScope N_u_law_right ((["task", "rows", "early", "log"] : List PySem.Str)) (defScope (top 51)) := ⟨rfl, rfl, rfl, by decide +kernel, rfl, by decide +kernel, by decide +kernel⟩
set_option maxHeartbeats 0 in
theorem ok_u_law_right {P : Program} {w : World} {K : PySem.W.Frag} {mg : PySem.Str → Option Value} {base : Heap} (T : Tx K mg) {s_u_law_due : SpD} (g_u_law_due : Good P w K mg base 3 (He.ga K "_law_due") ((["rows", "early", "log"] : List PySem.Str)) s_u_law_due) {s_break_index : SpD} (g_break_index : Good P w K mg base 5 (He.ga K "break_index") ((["task", "log"] : List PySem.Str)) s_break_index) {s_u_law_number : SpD} (g_u_law_number : Good P w K mg base 1 (He.ga K "_law_number") ((["thing"] : List PySem.Str)) s_u_law_number) {sp : SpD} (len : ∀ ds l Q E, sp ds l Q E → ds.length = 4)
    (sat : ∀ ds l Q E, sp ds l Q E → r_u_law_right s_u_law_due s_break_index s_u_law_number (fun _ l => Wr Q .non l) (Wr Q) noN noN (startD N_u_law_right ds) l) : Good P w K mg base 6 (He.ga K "_law_right") ((["task", "rows", "early", "log"] : List PySem.Str)) sp := by
  obtain ⟨fd, F⟩ := mF_u_law_right T
  obtain ⟨fd_u_law_due, ok_u_law_due, kp_u_law_due, bi_u_law_due⟩ := g_u_law_due
  obtain ⟨fd_break_index, ok_break_index, kp_break_index, bi_break_index⟩ := g_break_index
  obtain ⟨fd_u_law_number, ok_u_law_number, kp_u_law_number, bi_u_law_number⟩ := g_u_law_number
  refine ⟨fd, zfn F sc_u_law_right sp _ len (fun cdv A outer s H E Γ hr => ?_) sat, F.kp, FunD.bindsN F fun _ _ _ _ _ _ us hl => match us, hl with | [_, _, _, _], _ => rfl⟩
  have nd := (sc_u_law_right).nd
  exact (qs_cons (qs_set (i := 4) nd (by rfl) (by first | exact .inl rfl | exact .inr rfl) (q_call ok_u_law_due (hr.mono (by decide)) (by rfl) (mG__law_due T) kp_u_law_due bi_u_law_due (qa_cons (qv 1) (qa_cons (qv 2) (qa_cons (qv 3) qa_nil))))) (qs_cons (qs_set (i := 5) nd (by rfl) (by first | exact .inl rfl | exact .inr rfl) (q_callTy call_list_of l_listC bt_list (by rfl) (m_list T) (qa_cons (qv 3) qa_nil))) (qs_cons (qs_set (i := 6) nd (by rfl) (by first | exact .inl rfl | exact .inr rfl) (q_call ok_break_index (hr.mono (by decide)) (by rfl) (mG_break_index T) kp_break_index bi_break_index (qa_cons (qv 0) (qa_cons (qv 5) qa_nil)))) (qs_cons (qs_if (t_cmp (op_neV hr.units) l_ne (qv 5) (qv 3) (nomark _)) (qs_one (qs_ret q_bl)) qs_nil) (qs_cons (qs_if (t_cmp op_isN l_is (qv 4) q_non (nomark _)) (qs_one (qs_ret (q_cmp op_isN l_is (qv 6) q_non (nomark _)))) qs_nil) (qs_one (qs_ret (q_and (q_call ok_u_law_number (hr.mono (by decide)) (by rfl) (mG__law_number T) kp_u_law_number bi_u_law_number (qa_cons (qv 6) qa_nil)) (q_one (q_cmp (op_eqV hr.units) l_eq (qv 6) (qv 4) (nomark _)))))))))))
def N_u_law_around : List PySem.Str := ((["bag", "task", "rows", "early", "log", "at", "junk", "m", "alive", "first", "here", "release", "length", "mended", "arrival"] : List PySem.Str))
def r_u_law_around (s_break_index s_explained s_u_law_take s_u_law_right s_u_law_kept s_u_law_low s_u_law_high : SpD) : DS := (dSeq (dIfS (dB (dOp oIsN (dCall s_break_index (dCons (dVar 1) (dCons (dSl (dVar 4) dNoPart (dPart (dVar 5))) dNil))) (dC .non))) (dRet (dC (.bl false))) dNext) (dSeq (dIfS (dOr (dB (dOp oIs (dCall s_explained (dCons (dVar 1) (dCons (dSl (dVar 4) dNoPart (dPart (dVar 5))) dNil))) (dC .non))) (dB (dOp oIsN (dCall s_explained (dCons (dVar 1) (dCons (dSl (dVar 4) dNoPart (dPart (dOp oAdd (dVar 5) (dC (.int 1))))) dNil))) (dC .non)))) (dRet (dC (.bl false))) dNext) (dSeq (dAsg (dLst dNil) 6) (dSeq (dFor (diR1 (dCons (dCall s_u_law_take (dCons (dVar 0) (dCons (dC (.int 4)) dNil))) dNil)) (.nm 7) (dDrop (dApp (dVar 6) (dTup (dCons (dOp oSub (dOp oAdd (dOp oIx (dOp oIx (dVar 4) (dVar 5)) (dC (.int 0))) (dCall s_u_law_take (dCons (dVar 0) (dCons (dC (.int 61)) dNil)))) (dC (.int 30))) (dCons (dOp oSub (dCall s_u_law_take (dCons (dVar 0) (dCons (dC (.int 12)) dNil))) (dC (.int 1))) dNil)))))) (dSeq (dIfS (dNot (dB (dCall s_u_law_right (dCons (dVar 1) (dCons (dVar 2) (dCons (dVar 3) (dCons (dOp oAdd (dSl (dVar 4) dNoPart (dPart (dOp oAdd (dVar 5) (dC (.int 1))))) (dVar 6)) dNil))))))) (dRet (dC (.bl false))) dNext) (dSeq (dAsg (dLc (diR1 (dCons (dCB oLen (dCons (dVar 2) dNil)) dNil)) (.nm 9) (dB (dOp oEq (dOp oIx (dCall s_u_law_kept (dCons (dVar 2) (dCons (dVar 3) (dCons (dVar 9) (dCons (dSl (dVar 4) dNoPart (dPart (dVar 5))) dNil))))) (dC (.int 0))) (dVar 5))) (dVar 9) [9]) 8) (dSeq (dAsg (dOp oIx (dVar 8) (dCall s_u_law_take (dCons (dVar 0) (dCons (dCB oLen (dCons (dVar 8) dNil)) dNil)))) 9) (dSeq (dAsg (dOp oIx (dVar 2) (dOp oMod (dCB oIntC (dCons (dOp oAdd (dVar 9) (dVar 5)) dNil)) (dCB oLen (dCons (dVar 2) dNil)))) 10) (dSeq (dAsg (dOp oIx (dOp oIx (dVar 4) (dVar 5)) (dC (.int 0))) 11) (dSeq (dIfS (dB (dOp oGt (dVar 5) (dC (.int 0)))) (dSeq (dAsg (dOp oAdd (dOp oIx (dCall s_u_law_kept (dCons (dVar 2) (dCons (dVar 3) (dCons (dVar 9) (dCons (dSl (dVar 4) dNoPart (dPart (dVar 5))) dNil))))) (dC (.int 1))) (dOp oIx (dOp oIx (dVar 2) (dOp oMod (dCB oIntC (dCons (dOp oSub (dOp oAdd (dVar 9) (dVar 5)) (dC (.int 1))) dNil)) (dCB oLen (dCons (dVar 2) dNil)))) (dC (.int 0)))) 14) (dAsg (dOp oAdd (dCB oMax (dCons (dOp oIx (dOp oIx (dVar 4) (dOp oSub (dVar 5) (dC (.int 1)))) (dC (.int 0))) (dCons (dVar 14) dNil))) (dCall s_u_law_take (dCons (dVar 0) (dCons (dC (.int 3)) dNil)))) 11)) dNext) (dSeq (dAsg (dOp oAdd (dCall s_u_law_low (dCons (dVar 10) dNil)) (dCall s_u_law_take (dCons (dVar 0) (dCons (dOp oAdd (dOp oSub (dCall s_u_law_high (dCons (dVar 10) dNil)) (dCall s_u_law_low (dCons (dVar 10) dNil))) (dC (.int 1))) dNil)))) 12) (dSeq (dAsg (dOp oAdd (dSl (dVar 4) dNoPart (dPart (dVar 5))) (dLst (dCons (dTup (dCons (dVar 11) (dCons (dVar 12) dNil))) dNil))) 13) (dSeq (dIfS (dOr (dB (dOp oIsN (dCall s_break_index (dCons (dVar 1) (dCons (dCB oListC (dCons (dVar 13) dNil)) dNil))) (dC .non))) (dB (dOp oIs (dCall s_explained (dCons (dVar 1) (dCons (dCB oListC (dCons (dVar 13) dNil)) dNil))) (dC .non)))) (dRet (dC (.bl false))) dNext) (dRet (dCall s_u_law_right (dCons (dVar 1) (dCons (dVar 2) (dCons (dVar 3) (dCons (dOp oAdd (dVar 13) (dSl (dVar 4) (dPart (dOp oAdd (dVar 5) (dC (.int 1)))) dNoPart)) dNil)))))))))))))))))))
theorem sc_u_law_around : FnScope N_u_law_around ((["bag", "task", "rows", "early", "log", "at"] : List PySem.Str)) (defScope (top 52)) := ⟨rfl, rfl, rfl, by decide +kernel, rfl, by decide +kernel, by decide +kernel⟩
set_option maxHeartbeats 0 in
theorem ok_u_law_around {P : Program} {w : World} {K : PySem.W.Frag} {mg : PySem.Str → Option Value} {base : Heap} (T : Tx K mg) {s_break_index : SpD} (g_break_index : Good P w K mg base 5 (He.ga K "break_index") ((["task", "log"] : List PySem.Str)) s_break_index) {s_explained : SpD} (g_explained : Good P w K mg base 5 (He.ga K "explained") ((["task", "log"] : List PySem.Str)) s_explained) {s_u_law_take : SpD} (g_u_law_take : Good P w K mg base 1 (He.ga K "_law_take") ((["bag", "many"] : List PySem.Str)) s_u_law_take) {s_u_law_right : SpD} (g_u_law_right : Good P w K mg base 6 (He.ga K "_law_right") ((["task", "rows", "early", "log"] : List PySem.Str)) s_u_law_right) {s_u_law_kept : SpD} (g_u_law_kept : Good P w K mg base 2 (He.ga K "_law_kept") ((["rows", "early", "first", "log"] : List PySem.Str)) s_u_law_kept) {s_u_law_low : SpD} (g_u_law_low : Good P w K mg base 1 (He.ga K "_law_low") ((["row"] : List PySem.Str)) s_u_law_low) {s_u_law_high : SpD} (g_u_law_high : Good P w K mg base 1 (He.ga K "_law_high") ((["row"] : List PySem.Str)) s_u_law_high) {sp : SpD} (len : ∀ ds l Q E, sp ds l Q E → ds.length = 6)
    (sat : ∀ ds l Q E, sp ds l Q E → r_u_law_around s_break_index s_explained s_u_law_take s_u_law_right s_u_law_kept s_u_law_low s_u_law_high (fun _ l => Wr Q .non l) (Wr Q) noN noN (startD N_u_law_around ds) l) : Good P w K mg base 7 (He.ga K "_law_around") ((["bag", "task", "rows", "early", "log", "at"] : List PySem.Str)) sp := by
  obtain ⟨fd, F⟩ := mF_u_law_around T
  obtain ⟨fd_break_index, ok_break_index, kp_break_index, bi_break_index⟩ := g_break_index
  obtain ⟨fd_explained, ok_explained, kp_explained, bi_explained⟩ := g_explained
  obtain ⟨fd_u_law_take, ok_u_law_take, kp_u_law_take, bi_u_law_take⟩ := g_u_law_take
  obtain ⟨fd_u_law_right, ok_u_law_right, kp_u_law_right, bi_u_law_right⟩ := g_u_law_right
  obtain ⟨fd_u_law_kept, ok_u_law_kept, kp_u_law_kept, bi_u_law_kept⟩ := g_u_law_kept
  obtain ⟨fd_u_law_low, ok_u_law_low, kp_u_law_low, bi_u_law_low⟩ := g_u_law_low
  obtain ⟨fd_u_law_high, ok_u_law_high, kp_u_law_high, bi_u_law_high⟩ := g_u_law_high
  refine ⟨fd, zfn F sc_u_law_around sp _ len (fun cdv A outer s H E Γ hr => ?_) sat, F.kp, FunD.bindsN F fun _ _ _ _ _ _ us hl => match us, hl with | [_, _, _, _, _, _], _ => rfl⟩
  have nd := (sc_u_law_around).nd
  exact (qs_cons (qs_if (t_cmp op_notN l_isN (q_call ok_break_index (hr.mono (by decide)) (by rfl) (mG_break_index T) kp_break_index bi_break_index (qa_cons (qv 1) (qa_cons (q_sl (qv 4) qo_none (qo_some (qv 5))) qa_nil))) q_non (nomark _)) (qs_one (qs_ret q_bl)) qs_nil) (qs_cons (qs_if (t_w (w_or (t_cmp op_isN l_is (q_call ok_explained (hr.mono (by decide)) (by rfl) (mG_explained T) kp_explained bi_explained (qa_cons (qv 1) (qa_cons (q_sl (qv 4) qo_none (qo_some (qv 5))) qa_nil))) q_non (nomark _)) (w_or1 (t_cmp op_notN l_isN (q_call ok_explained (hr.mono (by decide)) (by rfl) (mG_explained T) kp_explained bi_explained (qa_cons (qv 1) (qa_cons (q_sl (qv 4) qo_none (qo_some (q_op op_addV l_add (qv 5) q_int))) qa_nil))) q_non (nomark _))))) (qs_one (qs_ret q_bl)) qs_nil) (qs_cons (qs_set (i := 6) nd (by rfl) (by first | exact .inl rfl | exact .inr rfl) (q_lst qa_nil)) (qs_cons (qs_for PassesOwn.never (by rfl) (qi_r1 (by rfl) (m_range T) (fun Γ => (qa_cons (q_call ok_u_law_take (hr.mono (by decide)) (by rfl) (mG__law_take T) kp_u_law_take bi_u_law_take (qa_cons (qv 0) (qa_cons q_int qa_nil))) qa_nil))) (qg_nm (i := 7) nd (by rfl) (by first | exact .inl rfl | exact .inr rfl)) (qs_one (qs_expr (q_app (qv 6) (q_tup (qa_cons (q_op op_sub l_sub (q_op op_addV l_add (q_ix (q_ix (qv 4) (qv 5)) q_int) (q_call ok_u_law_take (hr.mono (by decide)) (by rfl) (mG__law_take T) kp_u_law_take bi_u_law_take (qa_cons (qv 0) (qa_cons q_int qa_nil)))) q_int) (qa_cons (q_op op_sub l_sub (q_call ok_u_law_take (hr.mono (by decide)) (by rfl) (mG__law_take T) kp_u_law_take bi_u_law_take (qa_cons (qv 0) (qa_cons q_int qa_nil))) q_int) qa_nil))))))) (qs_cons (qs_if (t_not (t_val (q_call ok_u_law_right (hr.mono (by decide)) (by rfl) (mG__law_right T) kp_u_law_right bi_u_law_right (qa_cons (qv 1) (qa_cons (qv 2) (qa_cons (qv 3) (qa_cons (q_op op_addV l_add (q_sl (qv 4) qo_none (qo_some (q_op op_addV l_add (qv 5) q_int))) (qv 6)) qa_nil))))))) (qs_one (qs_ret q_bl)) qs_nil) (qs_cons (qs_setLc [("first", 9)] (i := 8) (by rfl) nd (by rfl) (by rfl) (sw_true (by rfl) (by rfl) (by rfl) (by decide +kernel)) (qi_r1 (by rfl) (m_range T) (fun Γ => (qa_cons (q_callB call_len l_len bt_len (by rfl) (m_len T) (qa_cons (qv 2) qa_nil)) qa_nil))) (blkOk_by (by kernel_rfl)) (fun _ _ _ _ _ => (qg_nm (i := 9) nd (by rfl) (by first | exact .inl rfl | exact .inr rfl))) (fun _ _ _ _ _ => (qts_one (fun Γ => (t_cmp (op_eqV hr.units) l_eq (q_ix (q_call ok_u_law_kept (hr.mono (by decide)) (by rfl) (mG__law_kept T) kp_u_law_kept bi_u_law_kept (qa_cons (qv 2) (qa_cons (qv 3) (qa_cons (qv 9) (qa_cons (q_sl (qv 4) qo_none (qo_some (qv 5))) qa_nil))))) q_int) (qv 5) (nomark _))))) (fun _ _ _ _ _ Γ => (qv 9))) (qs_cons (qs_set (i := 9) nd (by rfl) (by first | exact .inl rfl | exact .inr rfl) (q_ix (qv 8) (q_call ok_u_law_take (hr.mono (by decide)) (by rfl) (mG__law_take T) kp_u_law_take bi_u_law_take (qa_cons (qv 0) (qa_cons (q_callB call_len l_len bt_len (by rfl) (m_len T) (qa_cons (qv 8) qa_nil)) qa_nil))))) (qs_cons (qs_set (i := 10) nd (by rfl) (by first | exact .inl rfl | exact .inr rfl) (q_ix (qv 2) (q_op op_mod l_mod (q_callTy call_int1 l_intC bt_int (by rfl) (m_int T) (qa_cons (q_op op_addV l_add (qv 9) (qv 5)) qa_nil)) (q_callB call_len l_len bt_len (by rfl) (m_len T) (qa_cons (qv 2) qa_nil))))) (qs_cons (qs_set (i := 11) nd (by rfl) (by first | exact .inl rfl | exact .inr rfl) (q_ix (q_ix (qv 4) (qv 5)) q_int)) (qs_cons (qs_if (t_cmp op_gt l_gt (qv 5) q_int (nomark _)) (qs_cons (qs_set (i := 14) nd (by rfl) (by first | exact .inl rfl | exact .inr rfl) (q_op op_addV l_add (q_ix (q_call ok_u_law_kept (hr.mono (by decide)) (by rfl) (mG__law_kept T) kp_u_law_kept bi_u_law_kept (qa_cons (qv 2) (qa_cons (qv 3) (qa_cons (qv 9) (qa_cons (q_sl (qv 4) qo_none (qo_some (qv 5))) qa_nil))))) q_int) (q_ix (q_ix (qv 2) (q_op op_mod l_mod (q_callTy call_int1 l_intC bt_int (by rfl) (m_int T) (qa_cons (q_op op_sub l_sub (q_op op_addV l_add (qv 9) (qv 5)) q_int) qa_nil)) (q_callB call_len l_len bt_len (by rfl) (m_len T) (qa_cons (qv 2) qa_nil)))) q_int))) (qs_one (qs_set (i := 11) nd (by rfl) (by first | exact .inl rfl | exact .inr rfl) (q_op op_addV l_add (q_callB (call_maxV rfl) l_max bt_max (by rfl) (m_max T) (qa_cons (q_ix (q_ix (qv 4) (q_op op_sub l_sub (qv 5) q_int)) q_int) (qa_cons (qv 14) qa_nil))) (q_call ok_u_law_take (hr.mono (by decide)) (by rfl) (mG__law_take T) kp_u_law_take bi_u_law_take (qa_cons (qv 0) (qa_cons q_int qa_nil))))))) qs_nil) (qs_cons (qs_set (i := 12) nd (by rfl) (by first | exact .inl rfl | exact .inr rfl) (q_op op_addV l_add (q_call ok_u_law_low (hr.mono (by decide)) (by rfl) (mG__law_low T) kp_u_law_low bi_u_law_low (qa_cons (qv 10) qa_nil)) (q_call ok_u_law_take (hr.mono (by decide)) (by rfl) (mG__law_take T) kp_u_law_take bi_u_law_take (qa_cons (qv 0) (qa_cons (q_op op_addV l_add (q_op op_sub l_sub (q_call ok_u_law_high (hr.mono (by decide)) (by rfl) (mG__law_high T) kp_u_law_high bi_u_law_high (qa_cons (qv 10) qa_nil)) (q_call ok_u_law_low (hr.mono (by decide)) (by rfl) (mG__law_low T) kp_u_law_low bi_u_law_low (qa_cons (qv 10) qa_nil))) q_int) qa_nil))))) (qs_cons (qs_set (i := 13) nd (by rfl) (by first | exact .inl rfl | exact .inr rfl) (q_op op_addV l_add (q_sl (qv 4) qo_none (qo_some (qv 5))) (q_lst (qa_cons (q_tup (qa_cons (qv 11) (qa_cons (qv 12) qa_nil))) qa_nil)))) (qs_cons (qs_if (t_w (w_or (t_cmp op_notN l_isN (q_call ok_break_index (hr.mono (by decide)) (by rfl) (mG_break_index T) kp_break_index bi_break_index (qa_cons (qv 1) (qa_cons (q_callTy call_list_of l_listC bt_list (by rfl) (m_list T) (qa_cons (qv 13) qa_nil)) qa_nil))) q_non (nomark _)) (w_or1 (t_cmp op_isN l_is (q_call ok_explained (hr.mono (by decide)) (by rfl) (mG_explained T) kp_explained bi_explained (qa_cons (qv 1) (qa_cons (q_callTy call_list_of l_listC bt_list (by rfl) (m_list T) (qa_cons (qv 13) qa_nil)) qa_nil))) q_non (nomark _))))) (qs_one (qs_ret q_bl)) qs_nil) (qs_one (qs_ret (q_call ok_u_law_right (hr.mono (by decide)) (by rfl) (mG__law_right T) kp_u_law_right bi_u_law_right (qa_cons (qv 1) (qa_cons (qv 2) (qa_cons (qv 3) (qa_cons (q_op op_addV l_add (qv 13) (q_sl (qv 4) (qo_some (q_op op_addV l_add (qv 5) q_int)) qo_none)) qa_nil))))))))))))))))))))
def N_law : List PySem.Str := ((["script", "bag", "size", "large", "early", "rows", "task", "log", "m", "at", "release", "pair", "row"] : List PySem.Str))
def r_law (s_u_law_bag s_u_law_take s_u_law_rows s_Task____init__ s_u_law_word s_u_law_good s_u_law_right s_u_law_bent s_u_law_due s_u_law_high s_u_law_around : SpD) (C_Task : Addr) : DS := (dSeq (dAsg (dCall s_u_law_bag (dCons (dVar 0) (dCons (dC (.int 0)) dNil))) 1) (dSeq (dAsg (dOp oAdd (dC (.int 1)) (dCall s_u_law_take (dCons (dVar 1) (dCons (dC (.int 4)) dNil)))) 2) (dSeq (dAsg (dOp oEq (dCall s_u_law_take (dCons (dVar 1) (dCons (dC (.int 8)) dNil))) (dC (.int 7))) 3) (dSeq (dAsg (dOp oIx (dLst (dCons (dC (.int 0)) (dCons (dC (.int 0)) (dCons (dC (.int 1)) (dCons (dC (.int 2)) (dCons (dC (.int 3)) (dCons (dC (.int 5)) dNil))))))) (dCall s_u_law_take (dCons (dVar 1) (dCons (dC (.int 6)) dNil)))) 4) (dSeq (dIfS (dB (dVar 3)) (dAsg (dCall s_u_law_take (dCons (dVar 1) (dCons (dC (.int 240)) dNil))) 4) dNext) (dSeq (dAsg (dCall s_u_law_rows (dCons (dVar 0) (dCons (dVar 2) (dCons (dOp oAdd (dOp oAdd (dVar 4) (dC (.int 1))) (dCall s_u_law_take (dCons (dVar 1) (dCons (dC (.int 240)) dNil)))) (dCons (dVar 3) dNil))))) 5) (dSeq (dAsg (dMake C_Task s_Task____init__ (fun a b => a ++ b) 2 1 (dCons (dCall s_u_law_word (dCons (dVar 1) dNil)) (dCons (dCB oListC (dCons (dVar 5) dNil)) dNil)) (dCons (dVar 4) dNil)) 6) (dSeq (dAsg (dCall s_u_law_good (dCons (dVar 0) (dCons (dVar 5) (dCons (dVar 4) dNil)))) 7) (dSeq (dIfS (dNot (dB (dCall s_u_law_right (dCons (dVar 6) (dCons (dVar 5) (dCons (dVar 4) (dCons (dVar 7) dNil))))))) (dRet (dC (.bl false))) dNext) (dSeq (dFor (diR1 (dCons (dCall s_u_law_take (dCons (dVar 1) (dCons (dC (.int 3)) dNil))) dNil)) (.nm 8) (dIfS (dB (dOp oGt (dCB oLen (dCons (dVar 7) dNil)) (dC (.int 0)))) (dAsg (dCall s_u_law_bent (dCons (dVar 1) (dCons (dVar 7) (dCons (dCall s_u_law_take (dCons (dVar 1) (dCons (dCB oLen (dCons (dVar 7) dNil)) dNil))) dNil)))) 7) dNext)) (dSeq (dIfS (dNot (dB (dCall s_u_law_right (dCons (dVar 6) (dCons (dVar 5) (dCons (dVar 4) (dCons (dVar 7) dNil))))))) (dRet (dC (.bl false))) dNext) (dSeq (dAsg (dCall s_u_law_due (dCons (dVar 5) (dCons (dVar 4) (dCons (dVar 7) dNil)))) 9) (dSeq (dIfS (dB (dOp oIs (dVar 9) (dC .non))) (dSeq (dAsg (dCB oLen (dCons (dVar 7) dNil)) 9) (dSeq (dAsg (dOp oAdd (dCB oSum (dCons (dLc (diAny (dSl (dVar 7) (dPart (dUn oNeg (dC (.int 1)))) dNoPart)) (.nm 11) dYes (dOp oIx (dVar 11) (dC (.int 0))) [11]) dNil)) (dC (.int 240))) 10) (dSeq (dAsg (dOp oAdd (dVar 7) (dLst (dCons (dTup (dCons (dVar 10) (dCons (dOp oAdd (dOp oAdd (dCB oMax (dCons (dLc (diAny (dVar 5)) (.nm 12) dYes (dCall s_u_law_high (dCons (dVar 12) dNil)) [12]) dNil)) (dC (.int 1))) (dCall s_u_law_take (dCons (dVar 1) (dCons (dC (.int 3)) dNil)))) dNil))) dNil))) 7) (dIfS (dNot (dB (dCall s_u_law_right (dCons (dVar 6) (dCons (dVar 5) (dCons (dVar 4) (dCons (dVar 7) dNil))))))) (dRet (dC (.bl false))) dNext)))) dNext) (dRet (dCall s_u_law_around (dCons (dVar 1) (dCons (dVar 6) (dCons (dVar 5) (dCons (dVar 4) (dCons (dVar 7) (dCons (dVar 9) dNil)))))))))))))))))))))
theorem sc_law : FnScope N_law ((["script"] : List PySem.Str)) (defScope (top 53)) := ⟨rfl, rfl, rfl, by decide +kernel, rfl, by decide +kernel, by decide +kernel⟩
set_option maxHeartbeats 0 in
theorem okL_law {P : Program} {w : World} {K : PySem.W.Frag} {mg : PySem.Str → Option Value} {base : Heap} (T : Tx K mg) {s_u_law_bag : SpD} (g_u_law_bag : Good P w K mg base 2 (He.ga K "_law_bag") ((["script", "spot"] : List PySem.Str)) s_u_law_bag) {s_u_law_take : SpD} (g_u_law_take : Good P w K mg base 1 (He.ga K "_law_take") ((["bag", "many"] : List PySem.Str)) s_u_law_take) {s_u_law_rows : SpD} (g_u_law_rows : Good P w K mg base 3 (He.ga K "_law_rows") ((["script", "size", "end", "large"] : List PySem.Str)) s_u_law_rows) {s_Task____init__ : SpD} (g_Task____init__ : GoodK P w K mg base 6 (He.ma K (He.ga K "Task") "__init__") ((["self", "name", "frames", "jitter"] : List PySem.Str)) 3 ((["jitter"] : List PySem.Str)) s_Task____init__) {s_u_law_word : SpD} (g_u_law_word : Good P w K mg base 2 (He.ga K "_law_word") ((["bag"] : List PySem.Str)) s_u_law_word) {s_u_law_good : SpD} (g_u_law_good : Good P w K mg base 3 (He.ga K "_law_good") ((["script", "rows", "early"] : List PySem.Str)) s_u_law_good) {s_u_law_right : SpD} (g_u_law_right : Good P w K mg base 6 (He.ga K "_law_right") ((["task", "rows", "early", "log"] : List PySem.Str)) s_u_law_right) {s_u_law_bent : SpD} (g_u_law_bent : Good P w K mg base 2 (He.ga K "_law_bent") ((["bag", "log", "at"] : List PySem.Str)) s_u_law_bent) {s_u_law_due : SpD} (g_u_law_due : Good P w K mg base 3 (He.ga K "_law_due") ((["rows", "early", "log"] : List PySem.Str)) s_u_law_due) {s_u_law_high : SpD} (g_u_law_high : Good P w K mg base 1 (He.ga K "_law_high") ((["row"] : List PySem.Str)) s_u_law_high) {s_u_law_around : SpD} (g_u_law_around : Good P w K mg base 7 (He.ga K "_law_around") ((["bag", "task", "rows", "early", "log", "at"] : List PySem.Str)) s_u_law_around) {sp : SpD} (len : ∀ ds l Q E, sp ds l Q E → ds.length = 1)
    (sat : ∀ ds l Q E, sp ds l Q E → r_law s_u_law_bag s_u_law_take s_u_law_rows s_Task____init__ s_u_law_word s_u_law_good s_u_law_right s_u_law_bent s_u_law_due s_u_law_high s_u_law_around (He.ga K "Task") (fun _ l => Wr Q .non l) (Wr Q) noN noN (startD N_law ds) l) {fd : FuncData} (F : FunD K "law" "law" (defArgs (top 53)) (defBody (top 53)) (defScope (top 53)) [] [] (He.ga K "law") fd) : FnOk P w K mg base CX0 8 (He.ga K "law") fd ((["script"] : List PySem.Str)) (lsp K sp) := by
  obtain ⟨fd_u_law_bag, ok_u_law_bag, kp_u_law_bag, bi_u_law_bag⟩ := g_u_law_bag
  obtain ⟨fd_u_law_take, ok_u_law_take, kp_u_law_take, bi_u_law_take⟩ := g_u_law_take
  obtain ⟨fd_u_law_rows, ok_u_law_rows, kp_u_law_rows, bi_u_law_rows⟩ := g_u_law_rows
  obtain ⟨fd_Task____init__, gv_Task____init__, gV_Task____init__, ok_Task____init__, kp_Task____init__, kb_Task____init__, kr_Task____init__⟩ := g_Task____init__
  obtain ⟨fd_u_law_word, ok_u_law_word, kp_u_law_word, bi_u_law_word⟩ := g_u_law_word
  obtain ⟨fd_u_law_good, ok_u_law_good, kp_u_law_good, bi_u_law_good⟩ := g_u_law_good
  obtain ⟨fd_u_law_right, ok_u_law_right, kp_u_law_right, bi_u_law_right⟩ := g_u_law_right
  obtain ⟨fd_u_law_bent, ok_u_law_bent, kp_u_law_bent, bi_u_law_bent⟩ := g_u_law_bent
  obtain ⟨fd_u_law_due, ok_u_law_due, kp_u_law_due, bi_u_law_due⟩ := g_u_law_due
  obtain ⟨fd_u_law_high, ok_u_law_high, kp_u_law_high, bi_u_law_high⟩ := g_u_law_high
  obtain ⟨fd_u_law_around, ok_u_law_around, kp_u_law_around, bi_u_law_around⟩ := g_u_law_around
  refine zfn F sc_law sp _ len (fun cdv A outer s H E Γ hr => ?_) sat
  have nd := (sc_law).nd
  exact (qs_cons (qs_set (i := 1) nd (by rfl) (by first | exact .inl rfl | exact .inr rfl) (q_call ok_u_law_bag (hr.mono (by decide)) (by rfl) (mG__law_bag T) kp_u_law_bag bi_u_law_bag (qa_cons (qv 0) (qa_cons q_int qa_nil)))) (qs_cons (qs_set (i := 2) nd (by rfl) (by first | exact .inl rfl | exact .inr rfl) (q_op op_addV l_add q_int (q_call ok_u_law_take (hr.mono (by decide)) (by rfl) (mG__law_take T) kp_u_law_take bi_u_law_take (qa_cons (qv 1) (qa_cons q_int qa_nil))))) (qs_cons (qs_set (i := 3) nd (by rfl) (by first | exact .inl rfl | exact .inr rfl) (q_cmp (op_eqV hr.units) l_eq (q_call ok_u_law_take (hr.mono (by decide)) (by rfl) (mG__law_take T) kp_u_law_take bi_u_law_take (qa_cons (qv 1) (qa_cons q_int qa_nil))) q_int (nomark _))) (qs_cons (qs_set (i := 4) nd (by rfl) (by first | exact .inl rfl | exact .inr rfl) (q_ix (q_lst (qa_cons q_int (qa_cons q_int (qa_cons q_int (qa_cons q_int (qa_cons q_int (qa_cons q_int qa_nil))))))) (q_call ok_u_law_take (hr.mono (by decide)) (by rfl) (mG__law_take T) kp_u_law_take bi_u_law_take (qa_cons (qv 1) (qa_cons q_int qa_nil))))) (qs_cons (qs_if (t_val (qv 3)) (qs_one (qs_set (i := 4) nd (by rfl) (by first | exact .inl rfl | exact .inr rfl) (q_call ok_u_law_take (hr.mono (by decide)) (by rfl) (mG__law_take T) kp_u_law_take bi_u_law_take (qa_cons (qv 1) (qa_cons q_int qa_nil))))) qs_nil) (qs_cons (qs_set (i := 5) nd (by rfl) (by first | exact .inl rfl | exact .inr rfl) (q_call ok_u_law_rows (hr.mono (by decide)) (by rfl) (mG__law_rows T) kp_u_law_rows bi_u_law_rows (qa_cons (qv 0) (qa_cons (qv 2) (qa_cons (q_op op_addV l_add (q_op op_addV l_add (qv 4) q_int) (q_call ok_u_law_take (hr.mono (by decide)) (by rfl) (mG__law_take T) kp_u_law_take bi_u_law_take (qa_cons (qv 1) (qa_cons q_int qa_nil)))) (qa_cons (qv 3) qa_nil)))))) (qs_cons (qs_set (i := 6) nd (by rfl) (by first | exact .inl rfl | exact .inr rfl) (q_makeK (gD := fun a b => a ++ b) (ks := ((["jitter"] : List PySem.Str))) (n := 2) (mK_Task T) ok_Task____init__ (hr.mono (by decide)) (by rfl) (mG_Task T) kb_Task____init__ kr_Task____init__ (qa_cons (q_call ok_u_law_word (hr.mono (by decide)) (by rfl) (mG__law_word T) kp_u_law_word bi_u_law_word (qa_cons (qv 1) qa_nil)) (qa_cons (q_callTy call_list_of l_listC bt_list (by rfl) (m_list T) (qa_cons (qv 5) qa_nil)) qa_nil)) (qk_cons (qv 4) qk_nil))) (qs_cons (qs_set (i := 7) nd (by rfl) (by first | exact .inl rfl | exact .inr rfl) (q_call ok_u_law_good (hr.mono (by decide)) (by rfl) (mG__law_good T) kp_u_law_good bi_u_law_good (qa_cons (qv 0) (qa_cons (qv 5) (qa_cons (qv 4) qa_nil))))) (qs_cons (qs_if (t_not (t_val (q_call ok_u_law_right (hr.mono (by decide)) (by rfl) (mG__law_right T) kp_u_law_right bi_u_law_right (qa_cons (qv 6) (qa_cons (qv 5) (qa_cons (qv 4) (qa_cons (qv 7) qa_nil))))))) (qs_one (qs_ret q_bl)) qs_nil) (qs_cons (qs_for PassesOwn.never (by rfl) (qi_r1 (by rfl) (m_range T) (fun Γ => (qa_cons (q_call ok_u_law_take (hr.mono (by decide)) (by rfl) (mG__law_take T) kp_u_law_take bi_u_law_take (qa_cons (qv 1) (qa_cons q_int qa_nil))) qa_nil))) (qg_nm (i := 8) nd (by rfl) (by first | exact .inl rfl | exact .inr rfl)) (qs_one (qs_if (t_cmp op_gt l_gt (q_callB call_len l_len bt_len (by rfl) (m_len T) (qa_cons (qv 7) qa_nil)) q_int (nomark _)) (qs_one (qs_set (i := 7) nd (by rfl) (by first | exact .inl rfl | exact .inr rfl) (q_call ok_u_law_bent (hr.mono (by decide)) (by rfl) (mG__law_bent T) kp_u_law_bent bi_u_law_bent (qa_cons (qv 1) (qa_cons (qv 7) (qa_cons (q_call ok_u_law_take (hr.mono (by decide)) (by rfl) (mG__law_take T) kp_u_law_take bi_u_law_take (qa_cons (qv 1) (qa_cons (q_callB call_len l_len bt_len (by rfl) (m_len T) (qa_cons (qv 7) qa_nil)) qa_nil))) qa_nil)))))) qs_nil))) (qs_cons (qs_if (t_not (t_val (q_call ok_u_law_right (hr.mono (by decide)) (by rfl) (mG__law_right T) kp_u_law_right bi_u_law_right (qa_cons (qv 6) (qa_cons (qv 5) (qa_cons (qv 4) (qa_cons (qv 7) qa_nil))))))) (qs_one (qs_ret q_bl)) qs_nil) (qs_cons (qs_set (i := 9) nd (by rfl) (by first | exact .inl rfl | exact .inr rfl) (q_call ok_u_law_due (hr.mono (by decide)) (by rfl) (mG__law_due T) kp_u_law_due bi_u_law_due (qa_cons (qv 5) (qa_cons (qv 4) (qa_cons (qv 7) qa_nil))))) (qs_cons (qs_if (t_cmp op_isN l_is (qv 9) q_non (nomark _)) (qs_cons (qs_set (i := 9) nd (by rfl) (by first | exact .inl rfl | exact .inr rfl) (q_callB call_len l_len bt_len (by rfl) (m_len T) (qa_cons (qv 7) qa_nil))) (qs_cons (qs_set (i := 10) nd (by rfl) (by first | exact .inl rfl | exact .inr rfl) (q_op op_addV l_add (q_callB (cr_sum rfl) l_sum bt_sum (by rfl) (m_sum T) (qa_cons (q_lc [("pair", 11)] (by rfl) nd (qi_any (fun Γ => (q_sl (qv 7) (qo_some (q_un un_neg l_neg q_int)) qo_none))) (blkOk_by (by kernel_rfl)) (fun _ _ _ _ _ => (qg_nm (i := 11) nd (by rfl) (by first | exact .inl rfl | exact .inr rfl))) (fun _ _ _ _ _ => qts_nil) (fun _ _ _ _ _ Γ => (q_ix (qv 11) q_int))) qa_nil)) q_int)) (qs_cons (qs_set (i := 7) nd (by rfl) (by first | exact .inl rfl | exact .inr rfl) (q_op op_addV l_add (qv 7) (q_lst (qa_cons (q_tup (qa_cons (qv 10) (qa_cons (q_op op_addV l_add (q_op op_addV l_add (q_callB (call_maxV rfl) l_max bt_max (by rfl) (m_max T) (qa_cons (q_lc [("row", 12)] (by rfl) nd (qi_any (fun Γ => (qv 5))) (blkOk_by (by kernel_rfl)) (fun _ _ _ _ _ => (qg_nm (i := 12) nd (by rfl) (by first | exact .inl rfl | exact .inr rfl))) (fun _ _ _ _ _ => qts_nil) (fun _ _ _ _ _ Γ => (q_call ok_u_law_high (hr.mono (by decide)) (by rfl) (mG__law_high T) kp_u_law_high bi_u_law_high (qa_cons (qv 12) qa_nil)))) qa_nil)) q_int) (q_call ok_u_law_take (hr.mono (by decide)) (by rfl) (mG__law_take T) kp_u_law_take bi_u_law_take (qa_cons (qv 1) (qa_cons q_int qa_nil)))) qa_nil))) qa_nil)))) (qs_one (qs_if (t_not (t_val (q_call ok_u_law_right (hr.mono (by decide)) (by rfl) (mG__law_right T) kp_u_law_right bi_u_law_right (qa_cons (qv 6) (qa_cons (qv 5) (qa_cons (qv 4) (qa_cons (qv 7) qa_nil))))))) (qs_one (qs_ret q_bl)) qs_nil))))) qs_nil) (qs_one (qs_ret (q_call ok_u_law_around (hr.mono (by decide)) (by rfl) (mG__law_around T) kp_u_law_around bi_u_law_around (qa_cons (qv 1) (qa_cons (qv 6) (qa_cons (qv 5) (qa_cons (qv 4) (qa_cons (qv 7) (qa_cons (qv 9) qa_nil))))))))))))))))))))))
local macro_rules
  | `(tactic| walk_at "zm") => `(tactic| (repeat (first | exact List.mem_cons_self | refine List.mem_cons_of_mem _ ?_)))
local macro_rules
  | `(tactic| walk_at "zmul") => `(tactic| first | exact mulR (by decide) (by decide) | exact mulL (by decide) (by decide) | exact mulR (by omega) (by omega) | exact mulL (by omega) (by omega))
local macro_rules
  | `(tactic| walk_at "z0") => `(tactic| first
    | (with_reducible refine s_var ?_ rfl) | (with_reducible refine s_cons ?_) | (with_reducible refine s_nil ?_) | (with_reducible refine s_op ?_) | (with_reducible refine s_c ?_)
    | (with_reducible refine s_asg ?_) | (with_reducible refine s_cb ?_) | (with_reducible refine s_call ?_) | (with_reducible refine s_fz ?_) | (with_reducible refine s_if ?_) | (with_reducible refine s_B ?_)
    | (with_reducible refine s_bl ?_) | (with_reducible refine s_next ?_) | (with_reducible refine s_un ?_) | (with_reducible refine s_ret ?_) | (with_reducible refine s_retN ?_) | (with_reducible refine s_drop ?_)
    | (with_reducible refine s_asgT ?_) | (with_reducible refine s_put ?_) | (with_reducible refine s_putT ?_) | (with_reducible refine s_puts ?_) | (with_reducible refine s_puts0 ?_) | (with_reducible refine s_add ?_)
    | (with_reducible refine s_sub ?_) | ((with_reducible refine g_mul ?_); first | refine s_mul ?_ (by walk_at "zmul") | refine s_mul ?_ ?_) | ((with_reducible refine g_mod ?_); first | refine s_mod ?_ (by first | decide | omega | assumption) | refine s_mod ?_ ?_) | ((with_reducible refine g_div ?_); first | refine s_div ?_ (by first | exact divS (by decide) (by decide) | exact divS (by omega) (by omega)) | refine s_div ?_ ?_) | ((with_reducible refine g_pow ?_); refine s_pow ?_ (by with_unfolding_all exact ⟨by decide, by decide, by decide⟩)) | (with_reducible refine s_neg ?_)
    | (with_reducible refine s_eqI ?_) | (with_reducible refine s_neI ?_) | (with_reducible refine s_eqS ?_) | (with_reducible refine s_neS ?_) | (with_reducible refine s_lt ?_) | (with_reducible refine s_le ?_)
    | (with_reducible refine s_gt ?_) | (with_reducible refine s_ge ?_) | (with_reducible refine s_ltS ?_) | (with_reducible refine s_leS ?_) | (with_reducible refine s_is ?_) | (with_reducible refine s_isN ?_)
    | (with_reducible refine s_andT ?_) | (with_reducible refine s_orT ?_) | (with_reducible refine s_notT ?_) | (with_reducible refine s_andV ?_) | (with_reducible refine s_orV ?_) | (with_reducible refine s_notV ?_)
    | (with_reducible refine s_ifE ?_) | (with_reducible refine s_ch ?_) | (with_reducible refine s_ch3 ?_) | (with_reducible refine s_tup ?_) | (with_reducible refine s_lst ?_) | (with_reducible refine s_and ?_ (Nat.le_of_ble_eq_true rfl))
    | (with_reducible refine s_intC ?_) | (with_reducible refine s_abs ?_) | (with_reducible refine s_max2 ?_) | (with_reducible refine s_min2 ?_) | (with_reducible refine s_lenL ?_) | (with_reducible refine s_lenT ?_)
    | (with_reducible refine s_lenC ?_) | ((with_reducible refine g_lenR ?_); refine s_lenR (by walk_at "zm") ?_) | (with_reducible refine s_sumL ?_) | (with_reducible refine s_listL ?_) | (with_reducible refine s_listT ?_) | (with_reducible refine s_listC ?_)
    | ((with_reducible refine g_listR ?_); refine s_listR (by walk_at "zm") ?_) | (with_reducible refine s_tupL ?_) | (with_reducible refine s_tupT ?_) | ((with_reducible refine g_tupR ?_); refine s_tupR (by walk_at "zm") ?_) | ((with_reducible refine g_ixT ?_); refine s_ixT (by first | exact at0 | exact at1 | exact at2 | exact at3 | exact at4 | assumption) ?_) | ((with_reducible refine g_ixL ?_); refine s_ixL (by first | exact at0 | exact at1 | exact at2 | exact at3 | exact at4 | assumption) ?_)
    | ((with_reducible refine g_ixC ?_); refine s_ixC (by first | exact at0 | exact at1 | exact at2 | exact at3 | exact at4 | assumption) ?_) | ((with_reducible refine g_ixR ?_); refine s_ixR (by walk_at "zm") (by first | exact at0 | exact at1 | exact at2 | exact at3 | exact at4 | assumption) ?_) | (with_reducible refine s_sl ?_) | (with_reducible refine s_np ?_) | (with_reducible refine s_pt ?_) | (with_reducible refine s_ptI ?_)
    | (with_reducible refine s_slT ?_) | (with_reducible refine s_slL ?_) | (with_reducible refine s_slC ?_) | ((with_reducible refine g_slR ?_); refine s_slR (by walk_at "zm") ?_) | ((with_reducible refine g_fldO ?_); refine s_fldO (by with_unfolding_all rfl) ?_ (by first | rfl | assumption)) | ((with_reducible refine g_fldR ?_); refine s_fldR (by walk_at "zm") (by with_unfolding_all rfl) ?_ (by first | rfl | assumption))
    | (with_reducible refine s_isi (TyD.int _) ?_) | (with_reducible refine s_isi (TyD.str _) ?_) | (with_reducible refine s_isi (TyD.tup _) ?_) | (with_reducible refine s_isi (TyD.lst _) ?_) | (with_reducible refine s_isi (TyD.bl _) ?_) | (with_reducible refine s_isi TyD.non ?_)
    | ((with_reducible refine g_isiR ?_); refine s_isi (TyD.ref (by walk_at "zm")) ?_) | (with_reducible refine s_setSub ?_) | (with_reducible refine s_make ?_) | (with_reducible refine s_brk ?_) | (with_reducible refine s_cont ?_) | (with_reducible refine s_dyes ?_) | (with_reducible refine s_tt ?_) | (with_reducible refine s_ff ?_) | (with_reducible refine s_ntt ?_) | (with_reducible refine s_nff ?_) | (with_reducible refine s_setFld ?_) | ((with_reducible refine g_st ?_); first | (refine s_stR (n := 0) ?_ (by with_unfolding_all rfl) (by with_unfolding_all first | exact ixl0 | exact ixl1 | exact ixl2 | exact ixl3 | exact ixl4 | assumption); dsimp only [List.set]) | (refine s_stR (n := 1) ?_ (by with_unfolding_all rfl) (by with_unfolding_all first | exact ixl0 | exact ixl1 | exact ixl2 | exact ixl3 | exact ixl4 | assumption); dsimp only [List.set]) | (refine s_stR (n := 2) ?_ (by with_unfolding_all rfl) (by with_unfolding_all first | exact ixl0 | exact ixl1 | exact ixl2 | exact ixl3 | exact ixl4 | assumption); dsimp only [List.set])) | (with_reducible refine s_for ?_) | (with_reducible refine s_r1 ?_) | (with_reducible refine s_r2 ?_)
    | (with_reducible refine s_any ?_) | (with_reducible refine s_en ?_) | (with_reducible refine s_zp ?_) | (with_reducible refine s_r1j ?_) | (with_reducible refine s_r2j ?_) | (with_reducible refine s_lc ?_)
    | (with_reducible refine s_app ?_) | ((with_reducible refine g_apR ?_); refine s_apR (by walk_at "zm") ?_) | ((with_reducible refine g_apE ?_); first | (refine s_apE 0 (by with_unfolding_all rfl) ?_ ?_; dsimp only [List.set]) | (refine s_apE 1 (by with_unfolding_all rfl) ?_ ?_; dsimp only [List.set]) | (refine s_apE 2 (by with_unfolding_all rfl) ?_ ?_; dsimp only [List.set]) | (refine s_apE 3 (by with_unfolding_all rfl) ?_ ?_; dsimp only [List.set])) | (with_reducible refine s_join ?_) | (with_reducible refine s_strE ?_) | (with_reducible refine s_meth ?_)
    | (with_reducible refine s_aug ?_ rfl))
local macro_rules
  | `(tactic| walk_at "zz") => `(tactic| (repeat (first | walk_at "z0" | (with_reducible refine s_seq ?_))))
local macro_rules
  | `(tactic| walk_at "zn") => `(tactic| (repeat walk_at "z0"))

/-! ### the bag -/
def BagIs (n : Int) (o : MO) : Prop := ∃ r s c : Int, o = .lst [.int r, .int s, .int c] ∧ 0 ≤ r ∧ r < 10 ^ 64 ∧ 0 ≤ s ∧ s < 2147483647 ∧ 0 ≤ c ∧ c ≤ n
def sp_cell : SpD := fun ds l Q _ => ∃ (ns : List Int) (spot : Int), ds = [.scr (ns.map .int), .int spot] ∧ l = [] ∧ 0 ≤ spot ∧ spot ≤ 1000 ∧ ∀ v, 0 ≤ v → Q (.int v) []
def sp_bag : SpD := fun ds l Q _ => ∃ (ns : List Int) (spot : Int), ds = [.scr (ns.map .int), .int spot] ∧ l = [] ∧ 0 ≤ spot ∧ spot ≤ 1000 ∧ ∀ p o, BagIs 1000 o → Q (.ref p) [(p, o)]
def sp_take : SpD := fun ds l Q _ => ∃ (b : Addr) (o : MO) (many n : Int), ds = [.ref b, .int many] ∧ l = [(b, o)] ∧ BagIs n o ∧ n < 1000000000 ∧ 0 < many ∧ many < 1073741824 ∧
  ∀ v o', 0 ≤ v → v < many → BagIs (n + 1) o' → Q (.int v) [(b, o')]
theorem int_at {ns : List Int} {i : Int} (h0 : 0 ≤ i) (h : i < ns.length) : ∃ v, atI (ns.map D.int) i = some (.int v) :=
  ⟨ns[i.toNat]'(by omega), at_nat h0 (by rw [List.getElem?_map, List.getElem?_eq_getElem (by omega)]; rfl)⟩
theorem abs_nn (i : Int) : 0 ≤ (if i < 0 then -i else i) := by split <;> omega
theorem sat_cell : ∀ ds l Q E, sp_cell ds l Q E → r_u_law_cell (fun _ l => Wr Q .non l) (Wr Q) noN noN (startD N_u_law_cell ds) l := by
  rintro ds l Q E ⟨ns, spot, rfl, rfl, h0, h1, hq⟩
  unfold r_u_law_cell
  walk_at "zz"
  refine s_ite (fun h => ?_) (fun h => ?_)
  · obtain ⟨v, hv⟩ := int_at (ns := ns) h0 (by simpa using h)
    walk_at "zz"
    exact s_wr (hq _ (abs_nn _))
  · walk_at "zz"
    have e : cutG (ns.map D.int) none (some 1) = (ns.take 1).map D.int := by
      rw [show (1 : Int) = ((1 : Nat) : Int) from rfl, cutG_upto, List.map_take]
    rw [e]
    refine s_newF ?_
    walk_at "zz"
    refine s_wr (hq _ ?_)
    have := Int.emod_nonneg (if (List.take 1 ns).sum < 0 then -(List.take 1 ns).sum else (List.take 1 ns).sum) (show (1000003 : Int) ≠ 0 by decide)
    omega
theorem bag_seed (x : Int) : 0 ≤ x % 2147483647 ∧ x % 2147483647 < 2147483647 := ⟨Int.emod_nonneg _ (by decide), Int.emod_lt_of_pos _ (by decide)⟩
theorem sat_bag : ∀ ds l Q E, sp_bag ds l Q E → r_u_law_bag sp_cell (fun _ l => Wr Q .non l) (Wr Q) noN noN (startD N_u_law_bag ds) l := by
  rintro ds l Q E ⟨ns, spot, rfl, rfl, h0, h1, hq⟩
  unfold r_u_law_bag
  walk_at "zz"
  refine ⟨[], ns, spot, rfl, rfl, h0, h1, fun v hv => ?_⟩
  walk_at "zz"
  have b0 := Int.emod_nonneg v (show (10 : Int) ^ (64 : Int).toNat ≠ 0 by decide)
  have b1 := Int.emod_lt_of_pos v (show (0 : Int) < 10 ^ (64 : Int).toNat by decide)
  have b2 : v % 10 ^ (64 : Int).toNat < 10 ^ 64 := b1
  generalize v % 10 ^ (64 : Int).toNat = c at b0 b2 ⊢
  refine s_ite (fun h => ?_) (fun h => ?_)
  · walk_at "zz"
    refine s_newM fun p => ?_
    walk_at "zz"
    exact s_wr (hq p _ ⟨c, _, spot, rfl, b0, b2, (bag_seed _).1, (bag_seed _).2, h0, h1⟩)
  · walk_at "zz"
    refine s_newM fun p => ?_
    walk_at "zz"
    exact s_wr (hq p _ ⟨0, _, spot, rfl, by decide, by decide, (bag_seed _).1, (bag_seed _).2, h0, h1⟩)
theorem sat_take : ∀ ds l Q E, sp_take ds l Q E → r_u_law_take (fun _ l => Wr Q .non l) (Wr Q) noN noN (startD N_u_law_take ds) l := by
  rintro ds l Q E ⟨b, o, many, n, rfl, rfl, ⟨r, s, c, rfl, r0, r1, s0, s1, c0, c1⟩, hn, m0, m1, hq⟩
  unfold r_u_law_take
  walk_at "zz"
  refine s_ite (fun h => ?_) (fun h => ?_)
  · walk_at "zz"
    refine s_wr (hq _ _ (Int.emod_nonneg _ (by omega)) (Int.emod_lt_of_pos _ m0) ⟨r / many, s, c, rfl, ?_, ?_, s0, s1, c0, by omega⟩)
    · exact Int.ediv_nonneg r0 (by omega)
    · exact Int.lt_of_le_of_lt (Int.ediv_le_self _ r0) r1
  · walk_at "zz"
    refine s_wr (hq _ _ (Int.emod_nonneg _ (by omega)) (Int.emod_lt_of_pos _ m0) ⟨r, _, c + 1, rfl, r0, r1, (bag_seed _).1, (bag_seed _).2, by omega, by omega⟩)

/-! ### words and works -/
abbrev Seg := Int × Int × Str
abbrev Row := Int × Int × List Seg
abbrev segD (s : Seg) : D := .tup [.int s.1, .int s.2.1, .str s.2.2]
abbrev rowD (r : Row) : D := .tup [.int r.1, .int r.2.1, .tup (r.2.2.map segD)]
abbrev pairD (p : Int × Int) : D := .tup [.int p.1, .int p.2]
def holds : List Str := ["", "m", "*", "ck", "abcd"]
structure SegOk (s : Seg) : Prop where
  l1 : 1 ≤ s.1
  l2 : s.1 ≤ s.2.1
  l3 : s.2.1 ≤ 240
  h : s.2.2 ∈ holds
structure WorkOk (w : List Seg) : Prop where
  l1 : 1 ≤ w.length
  l2 : w.length ≤ 4
  ok : ∀ s ∈ w, SegOk s
/-- a draw from a bag that stands at place 0, 1, 2 of the small heap -/
theorem take0 {b : Addr} {o : MO} {l : M} {many n : Int} {Q : DK} (hb : BagIs n o) (h : ∀ v o', 0 ≤ v → v < many → BagIs (n + 1) o' → Q (.int v) ((b, o') :: l)) (hn : n < 1000000000) (h0 : 0 < many) (h1 : many < 1073741824) :
    CallP sp_take [.ref b, .int many] ((b, o) :: l) Q :=
  c_0 ⟨b, o, many, n, rfl, rfl, hb, hn, h0, h1, fun v o' a1 a2 a3 => by
    show Q _ (mergeM _ _ _)
    rw [merge_0]; exact h v o' a1 a2 a3⟩
theorem take1 {b : Addr} {p : Addr × MO} {o : MO} {l : M} {many n : Int} {Q : DK} (hb : BagIs n o) (h : ∀ v o', 0 ≤ v → v < many → BagIs (n + 1) o' → Q (.int v) (p :: (b, o') :: l)) (hn : n < 1000000000) (h0 : 0 < many) (h1 : many < 1073741824) :
    CallP sp_take [.ref b, .int many] (p :: (b, o) :: l) Q :=
  c_1 ⟨b, o, many, n, rfl, rfl, hb, hn, h0, h1, fun v o' a1 a2 a3 => by
    show Q _ (mergeM _ _ _)
    rw [merge_1]; exact h v o' a1 a2 a3⟩
theorem take2 {b : Addr} {p p2 : Addr × MO} {o : MO} {l : M} {many n : Int} {Q : DK} (hb : BagIs n o) (h : ∀ v o', 0 ≤ v → v < many → BagIs (n + 1) o' → Q (.int v) (p :: p2 :: (b, o') :: l)) (hn : n < 1000000000) (h0 : 0 < many) (h1 : many < 1073741824) :
    CallP sp_take [.ref b, .int many] (p :: p2 :: (b, o) :: l) Q :=
  c_2 ⟨b, o, many, n, rfl, rfl, hb, hn, h0, h1, fun v o' a1 a2 a3 => by
    show Q _ (mergeM _ _ _)
    rw [merge_2]; exact h v o' a1 a2 a3⟩
theorem BagIs.mono {n m : Int} {o : MO} (h : BagIs n o) (e : n ≤ m) : BagIs m o := by
  obtain ⟨r, s, c, h0, h1, h2, h3, h4, h5, h6⟩ := h
  exact ⟨r, s, c, h0, h1, h2, h3, h4, h5, by omega⟩
theorem pick7 {v : Int} (h0 : 0 ≤ v) (h1 : v < 7) : ∃ k : Int, atI [D.int 1, D.int 1, D.int 1, D.int 2, D.int 2, D.int 3, D.int 4] v = some (.int k) ∧ 1 ≤ k ∧ k ≤ 4 := by
  have : v = 0 ∨ v = 1 ∨ v = 2 ∨ v = 3 ∨ v = 4 ∨ v = 5 ∨ v = 6 := by omega
  rcases this with rfl | rfl | rfl | rfl | rfl | rfl | rfl
  · exact ⟨1, at_nat (by decide) rfl, by decide, by decide⟩
  · exact ⟨1, at_nat (by decide) rfl, by decide, by decide⟩
  · exact ⟨1, at_nat (by decide) rfl, by decide, by decide⟩
  · exact ⟨2, at_nat (by decide) rfl, by decide, by decide⟩
  · exact ⟨2, at_nat (by decide) rfl, by decide, by decide⟩
  · exact ⟨3, at_nat (by decide) rfl, by decide, by decide⟩
  · exact ⟨4, at_nat (by decide) rfl, by decide, by decide⟩
theorem pick6 {v : Int} (h0 : 0 ≤ v) (h1 : v < 6) : ∃ k : Str, atI [D.str "", D.str "", D.str "m", D.str "*", D.str "ck", D.str "abcd"] v = some (.str k) ∧ k ∈ holds := by
  have : v = 0 ∨ v = 1 ∨ v = 2 ∨ v = 3 ∨ v = 4 ∨ v = 5 := by omega
  rcases this with rfl | rfl | rfl | rfl | rfl | rfl
  · exact ⟨_, at_nat (by decide) rfl, .head _⟩
  · exact ⟨_, at_nat (by decide) rfl, .head _⟩
  · exact ⟨_, at_nat (by decide) rfl, .tail _ (.head _)⟩
  · exact ⟨_, at_nat (by decide) rfl, .tail _ (.tail _ (.head _))⟩
  · exact ⟨_, at_nat (by decide) rfl, .tail _ (.tail _ (.tail _ (.head _)))⟩
  · exact ⟨_, at_nat (by decide) rfl, .tail _ (.tail _ (.tail _ (.tail _ (.head _))))⟩

/-! ### rows -/
structure RowOk (early : Int) (r : Row) : Prop where
  g1 : 1 ≤ r.1
  g2 : r.1 ≤ 240
  d1 : early < r.2.1
  d2 : r.2.1 ≤ 480
  w : WorkOk r.2.2
def Ord (rows : List Row) : Prop := ∀ (i : Nat) (r s : Row), rows[i]? = some r → (rows.drop 1 ++ rows.take 1)[i]? = some s → r.2.1 ≤ r.1 + s.2.1
structure RowsOk (early : Int) (rows : List Row) : Prop where
  l1 : 1 ≤ rows.length
  l2 : rows.length ≤ 4
  ok : ∀ r ∈ rows, RowOk early r
  ord : Ord rows
theorem mem_snoc {α : Type} {P : α → Prop} {w : List α} {x : α} (h : ∀ s ∈ w, P s) (hx : P x) : ∀ s ∈ w ++ [x], P s := fun s hs => by
  rcases List.mem_append.mp hs with e | e
  · exact h s e
  · rw [List.mem_singleton.mp e]; exact hx
theorem get_snoc {α : Type} {P : Nat → α → Prop} {w : List α} {x : α} (h : ∀ i s, w[i]? = some s → P i s) (hx : P w.length x) : ∀ i s, (w ++ [x])[i]? = some s → P i s := fun i s hs => by
  rcases Nat.lt_or_ge i w.length with z | z
  · rw [List.getElem?_append_left z] at hs; exact h i s hs
  · rw [List.getElem?_append_right z] at hs
    cases e : i - w.length with
    | zero => rw [e] at hs; cases hs; rw [show i = w.length by omega]; exact hx
    | succ k => rw [e] at hs; cases hs

def lo (w : List Seg) : Int := (w.map (·.1)).sum
def hi (w : List Seg) : Int := (w.map (·.2.1)).sum
theorem lohi : ∀ {w : List Seg}, (∀ s ∈ w, SegOk s) → 0 ≤ lo w ∧ lo w ≤ hi w ∧ hi w ≤ 240 * (w.length : Int)
  | [], _ => ⟨Int.le_refl 0, Int.le_refl 0, Int.le_refl 0⟩
  | s :: w, h => by
    obtain ⟨a, b, c⟩ := lohi (w := w) fun s hs => h s (List.mem_cons_of_mem _ hs)
    obtain ⟨d, e, f, _⟩ := h s List.mem_cons_self
    unfold lo hi at *
    rw [List.map_cons, List.map_cons, List.sum_cons, List.sum_cons, List.length_cons]
    refine ⟨by omega, by omega, by omega⟩
theorem WorkOk.lh {w : List Seg} (h : WorkOk w) : 0 ≤ lo w ∧ lo w ≤ hi w ∧ hi w ≤ 960 := by
  obtain ⟨a, b, c⟩ := lohi h.ok
  have := h.l2
  exact ⟨a, b, by omega⟩
theorem rows_at {early : Int} {rows : List Row} (h : RowsOk early rows) (z : Int) : ∃ r, atI (rows.map rowD) (z % ((rows.map rowD).length : Nat)) = some (rowD r) ∧ rows[(z % (rows.length : Int)).toNat]? = some r ∧ RowOk early r := by
  have h0 := h.l1
  rw [List.length_map]
  have h1 := Int.emod_nonneg z (show (rows.length : Int) ≠ 0 by omega)
  have h2 := Int.emod_lt_of_pos z (show (0 : Int) < rows.length by omega)
  have h3 : (z % rows.length).toNat < rows.length := by omega
  exact ⟨rows[(z % rows.length).toNat], at_nat h1 (by rw [List.getElem?_map, List.getElem?_eq_getElem h3]; rfl), List.getElem?_eq_getElem h3, h.ok _ (List.getElem_mem h3)⟩

/-! ### names and holds -/
def Lo (c : Nat) : Prop := 97 ≤ c ∧ c ≤ 122
theorem one_lt {a b : Nat} : (([a] : List Nat) < [b]) ↔ a < b := by
  rw [List.cons_lt_cons_iff]
  exact ⟨fun h => h.elim id fun h => absurd h.2 (by intro h; exact absurd h (List.not_lt_nil _)), .inl⟩
theorem le_one {a b : Nat} (h : a ≤ b) : strLe ⟨#[a]⟩ ⟨#[b]⟩ = true := by
  show (!decide (([b] : List Nat) < [a])) = true
  rw [decide_eq_false (fun z => absurd (one_lt.mp z) (by omega))]; rfl
theorem lt_one {a b : Nat} (h : a < b) : strLt ⟨#[a]⟩ ⟨#[b]⟩ = true := by
  show decide (([a] : List Nat) < [b]) = true
  exact decide_eq_true (one_lt.mpr h)
def sp_letter : SpD := fun ds l Q _ => ∃ c, ds = [.str ⟨#[c]⟩] ∧ l = [] ∧ Lo c ∧ Q (.bl true) []
theorem sat_letter : ∀ ds l Q E, sp_letter ds l Q E → r_u_is_letter (fun _ l => Wr Q .non l) (Wr Q) noN noN (startD N_u_is_letter ds) l := by
  rintro ds l Q E ⟨c, rfl, rfl, h, hq⟩
  unfold r_u_is_letter
  walk_at "zz"
  have e1 : strLe "a" ⟨#[c]⟩ = true := le_one (a := 97) h.1
  have e2 : strLe ⟨#[c]⟩ "z" = true := le_one (b := 122) h.2
  refine s_yes ?_ e1
  walk_at "zz"
  rw [e2]
  exact s_wr hq
structure Letters (w : Str) : Prop where
  l1 : 1 ≤ w.cps.size
  l8 : w.cps.size ≤ 8
  lo : ∀ c ∈ w.cps.toList, Lo c
def sp_letters : SpD := fun ds l Q _ => ∃ w, ds = [.str w] ∧ l = [] ∧ Letters w ∧ Q (.bl true) []
theorem sat_letters : ∀ ds l Q E, sp_letters ds l Q E → r_u_is_letters sp_letter (fun _ l => Wr Q .non l) (Wr Q) noN noN (startD N_u_is_letters ds) l := by
  rintro ds l Q E ⟨w, rfl, rfl, h, hq⟩
  unfold r_u_is_letters
  walk_at "zz"
  have hw : w ≠ "" := by
    intro e
    have := h.l1
    rw [e] at this
    exact absurd this (by decide)
  refine s_yes ?_ (by rw [decide_eq_false hw]; rfl)
  walk_at "zz"
  refine z_map w.cps.toList (fun c => .str ⟨#[c]⟩) (fun _ => .bl true) rfl (by rw [Array.length_toList]; have := h.l8; omega) trivial (fun c hc P hP => ?_) ?_
  · walk_at "zz"
    exact c_none ⟨c, rfl, rfl, h.lo c hc, hP⟩
  refine s_newF ?_
  walk_at "zz"
  refine s_allL (bs := w.cps.toList.map fun _ => true) (by rw [List.map_map]; rfl) ?_
  have e : ((w.cps.toList.map fun _ => true).all id) = true := by
    rw [List.all_map]; exact List.all_eq_true.mpr fun _ _ => rfl
  rw [e]
  walk_at "zz"
  exact s_wr hq
def sp_name : SpD := fun ds l Q _ => ∃ w, ds = [.str w] ∧ l = [] ∧ Letters w ∧ Q (.bl true) []
theorem sat_name : ∀ ds l Q E, sp_name ds l Q E → r_is_name sp_letters (fun _ l => Wr Q .non l) (Wr Q) noN noN (startD N_is_name ds) l := by
  rintro ds l Q E ⟨w, rfl, rfl, h, hq⟩
  unfold r_is_name
  have h8 := h.l8
  walk_at "zz"
  refine s_yes ?_ (by decide +kernel)
  walk_at "zz"
  refine s_lenS ?_ (by show w.cps.size ≤ _; omega)
  walk_at "zz"
  refine s_yes ?_ (decide_eq_true (by show (w.cps.size : Int) ≤ 8; omega))
  walk_at "zz"
  refine c_none ⟨w, rfl, rfl, h, ?_⟩
  walk_at "zz"
  exact s_wr hq
def sp_hold : SpD := fun ds l Q _ => ∃ h, ds = [.str h] ∧ l = [] ∧ h ∈ holds ∧ Q (.bl true) []
theorem letters_of {w : Str} (h : (decide (1 ≤ w.cps.size) && (decide (w.cps.size ≤ 8) && w.cps.toList.all fun c => decide (97 ≤ c) && decide (c ≤ 122))) = true) : Letters w := by
  rw [Bool.and_eq_true, Bool.and_eq_true] at h
  refine ⟨of_decide_eq_true h.1, of_decide_eq_true h.2.1, fun c hc => ?_⟩
  have := List.all_eq_true.mp h.2.2 c hc
  rw [Bool.and_eq_true] at this
  exact ⟨of_decide_eq_true this.1, of_decide_eq_true this.2⟩
theorem sat_hold : ∀ ds l Q E, sp_hold ds l Q E → r_is_hold sp_letters (fun _ l => Wr Q .non l) (Wr Q) noN noN (startD N_is_hold ds) l := by
  rintro ds l Q E ⟨h, rfl, rfl, hh, hq⟩
  unfold r_is_hold
  walk_at "zz"
  refine s_no ?_ (by decide +kernel)
  walk_at "zz"
  by_cases e0 : h = ""
  · refine s_yes ?_ (decide_eq_true e0)
    walk_at "zz"
    exact s_wr hq
  refine s_no ?_ (decide_eq_false e0)
  walk_at "zz"
  by_cases e1 : h = "*"
  · refine s_yes ?_ (decide_eq_true e1)
    walk_at "zz"
    exact s_wr hq
  refine s_no ?_ (decide_eq_false e1)
  walk_at "zz"
  have h3 : h = "m" ∨ h = "ck" ∨ h = "abcd" := by
    simp only [holds, List.mem_cons, List.not_mem_nil, or_false] at hh
    rcases hh with z | z | z | z | z
    · exact absurd z e0
    · exact .inl z
    · exact absurd z e1
    · exact .inr (.inl z)
    · exact .inr (.inr z)
  have hl : Letters h := by rcases h3 with rfl | rfl | rfl <;> exact letters_of (by decide +kernel)
  have h4 : h.length ≤ 4 := by rcases h3 with rfl | rfl | rfl <;> decide +kernel
  refine s_lenS ?_ (by omega)
  walk_at "zz"
  refine s_no ?_ (decide_eq_false (by omega))
  walk_at "zz"
  refine c_none ⟨h, rfl, rfl, hl, ?_⟩
  walk_at "zz"
  refine s_slS ?_ (by omega)
  walk_at "zz"
  refine .inr ⟨_, _, rfl, ?_⟩
  have hz : ∃ us : List (Nat × Nat), zipD (signs h) (signs (cutS h (some 1) none)) = us.map (fun p => D.tup [.str ⟨#[p.1]⟩, .str ⟨#[p.2]⟩]) ∧ us.length < 100 ∧ ∀ p ∈ us, p.1 < p.2 := by
    rcases h3 with rfl | rfl | rfl
    · exact ⟨[], rfl, by decide, fun _ h => nomatch h⟩
    · exact ⟨[(99, 107)], rfl, by decide, by decide⟩
    · exact ⟨[(97, 98), (98, 99), (99, 100)], rfl, by decide, by decide⟩
  obtain ⟨us, hu, hul, hlt⟩ := hz
  rw [hu]
  refine z_map us (fun p => D.tup [.str ⟨#[p.1]⟩, .str ⟨#[p.2]⟩]) (fun _ => .bl true) rfl (by omega) trivial (fun p hp P hP => ?_) ?_
  · walk_at "zz"
    rw [lt_one (hlt p hp)]
    exact hP
  refine s_newF ?_
  walk_at "zz"
  refine s_allL (bs := us.map fun _ => true) (by rw [List.map_map]; rfl) ?_
  have e : ((us.map fun _ => true).all id) = true := by
    rw [List.all_map]; exact List.all_eq_true.mpr fun _ _ => rfl
  rw [e]
  walk_at "zz"
  exact s_wr hq

/-! ### frames, tasks, words -/
theorem cut_d1 {α : Type} (xs : List α) : cutG xs (some 1) none = xs.drop 1 := cutG_from xs 1
theorem cut_t1 {α : Type} (xs : List α) : cutG xs none (some 1) = xs.take 1 := cutG_upto xs 1
structure Small (rows : List Row) : Prop where
  l : rows.length ≤ 4
  w : ∀ r ∈ rows, r.2.2.length ≤ 4
theorem RowsOk.small {early : Int} {rows : List Row} (h : RowsOk early rows) : Small rows := ⟨h.l2, fun r hr => (h.ok r hr).w.l2⟩
def sp_copied : SpD := fun ds l Q _ => ∃ rows : List Row, ds = [.lst (rows.map rowD)] ∧ l = [] ∧ Small rows ∧ Q (.tup (rows.map rowD)) []
theorem sat_copied : ∀ ds l Q E, sp_copied ds l Q E → r_u_copied (fun _ l => Wr Q .non l) (Wr Q) noN noN (startD N_u_copied ds) l := by
  rintro ds l Q E ⟨rows, rfl, rfl, hs, hq⟩
  unfold r_u_copied
  have hl := hs.l
  walk_at "zz"
  refine ⟨_, rfl, ?_⟩
  refine z_map rows rowD rowD rfl (by omega) rfl (fun r hr P hP => ?_) ?_
  · have hw := hs.w r hr
    walk_at "zz"
    refine ⟨_, rfl, ?_⟩
    refine z_map r.2.2 segD segD rfl (by omega) rfl (fun u hu P hP => ?_) ?_
    · walk_at "zz"
      exact hP
    refine s_newF ?_
    walk_at "zz"
    exact hP
  refine s_newF ?_
  walk_at "zz"
  exact s_wr hq
def sp_checkf : SpD := fun ds l Q _ => ∃ (r : Row) (early : Int), ds = [.int r.1, .int r.2.1, .tup (r.2.2.map segD)] ∧ l = [] ∧ RowOk early r ∧ 0 ≤ early ∧ Q .non []
theorem sat_checkf : ∀ ds l Q E, sp_checkf ds l Q E → r_u_check_frame sp_hold (fun _ l => Wr Q .non l) (Wr Q) noN noN (startD N_u_check_frame ds) l := by
  rintro ds l Q E ⟨r, early, rfl, rfl, h, e0, hq⟩
  obtain ⟨g1, g2, d1, d2, hw⟩ := h
  obtain ⟨w1, w4, ws⟩ := hw
  unfold r_u_check_frame
  walk_at "zz"
  refine s_yes ?_ (decide_eq_true g1)
  walk_at "zz"
  refine s_no ?_ (by rw [decide_eq_true g2]; rfl)
  walk_at "zz"
  refine s_yes ?_ (decide_eq_true (by omega))
  walk_at "zz"
  refine s_no ?_ (by rw [decide_eq_true d2]; rfl)
  walk_at "zz"
  refine s_yes ?_ (decide_eq_true (by rw [List.length_map]; omega))
  walk_at "zz"
  refine s_no ?_ (by rw [decide_eq_true (by rw [List.length_map]; omega)]; rfl)
  walk_at "zz"
  refine ⟨_, rfl, ?_⟩
  refine z_for (fun i τ l => ∃ x3 x4 x5, τ = [some (.int r.1), some (.int r.2.1), some (.tup (r.2.2.map segD)), x3, x4, x5] ∧ l = []) ⟨_, _, _, rfl, rfl⟩ (fun _ _ _ _ _ => rfl) ?_ ?_
  · rintro i x τ l hx ⟨x3, x4, x5, rfl, rfl⟩
    rw [List.getElem?_map] at hx
    cases hs : r.2.2[i]? with
    | none => rw [hs] at hx; cases hx
    | some s =>
      rw [hs] at hx
      cases hx
      obtain ⟨s1, s2, s3, s4⟩ := ws s (mem_of_get hs)
      walk_at "zz"
      refine s_yes ?_ (decide_eq_true s1)
      walk_at "zz"
      refine s_yes ?_ (decide_eq_true s2)
      walk_at "zz"
      refine s_no ?_ (by rw [decide_eq_true s3]; rfl)
      walk_at "zz"
      refine c_none ⟨s.2.2, rfl, rfl, s4, ?_⟩
      walk_at "zz"
      exact s_wk ⟨_, _, _, rfl, rfl⟩
  · rintro τ l ⟨x3, x4, x5, rfl, rfl⟩
    exact s_wr hq
theorem pair_at {rows ss : List Row} {i : Nat} {x : D} (h : (zipD (rows.map rowD) (ss.map rowD))[i]? = some x) : ∃ r s, rows[i]? = some r ∧ ss[i]? = some s ∧ x = .tup [rowD r, rowD s] := by
  unfold zipD at h
  rw [List.getElem?_map] at h
  cases hz : ((rows.map rowD).zip (ss.map rowD))[i]? with
  | none => rw [hz] at h; cases h
  | some p =>
    rw [hz] at h
    cases h
    obtain ⟨p1, p2⟩ := p
    obtain ⟨h1, h2⟩ := List.getElem?_zip_eq_some.mp hz
    rw [List.getElem?_map] at h1 h2
    cases e1 : rows[i]? with
    | none => rw [e1] at h1; cases h1
    | some r =>
      cases e2 : ss[i]? with
      | none => rw [e2] at h2; cases h2
      | some s =>
        rw [e1] at h1; rw [e2] at h2
        have a : rowD r = p1 := Option.some.inj h1
        have b : rowD s = p2 := Option.some.inj h2
        exact ⟨r, s, rfl, rfl, by rw [← a, ← b]⟩
def sp_checks : SpD := fun ds l Q _ => ∃ (rows : List Row) (j : Int), ds = [.tup (rows.map rowD), .int j] ∧ l = [] ∧ RowsOk j rows ∧ 0 ≤ j ∧ j ≤ 240 ∧ Q .non []
theorem sat_checks : ∀ ds l Q E, sp_checks ds l Q E → r_u_check_frames sp_checkf (fun _ l => Wr Q .non l) (Wr Q) noN noN (startD N_u_check_frames ds) l := by
  rintro ds l Q E ⟨rows, j, rfl, rfl, h, j0, j1, hq⟩
  have l1 := h.l1
  have l2 := h.l2
  unfold r_u_check_frames
  walk_at "zz"
  refine s_yes ?_ (decide_eq_true (by rw [List.length_map]; omega))
  walk_at "zz"
  refine s_no ?_ (by rw [decide_eq_true (by rw [List.length_map]; omega)]; rfl)
  walk_at "zz"
  refine ⟨_, rfl, ?_⟩
  refine z_for (fun i τ l => ∃ x2 x3 x4, τ = [some (.tup (rows.map rowD)), some (.int j), x2, x3, x4, none, none] ∧ l = []) ⟨_, _, _, rfl, rfl⟩ (fun _ _ _ _ _ => rfl) ?_ ?_
  · rintro i x τ l hx ⟨x3, x4, x5, rfl, rfl⟩
    rw [List.getElem?_map] at hx
    cases hs : rows[i]? with
    | none => rw [hs] at hx; cases hx
    | some s =>
      rw [hs] at hx
      cases hx
      walk_at "zz"
      refine c_none ⟨s, j, rfl, rfl, h.ok s (mem_of_get hs), j0, ?_⟩
      exact s_wk ⟨_, _, _, rfl, rfl⟩
  · rintro τ l ⟨x3, x4, x5, rfl, rfl⟩
    walk_at "zz"
    refine s_yes ?_ (decide_eq_true j0)
    walk_at "zz"
    refine s_no ?_ (by rw [decide_eq_true j1]; rfl)
    walk_at "zz"
    refine ⟨_, rfl, ?_⟩
    refine z_map rows rowD (fun _ => .bl false) rfl (by omega) rfl (fun r hr P hP => ?_) ?_
    · walk_at "zz"
      rw [decide_eq_false (by have := (h.ok r hr).d1; omega)]
      exact hP
    refine s_newF ?_
    walk_at "zz"
    refine s_anyL (bs := rows.map fun _ => false) (by rw [List.map_map]; rfl) ?_
    have e : ((rows.map fun _ => false).any id) = false := by
      rw [List.any_map]; exact List.any_eq_false.mpr fun _ _ => by simp
    rw [e]
    walk_at "zz"
    refine s_addT ?_ (by rw [cut_d1, cut_t1, List.length_drop, List.length_take, List.length_map]; omega)
    walk_at "zz"
    refine .inl ⟨_, _, _, _, rfl, .inr ⟨rfl, rfl, ?_⟩⟩
    have e : cutG (rows.map rowD) (some 1) none ++ cutG (rows.map rowD) none (some 1) = (rows.drop 1 ++ rows.take 1).map rowD := by
      rw [cut_d1, cut_t1, List.map_append, List.map_drop, List.map_take]
    rw [e]
    refine z_for (fun i τ l => ∃ x2 x3 x4 x5 x6, τ = [some (.tup (rows.map rowD)), some (.int j), x2, x3, x4, x5, x6] ∧ l = []) ⟨_, _, _, _, _, rfl, rfl⟩ (fun _ _ _ _ _ => trivial) ?_ ?_
    · rintro i x τ l hx ⟨x2, x3, x4, x5, x6, rfl, rfl⟩
      obtain ⟨r, s, h1, h2, rfl⟩ := pair_at hx
      have := h.ord i r s h1 h2
      walk_at "zz"
      refine s_no ?_ (decide_eq_false (by omega))
      walk_at "zz"
      exact s_wk ⟨_, _, _, _, _, rfl, rfl⟩
    · rintro τ l ⟨x2, x3, x4, x5, x6, rfl, rfl⟩
      exact s_wr hq
def taskF (w : Str) (rows : List Row) (j : Int) : List (Str × D) := [("name", .str w), ("frames", .tup (rows.map rowD)), ("jitter", .int j)]
def sp_task (C : Addr) : SpD := fun ds l Q _ => ∃ (x : Addr) (w : Str) (rows : List Row) (j : Int), ds = [.ref x, .str w, .lst (rows.map rowD), .int j] ∧ l = [(x, .ins C [])] ∧ Letters w ∧ RowsOk j rows ∧ 0 ≤ j ∧ j ≤ 240 ∧
  Q .non [(x, .ins C (taskF w rows j))]
theorem sat_task (C : Addr) : ∀ ds l Q E, sp_task C ds l Q E → r_Task____init__ sp_name sp_copied sp_checks C (fun _ l => Wr Q .non l) (Wr Q) noN noN (startD N_Task____init__ ds) l := by
  rintro ds l Q E ⟨x, w, rows, j, rfl, rfl, hw, hr, j0, j1, hq⟩
  unfold r_Task____init__
  walk_at "zz"
  refine c_none ⟨w, rfl, rfl, hw, ?_⟩
  dsimp only [List.nil_append]
  walk_at "zz"
  refine c_none ⟨rows, rfl, rfl, hr.small, ?_⟩
  dsimp only [List.nil_append]
  walk_at "zz"
  refine c_none ⟨rows, j, rfl, rfl, hr, j0, j1, ?_⟩
  dsimp only [List.nil_append]
  walk_at "zz"
  refine ⟨_, 0, _, _, rfl, rfl, rfl, Nat.le_of_ble_eq_true rfl, ?_⟩
  walk_at "zz"
  refine ⟨_, 0, _, _, rfl, rfl, rfl, Nat.le_of_ble_eq_true rfl, ?_⟩
  walk_at "zz"
  refine ⟨_, 0, _, _, rfl, rfl, rfl, Nat.le_of_ble_eq_true rfl, ?_⟩
  walk_at "zz"
  exact s_wr hq
theorem joinL_nil : ∀ cs : List Nat, TL.joinL [] (cs.map fun c => [c]) = cs
  | [] => rfl
  | [_] => rfl
  | a :: b :: r => by
    show [a] ++ ([] ++ TL.joinL [] ((b :: r).map fun c => [c])) = _
    rw [joinL_nil (b :: r)]; rfl
theorem join_signs (cs : List Nat) : Txt.join "" (cs.map fun c => ⟨#[c]⟩) = ⟨cs.toArray⟩ := by
  have h := SX.join_S [] (cs.map fun c => [c])
  rw [joinL_nil, List.map_map] at h
  exact h
def sp_word : SpD := fun ds l Q _ => ∃ (b : Addr) (o : MO) (n : Int), ds = [.ref b] ∧ l = [(b, o)] ∧ BagIs n o ∧ n < 100000000 ∧ ∀ w o', Letters w → BagIs (n + 9) o' → Q (.str w) [(b, o')]
theorem alpha {v : Int} (h0 : 0 ≤ v) (h1 : v < 26) : ∃ c, atI ("abcdefghijklmnopqrstuvwxyz" : Str).cps.toList v = some c ∧ Lo c := by
  have e : ("abcdefghijklmnopqrstuvwxyz" : Str).cps.toList = (List.range 26).map (97 + ·) := by decide +kernel
  rw [e]
  refine ⟨97 + v.toNat, at_nat h0 ?_, by unfold Lo; omega⟩
  rw [List.getElem?_map, List.getElem?_range (by omega)]; rfl
theorem sum_ones : ∀ cs : List Nat, ((cs.map fun c => (⟨#[c]⟩ : Str)).map (·.length)).sum = cs.length
  | [] => rfl
  | a :: r => by
    rw [List.map_cons, List.map_cons, List.sum_cons, sum_ones r, List.length_cons]
    show 1 + _ = _
    omega
theorem sat_word : ∀ ds l Q E, sp_word ds l Q E → r_u_law_word sp_take (fun _ l => Wr Q .non l) (Wr Q) noN noN (startD N_u_law_word ds) l := by
  rintro ds l Q E ⟨b, o, n, rfl, rfl, hb, hn, hq⟩
  unfold r_u_law_word
  walk_at "zz"
  refine take0 hb (fun v o1 v0 v1 hb1 => ?_) (by omega) (by decide) (by decide)
  walk_at "zz"
  refine s_and (s_and ?_ (by omega)) (by omega)
  refine ⟨fun i acc l => ∃ (cs : List Nat) (o' : MO), acc = cs.map (fun c => .str ⟨#[c]⟩) ∧ l = [(b, o')] ∧ BagIs (n + 1 + i) o' ∧ cs.length = i ∧ ∀ c ∈ cs, Lo c, ⟨[], o1, rfl, rfl, hb1.mono (by omega), rfl, fun _ h => nomatch h⟩, fun _ _ _ _ _ => trivial, ?_, ?_⟩
  · rintro i x acc l hx ⟨cs, o', rfl, rfl, hb2, hl, hc⟩
    obtain ⟨hi, rfl⟩ := rng_at hx
    dsimp only [wipeD]
    walk_at "zz"
    refine take0 hb2 (fun u o2 u0 u1 hb3 => ?_) (by omega) (by decide) (by decide)
    obtain ⟨c, h1, h2⟩ := alpha u0 u1
    refine s_ixS ?_ h1 (by decide +kernel)
    refine s_and ?_ (by rw [List.length_map]; omega)
    exact ⟨cs ++ [c], o2, by rw [List.map_append]; rfl, rfl, hb3.mono (by omega), by rw [List.length_append, hl]; rfl, mem_snoc hc h2⟩
  · rintro acc l ⟨cs, o', rfl, rfl, hb2, hl, hc⟩
    rw [rng_len] at hb2 hl
    refine s_newF ?_
    refine ⟨cs.map fun c => ⟨#[c]⟩, by rw [List.map_map]; rfl, ?_, ?_⟩
    · rw [sum_ones, List.length_map]
      show cs.length + cs.length * 0 ≤ _
      omega
    rw [join_signs]
    walk_at "zz"
    refine s_wr (hq _ o' ⟨?_, ?_, ?_⟩ (hb2.mono (by omega)))
    · show 1 ≤ cs.toArray.size; rw [List.size_toArray]; omega
    · show cs.toArray.size ≤ 8; rw [List.size_toArray]; omega
    · show ∀ c ∈ cs.toArray.toList, Lo c; exact hc

/-! ### what a log answers -/
def ra (rows : List Row) (z : Int) : Row := rows.getD (z % (rows.length : Int)).toNat (0, 0, [])
theorem ra_at {early : Int} {rows : List Row} (h : RowsOk early rows) (z : Int) : atI (rows.map rowD) (z % ((rows.map rowD).length : Nat)) = some (rowD (ra rows z)) ∧ RowOk early (ra rows z) := by
  obtain ⟨r, h1, h2, h3⟩ := rows_at h z
  have e : ra rows z = r := by unfold ra; rw [List.getD_eq_getElem?_getD, h2]; rfl
  rw [e]
  exact ⟨h1, h3⟩
theorem ra_mod (rows : List Row) (z : Int) : ra rows (z % (rows.length : Int)) = ra rows z := by unfold ra; rw [Int.emod_emod]
def rl (log : List (Int × Int)) (i : Nat) : Int := (log.getD i (0, 0)).1
def ln (log : List (Int × Int)) (i : Nat) : Int := (log.getD i (0, 0)).2
theorem log_at {log : List (Int × Int)} {i : Nat} (h : i < log.length) : log[i]? = some (rl log i, ln log i) := by
  unfold rl ln
  rw [List.getD_eq_getElem?_getD, List.getElem?_eq_getElem h]; rfl
def av (rows : List Row) (j : Int) (log : List (Int × Int)) (s : Int) : Nat → Int
  | 0 => rl log 0 - j
  | i + 1 => if av rows j log s i + (ra rows (s + i)).1 > rl log (i + 1) - j then av rows j log s i + (ra rows (s + i)).1 else rl log (i + 1) - j
def good (rows : List Row) (j : Int) (log : List (Int × Int)) (s : Int) (i : Nat) : Prop :=
  (0 < i → rl log (i - 1) ≤ rl log i) ∧ av rows j log s i ≤ rl log i ∧ lo (ra rows (s + i)).2.2 ≤ ln log i ∧ ln log i ≤ hi (ra rows (s + i)).2.2
def allG (rows : List Row) (j : Int) (log : List (Int × Int)) (s : Int) : Prop := ∀ i, i < log.length → good rows j log s i
def avs (rows : List Row) (j : Int) (log : List (Int × Int)) (s : Int) (n : Nat) : List Int := (List.range n).map (av rows j log s)
theorem avs_len {rows : List Row} {j : Int} {log : List (Int × Int)} {s : Int} {n : Nat} : (avs rows j log s n).length = n := by unfold avs; rw [List.length_map, List.length_range]
theorem avs_succ {rows : List Row} {j : Int} {log : List (Int × Int)} {s : Int} {n : Nat} : avs rows j log s (n + 1) = avs rows j log s n ++ [av rows j log s n] := by unfold avs; rw [List.range_succ, List.map_append]; rfl
theorem avs_get {rows : List Row} {j : Int} {log : List (Int × Int)} {s : Int} {n i : Nat} (h : i < n) : (avs rows j log s n)[i]? = some (av rows j log s i) := by
  unfold avs; rw [List.getElem?_map, List.getElem?_range h]; rfl
theorem at_last {xs : List D} {d : D} (h : xs[xs.length - 1]? = some d) : atI xs (-1) = some d := by
  have hl : 0 < xs.length := by
    rcases Nat.eq_zero_or_pos xs.length with z | z
    · rw [List.getElem?_eq_none_iff.mpr (by omega)] at h; cases h
    · exact z
  unfold atI ixN
  rw [if_neg (by decide), if_pos (by omega)]
  show xs[((-1 : Int) + xs.length).toNat]? = some d
  rw [show ((-1 : Int) + xs.length).toNat = xs.length - 1 by omega]; exact h
theorem mod_back {x n : Int} : (x % n + n - 1) % n = (x - 1) % n := by
  rw [show x % n + n - 1 = (x % n - 1) + n * 1 by omega, Int.add_mul_emod_self_left, Int.sub_emod, Int.emod_emod, ← Int.sub_emod]
abbrev logD (log : List (Int × Int)) : D := .lst (log.map pairD)
theorem logD_at {log : List (Int × Int)} {i : Nat} {z : Int} (h : i < log.length) (hz : z = i) : atI (log.map pairD) z = some (pairD (rl log i, ln log i)) := by
  subst hz
  refine at_nat (by omega) ?_
  rw [Int.toNat_natCast, List.getElem?_map, log_at h]; rfl
def sp_least : SpD := fun ds l Q _ => ∃ w : List Seg, ds = [.tup (w.map segD)] ∧ l = [] ∧ w.length ≤ 4 ∧ Q (.int (lo w)) []
def sp_most : SpD := fun ds l Q _ => ∃ w : List Seg, ds = [.tup (w.map segD)] ∧ l = [] ∧ w.length ≤ 4 ∧ Q (.int (hi w)) []
theorem sat_least : ∀ ds l Q E, sp_least ds l Q E → r_least_sum (fun _ l => Wr Q .non l) (Wr Q) noN noN (startD N_least_sum ds) l := by
  rintro ds l Q E ⟨w, rfl, rfl, hw, hq⟩
  unfold r_least_sum
  walk_at "zz"
  refine ⟨_, rfl, ?_⟩
  refine z_map w segD (fun s => .int s.1) rfl (by omega) rfl (fun u hu P hP => ?_) ?_
  · walk_at "zz"
    exact hP
  refine s_newF ?_
  walk_at "zz"
  refine s_sumL' (ns := w.map (·.1)) (by rw [List.map_map]; rfl) ?_
  walk_at "zz"
  exact s_wr hq
theorem sat_most : ∀ ds l Q E, sp_most ds l Q E → r_most_sum (fun _ l => Wr Q .non l) (Wr Q) noN noN (startD N_most_sum ds) l := by
  rintro ds l Q E ⟨w, rfl, rfl, hw, hq⟩
  unfold r_most_sum
  walk_at "zz"
  refine ⟨_, rfl, ?_⟩
  refine z_map w segD (fun s => .int s.2.1) rfl (by omega) rfl (fun u hu P hP => ?_) ?_
  · walk_at "zz"
    exact hP
  refine s_newF ?_
  walk_at "zz"
  refine s_sumL' (ns := w.map (·.2.1)) (by rw [List.map_map]; rfl) ?_
  walk_at "zz"
  exact s_wr hq
abbrev taskD (C : Addr) (nm : Str) (rows : List Row) (j : Int) : D := .obj C (taskF nm rows j)
def sp_tleast (C : Addr) : SpD := fun ds l Q _ => ∃ (nm : Str) (rows : List Row) (j f : Int) (r : Row), ds = [taskD C nm rows j, .int f] ∧ l = [] ∧ atI (rows.map rowD) f = some (rowD r) ∧ r.2.2.length ≤ 4 ∧ Q (.int (lo r.2.2)) []
def sp_tmost (C : Addr) : SpD := fun ds l Q _ => ∃ (nm : Str) (rows : List Row) (j f : Int) (r : Row), ds = [taskD C nm rows j, .int f] ∧ l = [] ∧ atI (rows.map rowD) f = some (rowD r) ∧ r.2.2.length ≤ 4 ∧ Q (.int (hi r.2.2)) []
theorem sat_tleast (C : Addr) : ∀ ds l Q E, sp_tleast C ds l Q E → r_Task__least_work sp_least C (fun _ l => Wr Q .non l) (Wr Q) noN noN (startD N_Task__least_work ds) l := by
  rintro ds l Q E ⟨nm, rows, j, f, r, rfl, rfl, ha, hw, hq⟩
  unfold r_Task__least_work
  walk_at "zz"
  refine c_none ⟨r.2.2, rfl, rfl, hw, ?_⟩
  dsimp only [List.nil_append]
  walk_at "zz"
  exact s_wr hq
theorem sat_tmost (C : Addr) : ∀ ds l Q E, sp_tmost C ds l Q E → r_Task__most_work sp_most C (fun _ l => Wr Q .non l) (Wr Q) noN noN (startD N_Task__most_work ds) l := by
  rintro ds l Q E ⟨nm, rows, j, f, r, rfl, rfl, ha, hw, hq⟩
  unfold r_Task__most_work
  walk_at "zz"
  refine c_none ⟨r.2.2, rfl, rfl, hw, ?_⟩
  dsimp only [List.nil_append]
  walk_at "zz"
  exact s_wr hq
def sp_fits (C : Addr) : SpD := fun ds l Q _ => ∃ (nm : Str) (rows : List Row) (j f n : Int) (r : Row), ds = [taskD C nm rows j, .int f, .int n] ∧ l = [] ∧ atI (rows.map rowD) f = some (rowD r) ∧ r.2.2.length ≤ 4 ∧
  Q (.bl (decide (lo r.2.2 ≤ n ∧ n ≤ hi r.2.2))) []
theorem sat_fits (C : Addr) : ∀ ds l Q E, sp_fits C ds l Q E → r_length_fits (sp_tleast C) (sp_tmost C) C (fun _ l => Wr Q .non l) (Wr Q) noN noN (startD N_length_fits ds) l := by
  rintro ds l Q E ⟨nm, rows, j, f, n, r, rfl, rfl, ha, hw, hq⟩
  unfold r_length_fits
  walk_at "zz"
  refine ⟨rfl, rfl, ?_⟩
  walk_at "zz"
  refine c_none ⟨nm, rows, j, f, r, rfl, rfl, ha, hw, ?_⟩
  dsimp only [List.nil_append]
  walk_at "zz"
  refine s_ite (fun h => ?_) (fun h => ?_)
  · walk_at "zz"
    refine ⟨rfl, rfl, ?_⟩
    walk_at "zz"
    refine c_none ⟨nm, rows, j, f, r, rfl, rfl, ha, hw, ?_⟩
    dsimp only [List.nil_append]
    walk_at "zz"
    have e : decide (lo r.2.2 ≤ n ∧ n ≤ hi r.2.2) = decide (n ≤ hi r.2.2) := by rw [Bool.decide_and, h, Bool.true_and]
    rw [e] at hq
    exact s_wr hq
  · have e : decide (lo r.2.2 ≤ n ∧ n ≤ hi r.2.2) = false := by rw [Bool.decide_and, h, Bool.false_and]
    rw [e] at hq
    walk_at "zz"
    exact s_wr hq
/-- how many entries are let from the front -/
structure IsL (rows : List Row) (j : Int) (log : List (Int × Int)) (s : Int) (L : Nat) : Prop where
  le : L ≤ log.length
  all : ∀ i, i < L → good rows j log s i
  stop : L < log.length → ¬ good rows j log s L
theorem IsL.eq {rows : List Row} {j : Int} {log : List (Int × Int)} {s : Int} {L M : Nat} (h : IsL rows j log s L) (k : IsL rows j log s M) : L = M := by
  rcases Nat.lt_trichotomy L M with z | z | z
  · exact absurd (k.all L z) (h.stop (Nat.lt_of_lt_of_le z k.le))
  · exact z
  · exact absurd (h.all M z) (k.stop (Nat.lt_of_lt_of_le z h.le))
theorem IsL.iff {rows : List Row} {j : Int} {log : List (Int × Int)} {s : Int} {L : Nat} (h : IsL rows j log s L) : L = log.length ↔ allG rows j log s :=
  ⟨fun e i hi => h.all i (by omega), fun g => by
    rcases Nat.lt_or_ge L log.length with z | z
    · exact absurd (g L z) (h.stop z)
    · have := h.le; omega⟩
def sp_earl (C : Addr) : SpD := fun ds l Q _ => ∃ (nm : Str) (rows : List Row) (j s : Int) (log : List (Int × Int)), ds = [taskD C nm rows j, logD log, .int s] ∧ l = [] ∧ RowsOk j rows ∧ log.length ≤ 1000 ∧
  ∀ p L, IsL rows j log s L → Q (.ref p) [(p, .lst ((avs rows j log s L).map .int))]
theorem sat_earl (C : Addr) : ∀ ds l Q E, sp_earl C ds l Q E → r_u_earliest_arrivals (sp_fits C) C (fun _ l => Wr Q .non l) (Wr Q) noN noN (startD N_u_earliest_arrivals ds) l := by
  rintro ds l Q E ⟨nm, rows, j, s, log, rfl, rfl, hr, hz, hq⟩
  have l1 := hr.l1
  have rz : ((rows.map rowD).length : Int) = rows.length := by rw [List.length_map]
  unfold r_u_earliest_arrivals
  walk_at "zz"
  refine s_newM fun p => ?_
  walk_at "zz"
  refine ⟨_, _, rfl, rfl, ?_⟩
  refine z_for (fun i τ l => ∃ x5 x6 x7 x8 x9 x10, τ = [some (taskD C nm rows j), some (logD log), some (.int s), some (.ref p), some (.int ((rows.map rowD).length : Nat)), x5, x6, x7, x8, x9, x10] ∧ l = [(p, .lst ((avs rows j log s i).map .int))] ∧ ∀ k, k < i → good rows j log s k)
    ⟨_, _, _, _, _, _, rfl, rfl, fun k hk => absurd hk (Nat.not_lt_zero k)⟩ (fun _ _ _ _ _ => rfl) ?_ ?_
  · rintro i x τ l hx ⟨x5, x6, x7, x8, x9, x10, rfl, rfl, hg⟩
    have hil : i < log.length := by
      rcases Nat.lt_or_ge i (enumD (log.map pairD)).length with z | z
      · rw [enum_len, List.length_map] at z; exact z
      · rw [List.getElem?_eq_none_iff.mpr z] at hx; cases hx
    have hx2 : (log.map pairD)[i]? = some (pairD (rl log i, ln log i)) := by rw [List.getElem?_map, log_at hil]; rfl
    rw [enum_at hx2] at hx
    cases hx
    have brk : ¬ good rows j log s i → Wr Q (.ref p) [(p, .lst ((avs rows j log s i).map .int))] := fun ng =>
      s_wr (hq p i ⟨by omega, hg, fun _ => ng⟩)
    obtain ⟨ra1, ra2⟩ := ra_at hr (s + (i : Int))
    have wl := ra2.w.l2
    walk_at "zn"
    refine s_seq ?_
    walk_at "zn"
    refine s_seq ?_
    walk_at "zn"
    refine s_mid (fun τ l => (0 < i → rl log (i - 1) ≤ rl log i) ∧ ∃ x10, τ = [some (taskD C nm rows j), some (logD log), some (.int s), some (.ref p), some (.int ((rows.map rowD).length : Nat)), some (.int (i : Nat)), some (.int ((s + (i : Int)) % ((rows.map rowD).length : Nat))), some (.int (av rows j log s i)), some (.int (rl log i)), some (.int (ln log i)), x10] ∧ l = [(p, .lst ((avs rows j log s i).map .int))]) (fun nx hnx => ?_) ?_
    · walk_at "zz"
      refine s_ite (fun h => ?_) (fun h => ?_)
      · have i0 : 0 < i := by have := of_decide_eq_true h; omega
        obtain ⟨k, rfl⟩ : ∃ k, i = k + 1 := ⟨i - 1, by omega⟩
        have hb : atI (rows.map rowD) (((s + ((k + 1 : Nat) : Int)) % ((rows.map rowD).length : Nat) + ((rows.map rowD).length : Nat) - 1) % ((rows.map rowD).length : Nat)) = some (rowD (ra rows (s + (k : Int)))) := by
          rw [mod_back, show s + ((k + 1 : Nat) : Int) - 1 = s + (k : Int) by omega]; exact (ra_at hr _).1
        have hl : atI ((avs rows j log s (k + 1)).map D.int) (-1) = some (.int (av rows j log s k)) := at_last (by rw [List.length_map, avs_len, List.getElem?_map, avs_get (by omega)]; rfl)
        have hp : atI (log.map pairD) (((k + 1 : Nat) : Int) - 1) = some (pairD (rl log k, ln log k)) := logD_at (by omega) (by omega)
        walk_at "zz"
        refine s_ite (fun h => ?_) (fun h => ?_)
        · walk_at "zz"
          refine brk fun g => ?_
          have h1 := of_decide_eq_true h
          have h2 : rl log k ≤ rl log (k + 1) := g.1 (Nat.succ_pos k)
          omega
        · walk_at "zz"
          have h1 := of_decide_eq_false h
          exact hnx _ _ ⟨fun _ => Int.not_lt.mp h1, _, rfl, rfl⟩
      · walk_at "zz"
        have i0 : i = 0 := by have := of_decide_eq_false h; omega
        subst i0
        exact hnx _ _ ⟨fun h => absurd h (Nat.lt_irrefl 0), _, rfl, rfl⟩
    · rintro τ l ⟨hmono, x10, rfl, rfl⟩
      walk_at "zz"
      refine s_ite (fun h => ?_) (fun h => ?_)
      · walk_at "zz"
        refine brk fun g => ?_
        have h1 := of_decide_eq_true h
        have h2 := g.2.1
        omega
      · have h0 := of_decide_eq_false h
        walk_at "zz"
        refine c_none ⟨nm, rows, j, _, _, _, rfl, rfl, ra1, wl, ?_⟩
        dsimp only [List.nil_append]
        walk_at "zz"
        refine s_ite (fun h => ?_) (fun h => ?_)
        · walk_at "zz"
          refine brk fun g => ?_
          rw [decide_eq_true g.2.2] at h
          cases h
        · have h1 : decide (lo (ra rows (s + (i : Int))).2.2 ≤ ln log i ∧ ln log i ≤ hi (ra rows (s + (i : Int))).2.2) = true := by
            revert h; cases decide (lo (ra rows (s + (i : Int))).2.2 ≤ ln log i ∧ ln log i ≤ hi (ra rows (s + (i : Int))).2.2) <;> simp
          walk_at "zz"
          · refine s_wk ⟨_, _, _, _, _, _, rfl, by rw [avs_succ, List.map_append]; rfl, fun k hk => ?_⟩
            rcases Nat.lt_or_ge k i with z | z
            · exact hg k z
            · rw [show k = i by omega]
              exact ⟨hmono, by omega, of_decide_eq_true h1⟩
          · rw [List.length_map, avs_len]; omega
  · rintro τ l ⟨x5, x6, x7, x8, x9, x10, rfl, rfl, hg⟩
    simp only [enum_len, List.length_map] at hg ⊢
    refine s_ret ?_
    refine s_var ?_ rfl
    exact s_fz (s_wr (hq p log.length ⟨Nat.le_refl _, hg, fun h => absurd h (Nat.lt_irrefl _)⟩))

def sp_expl (C : Addr) : SpD := fun ds l Q _ => ∃ (nm : Str) (rows : List Row) (j : Int) (log : List (Int × Int)), ds = [taskD C nm rows j, logD log] ∧ l = [] ∧ RowsOk j rows ∧ log.length ≤ 1000 ∧
  (∀ (s : Nat) p, s < rows.length → allG rows j log s → (∀ k : Nat, k < s → ¬ allG rows j log k) → Q (.tup [.int s, .ref p]) [(p, .lst ((avs rows j log s log.length).map .int))]) ∧ ((∀ k : Nat, k < rows.length → ¬ allG rows j log k) → Q .non [])
theorem sat_expl (C : Addr) : ∀ ds l Q E, sp_expl C ds l Q E → r_explained (sp_earl C) C (fun _ l => Wr Q .non l) (Wr Q) noN noN (startD N_explained ds) l := by
  rintro ds l Q E ⟨nm, rows, j, log, rfl, rfl, hr, hz, hq1, hq2⟩
  have l1 := hr.l1
  have l2 := hr.l2
  unfold r_explained
  walk_at "zz"
  refine s_and (s_and ?_ (by rw [List.length_map]; omega)) (by omega)
  refine z_rng (fun i τ l => ∃ x2 x3, τ = [some (taskD C nm rows j), some (logD log), x2, x3] ∧ l = [] ∧ ∀ k : Nat, k < i → ¬ allG rows j log k) ⟨_, _, rfl, rfl, fun k hk => absurd hk (Nat.not_lt_zero k)⟩ ?_ ?_
  · rintro i τ l hi ⟨x2, x3, rfl, rfl, hn⟩
    rw [List.length_map] at hi
    walk_at "zz"
    refine c_none ⟨nm, rows, j, _, log, rfl, rfl, hr, hz, fun p L hI => ?_⟩
    have hall := hI.iff
    dsimp only [List.append_nil]
    rw [Int.zero_add] at hall ⊢
    walk_at "zz"
    refine s_ite (fun h => ?_) (fun h => ?_)
    · have h1 : L = log.length := by
        have := of_decide_eq_true h
        rw [List.length_map, avs_len, List.length_map] at this
        omega
      subst h1
      walk_at "zz"
      exact s_wr (hq1 i p (by omega) (hall.mp rfl) hn)
    · have h1 : ¬ L = log.length := by
        have := of_decide_eq_false h
        rw [List.length_map, avs_len, List.length_map] at this
        omega
      walk_at "zz"
      refine s_wkP [] (by decide) ⟨_, _, rfl, rfl, fun k hk => ?_⟩
      rcases Nat.lt_or_ge k i with z | z
      · exact hn k z
      · rw [show k = i by omega]; exact fun g => h1 (hall.mpr g)
  · rintro τ l ⟨x2, x3, rfl, rfl, hn⟩
    walk_at "zz"
    rw [List.length_map] at hn
    exact s_wr (hq2 fun k hk => hn k (by omega))

/-! ### this law's own tasks and logs -/
theorem segs_snoc {w : List Seg} {x : Seg} (h : ∀ s ∈ w, SegOk s) (hx : SegOk x) : ∀ s ∈ w ++ [x], SegOk s := fun s hs => by
  rcases List.mem_append.mp hs with e | e
  · exact h s e
  · rw [List.mem_singleton.mp e]; exact hx
def sp_work : SpD := fun ds l Q _ => ∃ (b : Addr) (o : MO) (large : Bool) (n : Int), ds = [.ref b, .bl large] ∧ l = [(b, o)] ∧ BagIs n o ∧ n < 100000000 ∧
  ∀ w o', WorkOk w → BagIs (n + 20) o' → Q (.tup (w.map segD)) [(b, o')]
theorem sat_work : ∀ ds l Q E, sp_work ds l Q E → r_u_law_work sp_take (fun _ l => Wr Q .non l) (Wr Q) noN noN (startD N_u_law_work ds) l := by
  rintro ds l Q E ⟨b, o, large, n, rfl, rfl, hb, hn, hq⟩
  unfold r_u_law_work
  walk_at "zz"
  refine s_newF ?_
  walk_at "zz"
  refine s_newM fun p => ?_
  walk_at "zz"
  refine take1 hb (fun v o1 v0 v1 hb1 => ?_) (by omega) (by decide) (by decide)
  walk_at "zz"
  refine s_and (s_and ?_ (by omega)) (by omega)
  refine z_rng (fun i τ l => ∃ (w : List Seg) (o' : MO) (x4 x5 x6 : Option D), τ = [some (.ref b), some (.bl large), some (.lst [D.str "", D.str "", D.str "m", D.str "*", D.str "ck", D.str "abcd"]), some (.ref p), x4, x5, x6] ∧
    l = [(p, .lst (w.map segD)), (b, o')] ∧ BagIs (n + 1 + 4 * i) o' ∧ w.length = i ∧ ∀ s ∈ w, SegOk s) ⟨[], o1, none, none, none, rfl, rfl, hb1.mono (by omega), rfl, fun s hs => nomatch hs⟩ ?_ ?_
  · rintro i τ l hi ⟨w, o', x4, x5, x6, rfl, rfl, hb2, hw, hok⟩
    walk_at "zz"
    refine s_ite (fun h => ?_) (fun h => ?_)
    · walk_at "zz"
      refine take1 hb2 (fun v1 o1 a0 a1 hb3 => ?_) (by omega) (by omega) (by omega)
      walk_at "zz"
      refine s_yes ?_ h
      walk_at "zz"
      refine take1 hb3 (fun v2 o2 c0 c1 hb4 => ?_) (by omega) (by omega) (by omega)
      walk_at "zz"
      refine take1 hb4 (fun v3 o3 e0 e1 hb5 => ?_) (by omega) (by omega) (by omega)
      obtain ⟨k, hk, k2⟩ := pick6 e0 e1
      walk_at "zz"
      · exact s_wk ⟨w ++ [(1 + v1, 1 + v1 + v2, k)], o3, _, _, _, rfl, by rw [List.map_append]; rfl, hb5.mono (by omega), by rw [List.length_append, hw]; rfl, segs_snoc hok ⟨by show 1 ≤ 1 + v1; omega, by show 1 + v1 ≤ 1 + v1 + v2; omega, by show 1 + v1 + v2 ≤ 240; omega, k2⟩⟩
      · rw [List.length_map]; omega
    · walk_at "zz"
      refine take1 hb2 (fun v1 o1 a0 a1 hb3 => ?_) (by omega) (by omega) (by omega)
      walk_at "zz"
      refine s_no ?_ h
      walk_at "zz"
      refine take1 hb3 (fun v2 o2 c0 c1 hb4 => ?_) (by omega) (by omega) (by omega)
      walk_at "zz"
      refine take1 hb4 (fun v3 o3 e0 e1 hb5 => ?_) (by omega) (by omega) (by omega)
      obtain ⟨k, hk, k2⟩ := pick6 e0 e1
      walk_at "zz"
      · exact s_wk ⟨w ++ [(1 + v1, 1 + v1 + v2, k)], o3, _, _, _, rfl, by rw [List.map_append]; rfl, hb5.mono (by omega), by rw [List.length_append, hw]; rfl, segs_snoc hok ⟨by show 1 ≤ 1 + v1; omega, by show 1 + v1 ≤ 1 + v1 + v2; omega, by show 1 + v1 + v2 ≤ 240; omega, k2⟩⟩
      · rw [List.length_map]; omega
  · rintro τ l ⟨w, o', x4, x5, x6, rfl, rfl, hb2, hw, hok⟩
    walk_at "zz"
    exact s_wrP [1] (by decide) (hq w o' ⟨by omega, by omega, hok⟩ (hb2.mono (by omega)))
def sp_rows : SpD := fun ds l Q _ => ∃ (ns : List Int) (size early end_ : Int) (large : Bool), ds = [.scr (ns.map .int), .int size, .int end_, .bl large] ∧ l = [] ∧ 1 ≤ size ∧ size ≤ 4 ∧ early < end_ ∧ end_ ≤ 480 ∧
  ∀ rows : List Row, RowsOk early rows → (rows.length : Int) = size → Q (.lst (rows.map rowD)) []
theorem ord_even {rows : List Row} {e : Int} (h : ∀ r ∈ rows, 1 ≤ r.1 ∧ r.2.1 = e) : Ord rows := fun i r s h1 h2 => by
  have a := h r (mem_of_get h1)
  have b : s ∈ rows := by
    rcases List.mem_append.mp (mem_of_get h2) with z | z
    · exact List.mem_of_mem_drop z
    · exact List.mem_of_mem_take z
  have c := h s b
  omega
theorem sat_rows : ∀ ds l Q E, sp_rows ds l Q E → r_u_law_rows sp_bag sp_take sp_work (fun _ l => Wr Q .non l) (Wr Q) noN noN (startD N_u_law_rows ds) l := by
  rintro ds l Q E ⟨ns, size, early, end_, large, rfl, rfl, s1, s4, e0, e1, hq⟩
  unfold r_u_law_rows
  walk_at "zz"
  refine s_newM fun p => ?_
  walk_at "zz"
  refine s_and (s_and ?_ (by omega)) (by omega)
  refine z_rng (fun i τ l => ∃ (rs : List Row) (x5 x6 x7 : Option D), τ = [some (.scr (ns.map .int)), some (.int size), some (.int end_), some (.bl large), some (.ref p), x5, x6, x7] ∧ l = [(p, .lst (rs.map rowD))] ∧ rs.length = i ∧
    ∀ r ∈ rs, 1 ≤ r.1 ∧ r.1 ≤ 240 ∧ r.2.1 = end_ ∧ WorkOk r.2.2) ⟨[], _, _, _, rfl, rfl, rfl, fun _ h => nomatch h⟩ ?_ ?_
  · rintro i τ l hi ⟨rs, x5, x6, x7, rfl, rfl, hl, hok⟩
    walk_at "zz"
    refine c_none ⟨ns, _, rfl, rfl, by omega, by omega, fun b o hb => ?_⟩
    dsimp only [List.cons_append, List.nil_append]
    walk_at "zn"
    refine s_mid (fun τ l => ∃ (gap : Int) (o : MO), τ = [some (.scr (ns.map .int)), some (.int size), some (.int end_), some (.bl large), some (.ref p), some (.int (0 + (i : Nat))), some (.ref b), some (.int gap)] ∧ l = [(b, o), (p, .lst (rs.map rowD))] ∧ 1 ≤ gap ∧ gap ≤ 240 ∧ BagIs 1001 o) (fun nx hnx => ?_) ?_
    · walk_at "zz"
      refine s_ite (fun h => ?_) (fun h => ?_)
      · walk_at "zz"
        refine take0 hb (fun v o1 a0 a1 hb1 => ?_) (by omega) (by omega) (by omega)
        walk_at "zz"
        exact hnx _ _ ⟨_, _, rfl, rfl, by omega, by omega, hb1.mono (by omega)⟩
      · walk_at "zz"
        refine take0 hb (fun v o1 a0 a1 hb1 => ?_) (by omega) (by omega) (by omega)
        walk_at "zz"
        exact hnx _ _ ⟨_, _, rfl, rfl, by omega, by omega, hb1.mono (by omega)⟩
    rintro τ l ⟨gap, o1, rfl, rfl, g1, g2, hb1⟩
    walk_at "zz"
    refine c_0 ⟨b, o1, large, _, rfl, rfl, hb1, by omega, fun w o2 hw hb2 => ?_⟩
    simp only [merge_0]
    walk_at "zz"
    · exact s_wkP [1] (by decide) ⟨rs ++ [(gap, end_, w)], _, _, _, rfl, by rw [List.map_append]; rfl, by rw [List.length_append, hl]; rfl, mem_snoc hok ⟨g1, g2, rfl, hw⟩⟩
    · rw [List.length_map]; omega
  · rintro τ l ⟨rs, x5, x6, x7, rfl, rfl, hl, hok⟩
    refine s_ret ?_
    refine s_var ?_ rfl
    refine s_frz (n := 0) ?_ rfl
    refine s_wrP [] (by decide) (hq rs ⟨by omega, by omega, fun r hr => ?_, ord_even (e := end_) fun r hr => ?_⟩ (by omega))
    · obtain ⟨a, b, c, d⟩ := hok r hr
      exact ⟨a, b, by omega, by omega, d⟩
    · obtain ⟨a, b, c, d⟩ := hok r hr
      exact ⟨a, c⟩
def sp_low : SpD := fun ds l Q _ => ∃ r : Row, ds = [rowD r] ∧ l = [] ∧ r.2.2.length ≤ 4 ∧ Q (.int (lo r.2.2)) []
def sp_high : SpD := fun ds l Q _ => ∃ r : Row, ds = [rowD r] ∧ l = [] ∧ r.2.2.length ≤ 4 ∧ Q (.int (hi r.2.2)) []
theorem sat_low : ∀ ds l Q E, sp_low ds l Q E → r_u_law_low (fun _ l => Wr Q .non l) (Wr Q) noN noN (startD N_u_law_low ds) l := by
  rintro ds l Q E ⟨r, rfl, rfl, hw, hq⟩
  unfold r_u_law_low
  walk_at "zz"
  refine ⟨_, rfl, ?_⟩
  refine z_map r.2.2 segD (fun s => .int s.1) rfl (by omega) rfl (fun u hu P hP => ?_) ?_
  · walk_at "zz"
    exact hP
  refine s_newF ?_
  walk_at "zz"
  refine s_sumL' (ns := r.2.2.map (·.1)) (by rw [List.map_map]; rfl) ?_
  walk_at "zz"
  exact s_wr hq
theorem sat_high : ∀ ds l Q E, sp_high ds l Q E → r_u_law_high (fun _ l => Wr Q .non l) (Wr Q) noN noN (startD N_u_law_high ds) l := by
  rintro ds l Q E ⟨r, rfl, rfl, hw, hq⟩
  unfold r_u_law_high
  walk_at "zz"
  refine ⟨_, rfl, ?_⟩
  refine z_map r.2.2 segD (fun s => .int s.2.1) rfl (by omega) rfl (fun u hu P hP => ?_) ?_
  · walk_at "zz"
    exact hP
  refine s_newF ?_
  walk_at "zz"
  refine s_sumL' (ns := r.2.2.map (·.2.1)) (by rw [List.map_map]; rfl) ?_
  walk_at "zz"
  exact s_wr hq
def sp_good : SpD := fun ds l Q _ => ∃ (ns : List Int) (rows : List Row) (early : Int), ds = [.scr (ns.map .int), .lst (rows.map rowD), .int early] ∧ l = [] ∧ RowsOk early rows ∧ 0 ≤ early ∧ early ≤ 240 ∧
  ∀ log : List (Int × Int), log.length ≤ 57 → Q (.lst (log.map pairD)) []
theorem sat_good : ∀ ds l Q E, sp_good ds l Q E → r_u_law_good sp_bag sp_take sp_low sp_high (fun _ l => Wr Q .non l) (Wr Q) noN noN (startD N_u_law_good ds) l := by
  rintro ds l Q E ⟨ns, rows, early, rfl, rfl, hr, e0, e1, hq⟩
  unfold r_u_law_good
  have r1 := hr.l1
  have r4 := hr.l2
  have rz : ((rows.map rowD).length : Int) = rows.length := by rw [List.length_map]
  walk_at "zz"
  refine c_none ⟨ns, _, rfl, rfl, by omega, by omega, fun b o hb => ?_⟩
  dsimp only [List.cons_append, List.nil_append]
  walk_at "zz"
  refine take0 hb (fun ar o1 _ _ hb1 => ?_) (by omega) (by omega) (by omega)
  walk_at "zz"
  refine take0 hb1 (fun first o2 f0 f1 hb2 => ?_) (by omega) (by omega) (by omega)
  walk_at "zz"
  refine take0 hb2 (fun sz o3 z0 z1 hb3 => ?_) (by omega) (by omega) (by omega)
  walk_at "zn"
  refine s_mid (fun τ l => ∃ (size : Int) (o : MO), τ = [some (.scr (ns.map .int)), some (.lst (rows.map rowD)), some (.int early), some (.ref b), some (.int (ar - 100)), some (.int first), some (.int size), none, none, none, none, none, none, none] ∧ l = [(b, o)] ∧ 0 ≤ size ∧ size ≤ 57) (fun nx hnx => ?_) ?_
  · walk_at "zz"
    refine take0 hb3 (fun v o4 v0 v1 hb4 => ?_) (by omega) (by omega) (by omega)
    walk_at "zz"
    refine s_ite (fun h => ?_) (fun h => ?_)
    · walk_at "zz"
      refine take0 hb4 (fun v o5 v0 v1 hb5 => ?_) (by omega) (by omega) (by omega)
      walk_at "zz"
      exact hnx _ _ ⟨_, _, rfl, rfl, by omega, by omega⟩
    · walk_at "zz"
      exact hnx _ _ ⟨_, _, rfl, rfl, by omega, by omega⟩
  rintro τ l ⟨size, o3, rfl, rfl, z2, z3⟩
  walk_at "zz"
  refine s_newM fun pl => ?_
  walk_at "zz"
  refine s_and (s_and ?_ (by omega)) (by omega)
  refine z_rng (fun i τ l => ∃ (arr rel : Int) (log : List (Int × Int)) (x9 x10 x11 x12 x13 : Option D), τ = [some (.scr (ns.map .int)), some (.lst (rows.map rowD)), some (.int early), some (.ref b), some (.int arr), some (.int first), some (.int size), some (.int rel), some (.ref pl), x9, x10, x11, x12, x13] ∧
    l = [(pl, .lst (log.map pairD)), (b, o3)] ∧ log.length = i) ⟨_, _, [], _, _, _, _, _, rfl, rfl, rfl⟩ ?_ ?_
  · rintro i τ l hil ⟨arr, rel, log, x9, x10, x11, x12, x13, rfl, rfl, hl⟩
    walk_at "zz"
    refine c_none ⟨ns, _, rfl, rfl, by omega, by omega, fun p o hb => ?_⟩
    dsimp only [List.cons_append, List.nil_append]
    obtain ⟨r, hr1, _, hr2⟩ := rows_at hr (first + (0 + (i : Int)))
    obtain ⟨w0, w1, w2⟩ := hr2.w.lh
    have wl := hr2.w.l2
    walk_at "zz"
    refine take0 hb (fun late o1 _ _ hb1 => ?_) (by omega) (by omega) (by omega)
    walk_at "zz"
    refine take0 hb1 (fun way o2 _ _ hb2 => ?_) (by omega) (by omega) (by omega)
    walk_at "zn"
    refine s_mid (fun τ l => ∃ (late : Int) (o : MO), τ = [some (.scr (ns.map .int)), some (.lst (rows.map rowD)), some (.int early), some (.ref b), some (.int arr), some (.int first), some (.int size), some (.int rel), some (.ref pl), some (.int (0 + (i : Nat))), some (.ref p), some (rowD r), some (.int late), some (.int way)] ∧ l = [(p, o), (pl, .lst (log.map pairD)), (b, o3)] ∧ BagIs 1010 o) (fun nx hnx => ?_) ?_
    · walk_at "zz"
      refine s_ite (fun h => ?_) (fun h => ?_)
      · walk_at "zz"
        exact hnx _ _ ⟨_, _, rfl, rfl, hb2.mono (by omega)⟩
      · walk_at "zz"
        exact hnx _ _ ⟨_, _, rfl, rfl, hb2.mono (by omega)⟩
    rintro τ l ⟨late, o2, rfl, rfl, hb2⟩
    walk_at "zz"
    refine c_none ⟨r, rfl, rfl, wl, ?_⟩
    dsimp only [List.nil_append]
    walk_at "zz"
    refine c_none ⟨r, rfl, rfl, wl, ?_⟩
    dsimp only [List.nil_append]
    walk_at "zz"
    refine c_none ⟨r, rfl, rfl, wl, ?_⟩
    dsimp only [List.nil_append]
    walk_at "zz"
    refine take0 hb2 (fun more o4 _ _ hb4 => ?_) (by omega) (by omega) (by omega)
    walk_at "zz"
    · refine take0 hb4 (fun v o5 _ _ hb5 => ?_) (by omega) (by omega) (by omega)
      walk_at "zz"
      exact s_wkP [1, 2] (by decide) ⟨_, _, log ++ [(_, _)], _, _, _, _, _, rfl, by rw [List.map_append]; rfl, by rw [List.length_append, hl]; rfl⟩
    · rw [List.length_map]; omega
  · rintro τ l ⟨arr, rel, log, x9, x10, x11, x12, x13, rfl, rfl, hl⟩
    refine s_ret ?_
    refine s_var ?_ rfl
    refine s_frz (n := 0) ?_ rfl
    exact s_wrP [] (by decide) (hq log (by omega))

/-! ### the law -/
def sp_number : SpD := fun ds l Q _ => ∃ i : Int, ds = [.int i] ∧ l = [] ∧ Q (.bl true) []
theorem sat_number : ∀ ds l Q E, sp_number ds l Q E → r_u_law_number (fun _ l => Wr Q .non l) (Wr Q) noN noN (startD N_u_law_number ds) l := by
  rintro ds l Q E ⟨i, rfl, rfl, hq⟩
  unfold r_u_law_number
  walk_at "zz"
  refine s_yes ?_ (by decide +kernel)
  walk_at "zz"
  have e : (!isB "int" "bool") = true := by decide +kernel
  rw [e]
  exact s_wr hq

/-! ### where a log breaks -/
def Ag (n : Nat) (a b : List (Int × Int)) : Prop := ∀ k, k < n → rl a k = rl b k ∧ ln a k = ln b k
theorem Ag.av {rows : List Row} {j s : Int} {n : Nat} {a b : List (Int × Int)} (h : Ag n a b) : ∀ i, i < n → av rows j a s i = av rows j b s i
  | 0, hi => by show rl a 0 - j = rl b 0 - j; rw [(h 0 hi).1]
  | i + 1, hi => by
    have ih := Ag.av (rows := rows) (j := j) (s := s) h i (by omega)
    show (if Hd.av rows j a s i + (ra rows (s + i)).1 > rl a (i + 1) - j then Hd.av rows j a s i + (ra rows (s + i)).1 else rl a (i + 1) - j) = (if Hd.av rows j b s i + (ra rows (s + i)).1 > rl b (i + 1) - j then Hd.av rows j b s i + (ra rows (s + i)).1 else rl b (i + 1) - j)
    rw [ih, (h (i + 1) hi).1]
theorem Ag.good {rows : List Row} {j s : Int} {n : Nat} {a b : List (Int × Int)} (h : Ag n a b) {i : Nat} (hi : i < n) (g : good rows j a s i) : good rows j b s i := by
  obtain ⟨g1, g2, g3, g4⟩ := g
  rw [h.av i hi] at g2
  rw [(h i hi).1] at g1 g2
  rw [(h i hi).2] at g3 g4
  refine ⟨fun z => ?_, g2, g3, g4⟩
  have := g1 z
  rw [(h (i - 1) (by omega)).1] at this
  exact this
theorem Ag.symm {n : Nat} {a b : List (Int × Int)} (h : Ag n a b) : Ag n b a := fun k hk => ⟨(h k hk).1.symm, (h k hk).2.symm⟩
theorem Ag.of {n : Nat} {a b : List (Int × Int)} (h : ∀ k, k < n → a[k]? = b[k]?) : Ag n a b := fun k hk => by
  unfold rl ln
  rw [List.getD_eq_getElem?_getD, List.getD_eq_getElem?_getD, h k hk]
  exact ⟨rfl, rfl⟩
theorem Ag.take {n : Nat} {a : List (Int × Int)} : Ag n (a.take n) a := .of fun k hk => by rw [List.getElem?_take_of_lt hk]
theorem Ag.app {a b : List (Int × Int)} : Ag a.length a (a ++ b) := .of fun k hk => by rw [List.getElem?_append_left hk]
theorem IsL.pre {rows : List Row} {j s : Int} {a b : List (Int × Int)} {L : Nat} (h : IsL rows j b s L) (g : Ag a.length a b) (hl : a.length ≤ b.length) : IsL rows j a s (min L a.length) where
  le := Nat.min_le_right _ _
  all := fun i hi => g.symm.good (by omega) (h.all i (by omega))
  stop := fun hi k => by
    have e : min L a.length = L := by omega
    rw [e] at k hi
    exact h.stop (by omega) (g.good hi k)
theorem IsL.ex (rows : List Row) (j : Int) (log : List (Int × Int)) (s : Int) : ∃ L, IsL rows j log s L := by
  have h : ∀ n, n ≤ log.length → (∀ i, i < n → good rows j log s i) ∨ ∃ L, IsL rows j log s L := by
    intro n
    induction n with
    | zero => intro _; exact .inl fun i hi => absurd hi (Nat.not_lt_zero i)
    | succ n ih =>
      intro hn
      rcases ih (by omega) with h | h
      · by_cases g : good rows j log s n
        · refine .inl fun i hi => ?_
          rcases Nat.lt_or_ge i n with z | z
          · exact h i z
          · rw [show i = n by omega]; exact g
        · exact .inr ⟨n, by omega, h, fun _ => g⟩
      · exact .inr h
  rcases h log.length (Nat.le_refl _) with h | h
  · exact ⟨log.length, Nat.le_refl _, h, fun h => absurd h (Nat.lt_irrefl _)⟩
  · exact h
structure IsMax (rows : List Row) (j : Int) (log : List (Int × Int)) (m : Nat) : Prop where
  at_ : ∃ s : Nat, s < rows.length ∧ IsL rows j log s m
  le : ∀ s : Nat, s < rows.length → ∀ L, IsL rows j log s L → L ≤ m
theorem IsMax.eq {rows : List Row} {j : Int} {log : List (Int × Int)} {m n : Nat} (h : IsMax rows j log m) (k : IsMax rows j log n) : m = n := by
  obtain ⟨s, hs, a⟩ := h.at_
  obtain ⟨t, ht, b⟩ := k.at_
  have := h.le t ht n b
  have := k.le s hs m a
  omega
theorem IsMax.bound {rows : List Row} {j : Int} {log : List (Int × Int)} {m : Nat} (h : IsMax rows j log m) : m ≤ log.length := by
  obtain ⟨s, hs, a⟩ := h.at_
  exact a.le
theorem IsMax.of {rows : List Row} {j : Int} {log : List (Int × Int)} {Ls : List Nat} {m : Int} (hl : Ls.length = rows.length) (h : ∀ (k : Nat) L, Ls[k]? = some L → IsL rows j log k L) (hm : m ∈ Ls.map fun (L : Nat) => (L : Int)) (hy : ∀ y, y ∈ Ls.map (fun (L : Nat) => (L : Int)) → y ≤ m) : ∃ M : Nat, m = M ∧ IsMax rows j log M := by
  obtain ⟨M, hM, rfl⟩ := List.mem_map.mp hm
  refine ⟨M, rfl, ?_, fun s hs L hL => ?_⟩
  · obtain ⟨k, hk⟩ := List.mem_iff_getElem?.mp hM
    refine ⟨k, ?_, h k M hk⟩
    rcases Nat.lt_or_ge k Ls.length with z | z
    · omega
    · rw [List.getElem?_eq_none_iff.mpr z] at hk; cases hk
  · have e : Ls[s]? = some Ls[s] := List.getElem?_eq_getElem (by omega)
    have := hy _ (List.mem_map.mpr ⟨_, mem_of_get e, rfl⟩)
    have q := hL.eq (h s _ e)
    omega
def dueD (m : Nat) (log : List (Int × Int)) : D := if m = log.length then .non else .int (m : Nat)
def ar (rows : List Row) (j : Int) (log : List (Int × Int)) (s : Int) : Nat → Int
  | 0 => 0
  | k + 1 => av rows j log s k
def sp_kept : SpD := fun ds l Q _ => ∃ (rows : List Row) (j s : Int) (log : List (Int × Int)), ds = [.lst (rows.map rowD), .int j, .int s, logD log] ∧ l = [] ∧ RowsOk j rows ∧ log.length ≤ 1000 ∧
  ∀ L, IsL rows j log s L → Q (.tup [.int (L : Nat), .int (ar rows j log s L)]) []
theorem av_succ {rows : List Row} {j : Int} {log : List (Int × Int)} {s : Int} {k : Nat} : av rows j log s (k + 1) = if av rows j log s k + (ra rows (s + (k : Int))).1 > rl log (k + 1) - j then av rows j log s k + (ra rows (s + (k : Int))).1 else rl log (k + 1) - j := rfl
theorem sat_kept : ∀ ds l Q E, sp_kept ds l Q E → r_u_law_kept sp_low sp_high (fun _ l => Wr Q .non l) (Wr Q) noN noN (startD N_u_law_kept ds) l := by
  rintro ds l Q E ⟨rows, j, s, log, rfl, rfl, hr, hz, hq⟩
  have l1 := hr.l1
  have rz : ((rows.map rowD).length : Int) = rows.length := by rw [List.length_map]
  unfold r_u_law_kept
  walk_at "zz"
  refine s_and (s_and ?_ (by rw [List.length_map]; omega)) (by omega)
  refine z_rng (fun i τ l => ∃ x5 x6 x7, τ = [some (.lst (rows.map rowD)), some (.int j), some (.int s), some (logD log), some (.int (ar rows j log s i)), x5, x6, x7] ∧ l = [] ∧ ∀ k, k < i → good rows j log s k)
    ⟨_, _, _, rfl, rfl, fun k hk => absurd hk (Nat.not_lt_zero k)⟩ ?_ ?_
  · rintro i τ l hi ⟨x5, x6, x7, rfl, rfl, hg⟩
    have hil : i < log.length := by rw [List.length_map] at hi; omega
    have bad : ¬ good rows j log s i → Wr Q (.tup [.int (i : Nat), .int (ar rows j log s i)]) [] := fun ng => s_wr (hq i ⟨by omega, hg, fun _ => ng⟩)
    obtain ⟨ra1, ra2⟩ := ra_at hr (s + (0 + (i : Int)))
    have wl := ra2.w.l2
    have la := logD_at (log := log) hil (z := 0 + (i : Int)) (by omega)
    rw [show s + (0 + (i : Int)) = s + (i : Int) by omega] at ra1 ra2 wl
    rw [show (0 + (i : Int)) = (i : Int) by omega] at la ⊢
    walk_at "zn"
    refine s_seq ?_
    walk_at "zn"
    refine s_seq ?_
    walk_at "zn"
    refine s_mid (fun τ l => (0 < i → rl log (i - 1) ≤ rl log i) ∧ τ = [some (.lst (rows.map rowD)), some (.int j), some (.int s), some (logD log), some (.int (ar rows j log s i)), some (.int (i : Nat)), some (rowD (ra rows (s + (i : Int)))), some (.int (av rows j log s i))] ∧ l = []) (fun nx hnx => ?_) ?_
    · walk_at "zz"
      refine s_ite (fun h => ?_) (fun h => ?_)
      · have i0 : 0 < i := by have := of_decide_eq_true h; omega
        obtain ⟨k, rfl⟩ : ∃ k, i = k + 1 := ⟨i - 1, by omega⟩
        have hb : atI (rows.map rowD) ((s + ((k + 1 : Nat) : Int) - 1) % ((rows.map rowD).length : Nat)) = some (rowD (ra rows (s + (k : Int)))) := by
          rw [show s + ((k + 1 : Nat) : Int) - 1 = s + (k : Int) by omega]; exact (ra_at hr _).1
        have hp : atI (log.map pairD) (((k + 1 : Nat) : Int) - 1) = some (pairD (rl log k, ln log k)) := logD_at (by omega) (by omega)
        walk_at "zz"
        refine s_ite (fun h => ?_) (fun h => ?_)
        · walk_at "zz"
          refine bad (fun g => ?_)
          have h1 := of_decide_eq_true h
          have h2 : rl log k ≤ rl log (k + 1) := g.1 (Nat.succ_pos k)
          omega
        · walk_at "zz"
          have h1 := of_decide_eq_false h
          exact hnx _ _ ⟨fun _ => Int.not_lt.mp h1, rfl, rfl⟩
      · have i0 : i = 0 := by have := of_decide_eq_false h; omega
        subst i0
        walk_at "zz"
        exact hnx _ _ ⟨fun h => absurd h (Nat.lt_irrefl 0), rfl, rfl⟩
    · rintro τ l ⟨hmono, rfl, rfl⟩
      walk_at "zz"
      refine s_ite (fun h => ?_) (fun h => ?_)
      · walk_at "zz"
        refine bad (fun g => ?_)
        have h1 := of_decide_eq_true h
        have h2 := g.2.1
        omega
      have h1 := of_decide_eq_false h
      walk_at "zz"
      refine c_none ⟨_, rfl, rfl, wl, ?_⟩
      dsimp only [List.nil_append]
      walk_at "zz"
      refine s_ite (fun h => ?_) (fun h => ?_)
      · walk_at "zz"
        refine bad (fun g => ?_)
        have h1 := of_decide_eq_true h
        have h2 := g.2.2.1
        omega
      have h2 := of_decide_eq_false h
      walk_at "zz"
      refine c_none ⟨_, rfl, rfl, wl, ?_⟩
      dsimp only [List.nil_append]
      walk_at "zz"
      refine s_ite (fun h => ?_) (fun h => ?_)
      · walk_at "zz"
        refine bad (fun g => ?_)
        have h1 := of_decide_eq_true h
        have h2 := g.2.2.2
        omega
      have h3 := of_decide_eq_false h
      walk_at "zz"
      refine s_wk ⟨_, _, _, rfl, rfl, fun k hk => ?_⟩
      rcases Nat.lt_or_ge k i with z | z
      · exact hg k z
      · rw [show k = i by omega]
        exact ⟨hmono, by omega, by omega, by omega⟩
  · rintro τ l ⟨x5, x6, x7, rfl, rfl, hg⟩
    simp only [List.length_map, Int.toNat_natCast] at hg ⊢
    walk_at "zz"
    have e : (((log.map pairD).length : Nat) : Int) = (log.length : Int) := by rw [List.length_map]
    rw [e]
    exact s_wr (hq log.length ⟨Nat.le_refl _, hg, fun h => absurd h (Nat.lt_irrefl _)⟩)
def sp_due : SpD := fun ds l Q _ => ∃ (rows : List Row) (j : Int) (log : List (Int × Int)), ds = [.lst (rows.map rowD), .int j, logD log] ∧ l = [] ∧ RowsOk j rows ∧ log.length ≤ 1000 ∧
  ∀ m, IsMax rows j log m → Q (dueD m log) []
theorem sat_due : ∀ ds l Q E, sp_due ds l Q E → r_u_law_due sp_kept (fun _ l => Wr Q .non l) (Wr Q) noN noN (startD N_u_law_due ds) l := by
  rintro ds l Q E ⟨rows, j, log, rfl, rfl, hr, hz, hq⟩
  have l1 := hr.l1
  have l2 := hr.l2
  unfold r_u_law_due
  walk_at "zz"
  refine s_and (s_and ?_ (by rw [List.length_map]; omega)) (by omega)
  refine ⟨fun i acc l => ∃ Ls : List Nat, acc = Ls.map (fun (L : Nat) => .int (L : Int)) ∧ l = [] ∧ Ls.length = i ∧ ∀ (k : Nat) L, Ls[k]? = some L → IsL rows j log k L, ⟨[], rfl, rfl, rfl, fun _ _ h => nomatch h⟩, fun _ _ _ _ _ => trivial, ?_, ?_⟩
  · rintro i x acc l hx ⟨Ls, rfl, rfl, hl, hI⟩
    obtain ⟨hi, rfl⟩ := rng_at hx
    rw [List.length_map] at hi
    dsimp only [wipeD]
    walk_at "zz"
    refine c_none ⟨rows, j, _, log, rfl, rfl, hr, hz, fun L hL => ?_⟩
    dsimp only [List.nil_append]
    walk_at "zz"
    refine s_and ?_ (by rw [List.length_map]; omega)
    exact ⟨Ls ++ [L], by rw [List.map_append]; rfl, rfl, by rw [List.length_append, hl]; rfl, get_snoc hI (by rw [hl]; rw [Int.zero_add] at hL; exact hL)⟩
  · rintro acc l ⟨Ls, rfl, rfl, hl, hI⟩
    rw [rng_len, List.length_map, Int.toNat_natCast] at hl
    refine s_newF ?_
    walk_at "zz"
    refine s_maxL (ns := Ls.map fun (L : Nat) => (L : Int)) (by rw [List.map_map]; rfl) (by rw [List.length_map]; omega) fun m hm hy => ?_
    obtain ⟨M, rfl, hM⟩ := IsMax.of hl hI hm hy
    have q := hq M hM
    unfold dueD at q
    walk_at "zz"
    refine s_ite (fun h => ?_) (fun h => ?_)
    · rw [if_pos (by have := of_decide_eq_true h; rw [List.length_map] at this; omega)] at q
      walk_at "zz"
      exact s_wr q
    · rw [if_neg (by have := of_decide_eq_false h; rw [List.length_map] at this; omega)] at q
      walk_at "zz"
      exact s_wr q
def sp_break (C : Addr) : SpD := fun ds l Q _ => ∃ (nm : Str) (rows : List Row) (j : Int) (log : List (Int × Int)), ds = [taskD C nm rows j, logD log] ∧ l = [] ∧ RowsOk j rows ∧ log.length ≤ 1000 ∧
  ∀ m, IsMax rows j log m → Q (dueD m log) []
theorem sat_break (C : Addr) : ∀ ds l Q E, sp_break C ds l Q E → r_break_index (sp_earl C) C (fun _ l => Wr Q .non l) (Wr Q) noN noN (startD N_break_index ds) l := by
  rintro ds l Q E ⟨nm, rows, j, log, rfl, rfl, hr, hz, hq⟩
  have l1 := hr.l1
  have l2 := hr.l2
  unfold r_break_index
  walk_at "zz"
  refine s_and (s_and ?_ (by rw [List.length_map]; omega)) (by omega)
  refine ⟨fun i acc l => ∃ Ls : List Nat, acc = Ls.map (fun (L : Nat) => .int (L : Int)) ∧ Ls.length = i ∧ ∀ (k : Nat) L, Ls[k]? = some L → IsL rows j log k L, ⟨[], rfl, rfl, fun _ _ h => nomatch h⟩, fun _ _ _ _ _ => trivial, ?_, ?_⟩
  · rintro i x acc l hx ⟨Ls, rfl, hl, hI⟩
    obtain ⟨hi, rfl⟩ := rng_at hx
    rw [List.length_map] at hi
    dsimp only [wipeD]
    walk_at "zz"
    refine c_none ⟨nm, rows, j, _, log, rfl, rfl, hr, hz, fun p L hL => ?_⟩
    dsimp only [List.cons_append, List.nil_append]
    walk_at "zz"
    refine s_and ?_ (by rw [List.length_map]; omega)
    exact ⟨Ls ++ [L], by rw [List.map_append, List.length_map, avs_len]; rfl, by rw [List.length_append, hl]; rfl, get_snoc hI (by rw [hl]; rw [Int.zero_add] at hL; exact hL)⟩
  · rintro acc l ⟨Ls, rfl, hl, hI⟩
    rw [rng_len, List.length_map, Int.toNat_natCast] at hl
    refine s_newF ?_
    walk_at "zz"
    refine s_maxL (ns := Ls.map fun (L : Nat) => (L : Int)) (by rw [List.map_map]; rfl) (by rw [List.length_map]; omega) fun m hm hy => ?_
    obtain ⟨M, rfl, hM⟩ := IsMax.of hl hI hm hy
    have q := hq M hM
    unfold dueD at q
    walk_at "zz"
    refine s_ite (fun h => ?_) (fun h => ?_)
    · rw [if_pos (by have := of_decide_eq_true h; rw [List.length_map] at this; omega)] at q
      walk_at "zz"
      exact s_wrP [] (by decide) q
    · rw [if_neg (by have := of_decide_eq_false h; rw [List.length_map] at this; omega)] at q
      walk_at "zz"
      exact s_wrP [] (by decide) q

def sp_right (C : Addr) : SpD := fun ds l Q _ => ∃ (nm : Str) (rows : List Row) (j : Int) (log : List (Int × Int)), ds = [taskD C nm rows j, .lst (rows.map rowD), .int j, logD log] ∧ l = [] ∧ RowsOk j rows ∧ log.length ≤ 1000 ∧ Q (.bl true) []
theorem okD_pairs (log : List (Int × Int)) : okD 2 (.lst (log.map pairD)) = true := by
  unfold okD
  rw [List.all_map]
  exact List.all_eq_true.mpr fun p _ => rfl
theorem sat_right (C : Addr) : ∀ ds l Q E, sp_right C ds l Q E → r_u_law_right sp_due (sp_break C) sp_number (fun _ l => Wr Q .non l) (Wr Q) noN noN (startD N_u_law_right ds) l := by
  rintro ds l Q E ⟨nm, rows, j, log, rfl, rfl, hr, hz, hq⟩
  unfold r_u_law_right
  walk_at "zz"
  refine c_none ⟨rows, j, log, rfl, rfl, hr, hz, fun m hm => ?_⟩
  dsimp only [List.nil_append]
  walk_at "zz"
  refine s_newF ?_
  walk_at "zz"
  refine c_none ⟨nm, rows, j, log, rfl, rfl, hr, hz, fun m2 hm2 => ?_⟩
  obtain rfl := hm.eq hm2
  dsimp only [List.nil_append]
  walk_at "zz"
  refine s_neLs 2 (by decide) (okD_pairs log) ?_
  by_cases h : m = log.length
  · have e : dueD m log = .non := if_pos h
    rw [e]
    walk_at "zz"
    refine s_yes ?_ rfl
    walk_at "zz"
    exact s_wr hq
  · have e : dueD m log = .int (m : Nat) := if_neg h
    rw [e]
    walk_at "zz"
    refine s_no ?_ rfl
    walk_at "zz"
    refine c_none ⟨_, rfl, rfl, ?_⟩
    dsimp only [List.nil_append]
    walk_at "zz"
    rw [decide_eq_true rfl]
    exact s_wr hq
theorem cut_map {α β : Type} (f : α → β) (xs : List α) (lo hi : Option Int) : cutG (xs.map f) lo hi = (cutG xs lo hi).map f := by
  unfold cutG; rw [List.length_map, List.map_take, List.map_drop]
theorem cut_to (log : List (Int × Int)) {z : Int} {k : Nat} (h : z = k) : cutG (log.map pairD) none (some z) = (log.take k).map pairD := by
  subst h; rw [cutG_upto, List.map_take]
theorem cut_fr (log : List (Int × Int)) {z : Int} {k : Nat} (h : z = k) : cutG (log.map pairD) (some z) none = (log.drop k).map pairD := by
  subst h; rw [cutG_from, List.map_drop]
def sp_bent : SpD := fun ds l Q _ => ∃ (b : Addr) (o : MO) (log : List (Int × Int)) (at_ : Nat) (n : Int), ds = [.ref b, logD log, .int (at_ : Nat)] ∧ l = [(b, o)] ∧ BagIs n o ∧ n < 100000000 ∧ at_ < log.length ∧ log.length ≤ 1000 ∧
  ∀ log' o', log'.length = log.length → BagIs (n + 10) o' → Q (logD log') [(b, o')]
theorem sat_bent : ∀ ds l Q E, sp_bent ds l Q E → r_u_law_bent sp_take (fun _ l => Wr Q .non l) (Wr Q) noN noN (startD N_u_law_bent ds) l := by
  rintro ds l Q E ⟨b, o, log, at_, n, rfl, rfl, hb, hn, ha, hz, hq⟩
  unfold r_u_law_bent
  have la := logD_at ha (z := (at_ : Int)) rfl
  walk_at "zz"
  refine take0 hb (fun v o1 v0 v1 hb1 => ?_) (by omega) (by decide) (by decide)
  walk_at "zn"
  refine s_mid (fun τ l => ∃ (p1 p2 : Int) (o : MO), τ = [some (.ref b), some (logD log), some (.int (at_ : Nat)), some (.tup [.int p1, .int p2]), some (.int v)] ∧ l = [(b, o)] ∧ BagIs (n + 2) o) (fun nx hnx => ?_) ?_
  · walk_at "zz"
    refine s_ite (fun h => ?_) (fun h => ?_)
    · walk_at "zz"
      refine take0 hb1 (fun v o2 v0 v1 hb2 => ?_) (by omega) (by decide) (by decide)
      walk_at "zz"
      exact hnx _ _ ⟨_, _, _, rfl, rfl, hb2.mono (by omega)⟩
    · walk_at "zz"
      exact hnx _ _ ⟨_, _, _, rfl, rfl, hb1.mono (by omega)⟩
  rintro τ l ⟨p1, p2, o2, rfl, rfl, hb2⟩
  refine s_mid (fun τ l => ∃ (p1 p2 : Int) (o : MO), τ = [some (.ref b), some (logD log), some (.int (at_ : Nat)), some (.tup [.int p1, .int p2]), some (.int v)] ∧ l = [(b, o)] ∧ BagIs (n + 3) o) (fun nx hnx => ?_) ?_
  · walk_at "zz"
    refine s_ite (fun h => ?_) (fun h => ?_)
    · walk_at "zz"
      refine take0 hb2 (fun v o2 v0 v1 hb2 => ?_) (by omega) (by decide) (by decide)
      walk_at "zz"
      exact hnx _ _ ⟨_, _, _, rfl, rfl, hb2.mono (by omega)⟩
    · walk_at "zz"
      exact hnx _ _ ⟨_, _, _, rfl, rfl, hb2.mono (by omega)⟩
  clear hb2
  rintro τ l ⟨p1, p2, o2, rfl, rfl, hb2⟩
  refine s_mid (fun τ l => ∃ (p1 p2 : Int) (o : MO), τ = [some (.ref b), some (logD log), some (.int (at_ : Nat)), some (.tup [.int p1, .int p2]), some (.int v)] ∧ l = [(b, o)] ∧ BagIs (n + 4) o) (fun nx hnx => ?_) ?_
  · walk_at "zz"
    refine s_ite (fun h => ?_) (fun h => ?_)
    · walk_at "zz"
      refine take0 hb2 (fun v o2 v0 v1 hb2 => ?_) (by omega) (by decide) (by decide)
      walk_at "zz"
      exact hnx _ _ ⟨_, _, _, rfl, rfl, hb2.mono (by omega)⟩
    · walk_at "zz"
      exact hnx _ _ ⟨_, _, _, rfl, rfl, hb2.mono (by omega)⟩
  clear hb2
  rintro τ l ⟨p1, p2, o2, rfl, rfl, hb2⟩
  refine s_mid (fun τ l => ∃ (p1 p2 : Int) (o : MO), τ = [some (.ref b), some (logD log), some (.int (at_ : Nat)), some (.tup [.int p1, .int p2]), some (.int v)] ∧ l = [(b, o)] ∧ BagIs (n + 5) o) (fun nx hnx => ?_) ?_
  · walk_at "zz"
    refine s_ite (fun h => ?_) (fun h => ?_)
    · walk_at "zz"
      refine take0 hb2 (fun v o2 v0 v1 hb2 => ?_) (by omega) (by decide) (by decide)
      walk_at "zz"
      exact hnx _ _ ⟨_, _, _, rfl, rfl, hb2.mono (by omega)⟩
    · walk_at "zz"
      exact hnx _ _ ⟨_, _, _, rfl, rfl, hb2.mono (by omega)⟩
  clear hb2
  rintro τ l ⟨p1, p2, o2, rfl, rfl, hb2⟩
  refine s_mid (fun τ l => ∃ (p1 p2 : Int) (o : MO), τ = [some (.ref b), some (logD log), some (.int (at_ : Nat)), some (.tup [.int p1, .int p2]), some (.int v)] ∧ l = [(b, o)] ∧ BagIs (n + 6) o) (fun nx hnx => ?_) ?_
  · walk_at "zz"
    refine s_ite (fun h => ?_) (fun h => ?_)
    · walk_at "zz"
      refine take0 hb2 (fun v o2 v0 v1 hb2 => ?_) (by omega) (by decide) (by decide)
      walk_at "zz"
      exact hnx _ _ ⟨_, _, _, rfl, rfl, hb2.mono (by omega)⟩
    · walk_at "zz"
      exact hnx _ _ ⟨_, _, _, rfl, rfl, hb2.mono (by omega)⟩
  clear hb2
  rintro τ l ⟨p1, p2, o2, rfl, rfl, hb2⟩
  walk_at "zz"
  rw [cut_to log rfl]
  refine s_newF ?_
  walk_at "zz"
  refine s_newF ?_
  refine s_addL ?_ (by rw [List.length_map, List.length_take]; show _ + 1 ≤ _; omega)
  refine s_newF ?_
  walk_at "zz"
  rw [cut_fr log (k := at_ + 1) (by omega)]
  refine s_newF ?_
  refine s_addL ?_ (by rw [List.length_append, List.length_map, List.length_map, List.length_take, List.length_drop]; show _ + 1 + _ ≤ _; omega)
  refine s_newF ?_
  walk_at "zz"
  have e : (log.take at_).map pairD ++ [D.tup [.int p1, .int p2]] ++ (log.drop (at_ + 1)).map pairD = (log.take at_ ++ [(p1, p2)] ++ log.drop (at_ + 1)).map pairD := by
    rw [List.map_append, List.map_append]; rfl
  rw [e]
  refine s_wr (hq _ o2 ?_ (hb2.mono (by omega)))
  rw [List.length_append, List.length_append, List.length_take, List.length_drop]
  show _ + 1 + _ = _
  omega

theorem IsL.full {rows : List Row} {j s : Int} {log : List (Int × Int)} (h : IsL rows j log s log.length) : allG rows j log s := fun i hi => h.all i hi
theorem IsMax.top {rows : List Row} {j : Int} {log : List (Int × Int)} {s : Nat} (hs : s < rows.length) (h : IsL rows j log s log.length) : IsMax rows j log log.length := ⟨⟨s, hs, h⟩, fun _ _ _ k => k.le⟩
theorem rl_app {a : List (Int × Int)} {p : Int × Int} : rl (a ++ [p]) a.length = p.1 ∧ ln (a ++ [p]) a.length = p.2 := by
  unfold rl ln
  rw [List.getD_eq_getElem?_getD, List.getElem?_append_right (Nat.le_refl _), Nat.sub_self]
  exact ⟨rfl, rfl⟩
/-- an entry that a start frame lets is put behind -/
theorem IsL.more {rows : List Row} {j : Int} {a : List (Int × Int)} {s : Nat} {p : Int × Int} (h : IsL rows j a s a.length) (g : good rows j (a ++ [p]) s a.length) : IsL rows j (a ++ [p]) s (a ++ [p]).length := by
  have e : (a ++ [p]).length = a.length + 1 := by rw [List.length_append]; rfl
  refine ⟨Nat.le_refl _, fun i hi => ?_, fun h => absurd h (Nat.lt_irrefl _)⟩
  rcases Nat.lt_or_ge i a.length with z | z
  · exact Ag.app.good z (h.all i z)
  · rw [show i = a.length by omega]; exact g
theorem take2' {b : Addr} {p p2 : Addr × MO} {o : MO} {l : M} {many n : Int} {Q : DK} (hb : BagIs n o) (h : ∀ v o', 0 ≤ v → v < many → BagIs (n + 1) o' → Q (.int v) (p :: p2 :: (b, o') :: l)) (hn : n < 1000000000) (h0 : 0 < many) (h1 : many < 1073741824) :
    CallP sp_take [.ref b, .int many] (p :: p2 :: (b, o) :: l) Q := take2 hb h hn h0 h1
def sp_around (C : Addr) : SpD := fun ds l Q _ => ∃ (b : Addr) (o : MO) (nm : Str) (rows : List Row) (j : Int) (log : List (Int × Int)) (at_ : Nat) (n : Int), ds = [.ref b, taskD C nm rows j, .lst (rows.map rowD), .int j, logD log, .int (at_ : Nat)] ∧ l = [(b, o)] ∧ BagIs n o ∧ n < 100000000 ∧
  RowsOk j rows ∧ 0 ≤ j ∧ log.length ≤ 100 ∧ at_ < log.length ∧ IsMax rows j log at_ ∧ Q (.bl true) []
theorem sat_around (C : Addr) : ∀ ds l Q E, sp_around C ds l Q E → r_u_law_around (sp_break C) (sp_expl C) sp_take (sp_right C) sp_kept sp_low sp_high (fun _ l => Wr Q .non l) (Wr Q) noN noN (startD N_u_law_around ds) l := by
  rintro ds l Q E ⟨b, o, nm, rows, j, log, at_, n, rfl, rfl, hb, hn, hr, j0, hz, ha, hm, hq⟩
  have l1 := hr.l1
  have l2 := hr.l2
  obtain ⟨s0, hs0, hI0⟩ := hm.at_
  have rz : ((rows.map rowD).length : Int) = rows.length := by rw [List.length_map]
  have lt : (log.take at_).length = at_ := by rw [List.length_take]; omega
  have lt1 : (log.take (at_ + 1)).length = at_ + 1 := by rw [List.length_take]; omega
  have hA : IsL rows j (log.take at_) s0 (log.take at_).length := by
    have h := hI0.pre (a := log.take at_) (by rw [lt]; exact Ag.take) (by omega)
    rwa [show min at_ (log.take at_).length = (log.take at_).length by omega] at h
  have hA1 : IsMax rows j (log.take at_) (log.take at_).length := IsMax.top hs0 hA
  have hB : ∀ s : Nat, s < rows.length → ¬ allG rows j (log.take (at_ + 1)) s := fun s hs g => by
    obtain ⟨L, hL⟩ := IsL.ex rows j log s
    have h1 := hm.le s hs L hL
    have h2 := g L (by omega)
    exact hL.stop (by omega) ((Ag.take (n := at_ + 1)).good (by omega) h2)
  unfold r_u_law_around
  walk_at "zz"
  rw [cut_to log rfl]
  refine s_newF ?_
  walk_at "zz"
  refine c_none ⟨nm, rows, j, log.take at_, rfl, rfl, hr, by omega, fun m hm2 => ?_⟩
  obtain rfl := hm2.eq hA1
  have eN : dueD (log.take at_).length (log.take at_) = .non := if_pos rfl
  rw [eN]
  dsimp only [List.nil_append]
  walk_at "zz"
  refine s_no ?_ rfl
  walk_at "zz"
  rw [cut_to log rfl]
  refine s_newF ?_
  walk_at "zz"
  refine c_none ⟨nm, rows, j, log.take at_, rfl, rfl, hr, by omega, fun s p hs hall hno => ?_, fun hno => absurd (hA.full) (hno s0 hs0)⟩
  dsimp only [List.cons_append, List.nil_append]
  walk_at "zz"
  refine s_no ?_ rfl
  walk_at "zz"
  rw [cut_to log (k := at_ + 1) (by omega)]
  refine s_newF ?_
  walk_at "zz"
  refine c_none ⟨nm, rows, j, log.take (at_ + 1), rfl, rfl, hr, by omega, fun s p hs hall hno => absurd hall (hB s hs), fun hno => ?_⟩
  dsimp only [List.nil_append]
  walk_at "zz"
  refine s_no ?_ rfl
  walk_at "zz"
  refine s_newM fun pj => ?_
  walk_at "zz"
  refine take2 hb (fun v o1 v0 v1 hb1 => ?_) (by omega) (by decide) (by decide)
  walk_at "zz"
  have la := logD_at ha (z := (at_ : Int)) rfl
  refine s_and (s_and ?_ (by omega)) (by omega)
  generalize hg : MO.lst ((avs rows j (log.take at_) s (log.take at_).length).map D.int) = gb
  refine z_rng (fun i τ l => ∃ (junk : List (Int × Int)) (x7 : Option D) (o : MO), τ = [some (.ref b), some (taskD C nm rows j), some (.lst (rows.map rowD)), some (.int j), some (logD log), some (.int (at_ : Nat)), some (.ref pj), x7, none, none, none, none, none, none, none] ∧ l = [(pj, .lst (junk.map pairD)), (p, gb), (b, o)] ∧ junk.length = i ∧ BagIs (n + 1 + 2 * i) o)
    ⟨[], _, o1, rfl, rfl, rfl, hb1.mono (by omega)⟩ ?_ ?_
  · rintro i τ l hi ⟨junk, x7, o2, rfl, rfl, hl, hb2⟩
    walk_at "zz"
    refine take2 hb2 (fun v2 o3 _ _ hb3 => ?_) (by omega) (by decide) (by decide)
    walk_at "zz"
    refine take2 hb3 (fun v3 o4 _ _ hb4 => ?_) (by omega) (by decide) (by decide)
    walk_at "zz"
    · exact s_wk ⟨junk ++ [(_, _)], _, o4, rfl, by rw [List.map_append]; rfl, by rw [List.length_append, hl]; rfl, hb4.mono (by omega)⟩
    · rw [List.length_map]; omega
  rintro τ l ⟨junk, x7, o2, rfl, rfl, hl, hb2⟩
  walk_at "zz"
  rw [cut_to log (k := at_ + 1) (by omega)]
  refine s_newF ?_
  walk_at "zz"
  refine ⟨_, _, rfl, List.mem_cons_self, by rw [List.length_map, List.length_map, lt1]; omega, s_newF ?_⟩
  rw [← List.map_append]
  walk_at "zz"
  refine c_none ⟨nm, rows, j, _, rfl, rfl, hr, by rw [List.length_append, lt1]; omega, ?_⟩
  dsimp only [List.nil_append]
  walk_at "zz"
  refine s_and (s_and ?_ (by rw [List.length_map]; omega)) (by omega)
  refine ⟨fun i acc l => ∃ As : List Nat, acc = As.map (fun (a : Nat) => .int (a : Int)) ∧ l = [(pj, .lst (junk.map pairD)), (p, gb), (b, o2)] ∧ As.length ≤ i ∧ (∀ a, a ∈ As → a < i ∧ IsL rows j (log.take at_) a (log.take at_).length) ∧ ∀ a : Nat, a < i → IsL rows j (log.take at_) a (log.take at_).length → a ∈ As,
    ⟨[], rfl, rfl, Nat.le_refl _, fun _ h => (nomatch h), fun a h => absurd h (Nat.not_lt_zero a)⟩, fun _ _ _ _ _ => trivial, ?_, ?_⟩
  · rintro i x acc l hx ⟨As, rfl, rfl, hAl, hAs, hAc⟩
    obtain ⟨hi, rfl⟩ := rng_at hx
    rw [List.length_map] at hi
    dsimp only [wipeD]
    walk_at "zz"
    rw [cut_to log rfl]
    refine s_newF ?_
    walk_at "zz"
    refine c_none ⟨rows, j, _, log.take at_, rfl, rfl, hr, by omega, fun L hL => ?_⟩
    rw [Int.zero_add] at hL
    dsimp only [List.nil_append]
    walk_at "zz"
    refine s_ite (fun h => ?_) (fun h => ?_)
    · walk_at "zz"
      refine s_and ?_ (by rw [List.length_map]; omega)
      have e : L = (log.take at_).length := by have := of_decide_eq_true h; omega
      rw [e] at hL
      refine ⟨As ++ [i], by rw [List.map_append, Int.zero_add]; rfl, rfl, by rw [List.length_append]; show As.length + 1 ≤ _; omega, mem_snoc (fun a ha => ⟨Nat.lt_succ_of_lt (hAs a ha).1, (hAs a ha).2⟩) ⟨Nat.lt_succ_self _, hL⟩, fun a ha hI => ?_⟩
      rcases Nat.lt_or_ge a i with z | z
      · exact List.mem_append_left _ (hAc a z hI)
      · rw [show a = i by omega]; exact List.mem_append_right _ List.mem_cons_self
    · refine ⟨As, rfl, rfl, by omega, fun a ha => ⟨Nat.lt_succ_of_lt (hAs a ha).1, (hAs a ha).2⟩, fun a ha hI => ?_⟩
      rcases Nat.lt_or_ge a i with z | z
      · exact hAc a z hI
      · rw [show a = i by omega] at hI
        have := hL.eq hI
        have h1 := of_decide_eq_false h
        omega
  rintro acc l ⟨As, rfl, rfl, hAl, hAs, hAc⟩
  rw [rng_len, List.length_map, Int.toNat_natCast] at hAl hAs hAc
  refine s_newF ?_
  walk_at "zz"
  have a0 : 0 < As.length := by
    have := hAc s0 hs0 hA
    cases As with
    | nil => cases this
    | cons _ _ => exact Nat.succ_pos _
  refine take2 hb2 (fun v4 o5 v40 v41 hb5 => ?_) (by omega) (by rw [List.length_map]; omega) (by rw [List.length_map]; omega)
  rw [List.length_map] at v41
  have hAi : As[v4.toNat]? = some As[v4.toNat] := List.getElem?_eq_getElem (by omega)
  obtain ⟨t, ht⟩ : ∃ t, As[v4.toNat]? = some t := ⟨_, hAi⟩
  obtain ⟨ht1, ht2⟩ := hAs t (mem_of_get ht)
  have hal : atI (As.map fun (a : Nat) => D.int (a : Int)) v4 = some (.int (t : Int)) := at_nat v40 (by rw [List.getElem?_map, ht]; rfl)
  obtain ⟨ra1, ra2⟩ := ra_at hr ((t : Int) + (at_ : Int))
  obtain ⟨w0, w1, w2⟩ := ra2.w.lh
  have wl := ra2.w.l2
  walk_at "zn"
  refine s_seq ?_
  walk_at "zn"
  refine s_seq ?_
  walk_at "zn"
  refine s_mid (fun τ l => ∃ (rel : Int) (x14 : Option D) (o : MO), τ = [some (.ref b), some (taskD C nm rows j), some (.lst (rows.map rowD)), some (.int j), some (logD log), some (.int (at_ : Nat)), some (.ref pj), x7, some (.lst (As.map fun (a : Nat) => .int (a : Int))), some (.int (t : Int)), some (rowD (ra rows ((t : Int) + (at_ : Int)))), some (.int rel), none, none, x14] ∧
    l = [(pj, .lst (junk.map pairD)), (p, gb), (b, o)] ∧ BagIs (n + 20) o ∧ (∀ k, at_ = k + 1 → rl log k ≤ rel ∧ av rows j (log.take at_) t k + (ra rows ((t : Int) + (k : Int))).1 ≤ rel)) (fun nx hnx => ?_) ?_
  · walk_at "zz"
    refine s_ite (fun h => ?_) (fun h => ?_)
    · have i0 : 0 < at_ := by have := of_decide_eq_true h; omega
      obtain ⟨k, rfl⟩ : ∃ k, at_ = k + 1 := ⟨at_ - 1, by omega⟩
      have hbk : atI (rows.map rowD) (((t : Int) + ((k + 1 : Nat) : Int) - 1) % ((rows.map rowD).length : Nat)) = some (rowD (ra rows ((t : Int) + (k : Int)))) := by
        rw [show (t : Int) + ((k + 1 : Nat) : Int) - 1 = (t : Int) + (k : Int) by omega]; exact (ra_at hr _).1
      have hp : atI (log.map pairD) (((k + 1 : Nat) : Int) - 1) = some (pairD (rl log k, ln log k)) := logD_at (by omega) (by omega)
      walk_at "zz"
      rw [cut_to log rfl]
      refine s_newF ?_
      walk_at "zz"
      refine c_none ⟨rows, j, _, log.take (k + 1), rfl, rfl, hr, by omega, fun L hL => ?_⟩
      have e : L = k + 1 := by rw [hL.eq ht2, lt]
      subst e
      dsimp only [List.nil_append]
      walk_at "zz"
      refine take2 hb5 (fun v5 o6 v50 v51 hb6 => ?_) (by omega) (by decide) (by decide)
      walk_at "zz"
      refine hnx _ _ ⟨_, _, _, rfl, rfl, hb6.mono (by omega), fun k2 hk => ?_⟩
      obtain rfl : k = k2 := by omega
      have e : ar rows j (log.take (k + 1)) t (k + 1) = av rows j (log.take (k + 1)) t k := rfl
      rw [e]
      constructor
      · split <;> omega
      · split <;> omega
    · walk_at "zz"
      refine hnx _ _ ⟨_, _, _, rfl, rfl, hb5.mono (by omega), fun k hk => ?_⟩
      have := of_decide_eq_false h
      omega
  clear hb5
  rintro τ l ⟨rel, x14, o5, rfl, rfl, hb5, hrel⟩
  walk_at "zz"
  refine c_none ⟨_, rfl, rfl, wl, ?_⟩
  dsimp only [List.nil_append]
  walk_at "zz"
  refine c_none ⟨_, rfl, rfl, wl, ?_⟩
  dsimp only [List.nil_append]
  walk_at "zz"
  refine c_none ⟨_, rfl, rfl, wl, ?_⟩
  dsimp only [List.nil_append]
  walk_at "zz"
  refine take2 hb5 (fun v6 o6 v60 v61 hb6 => ?_) (by omega) (by omega) (by omega)
  walk_at "zz"
  rw [cut_to log rfl]
  refine s_newF ?_
  walk_at "zz"
  refine s_newF ?_
  refine s_addL ?_ (by rw [List.length_map, lt]; show _ + 1 ≤ _; omega)
  refine s_newF ?_
  have em : (log.take at_).map pairD ++ [D.tup [.int rel, .int (lo (ra rows ((t : Int) + (at_ : Int))).2.2 + v6)]] = (log.take at_ ++ [(rel, lo (ra rows ((t : Int) + (at_ : Int))).2.2 + v6)]).map pairD := by rw [List.map_append]; rfl
  rw [em]
  have hmore : IsL rows j (log.take at_ ++ [(rel, lo (ra rows ((t : Int) + (at_ : Int))).2.2 + v6)]) t (log.take at_ ++ [(rel, lo (ra rows ((t : Int) + (at_ : Int))).2.2 + v6)]).length := by
    refine ht2.more ?_
    have hap := rl_app (a := log.take at_) (p := (rel, lo (ra rows ((t : Int) + (at_ : Int))).2.2 + v6))
    rw [lt] at hap ⊢
    refine ⟨fun z => ?_, ?_, ?_, ?_⟩
    · obtain ⟨k, hk⟩ : ∃ k, at_ = k + 1 := ⟨at_ - 1, by omega⟩
      rw [hap.1, hk, Nat.add_sub_cancel]
      have h1 := (hrel k hk).1
      have h2 := ((Ag.app (a := log.take at_) (b := [(rel, lo (ra rows ((t : Int) + (at_ : Int))).2.2 + v6)])) k (by omega)).1
      have h3 := ((Ag.take (n := at_) (a := log)) k (by omega)).1
      rw [hk] at h2 h3
      rw [← h2, h3]
      exact h1
    · rw [hap.1]
      cases hk : at_ with
      | zero =>
        rw [hk] at hap
        show rl _ 0 - j ≤ rel
        rw [hap.1]; show rel - j ≤ rel; omega
      | succ k =>
        have h1 := (hrel k hk).2
        have h2 := (Ag.app (a := log.take at_) (b := [(rel, lo (ra rows ((t : Int) + (at_ : Int))).2.2 + v6)])).av (rows := rows) (j := j) (s := t) k (by omega)
        have h4 := hap.1
        rw [hk] at h1 h2 h4
        rw [av_succ, h4, ← h2]
        show (if _ > rel - j then _ else rel - j) ≤ rel
        split
        · exact h1
        · omega
    · rw [hap.2]; show _ ≤ _ + v6; omega
    · rw [hap.2]; show _ + v6 ≤ _; omega
  generalize hmd : log.take at_ ++ [(rel, lo (ra rows ((t : Int) + (at_ : Int))).2.2 + v6)] = mend at hmore
  have lm : mend.length = at_ + 1 := by rw [← hmd, List.length_append, lt]; rfl
  walk_at "zz"
  refine s_newF ?_
  walk_at "zz"
  refine c_none ⟨nm, rows, j, mend, rfl, rfl, hr, by omega, fun m hm2 => ?_⟩
  obtain rfl := hm2.eq (IsMax.top ht1 hmore)
  have eN2 : dueD mend.length mend = .non := if_pos rfl
  rw [eN2]
  dsimp only [List.nil_append]
  walk_at "zz"
  refine s_no ?_ rfl
  walk_at "zz"
  refine s_newF ?_
  walk_at "zz"
  refine c_none ⟨nm, rows, j, mend, rfl, rfl, hr, by omega, fun s2 p2 hs2 hall2 hno2 => ?_, fun hno => absurd (hmore.full) (hno t ht1)⟩
  dsimp only [List.cons_append, List.nil_append]
  walk_at "zz"
  refine s_no ?_ rfl
  walk_at "zz"
  rw [cut_fr log (k := at_ + 1) (by omega)]
  refine s_newF ?_
  refine s_addL ?_ (by rw [List.length_map, List.length_map, List.length_drop]; omega)
  refine s_newF ?_
  rw [← List.map_append]
  walk_at "zz"
  refine c_none ⟨nm, rows, j, _, rfl, rfl, hr, by rw [List.length_append, List.length_drop]; omega, ?_⟩
  dsimp only [List.nil_append]
  walk_at "zz"
  exact s_wrP [] (by decide) hq

def sp_law : SpD := fun ds l Q _ => ∃ ns : List Int, ds = [.scr (ns.map .int)] ∧ l = [] ∧ Q (.bl true) []
theorem pick_e {v : Int} (h0 : 0 ≤ v) (h1 : v < 6) : ∃ k : Int, atI [D.int 0, D.int 0, D.int 1, D.int 2, D.int 3, D.int 5] v = some (.int k) ∧ 0 ≤ k ∧ k ≤ 239 := by
  have : v = 0 ∨ v = 1 ∨ v = 2 ∨ v = 3 ∨ v = 4 ∨ v = 5 := by omega
  rcases this with rfl | rfl | rfl | rfl | rfl | rfl
  · exact ⟨0, at_nat (by decide) rfl, by decide, by decide⟩
  · exact ⟨0, at_nat (by decide) rfl, by decide, by decide⟩
  · exact ⟨1, at_nat (by decide) rfl, by decide, by decide⟩
  · exact ⟨2, at_nat (by decide) rfl, by decide, by decide⟩
  · exact ⟨3, at_nat (by decide) rfl, by decide, by decide⟩
  · exact ⟨5, at_nat (by decide) rfl, by decide, by decide⟩
theorem sat_law (C : Addr) : ∀ ds l Q E, sp_law ds l Q E → r_law sp_bag sp_take sp_rows (sp_task C) sp_word sp_good (sp_right C) sp_bent sp_due sp_high (sp_around C) C (fun _ l => Wr Q .non l) (Wr Q) noN noN (startD N_law ds) l := by
  rintro ds l Q E ⟨ns, rfl, rfl, hq⟩
  unfold r_law
  walk_at "zz"
  refine c_none ⟨ns, _, rfl, rfl, by omega, by omega, fun b o hb => ?_⟩
  dsimp only [List.cons_append, List.nil_append]
  walk_at "zz"
  refine take0 hb (fun v1 o1 a0 a1 hb1 => ?_) (by omega) (by omega) (by omega)
  walk_at "zz"
  refine take0 hb1 (fun v2 o2 _ _ hb2 => ?_) (by omega) (by omega) (by omega)
  walk_at "zz"
  refine s_newF ?_
  walk_at "zz"
  refine take0 hb2 (fun v3 o3 c0 c1 hb3 => ?_) (by omega) (by omega) (by omega)
  obtain ⟨early, he, e0, e1⟩ := pick_e c0 c1
  walk_at "zn"
  refine s_mid (fun τ l => ∃ (early : Int) (o : MO), τ = [some (.scr (ns.map .int)), some (.ref b), some (.int (1 + v1)), some (.bl (decide (v2 = 7))), some (.int early), none, none, none, none, none, none, none, none] ∧ l = [(b, o)] ∧ 0 ≤ early ∧ early ≤ 239 ∧ BagIs 1010 o) (fun nx hnx => ?_) ?_
  · walk_at "zz"
    refine s_ite (fun h => ?_) (fun h => ?_)
    · walk_at "zz"
      refine take0 hb3 (fun v4 o4 d0 d1 hb4 => ?_) (by omega) (by omega) (by omega)
      walk_at "zz"
      exact hnx _ _ ⟨_, _, rfl, rfl, by omega, by omega, hb4.mono (by omega)⟩
    · walk_at "zz"
      exact hnx _ _ ⟨_, _, rfl, rfl, by omega, by omega, hb3.mono (by omega)⟩
  rintro τ l ⟨early, o4, rfl, rfl, e0, e1, hb4⟩
  walk_at "zz"
  refine take0 hb4 (fun v5 o5 _ _ hb5 => ?_) (by omega) (by omega) (by omega)
  walk_at "zz"
  refine c_none ⟨ns, _, early, _, _, rfl, rfl, by omega, by omega, by omega, by omega, fun rows hr hrl => ?_⟩
  have l1 := hr.l1
  have l2 := hr.l2
  dsimp only [List.nil_append]
  walk_at "zz"
  refine c_0 ⟨b, o5, _, rfl, rfl, hb5, by omega, fun w o6 hw hb6 => ?_⟩
  simp only [merge_0]
  walk_at "zz"
  refine s_newF ?_
  walk_at "zz"
  refine ⟨rfl, rfl, fun x => ⟨x, w, rows, early, rfl, rfl, hw, hr, e0, by omega, rfl, _, rfl, .inl ?_⟩⟩
  have rt : ∀ {log2 : List (Int × Int)} {Q : DK} {l : M}, log2.length ≤ 1000 → Q (.bl true) l → CallP (sp_right C) [taskD C w rows early, .lst (rows.map rowD), .int early, logD log2] l Q := fun hz h =>
    c_none ⟨w, rows, early, _, rfl, rfl, hr, hz, h⟩
  walk_at "zz"
  refine c_none ⟨ns, rows, early, rfl, rfl, hr, e0, by omega, fun log hlog => ?_⟩
  dsimp only [List.nil_append]
  walk_at "zz"
  refine rt (by omega) ?_
  walk_at "zz"
  refine take0 hb6 (fun v6 o7 _ _ hb7 => ?_) (by omega) (by omega) (by omega)
  walk_at "zz"
  refine s_and (s_and ?_ (by omega)) (by omega)
  refine z_rng (fun i τ l => ∃ (log : List (Int × Int)) (x8 : Option D) (o : MO), τ = [some (.scr (ns.map .int)), some (.ref b), some (.int (1 + v1)), some (.bl (decide (v2 = 7))), some (.int early), some (.lst (rows.map rowD)), some (taskD C w rows early), some (logD log), x8, none, none, none, none] ∧ l = [(b, o)] ∧ log.length ≤ 57 ∧ BagIs (2000 + 20 * i) o)
    ⟨log, _, o7, rfl, rfl, hlog, hb7.mono (by omega)⟩ ?_ ?_
  · rintro i τ l hi ⟨log, x8, o8, rfl, rfl, hl, hb8⟩
    walk_at "zz"
    refine s_ite (fun h => ?_) (fun h => ?_)
    · have h0 : 0 < log.length := by have := of_decide_eq_true h; rw [List.length_map] at this; omega
      walk_at "zz"
      refine take0 hb8 (fun v7 o9 v70 v71 hb9 => ?_) (by omega) (by rw [List.length_map]; omega) (by rw [List.length_map]; omega)
      rw [List.length_map] at v71
      walk_at "zz"
      refine c_0 ⟨b, o9, log, v7.toNat, _, by rw [show ((v7.toNat : Nat) : Int) = v7 by omega], rfl, hb9, by omega, by omega, by omega, fun log' o10 hl' hb10 => ?_⟩
      simp only [merge_0]
      walk_at "zz"
      exact s_wk ⟨log', _, o10, rfl, rfl, by omega, hb10.mono (by omega)⟩
    · walk_at "zz"
      exact s_wk ⟨log, _, o8, rfl, rfl, hl, hb8.mono (by omega)⟩
  clear hlog
  rintro τ l ⟨log, x8, o8, rfl, rfl, hlog, hb8⟩
  walk_at "zz"
  refine rt (by omega) ?_
  walk_at "zz"
  refine c_none ⟨rows, early, log, rfl, rfl, hr, by omega, fun m hm => ?_⟩
  dsimp only [List.nil_append]
  walk_at "zn"
  refine s_mid (fun τ l => ∃ (log : List (Int × Int)) (m : Nat) (x10 x11 x12 : Option D) (o : MO), τ = [some (.scr (ns.map .int)), some (.ref b), some (.int (1 + v1)), some (.bl (decide (v2 = 7))), some (.int early), some (.lst (rows.map rowD)), some (taskD C w rows early), some (logD log), x8, some (.int (m : Nat)), x10, x11, x12] ∧ l = [(b, o)] ∧ log.length ≤ 58 ∧ m < log.length ∧ IsMax rows early log m ∧ BagIs 3000 o) (fun nx hnx => ?_) ?_
  · by_cases hml : m = log.length
    · subst hml
      have e : dueD log.length log = .non := if_pos rfl
      rw [e]
      walk_at "zz"
      refine s_yes ?_ rfl
      walk_at "zz"
      rw [cut_map]
      refine s_newF ?_
      walk_at "zz"
      refine ⟨_, rfl, ?_⟩
      have hcl : (cutG log (some (-1)) none).length ≤ 58 := by
        unfold cutG
        rw [List.length_take, List.length_drop]; omega
      refine z_map (cutG log (some (-1)) none) pairD (fun p => .int p.1) rfl (by omega) rfl (fun u hu P hP => ?_) ?_
      · walk_at "zz"
        exact hP
      refine s_newF ?_
      walk_at "zz"
      refine s_sumL' (ns := (cutG log (some (-1)) none).map (·.1)) (by rw [List.map_map]; rfl) ?_
      walk_at "zz"
      refine ⟨_, rfl, ?_⟩
      refine z_map rows rowD (fun r => .int (hi r.2.2)) rfl (by omega) rfl (fun r hr2 P hP => ?_) ?_
      · walk_at "zz"
        exact c_none ⟨r, rfl, rfl, (hr.ok r hr2).w.l2, hP⟩
      refine s_newF ?_
      walk_at "zz"
      refine s_maxL (ns := rows.map fun r => hi r.2.2) (by rw [List.map_map]; rfl) (by rw [List.length_map]; omega) fun mx hmx hmy => ?_
      walk_at "zz"
      refine take0 hb8 (fun v9 o9 v90 v91 hb9 => ?_) (by omega) (by omega) (by omega)
      walk_at "zz"
      refine s_newF ?_
      refine s_addL ?_ (by rw [List.length_map]; show _ + 1 ≤ _; omega)
      refine s_newF ?_
      generalize ((cutG log (some (-1)) none).map (·.1)).sum + 240 = rel
      have em : log.map pairD ++ [D.tup [.int rel, .int (mx + 1 + v9)]] = (log ++ [(rel, mx + 1 + v9)]).map pairD := by rw [List.map_append]; rfl
      rw [em]
      walk_at "zz"
      have hl1 : (log ++ [(rel, mx + 1 + v9)]).length = log.length + 1 := by rw [List.length_append]; rfl
      refine rt (by omega) ?_
      walk_at "zz"
      have hap := rl_app (a := log) (p := (rel, mx + 1 + v9))
      have ng : ∀ s : Nat, ¬ good rows early (log ++ [(rel, mx + 1 + v9)]) s log.length := fun s g => by
        have h1 := g.2.2.2
        rw [hap.2] at h1
        have h2 : ra rows ((s : Int) + (log.length : Int)) ∈ rows := by
          obtain ⟨r, h1, h2, h3⟩ := rows_at hr ((s : Int) + (log.length : Int))
          have e : ra rows ((s : Int) + (log.length : Int)) = r := by unfold ra; rw [List.getD_eq_getElem?_getD, h2]; rfl
          rw [e]; exact mem_of_get h2
        have h3 := hmy _ (List.mem_map.mpr ⟨_, h2, rfl⟩)
        have h4 : mx + 1 + v9 ≤ hi (ra rows ((s : Int) + (log.length : Int))).2.2 := h1
        omega
      obtain ⟨s1, hs1, hI1⟩ := hm.at_
      refine hnx _ _ ⟨log ++ [(rel, mx + 1 + v9)], log.length, some (.int rel), none, none, o9, ?_, rfl, by omega, by omega, ⟨⟨s1, hs1, ⟨by omega, fun i hi => Ag.app.good hi (hI1.all i hi), fun _ => ng s1⟩⟩, fun s hs L hL => ?_⟩, hb9.mono (by omega)⟩
      · rw [List.length_map]; rfl
      · rcases Nat.lt_or_ge log.length L with z | z
        · exact absurd (hL.all log.length z) (ng s)
        · exact z
    · have e : dueD m log = .int (m : Nat) := if_neg hml
      rw [e]
      walk_at "zz"
      refine s_no ?_ rfl
      walk_at "zz"
      have := hm.bound
      exact hnx _ _ ⟨log, m, _, _, _, o8, rfl, rfl, by omega, by omega, hm, hb8.mono (by omega)⟩
  clear hb8 hlog hm
  rintro τ l ⟨log, m, x10, x11, x12, o8, rfl, rfl, hlog, hml, hm, hb8⟩
  walk_at "zz"
  refine c_0 ⟨b, o8, w, rows, early, log, m, _, rfl, rfl, hb8, by omega, hr, e0, by omega, hml, hm, ?_⟩
  dsimp only [mergeM, pick]
  walk_at "zz"
  exact s_wrP [] (by decide) hq
theorem sat_lawT {C : Addr} : ∀ ds l Q E, sp_law ds l Q E → r_law sp_bag sp_take sp_rows (sp_task C) sp_word sp_good (sp_right C) sp_bent sp_due sp_high (sp_around C) C (fun _ l => Wr Q .non l) (Wr Q) noN noN (startD N_law ds) l := sat_law C

section
variable {P : Program} {w : World} {K : PySem.W.Frag} {mg : PySem.Str → Option Value} {base : Heap}
theorem k_u_law_cell (T : Tx K mg) : Good P w K mg base 1 (He.ga K "_law_cell") ((["script", "spot"] : List PySem.Str)) sp_cell := ok_u_law_cell T  (by rintro _ _ _ _ ⟨_, _, rfl, _⟩; rfl) sat_cell
theorem k_u_law_bag (T : Tx K mg) : Good P w K mg base 2 (He.ga K "_law_bag") ((["script", "spot"] : List PySem.Str)) sp_bag := ok_u_law_bag T (k_u_law_cell T) (by rintro _ _ _ _ ⟨_, _, rfl, _⟩; rfl) sat_bag
theorem k_u_law_take (T : Tx K mg) : Good P w K mg base 1 (He.ga K "_law_take") ((["bag", "many"] : List PySem.Str)) sp_take := ok_u_law_take T  (by rintro _ _ _ _ ⟨_, _, _, _, rfl, _⟩; rfl) sat_take
theorem k_u_law_work (T : Tx K mg) : Good P w K mg base 2 (He.ga K "_law_work") ((["bag", "large"] : List PySem.Str)) sp_work := ok_u_law_work T (k_u_law_take T) (by rintro _ _ _ _ ⟨_, _, _, _, rfl, _⟩; rfl) sat_work
theorem k_u_law_rows (T : Tx K mg) : Good P w K mg base 3 (He.ga K "_law_rows") ((["script", "size", "end", "large"] : List PySem.Str)) sp_rows := ok_u_law_rows T (k_u_law_bag T) (k_u_law_take T) (k_u_law_work T) (by rintro _ _ _ _ ⟨_, _, _, _, _, rfl, _⟩; rfl) sat_rows
theorem k_u_is_letter (T : Tx K mg) : Good P w K mg base 1 (He.ga K "_is_letter") ((["sign"] : List PySem.Str)) sp_letter := ok_u_is_letter T  (by rintro _ _ _ _ ⟨_, rfl, _⟩; rfl) sat_letter
theorem k_u_is_letters (T : Tx K mg) : Good P w K mg base 2 (He.ga K "_is_letters") ((["word"] : List PySem.Str)) sp_letters := ok_u_is_letters T (k_u_is_letter T) (by rintro _ _ _ _ ⟨_, rfl, _⟩; rfl) sat_letters
theorem k_is_name (T : Tx K mg) : Good P w K mg base 3 (He.ga K "is_name") ((["word"] : List PySem.Str)) sp_name := ok_is_name T (k_u_is_letters T) (by rintro _ _ _ _ ⟨_, rfl, _⟩; rfl) sat_name
theorem k_u_copied (T : Tx K mg) : Good P w K mg base 1 (He.ga K "_copied") ((["frames"] : List PySem.Str)) sp_copied := ok_u_copied T  (by rintro _ _ _ _ ⟨_, rfl, _⟩; rfl) sat_copied
theorem k_is_hold (T : Tx K mg) : Good P w K mg base 3 (He.ga K "is_hold") ((["hold"] : List PySem.Str)) sp_hold := ok_is_hold T (k_u_is_letters T) (by rintro _ _ _ _ ⟨_, rfl, _⟩; rfl) sat_hold
theorem k_u_check_frame (T : Tx K mg) : Good P w K mg base 4 (He.ga K "_check_frame") ((["gap", "due", "work"] : List PySem.Str)) sp_checkf := ok_u_check_frame T (k_is_hold T) (by rintro _ _ _ _ ⟨_, _, rfl, _⟩; rfl) sat_checkf
theorem k_u_check_frames (T : Tx K mg) : Good P w K mg base 5 (He.ga K "_check_frames") ((["frames", "jitter"] : List PySem.Str)) sp_checks := ok_u_check_frames T (k_u_check_frame T) (by rintro _ _ _ _ ⟨_, _, rfl, _⟩; rfl) sat_checks
theorem k_Task____init__ (T : Tx K mg) : GoodK P w K mg base 6 (He.ma K (He.ga K "Task") "__init__") ((["self", "name", "frames", "jitter"] : List PySem.Str)) 3 ((["jitter"] : List PySem.Str)) (sp_task (He.ga K "Task")) := ok_Task____init__ T (k_is_name T) (k_u_copied T) (k_u_check_frames T) (by rintro _ _ _ _ ⟨_, _, _, _, rfl, _⟩; rfl) (sat_task _)
theorem k_u_law_word (T : Tx K mg) : Good P w K mg base 2 (He.ga K "_law_word") ((["bag"] : List PySem.Str)) sp_word := ok_u_law_word T (k_u_law_take T) (by rintro _ _ _ _ ⟨_, _, _, rfl, _⟩; rfl) sat_word
theorem k_u_law_low (T : Tx K mg) : Good P w K mg base 1 (He.ga K "_law_low") ((["row"] : List PySem.Str)) sp_low := ok_u_law_low T  (by rintro _ _ _ _ ⟨_, rfl, _⟩; rfl) sat_low
theorem k_u_law_high (T : Tx K mg) : Good P w K mg base 1 (He.ga K "_law_high") ((["row"] : List PySem.Str)) sp_high := ok_u_law_high T  (by rintro _ _ _ _ ⟨_, rfl, _⟩; rfl) sat_high
theorem k_u_law_good (T : Tx K mg) : Good P w K mg base 3 (He.ga K "_law_good") ((["script", "rows", "early"] : List PySem.Str)) sp_good := ok_u_law_good T (k_u_law_bag T) (k_u_law_take T) (k_u_law_low T) (k_u_law_high T) (by rintro _ _ _ _ ⟨_, _, _, rfl, _⟩; rfl) sat_good
theorem k_u_law_kept (T : Tx K mg) : Good P w K mg base 2 (He.ga K "_law_kept") ((["rows", "early", "first", "log"] : List PySem.Str)) sp_kept := ok_u_law_kept T (k_u_law_low T) (k_u_law_high T) (by rintro _ _ _ _ ⟨_, _, _, _, rfl, _⟩; rfl) sat_kept
theorem k_u_law_due (T : Tx K mg) : Good P w K mg base 3 (He.ga K "_law_due") ((["rows", "early", "log"] : List PySem.Str)) sp_due := ok_u_law_due T (k_u_law_kept T) (by rintro _ _ _ _ ⟨_, _, _, rfl, _⟩; rfl) sat_due
theorem k_least_sum (T : Tx K mg) : Good P w K mg base 1 (He.ga K "least_sum") ((["work"] : List PySem.Str)) sp_least := ok_least_sum T  (by rintro _ _ _ _ ⟨_, rfl, _⟩; rfl) sat_least
theorem k_Task__least_work (T : Tx K mg) : Good P w K mg base 2 (He.ma K (He.ga K "Task") "least_work") ((["self", "frame"] : List PySem.Str)) (sp_tleast (He.ga K "Task")) := ok_Task__least_work T (k_least_sum T) (by rintro _ _ _ _ ⟨_, _, _, _, _, rfl, _⟩; rfl) (sat_tleast _)
theorem k_most_sum (T : Tx K mg) : Good P w K mg base 1 (He.ga K "most_sum") ((["work"] : List PySem.Str)) sp_most := ok_most_sum T  (by rintro _ _ _ _ ⟨_, rfl, _⟩; rfl) sat_most
theorem k_Task__most_work (T : Tx K mg) : Good P w K mg base 2 (He.ma K (He.ga K "Task") "most_work") ((["self", "frame"] : List PySem.Str)) (sp_tmost (He.ga K "Task")) := ok_Task__most_work T (k_most_sum T) (by rintro _ _ _ _ ⟨_, _, _, _, _, rfl, _⟩; rfl) (sat_tmost _)
theorem k_length_fits (T : Tx K mg) : Good P w K mg base 3 (He.ga K "length_fits") ((["task", "frame", "length"] : List PySem.Str)) (sp_fits (He.ga K "Task")) := ok_length_fits T (k_Task__least_work T) (k_Task__most_work T) (by rintro _ _ _ _ ⟨_, _, _, _, _, _, rfl, _⟩; rfl) (sat_fits _)
theorem k_u_earliest_arrivals (T : Tx K mg) : Good P w K mg base 4 (He.ga K "_earliest_arrivals") ((["task", "log", "start_frame"] : List PySem.Str)) (sp_earl (He.ga K "Task")) := ok_u_earliest_arrivals T (k_length_fits T) (by rintro _ _ _ _ ⟨_, _, _, _, _, rfl, _⟩; rfl) (sat_earl _)
theorem k_break_index (T : Tx K mg) : Good P w K mg base 5 (He.ga K "break_index") ((["task", "log"] : List PySem.Str)) (sp_break (He.ga K "Task")) := ok_break_index T (k_u_earliest_arrivals T) (by rintro _ _ _ _ ⟨_, _, _, _, rfl, _⟩; rfl) (sat_break _)
theorem k_u_law_number (T : Tx K mg) : Good P w K mg base 1 (He.ga K "_law_number") ((["thing"] : List PySem.Str)) sp_number := ok_u_law_number T  (by rintro _ _ _ _ ⟨_, rfl, _⟩; rfl) sat_number
theorem k_u_law_right (T : Tx K mg) : Good P w K mg base 6 (He.ga K "_law_right") ((["task", "rows", "early", "log"] : List PySem.Str)) (sp_right (He.ga K "Task")) := ok_u_law_right T (k_u_law_due T) (k_break_index T) (k_u_law_number T) (by rintro _ _ _ _ ⟨_, _, _, _, rfl, _⟩; rfl) (sat_right _)
theorem k_u_law_bent (T : Tx K mg) : Good P w K mg base 2 (He.ga K "_law_bent") ((["bag", "log", "at"] : List PySem.Str)) sp_bent := ok_u_law_bent T (k_u_law_take T) (by rintro _ _ _ _ ⟨_, _, _, _, _, rfl, _⟩; rfl) sat_bent
theorem k_explained (T : Tx K mg) : Good P w K mg base 5 (He.ga K "explained") ((["task", "log"] : List PySem.Str)) (sp_expl (He.ga K "Task")) := ok_explained T (k_u_earliest_arrivals T) (by rintro _ _ _ _ ⟨_, _, _, _, rfl, _⟩; rfl) (sat_expl _)
theorem k_u_law_around (T : Tx K mg) : Good P w K mg base 7 (He.ga K "_law_around") ((["bag", "task", "rows", "early", "log", "at"] : List PySem.Str)) (sp_around (He.ga K "Task")) := ok_u_law_around T (k_break_index T) (k_explained T) (k_u_law_take T) (k_u_law_right T) (k_u_law_kept T) (k_u_law_low T) (k_u_law_high T) (by rintro _ _ _ _ ⟨_, _, _, _, _, _, _, _, rfl, _⟩; rfl) (sat_around _)
theorem k_law (T : Tx K mg) {fd : FuncData} (F : FunD K "law" "law" (defArgs (top 53)) (defBody (top 53)) (defScope (top 53)) [] [] (He.ga K "law") fd) : FnOk P w K mg base CX0 8 (He.ga K "law") fd ["script"] (lsp K sp_law) := okL_law T (k_u_law_bag T) (k_u_law_take T) (k_u_law_rows T) (k_Task____init__ T) (k_u_law_word T) (k_u_law_good T) (k_u_law_right T) (k_u_law_bent T) (k_u_law_due T) (k_u_law_high T) (k_u_law_around T) (by rintro _ _ _ _ ⟨_, rfl, _⟩; rfl) sat_lawT F
end
end Hd
open PySem PySem.W PySem.Calls PyProof.Rows
set_option maxHeartbeats 0 in
theorem PySem.Challenge.cw_busyspan_k53_broken_logs_holds : PySem.Challenge.rw_busyspan_k53_broken_logs.Holds := by
  w_on; o_law
  refine HandSHeadRun.head_any (r := OpenLaw.row PySem.Challenge.rw_busyspan_k53_broken_logs) (q := view (OpenLaw.row PySem.Challenge.rw_busyspan_k53_broken_logs).prog [53]) (H := Hd.hk) (ob := Hd.ob) (M := 3000) (loose := Hd.names) (d := HandSHeadRun.topDef (OpenLaw.row PySem.Challenge.rw_busyspan_k53_broken_logs).prog 53) (kwd := []) Hd.ob_eq
    (by kernel_rfl) (fun s => by kernel_rfl) Hd.run (by kernel_rfl) (by kernel_rfl) (by kernel_rfl) (by rfl) (by first | assumption | decide +kernel) (by decide +kernel) ⟨rfl, rfl, rfl, rfl, rfl, by decide +kernel⟩ ?hw ?hc
  case hw => w_witness2
  case hc =>
    refine L2.walk_ofE (l := PySem.Challenge.rw_busyspan_k53_broken_logs) (n := 63) (k := 8) (x := "script") (CX := L2.CX0) rfl (by decide) (by kernel_rfl) ⟨rfl, by decide, by decide⟩ ?F (fun _ _ _ _ z => z)
    intro w mg fa h Y G hmg0
    obtain ⟨K, KX, c⟩ := Y
    have hmg : mg ("law" : PySem.Str) = some (.ref fa) := by
      have e : (HandSHeadRun.topDef (OpenLaw.row PySem.Challenge.rw_busyspan_k53_broken_logs).prog 53).name = ("law" : PySem.Str) := by kernel_rfl
      rw [← e]
      exact hmg0
    have T : Hd.Tx K mg := ⟨h, KX, G, c⟩
    have e := hmg.symm.trans (Hd.mG_law T)
    cases e
    obtain ⟨fd, F⟩ := Hd.mF_law T
    have b := L2.FunD.bindsA (ps := ["script"]) F fun _ _ _ _ _ _ us hl => match us, hl with | [_], _ => rfl
    exact ⟨K, fd, Z.lsp K Hd.sp_law, KX, fun s v => b s [v] rfl, fun H a ns hl hO hS => Z.law_lsp hO hS (⟨ns, rfl, rfl, rfl⟩), fun base _ _ => Hd.k_law T F⟩

