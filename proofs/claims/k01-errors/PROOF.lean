import PyProof.Rows.All
import Wide.All
import OpenK.AllK
import Wide.FinOn
import HandS.ForMost
import HandS.Exc
import HandS.ExcOwn
import HandS.ExcInit
import HandS.TupAny
import HandS.TupMul
import HandS.Deep
import HandS.IsInst
import HandS.Text
import HandS.RaiseMore
import HandS.More
import PyProof.Rows.InDataRows
import HandS.Codes
import HandS.WordsExc
import HandS.Property
import HandS.Comp
import HandS.Iter
import HandS.Zip
import KE.SortData
import HandS.Remove
import KE.KExcSuper
import KE.KExcInit
import HandS.ExcSuper
import HandS.ExcIs
import HandS.ExcField
import KE.KExcIs
import HandS.TryMany
import HandS.Dict
import PyProof.StrBlock2
import PySem.Challenge.RW_wouldturn_k01_errors
import PyProof.ReprLen
set_option Elab.async false
set_option linter.all false
set_option maxRecDepth 100000
set_option maxHeartbeats 4000000
/-! DL0: a layer over the hand layer. Pure data Dt (what a value is, the heap forgotten), a world Wd of mutable objects, judgements whose transformers speak of data alone. -/
namespace DL
open PySem L2

/-- data: a value with all that it holds; `at`: an address (a mutable object, a def, a class) -/
inductive Dt where
  | non | bl (b : Bool) | int (i : Int) | str (x : Str) | ty (n : String)
  | lst (xs : List Dt) | tup (xs : List Dt) | dct (kvs : List (Key × Dt)) | ins (C : Addr) (fs : List (Str × Dt)) | exc (C : Addr) (fs : List (Str × Dt)) | cau (a : Addr) (d : Option Addr) (fs : List (Str × Dt)) | at (a : Addr)

abbrev Ex (H H' : Hp) : Prop := ∀ b o, H b = some o → H' b = some o
theorem Ex.refl {H : Hp} : Ex H H := fun _ _ h => h
theorem Ex.trans {H H1 H2 : Hp} (a : Ex H H1) (b : Ex H1 H2) : Ex H H2 := fun x o h => b x o (a x o h)

/-! ### what stands for what, over the frozen heap G -/
mutual
inductive Dv (K : PySem.W.Frag) (G : Hp) : V → Dt → Prop where
  | non : Dv K G .non .non
  | bl (b : Bool) : Dv K G (.bl b) (.bl b)
  | int (i : Int) : Dv K G (.int i) (.int i)
  | str (x : Str) : Dv K G (.str x) (.str x)
  | ty (n : String) : Dv K G (.ty n) (.ty n)
  | lst {a : Addr} {vs : List V} {ds : List Dt} : SqL K G a vs → Dvs K G vs ds → Dv K G (.ref a) (.lst ds)
  | tup {a : Addr} {vs : List V} {ds : List Dt} : SqT K G a vs → Dvs K G vs ds → Dv K G (.ref a) (.tup ds)
  | dct {a : Addr} {kvs : List (Key × V)} {ds : List (Key × Dt)} : G a = some (.dK kvs) → Dvk K G kvs ds → Dv K G (.ref a) (.dct ds)
  | ins {a C dx : Addr} {fs : List (Str × V)} {ds : List (Str × Dt)} : G a = some (.ins C dx fs) → Dvf K G fs ds → Dv K G (.ref a) (.ins C ds)
  | exc {a C : Addr} {d : Option Addr} {fs : List (Str × V)} {ds : List (Str × Dt)} : G a = some (exo a C d) → (d = none ∧ fs = []) ∨ (∃ dd, d = some dd ∧ G dd = some (.xd fs)) → Dvf K G fs ds → Dv K G (.ref a) (.exc C ds)
  | cau {a : Addr} {d : Option Addr} {fs : List (Str × V)} {ds : List (Str × Dt)} : (d = none ∧ fs = []) ∨ (∃ dd, d = some dd ∧ G dd = some (.xd fs)) → Dvf K G fs ds → Dv K G (.ref a) (.cau a d ds)
  | at (a : Addr) : Dv K G (.ref a) (.at a)
inductive Dvs (K : PySem.W.Frag) (G : Hp) : List V → List Dt → Prop where
  | nil : Dvs K G [] []
  | cons {v : V} {d : Dt} {vs : List V} {ds : List Dt} : Dv K G v d → Dvs K G vs ds → Dvs K G (v :: vs) (d :: ds)
inductive Dvk (K : PySem.W.Frag) (G : Hp) : List (Key × V) → List (Key × Dt) → Prop where
  | nil : Dvk K G [] []
  | cons {k : Key} {v : V} {d : Dt} {vs : List (Key × V)} {ds : List (Key × Dt)} : Dv K G v d → Dvk K G vs ds → Dvk K G ((k, v) :: vs) ((k, d) :: ds)
inductive Dvf (K : PySem.W.Frag) (G : Hp) : List (Str × V) → List (Str × Dt) → Prop where
  | nil : Dvf K G [] []
  | cons {k : Str} {v : V} {d : Dt} {vs : List (Str × V)} {ds : List (Str × Dt)} : Dv K G v d → Dvf K G vs ds → Dvf K G ((k, v) :: vs) ((k, d) :: ds)
end
theorem rd_mono {G G' : Hp} (e : Ex G G') {a : Addr} {u : HO} (h : Rd G a u) : Rd G' a u := by
  rcases h with h | ⟨o, h⟩
  · exact .inl (e a _ h)
  · exact .inr ⟨o, e a _ h⟩
theorem sql_mono {K : PySem.W.Frag} {G G' : Hp} (e : Ex G G') {a : Addr} {xs : List V} (h : SqL K G a xs) : SqL K G' a xs := h.imp (rd_mono e) id
theorem sqt_mono {K : PySem.W.Frag} {G G' : Hp} (e : Ex G G') {a : Addr} {xs : List V} (h : SqT K G a xs) : SqT K G' a xs := h.imp (rd_mono e) id
section
variable {K : PySem.W.Frag} {G G' : Hp}
mutual
theorem Dv.mono (e : Ex G G') : ∀ {v : V} {d : Dt}, Dv K G v d → Dv K G' v d
  | _, _, .non => .non
  | _, _, .bl b => .bl b
  | _, _, .int i => .int i
  | _, _, .str x => .str x
  | _, _, .ty n => .ty n
  | _, _, .lst h t => .lst (sql_mono e h) (Dvs.mono e t)
  | _, _, .tup h t => .tup (sqt_mono e h) (Dvs.mono e t)
  | _, _, .dct h t => .dct (e _ _ h) (Dvk.mono e t)
  | _, _, .ins h t => .ins (e _ _ h) (Dvf.mono e t)
  | _, _, .exc h k t => .exc (e _ _ h) (k.imp id fun ⟨dd, a, b⟩ => ⟨dd, a, e _ _ b⟩) (Dvf.mono e t)
  | _, _, .cau k t => .cau (k.imp id fun ⟨dd, a, b⟩ => ⟨dd, a, e _ _ b⟩) (Dvf.mono e t)
  | _, _, .at a => .at a
theorem Dvs.mono (e : Ex G G') : ∀ {v : List V} {d : List Dt}, Dvs K G v d → Dvs K G' v d
  | _, _, .nil => .nil
  | _, _, .cons h t => .cons (Dv.mono e h) (Dvs.mono e t)
theorem Dvk.mono (e : Ex G G') : ∀ {v : List (Key × V)} {d : List (Key × Dt)}, Dvk K G v d → Dvk K G' v d
  | _, _, .nil => .nil
  | _, _, .cons h t => .cons (Dv.mono e h) (Dvk.mono e t)
theorem Dvf.mono (e : Ex G G') : ∀ {v : List (Str × V)} {d : List (Str × Dt)}, Dvf K G v d → Dvf K G' v d
  | _, _, .nil => .nil
  | _, _, .cons h t => .cons (Dv.mono e h) (Dvf.mono e t)
end
end
section
variable {K : PySem.W.Frag} {G : Hp}
theorem Dvs.length : ∀ {v : List V} {d : List Dt}, Dvs K G v d → v.length = d.length
  | _, _, .nil => rfl
  | _, _, .cons _ t => by simp [Dvs.length t]
theorem Dvs.get : ∀ {v : List V} {d : List Dt} {i : Nat} {x : Dt}, Dvs K G v d → d[i]? = some x → ∃ u, v[i]? = some u ∧ Dv K G u x
  | _, _, _, _, .nil, e => by simp at e
  | _, _, 0, _, .cons r _, e => by simp at e; subst e; exact ⟨_, rfl, r⟩
  | _, _, i + 1, x, .cons _ t, e => by
    obtain ⟨u, h1, h2⟩ := Dvs.get (i := i) (x := x) t (by simpa using e)
    exact ⟨u, by simpa using h1, h2⟩
theorem Dvs.append : ∀ {v w : List V} {d e : List Dt}, Dvs K G v d → Dvs K G w e → Dvs K G (v ++ w) (d ++ e)
  | _, _, _, _, .nil, s => s
  | _, _, _, _, .cons r t, s => .cons r (Dvs.append t s)
theorem Dvs.take : ∀ {v : List V} {d : List Dt} (n : Nat), Dvs K G v d → Dvs K G (v.take n) (d.take n)
  | _, _, 0, _ => .nil
  | _, _, _ + 1, .nil => .nil
  | _, _, n + 1, .cons r t => .cons r (Dvs.take n t)
theorem Dvs.drop : ∀ {v : List V} {d : List Dt} (n : Nat), Dvs K G v d → Dvs K G (v.drop n) (d.drop n)
  | _, _, 0, r => r
  | _, _, _ + 1, .nil => .nil
  | _, _, n + 1, .cons _ t => Dvs.drop n t
theorem Dvs.set {x : V} {y : Dt} (r : Dv K G x y) : ∀ {v : List V} {d : List Dt} (i : Nat), Dvs K G v d → Dvs K G (v.set i x) (d.set i y)
  | _, _, _, .nil => .nil
  | _, _, 0, .cons _ t => .cons r t
  | _, _, i + 1, .cons q t => .cons q (Dvs.set r i t)
theorem Dvs.eraseIdx : ∀ {v : List V} {d : List Dt} (i : Nat), Dvs K G v d → Dvs K G (v.eraseIdx i) (d.eraseIdx i)
  | _, _, _, .nil => .nil
  | _, _, 0, .cons _ t => t
  | _, _, i + 1, .cons q t => .cons q (Dvs.eraseIdx i t)
theorem Dvs.reverse {v : List V} {d : List Dt} (h : Dvs K G v d) : Dvs K G v.reverse d.reverse := by
  induction v generalizing d with
  | nil => cases h; exact .nil
  | cons x v ih =>
    cases h with
    | cons r t =>
      rw [List.reverse_cons, List.reverse_cons]
      exact (ih t).append (.cons r .nil)
theorem Dvs.rep {v : List V} {d : List Dt} (h : Dvs K G v d) : ∀ k : Nat, Dvs K G (List.replicate k v).flatten (List.replicate k d).flatten
  | 0 => .nil
  | k + 1 => by
    rw [List.replicate_succ, List.replicate_succ, List.flatten_cons, List.flatten_cons]
    exact h.append (h.rep k)
theorem Dvs.ints : ∀ {ns : List Int} {v : List V}, Dvs K G v (ns.map Dt.int) → v = ns.map V.int
  | [], _, .nil => rfl
  | _ :: _, _, .cons (.int _) t => by rw [List.map_cons, Dvs.ints t]
theorem Dvs.strs : ∀ {ns : List Str} {v : List V}, Dvs K G v (ns.map Dt.str) → v = ns.map V.str
  | [], _, .nil => rfl
  | _ :: _, _, .cons (.str _) t => by rw [List.map_cons, Dvs.strs t]
theorem Dvs.bls : ∀ {ns : List Bool} {v : List V}, Dvs K G v (ns.map Dt.bl) → v = ns.map V.bl
  | [], _, .nil => rfl
  | _ :: _, _, .cons (.bl _) t => by rw [List.map_cons, Dvs.bls t]
theorem Dvs.of_ints : ∀ (ns : List Int), Dvs K G (ns.map V.int) (ns.map Dt.int)
  | [] => .nil
  | n :: r => .cons (.int n) (Dvs.of_ints r)
theorem Dvs.of_strs : ∀ (ns : List Str), Dvs K G (ns.map V.str) (ns.map Dt.str)
  | [] => .nil
  | n :: r => .cons (.str n) (Dvs.of_strs r)
theorem Dvf.lookup : ∀ {v : List (Str × V)} {d : List (Str × Dt)} {f : Str} {x : Dt}, Dvf K G v d → d.lookup f = some x → ∃ u, v.lookup f = some u ∧ Dv K G u x
  | _, _, _, _, .nil, e => by simp at e
  | (k, w) :: v, (_, y) :: d, f, x, .cons r t, e => by
    rw [List.lookup_cons] at e ⊢
    cases q : f == k with
    | true => rw [q] at e; exact ⟨w, rfl, by cases e; exact r⟩
    | false => rw [q] at e; exact Dvf.lookup t e
theorem Dvf.lookup_none : ∀ {v : List (Str × V)} {d : List (Str × Dt)} {f : Str}, Dvf K G v d → d.lookup f = none → v.lookup f = none
  | _, _, _, .nil, e => rfl
  | (k, w) :: v, (_, y) :: d, f, .cons r t, e => by
    rw [List.lookup_cons] at e ⊢
    cases q : f == k with
    | true => rw [q] at e; cases e
    | false => rw [q] at e; exact Dvf.lookup_none t e
theorem Dvf.length : ∀ {v : List (Str × V)} {d : List (Str × Dt)}, Dvf K G v d → v.length = d.length
  | _, _, .nil => rfl
  | _, _, .cons _ t => by simp [Dvf.length t]
/-- a field stored, as putF stores it -/
def putD (f : Str) (y : Dt) : List (Str × Dt) → List (Str × Dt)
  | [] => [(f, y)]
  | (g, z) :: r => if g = f then (g, y) :: r else (g, z) :: putD f y r
end

/-! ### the world: what may change -/
inductive MO where
  | lst (ds : List Dt) | ins (C : Addr) (fs : List (Str × Dt))
/-- m: the mutable objects; src: a law's source: its list, the list of its cells, how many draws there were -/
structure Wd where
  m : Addr → Option MO
  src : Option (Addr × Addr × Nat)
def Wd.hid (W : Wd) (b : Addr) : Bool := match W.src with
  | none => false
  | some (p, c, _) => decide (b = p) || decide (b = c)
/-- the frozen part -/
def off (hd : Addr → Bool) (W : Wd) (H : Hp) : Hp := fun b => if (W.m b).isSome || W.hid b || hd b then none else H b
def Wd.put (W : Wd) (a : Addr) (o : MO) : Wd := { W with m := fun b => if b = a then some o else W.m b }
def Wd.del (W : Wd) (a : Addr) : Wd := { W with m := fun b => if b = a then none else W.m b }
def Wd.drawn (W : Wd) (n : Nat) : Wd := { W with src := W.src.map fun q => (q.1, q.2.1, n) }
theorem Wd.del_put {W : Wd} {a : Addr} {o : MO} (h : W.m a = none) : (W.put a o).del a = W := by
  obtain ⟨m, s⟩ := W
  have e : (fun b => if b = a then none else if b = a then some o else m b) = m := by
    funext b
    by_cases hb : b = a
    · subst hb; simp; exact h.symm
    · simp [hb]
  show (⟨fun b => if b = a then none else if b = a then some o else m b, s⟩ : Wd) = ⟨m, s⟩
  rw [e]
theorem Wd.put_put {W : Wd} {a : Addr} {o u : MO} : (W.put a o).put a u = W.put a u := by
  obtain ⟨m, s⟩ := W
  have e : (fun b => if b = a then some u else if b = a then some o else m b) = fun b => if b = a then some u else m b := by
    funext b
    by_cases hb : b = a <;> simp [hb]
  show (⟨fun b => if b = a then some u else if b = a then some o else m b, s⟩ : Wd) = ⟨fun b => if b = a then some u else m b, s⟩
  rw [e]
theorem Wd.put_m {W : Wd} {a : Addr} {o : MO} : (W.put a o).m a = some o := by simp [Wd.put]
theorem Wd.put_ne {W : Wd} {a b : Addr} {o : MO} (h : b ≠ a) : (W.put a o).m b = W.m b := by simp [Wd.put, h]

def MRep (K : PySem.W.Frag) (G : Hp) (o : Option HO) : MO → Prop
  | .lst ds => ∃ vs, o = some (.lst vs) ∧ Dvs K G vs ds
  | .ins C fs => ∃ dx vs, o = some (.ins C dx vs) ∧ Dvf K G vs fs
def SrcOk (H : Hp) (p c : Addr) (n : Nat) : Prop :=
  p ≠ c ∧ ∃ (st : Int) (cells : List Int), H p = some (.lst [.ref c, .int st, .int n]) ∧ H c = some (.lst (cells.map V.int)) ∧ cells.length ≤ 64 ∧ 0 ≤ st ∧ st < 2147483648
/-- hd: what is hidden (a comprehension's list that is being made): it is there, and nobody touches it -/
structure Rep (K : PySem.W.Frag) (hd : Addr → Bool) (W : Wd) (H : Hp) : Prop where
  h : ∀ b, hd b = true → W.m b = none ∧ W.hid b = false ∧ ∃ o, H b = some o
  m : ∀ a o, W.m a = some o → MRep K (off hd W H) (H a) o
  s : ∀ p c n, W.src = some (p, c, n) → W.m p = none ∧ W.m c = none ∧ SrcOk H p c n
/-- the slots -/
abbrev Sl := List (Option Dt)
structure EnvD (K : PySem.W.Frag) (G : Hp) (σ : St) (Γ : Sl) : Prop where
  len : Γ.length = σ.length
  get : ∀ (i : Nat) d, Γ[i]? = some (some d) → ∃ v, σ[i]? = some (some v) ∧ Dv K G v d
theorem EnvD.mono {K : PySem.W.Frag} {G G' : Hp} {σ : St} {Γ : Sl} (E : EnvD K G σ Γ) (e : Ex G G') : EnvD K G' σ Γ :=
  ⟨E.len, fun i d h => let ⟨v, a, b⟩ := E.get i d h; ⟨v, a, b.mono e⟩⟩
theorem EnvD.set {K : PySem.W.Frag} {G : Hp} {σ : St} {Γ : Sl} {i : Nat} {v : V} {d : Dt} (E : EnvD K G σ Γ) (r : Dv K G v d) : EnvD K G (σ.set i (some v)) (Γ.set i (some d)) := by
  refine ⟨by simp [E.len], fun j e h => ?_⟩
  by_cases hj : i = j
  · subst hj
    rw [List.getElem?_set] at h ⊢
    simp only [if_true] at h ⊢
    split at h
    · rename_i hl
      cases h
      exact ⟨v, by rw [if_pos (by rw [← E.len]; exact hl)], r⟩
    · cases h
  · rw [List.getElem?_set_ne hj] at h ⊢
    exact E.get j e h

theorem EnvD.unset {K : PySem.W.Frag} {G : Hp} {σ : St} {Γ : Sl} {i : Nat} (E : EnvD K G σ Γ) : EnvD K G (σ.set i none) (Γ.set i none) := by
  refine ⟨by simp [E.len], fun j e h => ?_⟩
  by_cases hj : i = j
  · subst hj
    rw [List.getElem?_set] at h
    simp only [if_true] at h
    split at h <;> cases h
  · rw [List.getElem?_set_ne hj] at h ⊢
    exact E.get j e h

section
variable {K : PySem.W.Frag} {hd : Addr → Bool} {W : Wd} {H H' : Hp} {a b : Addr} {o : HO} {mo m0 : MO}
theorem Rep.there (R : Rep K hd W H) (h : W.m a = some mo) : ∃ o, H a = some o := by
  have q := R.m a mo h
  cases mo with
  | lst ds => obtain ⟨vs, e, _⟩ := q; exact ⟨_, e⟩
  | ins C fs => obtain ⟨dx, vs, e, _⟩ := q; exact ⟨_, e⟩
theorem Rep.fresh_m (R : Rep K hd W H) (h : H a = none) : W.m a = none := by
  cases q : W.m a with
  | none => rfl
  | some mo =>
    obtain ⟨o, e⟩ := R.there q
    rw [h] at e; cases e
theorem Rep.fresh_hid (R : Rep K hd W H) (h : H a = none) : W.hid a = false := by
  unfold Wd.hid
  cases q : W.src with
  | none => rfl
  | some t =>
    obtain ⟨p, c, n⟩ := t
    obtain ⟨_, _, _, st, cells, e1, e2, _⟩ := R.s p c n q
    have n1 : a ≠ p := fun z => by subst z; rw [h] at e1; cases e1
    have n2 : a ≠ c := fun z => by subst z; rw [h] at e2; cases e2
    simp [n1, n2]
theorem Rep.fresh_hd (R : Rep K hd W H) (h : H a = none) : hd a = false := by
  cases q : hd a with
  | false => rfl
  | true =>
    obtain ⟨_, _, o, e⟩ := R.h a q
    rw [h] at e; cases e
theorem off_eq (hm : W.m b = none) (hh : W.hid b = false) (hx : hd b = false) : off hd W H b = H b := by simp [off, hm, hh, hx]
theorem off_some (h : off hd W H b = some o) : W.m b = none ∧ W.hid b = false ∧ H b = some o ∧ hd b = false := by
  unfold off at h
  split at h
  · cases h
  · rename_i q
    simp only [Bool.or_eq_true, not_or, Bool.not_eq_true] at q
    refine ⟨?_, q.1.2, h, q.2⟩
    cases z : W.m b with
    | none => rfl
    | some _ => rw [z] at q; exact absurd q.1.1 (by simp)
theorem Ex.off (e : Ex H H') : Ex (off hd W H) (off hd W H') := fun b o h => by
  obtain ⟨h1, h2, h3, h4⟩ := off_some h
  rw [off_eq h1 h2 h4]; exact e b o h3
/-- the mutable objects untouched: the heap grew -/
theorem Rep.grow {H' : Hp} (R : Rep K hd W H) (e : Ex H H') : Rep K hd W H' := by
  refine ⟨fun b hb => let ⟨h1, h2, o, h3⟩ := R.h b hb; ⟨h1, h2, o, e _ _ h3⟩, fun a mo h => ?_, fun p c n h => ?_⟩
  · have q := R.m a mo h
    cases mo with
    | lst ds =>
      obtain ⟨vs, e1, r⟩ := q
      exact ⟨vs, e _ _ e1, r.mono (Ex.off e)⟩
    | ins C fs =>
      obtain ⟨dx, vs, e1, r⟩ := q
      exact ⟨dx, vs, e _ _ e1, r.mono (Ex.off e)⟩
  · obtain ⟨h1, h2, h3, st, cells, e1, e2, r⟩ := R.s p c n h
    exact ⟨h1, h2, h3, st, cells, e _ _ e1, e _ _ e2, r⟩
theorem ex_new (h : H a = none) : Ex H (upd H a o) := fun b u e => by
  rw [upd_ne (ne_of_none e h)]; exact e
/-- a new mutable object -/
theorem off_put_new (R : Rep K hd W H) (h : H a = none) : Ex (off hd W H) (off hd (W.put a mo) (upd H a o)) := fun b u e => by
  obtain ⟨h1, h2, h3, h4⟩ := off_some e
  have n : b ≠ a := ne_of_none h3 h
  rw [off_eq (by rw [Wd.put_ne n]; exact h1) (show (W.put a mo).hid b = false from h2) h4, upd_ne n]
  exact h3
theorem MRep.mono {G G' : Hp} (e : Ex G G') {x : Option HO} (r : MRep K G x mo) : MRep K G' x mo := by
  cases mo with
  | lst ds =>
    obtain ⟨vs, e1, r⟩ := r
    exact ⟨vs, e1, r.mono e⟩
  | ins C fs =>
    obtain ⟨dx, vs, e1, r⟩ := r
    exact ⟨dx, vs, e1, r.mono e⟩
theorem Rep.put_new (R : Rep K hd W H) (h : H a = none) (r : MRep K (off hd (W.put a mo) (upd H a o)) (some o) mo) : Rep K hd (W.put a mo) (upd H a o) := by
  refine ⟨fun b hb => ?_, fun b mb hb => ?_, fun p c n hs => ?_⟩
  · obtain ⟨h1, h2, u, h3⟩ := R.h b hb
    have n : b ≠ a := ne_of_none h3 h
    exact ⟨by rw [Wd.put_ne n]; exact h1, h2, u, by rw [upd_ne n]; exact h3⟩
  · by_cases n : b = a
    · subst n
      rw [Wd.put_m] at hb
      cases hb
      rw [upd_same]; exact r
    · rw [Wd.put_ne n] at hb
      rw [upd_ne n]
      exact (R.m b mb hb).mono (off_put_new R h)
  · obtain ⟨h1, h2, h3, st, cells, e1, e2, q⟩ := R.s p c n hs
    have n1 : p ≠ a := ne_of_none e1 h
    have n2 : c ≠ a := ne_of_none e2 h
    exact ⟨by rw [Wd.put_ne n1]; exact h1, by rw [Wd.put_ne n2]; exact h2, h3, st, cells, by rw [upd_ne n1]; exact e1, by rw [upd_ne n2]; exact e2, q⟩
/-- a mutable object written -/
theorem off_put (hm : W.m a = some m0) : off hd (W.put a mo) (upd H a o) = off hd W H := by
  funext b
  by_cases n : b = a
  · subst n
    simp [off, Wd.put_m, hm]
  · have e : (W.put a mo).hid b = W.hid b := rfl
    simp only [off, Wd.put_ne n, e, upd_ne n]
theorem Rep.put (R : Rep K hd W H) (hm : W.m a = some m0) (r : MRep K (off hd W H) (some o) mo) : Rep K hd (W.put a mo) (upd H a o) := by
  refine ⟨fun b hb => ?_, fun b mb hb => ?_, fun p c n hs => ?_⟩
  · obtain ⟨h1, h2, u, h3⟩ := R.h b hb
    have n : b ≠ a := fun z => by subst z; rw [hm] at h1; cases h1
    exact ⟨by rw [Wd.put_ne n]; exact h1, h2, u, by rw [upd_ne n]; exact h3⟩
  · rw [off_put hm]
    by_cases n : b = a
    · subst n
      rw [Wd.put_m] at hb
      cases hb
      rw [upd_same]; exact r
    · rw [Wd.put_ne n] at hb
      rw [upd_ne n]
      exact R.m b mb hb
  · obtain ⟨h1, h2, h3, st, cells, e1, e2, q⟩ := R.s p c n hs
    have n1 : p ≠ a := fun z => by subst z; rw [hm] at h1; cases h1
    have n2 : c ≠ a := fun z => by subst z; rw [hm] at h2; cases h2
    exact ⟨by rw [Wd.put_ne n1]; exact h1, by rw [Wd.put_ne n2]; exact h2, h3, st, cells, by rw [upd_ne n1]; exact e1, by rw [upd_ne n2]; exact e2, q⟩
/-- a mutable object frozen -/
theorem off_del : Ex (off hd W H) (off hd (W.del a) H) := fun b u e => by
  obtain ⟨h1, h2, h3, h4⟩ := off_some e
  rw [off_eq (by show (if b = a then none else W.m b) = none; split <;> first | rfl | exact h1) (show (W.del a).hid b = false from h2) h4]
  exact h3
theorem Rep.del (R : Rep K hd W H) : Rep K hd (W.del a) H := by
  refine ⟨fun b hb => ?_, fun b mb hb => ?_, fun p c n hs => ?_⟩
  · obtain ⟨h1, h2, h3⟩ := R.h b hb
    exact ⟨by show (if b = a then none else W.m b) = none; split <;> first | rfl | exact h1, h2, h3⟩
  · have hb' : (if b = a then none else W.m b) = some mb := hb
    split at hb'
    · cases hb'
    · exact (R.m b mb hb').mono off_del
  · obtain ⟨h1, h2, r⟩ := R.s p c n hs
    refine ⟨?_, ?_, r⟩
    · show (if p = a then none else W.m p) = none
      split <;> first | rfl | exact h1
    · show (if c = a then none else W.m c) = none
      split <;> first | rfl | exact h2
theorem Rep.hid_m (R : Rep K hd W H) (hm : W.m a = some mo) : W.hid a = false := by
  unfold Wd.hid
  cases q : W.src with
  | none => rfl
  | some t =>
    obtain ⟨p, c, n⟩ := t
    obtain ⟨h1, h2, _⟩ := R.s p c n q
    have n1 : a ≠ p := fun z => by subst z; rw [hm] at h1; cases h1
    have n2 : a ≠ c := fun z => by subst z; rw [hm] at h2; cases h2
    simp [n1, n2]
theorem Rep.hd_m (R : Rep K hd W H) (hm : W.m a = some mo) : hd a = false := by
  cases q : hd a with
  | false => rfl
  | true =>
    obtain ⟨h1, _⟩ := R.h a q
    rw [hm] at h1; cases h1
theorem Rep.off_del (R : Rep K hd W H) (hm : W.m a = some mo) : off hd (W.del a) H a = H a :=
  off_eq (by simp [Wd.del]) (show (W.del a).hid a = false from R.hid_m hm) (R.hd_m hm)
end
end DL

set_option Elab.async false
set_option linter.all false
set_option maxRecDepth 100000
set_option maxHeartbeats 4000000
/-! DL1: the judgements over data, the blocks, the general rules. -/
namespace DL
open PySem L2

/-! ### what must hold ahead of a piece of syntax, as the hand layer's weakest reading -/
def wpE (X : Cx) (e : Expr) : TE := fun σ H Q => ∀ pins s, Inv X pins σ H s → wpAny (model X.prog X.w) X.A (eval e X.env) (EP X pins σ Q) X.xe s
def wpT (X : Cx) (e : Expr) : TT := fun σ H Q => ∀ pins s, Inv X pins σ H s → wpAny (model X.prog X.w) X.A (isTrue e X.env (eval e X.env)) (TP X pins σ Q) X.xe s
def wpW (X : Cx) (e : Expr) : TT := fun σ H Q => ∀ whole pins s, Inv X pins σ H s → wpAny (model X.prog X.w) X.A (isTrue e X.env whole) (TP X pins σ Q) X.xe s
def wpA (X : Cx) (es : List Expr) : TA := fun σ H Q => ∀ pos pins s, Inv X pins σ H s → wpAny (model X.prog X.w) X.A (spliced (backTo pos (starEach es X.env))) (AP X pins σ Q) X.xe s
def wpS (X : Cx) (st : Stmt) : TS := fun D σ H => ∀ pins s, Inv X pins σ H s → wpAny (model X.prog X.w) X.A (exec st X.env) (SP X pins D) X.xe s
def wpB (X : Cx) (st : List Stmt) : TS := fun D σ H => ∀ pins s, Inv X pins σ H s → wpAny (model X.prog X.w) X.A (execs st X.env) (SP X pins D) X.xe s
def wpG (X : Cx) (tg : Expr) : TG := fun v σ H Q => ∀ pins s u, Inv X pins σ H s → RelV v u → wpAny (model X.prog X.w) X.A (assign tg X.env u) (fun _ s' => ∃ σ' H', Inv X pins σ' H' s' ∧ Q σ' H') X.xe s
def wpGs (X : Cx) (ts : List Expr) : TGs := fun vs σ H Q => ∀ pins s us, Inv X pins σ H s → Vals vs us → wpAny (model X.prog X.w) X.A (assignInOrder ((assignEach ts X.env).map (·.2)) us) (fun _ s' => ∃ σ' H', Inv X pins σ' H' s' ∧ Q σ' H') X.xe s
section
variable {X : Cx} {e : Expr} {es : List Expr} {st : Stmt} {sts : List Stmt}
theorem semE : PE X e (wpE X e) := ⟨fun pins s σ H Q I h => h pins s I⟩
theorem semT : PT X e (wpT X e) := ⟨fun pins s σ H Q I h => h pins s I⟩
theorem semW : PW X e (wpW X e) := ⟨fun whole pins s σ H Q I h => h whole pins s I⟩
theorem semA : PA X es (wpA X es) := ⟨fun pos pins s σ H Q I h => h pos pins s I⟩
theorem semS : PS X st (wpS X st) := ⟨fun pins s σ H D I h => h pins s I⟩
theorem semB : PSs X sts (wpB X sts) := ⟨fun pins s σ H D I h => h pins s I⟩
theorem semG : PG X e (wpG X e) := ⟨fun pins s σ H v u Q I r h => h pins s u I r⟩
theorem semGs : PGs X es (wpGs X es) := ⟨fun pins s σ H vs us Q I r h => h pins s us I r⟩
theorem toE {t : TE} (p : PE X e t) {σ : L2.St} {H : Hp} {Q : VK} (h : t σ H Q) : wpE X e σ H Q := fun pins s I => p.run pins s σ H Q I h
theorem toT {t : TT} (p : PT X e t) {σ : L2.St} {H : Hp} {Q : Bool → Hp → Prop} (h : t σ H Q) : wpT X e σ H Q := fun pins s I => p.run pins s σ H Q I h
theorem toW {t : TT} (p : PW X e t) {σ : L2.St} {H : Hp} {Q : Bool → Hp → Prop} (h : t σ H Q) : wpW X e σ H Q := fun wh pins s I => p.run wh pins s σ H Q I h
theorem toA {t : TA} (p : PA X es t) {σ : L2.St} {H : Hp} {Q : List V → Hp → Prop} (h : t σ H Q) : wpA X es σ H Q := fun pos pins s I => p.run pos pins s σ H Q I h
theorem toS {t : TS} (p : PS X st t) {σ : L2.St} {H : Hp} {D : Ends} (h : t D σ H) : wpS X st D σ H := fun pins s I => p.run pins s σ H D I h
theorem toB {t : TS} (p : PSs X sts t) {σ : L2.St} {H : Hp} {D : Ends} (h : t D σ H) : wpB X sts D σ H := fun pins s I => p.run pins s σ H D I h
theorem toG {t : TG} (p : PG X e t) {v : V} {σ : L2.St} {H : Hp} {Q : L2.St → Hp → Prop} (h : t v σ H Q) : wpG X e v σ H Q := fun pins s u I r => p.run pins s σ H v u Q I r h
theorem toGs {t : TGs} (p : PGs X es t) {vs : List V} {σ : L2.St} {H : Hp} {Q : L2.St → Hp → Prop} (h : t vs σ H Q) : wpGs X es vs σ H Q := fun pins s us I r => p.run pins s σ H vs us Q I r h
theorem monoE {σ : L2.St} {H : Hp} {Q Q' : VK} (h : wpE X e σ H Q) (q : ∀ v H', Q v H' → Q' v H') : wpE X e σ H Q' := fun pins s I => thn (h pins s I) fun u s' ⟨v, H', I', r, k⟩ => ⟨v, H', I', r, q v H' k⟩
theorem monoT {σ : L2.St} {H : Hp} {Q Q' : Bool → Hp → Prop} (h : wpT X e σ H Q) (q : ∀ v H', Q v H' → Q' v H') : wpT X e σ H Q' := fun pins s I => thn (h pins s I) fun u s' ⟨H', I', k⟩ => ⟨H', I', q u H' k⟩
theorem monoW {σ : L2.St} {H : Hp} {Q Q' : Bool → Hp → Prop} (h : wpW X e σ H Q) (q : ∀ v H', Q v H' → Q' v H') : wpW X e σ H Q' := fun wh pins s I => thn (h wh pins s I) fun u s' ⟨H', I', k⟩ => ⟨H', I', q u H' k⟩
theorem monoA {σ : L2.St} {H : Hp} {Q Q' : List V → Hp → Prop} (h : wpA X es σ H Q) (q : ∀ v H', Q v H' → Q' v H') : wpA X es σ H Q' := fun pos pins s I => thn (h pos pins s I) fun u s' ⟨v, H', I', r, k⟩ => ⟨v, H', I', r, q v H' k⟩
theorem monoG {v : V} {σ : L2.St} {H : Hp} {Q Q' : L2.St → Hp → Prop} (h : wpG X e v σ H Q) (q : ∀ v H', Q v H' → Q' v H') : wpG X e v σ H Q' := fun pins s u I r => thn (h pins s u I r) fun _ s' ⟨σ', H', I', k⟩ => ⟨σ', H', I', q σ' H' k⟩
theorem monoGs {v : List V} {σ : L2.St} {H : Hp} {Q Q' : L2.St → Hp → Prop} (h : wpGs X es v σ H Q) (q : ∀ v H', Q v H' → Q' v H') : wpGs X es v σ H Q' := fun pins s u I r => thn (h pins s u I r) fun _ s' ⟨σ', H', I', k⟩ => ⟨σ', H', I', q σ' H' k⟩
structure EndsLe (D D' : Ends) : Prop where
  nx : ∀ σ H, D.nx σ H → D'.nx σ H
  rt : ∀ v H, D.rt v H → D'.rt v H
  bk : ∀ σ H, D.bk σ H → D'.bk σ H
  ct : ∀ σ H, D.ct σ H → D'.ct σ H
theorem SP.le {D D' : Ends} (l : EndsLe D D') {pins : List (Addr × Obj)} {f : Flow} {s : Shared} (h : SP X pins D f s) : SP X pins D' f s := by
  cases f with
  | next => obtain ⟨σ', H', I, q⟩ := h; exact ⟨σ', H', I, l.nx _ _ q⟩
  | brk => obtain ⟨σ', H', I, q⟩ := h; exact ⟨σ', H', I, l.bk _ _ q⟩
  | cont => obtain ⟨σ', H', I, q⟩ := h; exact ⟨σ', H', I, l.ct _ _ q⟩
  | ret u => obtain ⟨v, σ', H', I, r, q⟩ := h; exact ⟨v, σ', H', I, r, l.rt _ _ q⟩
theorem monoS {σ : L2.St} {H : Hp} {D D' : Ends} (h : wpS X st D σ H) (l : EndsLe D D') : wpS X st D' σ H := fun pins s I => thn (h pins s I) fun f s' k => SP.le l k
theorem monoB {σ : L2.St} {H : Hp} {D D' : Ends} (h : wpB X sts D σ H) (l : EndsLe D D') : wpB X sts D' σ H := fun pins s I => thn (h pins s I) fun f s' k => SP.le l k
end

/-! ### ends over data -/
abbrev DQ := Dt → Wd → Prop
/-- an exception: its class, its own fields -/
abbrev DX := Value → List (Str × Dt) → Wd → Prop
abbrev DQs := List Dt → Wd → Prop
abbrev DQb := Bool → Wd → Prop
abbrev TX := Sl → Wd → DQ → DX → Prop
abbrev TXb := Sl → Wd → DQb → DX → Prop
abbrev TXs := Sl → Wd → DQs → DX → Prop
structure DEnds where
  nx : Sl → Wd → Prop
  rt : DQ
  bk : Sl → Wd → Prop := fun _ _ => False
  ct : Sl → Wd → Prop := fun _ _ => False
  ex : Sl → DX
abbrev TXS := DEnds → Sl → Wd → Prop
abbrev TXG := Dt → Sl → Wd → (Sl → Wd → Prop) → Prop
abbrev TXGs := List Dt → Sl → Wd → (Sl → Wd → Prop) → Prop

/-- a step of the world: what was frozen stays -/
structure Stp (K : PySem.W.Frag) (hd : Addr → Bool) (W : Wd) (H : Hp) (W' : Wd) (H' : Hp) : Prop where
  rep : Rep K hd W' H'
  ex : Ex (off hd W H) (off hd W' H')
  kp : ∀ b o, hd b = true → H b = some o → H' b = some o
section
variable {K : PySem.W.Frag} {hd : Addr → Bool} {W W1 W2 : Wd} {H H1 H2 : Hp}
theorem Stp.trans (a : Stp K hd W H W1 H1) (b : Stp K hd W1 H1 W2 H2) : Stp K hd W H W2 H2 := ⟨b.rep, a.ex.trans b.ex, fun c o h e => b.kp c o h (a.kp c o h e)⟩
theorem Stp.refl (R : Rep K hd W H) : Stp K hd W H W H := ⟨R, Ex.refl, fun _ _ _ e => e⟩
theorem Stp.grow (R : Rep K hd W H) (e : Ex H H1) : Stp K hd W H W H1 := ⟨R.grow e, Ex.off e, fun b o _ h => e b o h⟩
end
def ExnD (K : PySem.W.Frag) (G : Hp) (d : Option Addr) (fs : List (Str × Dt)) : Prop := (d = none ∧ fs = []) ∨ ∃ dd vs, d = some dd ∧ G dd = some (.xd vs) ∧ Dvf K G vs fs
def QL (K : PySem.W.Frag) (hd : Addr → Bool) (W : Wd) (H : Hp) (Q : DQ) : VK := fun v H' => ∃ d W', Stp K hd W H W' H' ∧ Dv K (off hd W' H') v d ∧ Q d W'
def QbL (K : PySem.W.Frag) (hd : Addr → Bool) (W : Wd) (H : Hp) (Q : DQb) : Bool → Hp → Prop := fun b H' => ∃ W', Stp K hd W H W' H' ∧ Q b W'
def QsL (K : PySem.W.Frag) (hd : Addr → Bool) (W : Wd) (H : Hp) (Q : DQs) : List V → Hp → Prop := fun vs H' => ∃ ds W', Stp K hd W H W' H' ∧ Dvs K (off hd W' H') vs ds ∧ Q ds W'
def NL (K : PySem.W.Frag) (hd : Addr → Bool) (W : Wd) (H : Hp) (Q : Sl → Wd → Prop) : L2.St → Hp → Prop := fun σ' H' => ∃ Γ' W', Stp K hd W H W' H' ∧ EnvD K (off hd W' H') σ' Γ' ∧ Q Γ' W'
def XL (K : PySem.W.Frag) (hd : Addr → Bool) (W : Wd) (H : Hp) (σ : L2.St) (E : DX) (Wx : WX) : Prop := ∀ cls d fs H' W', Stp K hd W H W' H' → ExnD K (off hd W' H') d fs → E cls fs W' → Wx cls d σ H'
def XSL (K : PySem.W.Frag) (hd : Addr → Bool) (W : Wd) (H : Hp) (E : Sl → DX) (Wx : WX) : Prop := ∀ cls d fs σ' Γ' H' W', Stp K hd W H W' H' → EnvD K (off hd W' H') σ' Γ' → ExnD K (off hd W' H') d fs → E Γ' cls fs W' → Wx cls d σ' H'
def EndsL (K : PySem.W.Frag) (hd : Addr → Bool) (W : Wd) (H : Hp) (D : DEnds) : Ends where
  nx := NL K hd W H D.nx
  rt := QL K hd W H D.rt
  bk := NL K hd W H D.bk
  ct := NL K hd W H D.ct
section
variable {K : PySem.W.Frag} {hd : Addr → Bool} {W W1 : Wd} {H H1 : Hp}
theorem QL.step {Q : DQ} (s : Stp K hd W H W1 H1) {v : V} {H' : Hp} (q : QL K hd W1 H1 Q v H') : QL K hd W H Q v H' := let ⟨d, W', a, b, c⟩ := q; ⟨d, W', s.trans a, b, c⟩
theorem QbL.step {Q : DQb} (s : Stp K hd W H W1 H1) {v : Bool} {H' : Hp} (q : QbL K hd W1 H1 Q v H') : QbL K hd W H Q v H' := let ⟨W', a, c⟩ := q; ⟨W', s.trans a, c⟩
theorem QsL.step {Q : DQs} (s : Stp K hd W H W1 H1) {v : List V} {H' : Hp} (q : QsL K hd W1 H1 Q v H') : QsL K hd W H Q v H' := let ⟨d, W', a, b, c⟩ := q; ⟨d, W', s.trans a, b, c⟩
theorem NL.step {Q : Sl → Wd → Prop} (s : Stp K hd W H W1 H1) {v : L2.St} {H' : Hp} (q : NL K hd W1 H1 Q v H') : NL K hd W H Q v H' := let ⟨d, W', a, b, c⟩ := q; ⟨d, W', s.trans a, b, c⟩
theorem XL.step {σ : L2.St} {E : DX} {Wx : WX} (x : XL K hd W H σ E Wx) (s : Stp K hd W H W1 H1) : XL K hd W1 H1 σ E Wx := fun cls d fs H' W' a => x cls d fs H' W' (s.trans a)
theorem XSL.step {E : Sl → DX} {Wx : WX} (x : XSL K hd W H E Wx) (s : Stp K hd W H W1 H1) : XSL K hd W1 H1 E Wx := fun cls d fs σ' Γ' H' W' a => x cls d fs σ' Γ' H' W' (s.trans a)
theorem XSL.xl {E : Sl → DX} {Wx : WX} {σ : L2.St} {Γ : Sl} (x : XSL K hd W H E Wx) (g : EnvD K (off hd W H) σ Γ) : XL K hd W H σ (E Γ) Wx := fun cls d fs H' W' a b c => x cls d fs σ Γ H' W' a (g.mono a.ex) b c
theorem EndsL.step {D : DEnds} (s : Stp K hd W H W1 H1) : EndsLe (EndsL K hd W1 H1 D) (EndsL K hd W H D) := ⟨fun _ _ q => NL.step s q, fun _ _ q => QL.step s q, fun _ _ q => NL.step s q, fun _ _ q => NL.step s q⟩
end

/-! ### the judgements -/
structure JE (X : Cx) (e : Expr) (t : TX) : Prop where
  run : ∀ {hd : Addr → Bool} (Wx : WX), Takes X Wx → ∀ (σ : L2.St) (H : Hp) (Γ : Sl) (W : Wd) (Q : DQ) (E : DX), Rep X.K hd W H → EnvD X.K (off hd W H) σ Γ → XL X.K hd W H σ E Wx → t Γ W Q E → wpE X e σ H (QL X.K hd W H Q)
structure JT (X : Cx) (e : Expr) (t : TXb) : Prop where
  run : ∀ {hd : Addr → Bool} (Wx : WX), Takes X Wx → ∀ (σ : L2.St) (H : Hp) (Γ : Sl) (W : Wd) (Q : DQb) (E : DX), Rep X.K hd W H → EnvD X.K (off hd W H) σ Γ → XL X.K hd W H σ E Wx → t Γ W Q E → wpT X e σ H (QbL X.K hd W H Q)
structure JW (X : Cx) (e : Expr) (t : TXb) : Prop where
  run : ∀ {hd : Addr → Bool} (Wx : WX), Takes X Wx → ∀ (σ : L2.St) (H : Hp) (Γ : Sl) (W : Wd) (Q : DQb) (E : DX), Rep X.K hd W H → EnvD X.K (off hd W H) σ Γ → XL X.K hd W H σ E Wx → t Γ W Q E → wpW X e σ H (QbL X.K hd W H Q)
structure JA (X : Cx) (es : List Expr) (t : TXs) : Prop where
  run : ∀ {hd : Addr → Bool} (Wx : WX), Takes X Wx → ∀ (σ : L2.St) (H : Hp) (Γ : Sl) (W : Wd) (Q : DQs) (E : DX), Rep X.K hd W H → EnvD X.K (off hd W H) σ Γ → XL X.K hd W H σ E Wx → t Γ W Q E → wpA X es σ H (QsL X.K hd W H Q)
structure JS (X : Cx) (st : Stmt) (t : TXS) : Prop where
  run : ∀ {hd : Addr → Bool} (Wx : WX), Takes X Wx → ∀ (σ : L2.St) (H : Hp) (Γ : Sl) (W : Wd) (D : DEnds), Rep X.K hd W H → EnvD X.K (off hd W H) σ Γ → XSL X.K hd W H D.ex Wx → t D Γ W → wpS X st (EndsL X.K hd W H D) σ H
structure JB (X : Cx) (sts : List Stmt) (t : TXS) : Prop where
  run : ∀ {hd : Addr → Bool} (Wx : WX), Takes X Wx → ∀ (σ : L2.St) (H : Hp) (Γ : Sl) (W : Wd) (D : DEnds), Rep X.K hd W H → EnvD X.K (off hd W H) σ Γ → XSL X.K hd W H D.ex Wx → t D Γ W → wpB X sts (EndsL X.K hd W H D) σ H
structure JG (X : Cx) (tg : Expr) (t : TXG) : Prop where
  run : ∀ {hd : Addr → Bool} (σ : L2.St) (H : Hp) (Γ : Sl) (W : Wd) (Q : Sl → Wd → Prop) (v : V) (d : Dt), Rep X.K hd W H → EnvD X.K (off hd W H) σ Γ → Dv X.K (off hd W H) v d → t d Γ W Q → wpG X tg v σ H (NL X.K hd W H Q)
structure JGs (X : Cx) (ts : List Expr) (t : TXGs) : Prop where
  run : ∀ {hd : Addr → Bool} (σ : L2.St) (H : Hp) (Γ : Sl) (W : Wd) (Q : Sl → Wd → Prop) (vs : List V) (ds : List Dt), Rep X.K hd W H → EnvD X.K (off hd W H) σ Γ → Dvs X.K (off hd W H) vs ds → t ds Γ W Q → wpGs X ts vs σ H (NL X.K hd W H Q)

section
variable {X : Cx} {hd : Addr → Bool} {a b c e : Expr} {es : List Expr} {pos : Pos} {ta tb tc : TX} {tt tu : TXb} {ts : TXs}

/-! ### names and constants -/
abbrev xVar (i : Nat) : TX := fun Γ W Q _ => match Γ[i]? with | some (some d) => Q d W | _ => False
abbrev xC (d : Dt) : TX := fun _ W Q _ => Q d W
theorem je_var {i : Nat} {x : Str} (hN : X.N[i]? = some x) (hv : Vis X.env.scope x) (hd : (x == ("__debug__" : Str)) = false := by decide) (hcd : (x == ("__classdict__" : Str)) = false := by decide) : JE X (.Name x pos) (xVar i) := by
  refine ⟨fun Wx tk σ H Γ W Q E R G x h => ?_⟩
  unfold xVar at h
  split at h
  · rename_i d e
    obtain ⟨v, hs, r⟩ := G.get i d e
    exact toE (pe_var hN hv hd hcd) ⟨v, hs, d, W, .refl R, r, h⟩
  · exact h.elim
theorem je_c {v : V} {d : Dt} (p : PE X e (fun _ H Q => Q v H)) (r : ∀ G, Dv X.K G v d) : JE X e (xC d) :=
  ⟨fun Wx tk σ H Γ W Q E R G x h => toE p ⟨d, W, .refl R, r _, h⟩⟩
theorem je_int {n : Int} {j : Nat} : JE X (.Constant (.int n) j pos) (xC (.int n)) := je_c pe_int fun _ => .int n
theorem je_str {x : Str} {j : Nat} : JE X (.Constant (.str x) j pos) (xC (.str x)) := je_c pe_str fun _ => .str x
theorem je_non {j : Nat} : JE X (.Constant .none j pos) (xC .non) := je_c pe_non fun _ => .non
theorem je_bl {k : Bool} {j : Nat} : JE X (.Constant (.bool k) j pos) (xC (.bl k)) := je_c pe_bl fun _ => .bl k

/-! ### two in a row -/
theorem seq2 {Wx : WX} (tk : Takes X Wx) (ha : JE X a ta) (hb : JE X b tb) {σ : L2.St} {H : Hp} {Γ : Sl} {W : Wd} {R0 : Dt → Dt → Wd → Prop} {E : DX} (R : Rep X.K hd W H) (G : EnvD X.K (off hd W H) σ Γ) (x : XL X.K hd W H σ E Wx)
    (h : ta Γ W (fun d W1 => tb Γ W1 (fun d2 W2 => R0 d d2 W2) E) E) :
    wpE X a σ H fun u H1 => wpE X b σ H1 fun v H2 => ∃ d d2 W2, Stp X.K hd W H W2 H2 ∧ Dv X.K (off hd W2 H2) u d ∧ Dv X.K (off hd W2 H2) v d2 ∧ R0 d d2 W2 :=
  monoE (ha.run Wx tk σ H Γ W _ E R G x h) fun u H1 ⟨d, W1, s1, r1, q1⟩ =>
    monoE (hb.run Wx tk σ H1 Γ W1 _ E s1.rep (G.mono s1.ex) (x.step s1) q1) fun v H2 ⟨d2, W2, s2, r2, q2⟩ =>
      ⟨d, d2, W2, s1.trans s2, r1.mono s2.ex, r2, q2⟩
abbrev D2 := Dt → Dt → Wd → DQ → Prop
/-- a rule on values serves a rule on data -/
def DOp (X : Cx) (r : R2) (rd : D2) : Prop := ∀ {hd : Addr → Bool} (x y : V) (dx dy : Dt) (W : Wd) (H : Hp) (Q : DQ) (Q' : VK), Rep X.K hd W H → Dv X.K (off hd W H) x dx → Dv X.K (off hd W H) y dy → (∀ v H', QL X.K hd W H Q v H' → Q' v H') → rd dx dy W Q → r x y H Q'
abbrev xOp (rd : D2) (ta tb : TX) : TX := fun Γ W Q E => ta Γ W (fun x W1 => tb Γ W1 (fun y W2 => rd x y W2 Q) E) E
theorem je_op {op : Operator} {r : R2} {rd : D2} (ho : OpR X (binaryOp op) r) (hd : DOp X r rd) (ha : JE X a ta) (hb : JE X b tb) : JE X (.BinOp a op b pos) (xOp rd ta tb) :=
  ⟨fun Wx tk σ H Γ W Q E R G x h => toE (pe_op ho semE semE) (monoE (seq2 tk ha hb R G x h) fun u H1 h1 => monoE h1 fun v H2 ⟨d, d2, W2, s, r1, r2, q⟩ =>
    hd u v d d2 W2 H2 Q _ s.rep r1 r2 (fun _ _ k => QL.step s k) q)⟩
/-- a comparison as a value; as a test -/
theorem je_cmp {op : CmpOp} {r : R2} {rd : D2} (ho : OpR X (compareOp op) r) (hd : DOp X r rd) (hm : behindInMarks op b = false) (ha : JE X a ta) (hb : JE X b tb) : JE X (.Compare a [op] [b] pos) (xOp rd ta tb) :=
  ⟨fun Wx tk σ H Γ W Q E R G x h => toE (pe_cmpR ho semE semE hm) (monoE (seq2 tk ha hb R G x h) fun u H1 h1 => monoE h1 fun v H2 ⟨d, d2, W2, s, r1, r2, q⟩ =>
    hd u v d d2 W2 H2 Q _ s.rep r1 r2 (fun _ _ k => QL.step s k) q)⟩
abbrev xTest (t : TX) : TXb := fun Γ W Q E => t Γ W (fun x W1 => match x with | .bl k => Q k W1 | _ => False) E
theorem jt_cmp {op : CmpOp} {r : R2} {rd : D2} (ho : OpR X (compareOp op) r) (hd : DOp X r rd) (hm : behindInMarks op b = false) (ha : JE X a ta) (hb : JE X b tb) : JT X (.Compare a [op] [b] pos) (xTest (xOp rd ta tb)) :=
  ⟨fun Wx tk σ H Γ W Q E R G x h => toT (pt_cmpR ho semE semE hm) (monoE (seq2 tk ha hb R G x h) fun u H1 h1 => monoE h1 fun v H2 ⟨d, d2, W2, s, r1, r2, q⟩ =>
    hd u v d d2 W2 H2 _ _ s.rep r1 r2 (fun v' H' ⟨d', W', s', r', k⟩ => by
      cases d' with
      | bl b =>
        cases r'
        exact ⟨b, rfl, W', s.trans s', k⟩
      | _ => exact k.elim) q)⟩
/-! ### one -/
abbrev D1 := Dt → Wd → DQ → Prop
def DUn (X : Cx) (r : V → Hp → VK → Prop) (rd : D1) : Prop := ∀ {hd : Addr → Bool} (x : V) (dx : Dt) (W : Wd) (H : Hp) (Q : DQ) (Q' : VK), Rep X.K hd W H → Dv X.K (off hd W H) x dx → (∀ v H', QL X.K hd W H Q v H' → Q' v H') → rd dx W Q → r x H Q'
abbrev xUn (rd : D1) (ta : TX) : TX := fun Γ W Q E => ta Γ W (fun x W1 => rd x W1 Q) E
theorem je_un {op : UnaryOp} {r : V → Hp → VK → Prop} {rd : D1} (ho : UnR X (unaryOp op) r) (hd : DUn X r rd) (ha : JE X a ta) : JE X (.UnaryOp op a pos) (xUn rd ta) :=
  ⟨fun Wx tk σ H Γ W Q E R G x h => toE (pe_un ho semE) (monoE (ha.run Wx tk σ H Γ W _ E R G x h) fun u H1 ⟨d, W1, s1, r1, q1⟩ => hd u d W1 H1 Q _ s1.rep r1 (fun _ _ k => QL.step s1 k) q1)⟩

/-! ### truth -/
/-- a value's truth -/
abbrev tru : Dt → Wd → DQb → Prop := fun d W Q => match d with
  | .non => Q false W
  | .bl b => Q b W
  | .int i => Q (i != 0) W
  | .str y => y.length ≤ sizeLine ∧ Q ((y.length : Int) != 0) W
  | .lst ds => Q (!ds.isEmpty) W
  | .tup ds => Q (!ds.isEmpty) W
  | .dct ds => Q (!ds.isEmpty) W
  | .at p => match W.m p with | some (.lst ds) => Q (!ds.isEmpty) W | _ => False
  | _ => False
theorem isEmpty_len {α β : Type} {xs : List α} {ys : List β} (h : xs.length = ys.length) : xs.isEmpty = ys.isEmpty := by
  cases xs <;> cases ys <;> first | rfl | (simp at h)
theorem Dvk.length {K : PySem.W.Frag} {G : Hp} : ∀ {v : List (Key × V)} {d : List (Key × Dt)}, Dvk K G v d → v.length = d.length
  | _, _, .nil => rfl
  | _, _, .cons _ t => by simp [Dvk.length t]
theorem sql_off {K : PySem.W.Frag} {W : Wd} {H : Hp} {p : Addr} {xs : List V} (h : SqL K (off hd W H) p xs) : SqL K H p xs := sql_mono (fun b o e => (off_some e).2.2.1) h
theorem sqt_off {K : PySem.W.Frag} {W : Wd} {H : Hp} {p : Addr} {xs : List V} (h : SqT K (off hd W H) p xs) : SqT K H p xs := sqt_mono (fun b o e => (off_some e).2.2.1) h
theorem tru_V {W : Wd} {H : Hp} (R : Rep X.K hd W H) {v : V} {d : Dt} (r : Dv X.K (off hd W H) v d) {Q : DQb} (h : tru d W Q) : ∃ k, TruV X.K v H k ∧ Q k W := by
  cases d with
  | non => cases r; exact ⟨_, rfl, h⟩
  | bl b => cases r; exact ⟨_, rfl, h⟩
  | int i => cases r; exact ⟨_, rfl, h⟩
  | str y => cases r; exact ⟨_, ⟨h.1, rfl⟩, h.2⟩
  | ty n => exact h.elim
  | lst ds =>
    cases r with
    | lst h1 t => exact ⟨_, .inl ⟨_, sql_off h1, rfl⟩, by rw [isEmpty_len t.length]; exact h⟩
  | tup ds =>
    cases r with
    | tup h1 t => exact ⟨_, .inr (.inl ⟨_, sqt_off h1, rfl⟩), by rw [isEmpty_len t.length]; exact h⟩
  | dct ds =>
    cases r with
    | dct h1 t => exact ⟨_, .inr (.inr ⟨_, (off_some h1).2.2.1, rfl⟩), by rw [isEmpty_len t.length]; exact h⟩
  | ins C fs => exact h.elim
  | exc C fs => exact h.elim
  | cau a d fs => exact h.elim
  | «at» p =>
    cases r
    have h' : (match W.m p with | some (.lst ds) => Q (!ds.isEmpty) W | _ => False) := h
    split at h'
    · rename_i ds e
      obtain ⟨vs, e1, t⟩ := R.m p _ e
      exact ⟨_, .inl ⟨_, SqL.of e1, rfl⟩, by rw [isEmpty_len t.length]; exact h'⟩
    · exact h'.elim
abbrev xTru (t : TX) : TXb := fun Γ W Q E => t Γ W (fun x W1 => tru x W1 Q) E
theorem jt_val (ha : JE X a ta) (he : ∀ whole, isTrue a X.env whole = (do let v ← whole; standAt a.pos; holding [v] (truthy v)) := by intro _; rfl) : JT X a (xTru ta) :=
  ⟨fun Wx tk σ H Γ W Q E R G x h => toT (pt_truth semE he) (monoE (ha.run Wx tk σ H Γ W _ E R G x h) fun u H1 ⟨d, W1, s1, r1, q1⟩ => by
    obtain ⟨k, t, q⟩ := tru_V (X := X) s1.rep r1 q1
    exact ⟨k, t, W1, s1, q⟩)⟩

/-! ### and, or, not; a if t else b -/
variable {rest : List Expr}
abbrev xAnd (t u : TXb) : TXb := fun Γ W Q E => t Γ W (fun c W1 => if c = true then u Γ W1 Q E else Q false W1) E
abbrev xOr (t u : TXb) : TXb := fun Γ W Q E => t Γ W (fun c W1 => if c = true then Q true W1 else u Γ W1 Q E) E
abbrev xNot (t : TXb) : TXb := fun Γ W Q E => t Γ W (fun c W1 => Q (!c) W1) E
theorem jw_and1 (ha : JT X a tt) : JW X (.BoolOp .And [a] pos) tt := ⟨fun Wx tk σ H Γ W Q E R G x h => toW (pw_and1 semT) (ha.run Wx tk σ H Γ W Q E R G x h)⟩
theorem jw_or1 (ha : JT X a tt) : JW X (.BoolOp .Or [a] pos) tt := ⟨fun Wx tk σ H Γ W Q E R G x h => toW (pw_or1 semT) (ha.run Wx tk σ H Γ W Q E R G x h)⟩
theorem jw_and (ha : JT X a tt) (hb : JW X (.BoolOp .And (b :: rest) pos) tu) : JW X (.BoolOp .And (a :: b :: rest) pos) (xAnd tt tu) :=
  ⟨fun Wx tk σ H Γ W Q E R G x h => toW (pw_and semT semW) (monoT (ha.run Wx tk σ H Γ W _ E R G x h) fun c H1 ⟨W1, s1, q1⟩ => by
    cases c with
    | true => exact monoW (hb.run Wx tk σ H1 Γ W1 Q E s1.rep (G.mono s1.ex) (x.step s1) q1) fun _ _ k => QbL.step s1 k
    | false => exact ⟨W1, s1, q1⟩)⟩
theorem jw_or (ha : JT X a tt) (hb : JW X (.BoolOp .Or (b :: rest) pos) tu) : JW X (.BoolOp .Or (a :: b :: rest) pos) (xOr tt tu) :=
  ⟨fun Wx tk σ H Γ W Q E R G x h => toW (pw_or semT semW) (monoT (ha.run Wx tk σ H Γ W _ E R G x h) fun c H1 ⟨W1, s1, q1⟩ => by
    cases c with
    | true => exact ⟨W1, s1, q1⟩
    | false => exact monoW (hb.run Wx tk σ H1 Γ W1 Q E s1.rep (G.mono s1.ex) (x.step s1) q1) fun _ _ k => QbL.step s1 k)⟩
theorem JW.jt (h : JW X a tt) : JT X a tt := ⟨fun Wx tk σ H Γ W Q E R G x q => toT semW.pt (h.run Wx tk σ H Γ W Q E R G x q)⟩
theorem jt_not (ha : JT X a tt) : JT X (.UnaryOp .Not a pos) (xNot tt) :=
  ⟨fun Wx tk σ H Γ W Q E R G x h => toT (pt_not semT) (monoT (ha.run Wx tk σ H Γ W _ E R G x h) fun c H1 ⟨W1, s1, q1⟩ => ⟨W1, s1, q1⟩)⟩
abbrev xIf (t : TXb) (ta tb : TX) : TX := fun Γ W Q E => t Γ W (fun c W1 => if c = true then ta Γ W1 Q E else tb Γ W1 Q E) E
theorem je_if (hc : JT X c tt) (ha : JE X a ta) (hb : JE X b tb) : JE X (.IfExp c a b pos) (xIf tt ta tb) :=
  ⟨fun Wx tk σ H Γ W Q E R G x h => toE (pe_ifExp semT semE semE) (monoT (hc.run Wx tk σ H Γ W _ E R G x h) fun k H1 ⟨W1, s1, q1⟩ => by
    cases k with
    | true => exact monoE (ha.run Wx tk σ H1 Γ W1 Q E s1.rep (G.mono s1.ex) (x.step s1) q1) fun _ _ k => QL.step s1 k
    | false => exact monoE (hb.run Wx tk σ H1 Γ W1 Q E s1.rep (G.mono s1.ex) (x.step s1) q1) fun _ _ k => QL.step s1 k)⟩
/-! ### arguments, displays -/
abbrev xNil : TXs := fun _ W Q _ => Q [] W
abbrev xCons (ta : TX) (ts : TXs) : TXs := fun Γ W Q E => ta Γ W (fun x W1 => ts Γ W1 (fun xs W2 => Q (x :: xs) W2) E) E
theorem ja_nil : JA X [] xNil := ⟨fun Wx tk σ H Γ W Q E R G x h => toA pa_nil ⟨[], W, .refl R, .nil, h⟩⟩
theorem ja_cons (ha : JE X e ta) (hr : JA X es ts) (hs : starEach (e :: es) X.env = (false, eval e X.env) :: starEach es X.env := by rfl) : JA X (e :: es) (xCons ta ts) :=
  ⟨fun Wx tk σ H Γ W Q E R G x h => toA (pa_cons semE semA hs) (monoE (ha.run Wx tk σ H Γ W _ E R G x h) fun u H1 ⟨d, W1, s1, r1, q1⟩ =>
    monoA (hr.run Wx tk σ H1 Γ W1 _ E s1.rep (G.mono s1.ex) (x.step s1) q1) fun vs H2 ⟨ds, W2, s2, r2, q2⟩ => ⟨d :: ds, W2, s1.trans s2, .cons (r1.mono s2.ex) r2, q2⟩)⟩
/-- a new object laid in the frozen part -/
theorem Stp.new {W : Wd} {H : Hp} {p : Addr} {o : HO} {K : PySem.W.Frag} (R : Rep K hd W H) (h : H p = none) : Stp K hd W H W (upd H p o) ∧ off hd W (upd H p o) p = some o :=
  ⟨.grow R (ex_new h), by rw [off_eq (R.fresh_m h) (R.fresh_hid h) (R.fresh_hd h)]; exact upd_same⟩
abbrev xTup (ts : TXs) : TX := fun Γ W Q E => ts Γ W (fun ds W1 => ds.length ≤ sizeLine ∧ Q (.tup ds) W1) E
abbrev xLst (ts : TXs) : TX := fun Γ W Q E => ts Γ W (fun ds W1 => ds.length ≤ sizeLine ∧ Q (.lst ds) W1) E
/-- a list that will be changed -/
abbrev xNew (ts : TXs) : TX := fun Γ W Q E => ts Γ W (fun ds W1 => ds.length ≤ sizeLine ∧ ∀ p, W1.m p = none → W1.hid p = false → Q (.at p) (W1.put p (.lst ds))) E
theorem je_tup {k : Nat} (h : JA X es ts) : JE X (.Tuple es k pos) (xTup ts) :=
  ⟨fun Wx tk σ H Γ W Q E R G x q => toE (pe_tup semA) (monoA (h.run Wx tk σ H Γ W _ E R G x q) fun vs H1 ⟨ds, W1, s1, r1, z, q1⟩ => ⟨by rw [r1.length]; exact z, fun p hp => by
    obtain ⟨s2, e2⟩ := Stp.new (o := .tup vs) s1.rep hp
    exact ⟨.tup ds, W1, s1.trans s2, .tup (SqT.of e2) (r1.mono s2.ex), q1⟩⟩)⟩
theorem je_lst (h : JA X es ts) : JE X (.List es pos) (xLst ts) :=
  ⟨fun Wx tk σ H Γ W Q E R G x q => toE (pe_lst semA) (monoA (h.run Wx tk σ H Γ W _ E R G x q) fun vs H1 ⟨ds, W1, s1, r1, z, q1⟩ => ⟨by rw [r1.length]; exact z, fun p hp => by
    obtain ⟨s2, e2⟩ := Stp.new (o := .lst vs) s1.rep hp
    exact ⟨.lst ds, W1, s1.trans s2, .lst (SqL.of e2) (r1.mono s2.ex), q1⟩⟩)⟩
theorem je_new (h : JA X es ts) : JE X (.List es pos) (xNew ts) :=
  ⟨fun Wx tk σ H Γ W Q E R G x q => toE (pe_lst semA) (monoA (h.run Wx tk σ H Γ W _ E R G x q) fun vs H1 ⟨ds, W1, s1, r1, z, q1⟩ => ⟨by rw [r1.length]; exact z, fun p hp => by
    have ex := off_put_new (mo := .lst ds) (o := .lst vs) s1.rep hp
    exact ⟨.at p, W1.put p (.lst ds), s1.trans ⟨s1.rep.put_new hp ⟨vs, rfl, r1.mono ex⟩, ex, fun b o _ e => ex_new hp b o e⟩, .at p, q1 p (s1.rep.fresh_m hp) (s1.rep.fresh_hid hp)⟩⟩)⟩

/-! ### blocks and small statements -/
variable {st : Stmt} {sts : List Stmt} {u v : TXS}
abbrev xNext : TXS := fun D Γ W => D.nx Γ W
abbrev xSeq (t u : TXS) : TXS := fun D Γ W => t { D with nx := u D } Γ W
theorem jb_nil : JB X [] xNext := ⟨fun Wx tk σ H Γ W D R G x h => toB pss_nil ⟨Γ, W, .refl R, G, h⟩⟩
theorem endsU {D : DEnds} {W W1 : Wd} {H H1 : Hp} (s : Stp X.K hd W H W1 H1) {f : L2.St → Hp → Prop} (hf : ∀ σ H, NL X.K hd W1 H1 D.nx σ H → f σ H) : EndsLe (EndsL X.K hd W1 H1 D) { EndsL X.K hd W H D with nx := f } :=
  ⟨hf, fun _ _ q => QL.step s q, fun _ _ q => NL.step s q, fun _ _ q => NL.step s q⟩
theorem jb_cons (h1 : JS X st u) (h2 : JB X sts v) : JB X (st :: sts) (xSeq u v) :=
  ⟨fun Wx tk σ H Γ W D R G x h => toB (pss_cons semS semB) (monoS (h1.run Wx tk σ H Γ W { D with nx := v D } R G x h) ⟨fun σ1 H1 ⟨Γ1, W1, s1, g1, q1⟩ =>
    monoB (h2.run Wx tk σ1 H1 Γ1 W1 D s1.rep g1 (x.step s1) q1) (EndsL.step s1), fun _ _ q => q, fun _ _ q => q, fun _ _ q => q⟩)⟩
theorem jb_one (h1 : JS X st u) : JB X [st] u := ⟨fun Wx tk σ H Γ W D R G x h => toB (pss_one semS) (h1.run Wx tk σ H Γ W D R G x h)⟩
theorem js_pass : JS X (.Pass pos) xNext := ⟨fun Wx tk σ H Γ W D R G x h => toS ps_pass ⟨Γ, W, .refl R, G, h⟩⟩
abbrev xBrk : TXS := fun D Γ W => D.bk Γ W
abbrev xCnt : TXS := fun D Γ W => D.ct Γ W
theorem js_brk : JS X (.Break pos) xBrk := ⟨fun Wx tk σ H Γ W D R G x h => toS ps_break ⟨Γ, W, .refl R, G, h⟩⟩
theorem js_cnt : JS X (.Continue pos) xCnt := ⟨fun Wx tk σ H Γ W D R G x h => toS ps_continue ⟨Γ, W, .refl R, G, h⟩⟩
abbrev xNever : TXS := fun _ _ _ => False
theorem js_never : JS X st xNever := ⟨fun Wx tk σ H Γ W D R G x h => h.elim⟩
theorem jb_never : JB X sts xNever := ⟨fun Wx tk σ H Γ W D R G x h => h.elim⟩
abbrev xDrop (t : TX) : TXS := fun D Γ W => t Γ W (fun _ W1 => D.nx Γ W1) (D.ex Γ)
theorem js_expr (he : JE X e ta) (hs : swapsWith e none pos.line X.env = pure false := by rfl) : JS X (.Expr e pos) (xDrop ta) :=
  ⟨fun Wx tk σ H Γ W D R G x h => toS (ps_expr semE hs) (monoE (he.run Wx tk σ H Γ W _ _ R G (x.xl G) h) fun u H1 ⟨d, W1, s1, r1, q1⟩ => ⟨Γ, W1, s1, G.mono s1.ex, q1⟩)⟩
abbrev xRet (t : TX) : TXS := fun D Γ W => t Γ W D.rt (D.ex Γ)
theorem js_ret (he : JE X e ta) : JS X (.Return (some e) pos) (xRet ta) :=
  ⟨fun Wx tk σ H Γ W D R G x h => toS (ps_ret semE) (he.run Wx tk σ H Γ W _ _ R G (x.xl G) h)⟩
abbrev xRetN : TXS := fun D _ W => D.rt .non W
theorem js_retN : JS X (.Return none pos) xRetN := ⟨fun Wx tk σ H Γ W D R G x h => toS ps_retN ⟨.non, W, .refl R, .non, h⟩⟩
abbrev xIfS (t : TXb) (u v : TXS) : TXS := fun D Γ W => t Γ W (fun b W1 => if b = true then u D Γ W1 else v D Γ W1) (D.ex Γ)
theorem js_if {A B : List Stmt} (hc : JT X c tt) (ha : JB X A u) (hb : JB X B v) : JS X (.If c A B pos) (xIfS tt u v) :=
  ⟨fun Wx tk σ H Γ W D R G x h => toS (ps_if semT semB semB) (monoT (hc.run Wx tk σ H Γ W _ _ R G (x.xl G) h) fun k H1 ⟨W1, s1, q1⟩ => by
    cases k with
    | true => exact monoB (ha.run Wx tk σ H1 Γ W1 D s1.rep (G.mono s1.ex) (x.step s1) q1) (EndsL.step s1)
    | false => exact monoB (hb.run Wx tk σ H1 Γ W1 D s1.rep (G.mono s1.ex) (x.step s1) q1) (EndsL.step s1))⟩
/-! ### targets -/
abbrev gSet (i : Nat) : TXG := fun d Γ W Q => Q (Γ.set i (some d)) W
theorem jg_name {i : Nat} {x : Str} (hN : X.N.Nodup) (hi : X.N[i]? = some x) (hx : Loc X.env.scope x) (hf : X.fn x = true ∨ X.env.scope.names.lookup x = some .local := by first | exact .inl rfl | exact .inr rfl | assumption) : JG X (.Name x pos) (gSet i) :=
  ⟨fun σ H Γ W Q v d R G r h => toG (pg_name hN hi hx hf) ⟨Γ.set i (some d), W, .refl R, G.set r, h⟩⟩
abbrev gsNil : TXGs := fun ds Γ W Q => match ds with | [] => Q Γ W | _ => False
abbrev gsCons (t : TXG) (u : TXGs) : TXGs := fun ds Γ W Q => match ds with | d :: r => t d Γ W (fun Γ' W' => u r Γ' W' Q) | _ => False
theorem jgs_nil : JGs X [] gsNil := ⟨fun σ H Γ W Q vs ds R G r h => by
  cases r with
  | nil => exact toGs pgs_nil ⟨rfl, Γ, W, .refl R, G, h⟩
  | cons _ _ => exact h.elim⟩
abbrev xAsg (t : TX) (g : TXG) : TXS := fun D Γ W => t Γ W (fun d W1 => g d Γ W1 D.nx) (D.ex Γ)
theorem js_asg {tg : Expr} {g : TXG} (he : JE X e ta) (hg : JG X tg g) (hs : swapsWithSole [tg] e pos.line X.env = pure false := by rfl) (hw : swappedStores [tg] e X.env = pure none := by rfl)
    (h1 : (assignEach [tg] X.env).map (·.2) = [assign tg X.env] := by rfl) : JS X (.Assign [tg] e pos) (xAsg ta g) :=
  ⟨fun Wx tk σ H Γ W D R G x h => toS (ps_asg semE semG hs hw h1) (monoE (he.run Wx tk σ H Γ W _ _ R G (x.xl G) h) fun w H1 ⟨d, W1, s1, r1, q1⟩ =>
    monoG (hg.run σ H1 Γ W1 _ w d s1.rep (G.mono s1.ex) r1 q1) fun _ _ k => NL.step s1 k)⟩
theorem js_set {i : Nat} {x : Str} {pos' : Pos} (hN : X.N.Nodup) (hi : X.N[i]? = some x) (hx : Loc X.env.scope x) (he : JE X e ta) (hs : swapsWith e (some (.Name x pos')) pos.line X.env = pure false := by rfl)
    (hf : X.fn x = true ∨ X.env.scope.names.lookup x = some .local := by first | exact .inl rfl | exact .inr rfl | assumption) : JS X (.Assign [.Name x pos'] e pos) (xAsg ta (gSet i)) :=
  ⟨fun Wx tk σ H Γ W D R G x h => toS (ps_set hN hi hx semE hs hf) (monoE (he.run Wx tk σ H Γ W _ _ R G (x.xl G) h) fun w H1 ⟨d, W1, s1, r1, q1⟩ => ⟨Γ.set i (some d), W1, s1, (G.mono s1.ex).set r1, q1⟩)⟩
end
end DL

set_option Elab.async false
set_option linter.all false
set_option maxRecDepth 100000
set_option maxHeartbeats 4000000
/-! DL2: operations on data. -/
namespace DL
open PySem L2

/-! ### lists, tuples as they lie -/
/-- a list's items: frozen or mutable -/
abbrev lof (d : Dt) (W : Wd) : Option (List Dt) := match d with
  | .lst ds => some ds
  | .at p => match W.m p with | some (.lst ds) => some ds | _ => none
  | _ => none
abbrev tof (d : Dt) : Option (List Dt) := match d with | .tup ds => some ds | _ => none
theorem lof_V {K : PySem.W.Frag} {W : Wd} {H : Hp} (R : Rep K hd W H) {v : V} {d : Dt} {ds : List Dt} (r : Dv K (off hd W H) v d) (h : lof d W = some ds) : ∃ p vs, v = .ref p ∧ SqL K H p vs ∧ Dvs K (off hd W H) vs ds := by
  cases d with
  | lst ds' =>
    cases r with
    | lst h1 t => cases h; exact ⟨_, _, rfl, sql_off h1, t⟩
  | «at» p =>
    cases r
    have h' : (match W.m p with | some (.lst ds) => some ds | _ => none) = some ds := h
    split at h'
    · rename_i ds' e
      cases h'
      obtain ⟨vs, e1, t⟩ := R.m p _ e
      exact ⟨_, vs, rfl, SqL.of e1, t⟩
    · cases h'
  | _ => cases h
theorem tof_V {K : PySem.W.Frag} {W : Wd} {H : Hp} {v : V} {d : Dt} {ds : List Dt} (r : Dv K (off hd W H) v d) (h : tof d = some ds) : ∃ p vs, v = .ref p ∧ SqT K H p vs ∧ SqT K (off hd W H) p vs ∧ Dvs K (off hd W H) vs ds := by
  cases d with
  | tup ds' =>
    cases r with
    | tup h1 t => cases h; exact ⟨_, _, rfl, sqt_off h1, h1, t⟩
  | _ => cases h
/-- what a rule leaves behind: a value as it is -/
theorem ql_val {K : PySem.W.Frag} {W : Wd} {H : Hp} (R : Rep K hd W H) {v : V} {d : Dt} {Q : DQ} (r : Dv K (off hd W H) v d) (q : Q d W) : QL K hd W H Q v H := ⟨d, W, .refl R, r, q⟩
theorem ql_lst {K : PySem.W.Frag} {W : Wd} {H : Hp} (R : Rep K hd W H) {p : Addr} {vs : List V} {ds : List Dt} {Q : DQ} (hp : H p = none) (r : Dvs K (off hd W H) vs ds) (q : Q (.lst ds) W) : QL K hd W H Q (.ref p) (upd H p (.lst vs)) := by
  obtain ⟨s, e⟩ := Stp.new (o := .lst vs) R hp
  exact ⟨_, W, s, .lst (SqL.of e) (r.mono s.ex), q⟩
theorem ql_tup {K : PySem.W.Frag} {W : Wd} {H : Hp} (R : Rep K hd W H) {p : Addr} {vs : List V} {ds : List Dt} {Q : DQ} (hp : H p = none) (r : Dvs K (off hd W H) vs ds) (q : Q (.tup ds) W) : QL K hd W H Q (.ref p) (upd H p (.tup vs)) := by
  obtain ⟨s, e⟩ := Stp.new (o := .tup vs) R hp
  exact ⟨_, W, s, .tup (SqT.of e) (r.mono s.ex), q⟩
theorem ql_new {K : PySem.W.Frag} {W : Wd} {H : Hp} (R : Rep K hd W H) {p : Addr} {vs : List V} {ds : List Dt} {Q : DQ} (hp : H p = none) (r : Dvs K (off hd W H) vs ds) (q : ∀ p, W.m p = none → W.hid p = false → Q (.at p) (W.put p (.lst ds))) : QL K hd W H Q (.ref p) (upd H p (.lst vs)) := by
  have ex := off_put_new (mo := .lst ds) (o := .lst vs) R hp
  exact ⟨.at p, W.put p (.lst ds), ⟨R.put_new hp ⟨vs, rfl, r.mono ex⟩, ex, fun b o _ e => ex_new hp b o e⟩, .at p, q p (R.fresh_m hp) (R.fresh_hid hp)⟩
theorem dvs_nil {K : PySem.W.Frag} {G : Hp} {vs : List V} {ds : List Dt} (r : Dvs K G vs ds) : vs = [] ↔ ds = [] := by
  cases r <;> simp

/-! ### + -/
section
open PyProof.Rows
theorem op_catL_run {prog : Program} {w : World} {A : Around} {E : Value → Shared → Prop} {s : Shared} {l b : Addr} {vs ws : List Value} {Q : Value → Shared → Prop} (hl : s.heap.IsList l vs.toArray) (hb : s.heap.IsList b ws.toArray)
    (h : Q (.ref s.heap.objs.size) { s with heap := s.heap.push { cls := .type "list", data := .seq (vs ++ ws).toArray } }) (hsz : vs.length + ws.length ≤ sizeLine) : wpAny (model prog w) A (binaryOp .Add (.ref l) (.ref b)) Q E s := by
  obtain ⟨⟨cls, dd, data, sl⟩, ho, hc, n, hd⟩ := id hl
  obtain ⟨⟨cls2, dd2, data2, sl2⟩, ho2, hc2, n2, hd2⟩ := id hb
  simp only at hc hd hc2 hd2
  subst hc hd hc2 hd2
  have e : vs.toArray ++ ws.toArray = (vs ++ ws).toArray := by simp
  refine concat_meets ⟨_, ho, rfl⟩ ⟨_, ho2, rfl⟩ noFill_list_add seq_list_add PySem.F.slot_list_add PySem.F.entry_list_add (PySem.F.args_list_add_2 _ _) (list_addW l b vs.toArray ws.toArray n n2 dd dd2 sl sl2 (by simpa using hsz)) ⟨ho, ho2, ?_⟩
  rw [e]
  exact h
theorem op_repL_run {prog : Program} {w : World} {A : Around} {E : Value → Shared → Prop} {s : Shared} {l : Addr} {vs : List Value} {x : Int} {u : Tok} {Q : Value → Shared → Prop} (hl : s.heap.IsList l vs.toArray)
    (hlo : -(2 ^ 63 : Int) ≤ x) (hhi : x < 2 ^ 63) (hsz : vs.length * x.toNat ≤ 2 ^ 24)
    (h : Q (.ref s.heap.objs.size) { s with heap := s.heap.push { cls := .type "list", data := .seq (List.replicate x.toNat vs).flatten.toArray } }) : wpAny (model prog w) A (binaryOp .Mult (.ref l) (.int x u)) Q E s := by
  obtain ⟨⟨cls, d, data, sl⟩, ho, hcl, k, hd⟩ := id hl
  simp only at hcl hd
  subst hcl hd
  have hsz' : vs.toArray.size * x.toNat ≤ 2 ^ 24 := by simpa using hsz
  refine wpAny_binaryOp_repeat_ref (T := "list") (U := "int") (by decide) ⟨_, ho, rfl⟩ (fun s' => typeIs_int s' x u) noFill_list_mul F.fills_int_mul F.slot_int_rmul repeat_list F.slot_int_index.lookup
    (call_meets F.slot_int_rmul (typeIs_int s x u) F.entry_int_rmul (F.args_int_rmul_2 _ _) (lm_int_rmul_list_any x u l vs.toArray k d sl)
      ⟨ho, rfl, ⟨_, ho, rfl⟩, call_meets F.slot_list_mul ⟨_, ho, rfl⟩ F.entry_list_mul (F.args_list_mul_2 _ _)
        (lm_list_mul_any l vs.toArray k d sl x u (by simp [Builtin.List.listFitsIndex]; omega) (by omega) (by simp [Builtin.List.listTooLong, sizeLine]; omega))
        ⟨ho, ?_⟩⟩)
  rw [listMul_foldl_if]
  exact h
end
section
variable {X : Cx} {hd : Addr → Bool}
def rCatL (K : PySem.W.Frag) : R2 := fun x y H Q => ∃ l b xs zs, x = .ref l ∧ y = .ref b ∧ SqL K H l xs ∧ SqL K H b zs ∧ xs.length + zs.length ≤ sizeLine ∧ ∀ p, H p = none → Q (.ref p) (upd H p (.lst (xs ++ zs)))
theorem op_catL : OpR X (binaryOp .Add) (rCatL X.K) := by
  intro pins s σ H x y v u Q I rx ry h
  obtain ⟨l, b, xs, zs, rfl, rfl, hH, hB, hz, q⟩ := h
  cases rx
  cases ry
  obtain ⟨its, r, pl, _⟩ := I.list hH
  obtain ⟨its2, r2, pl2, _⟩ := I.list hB
  have hl := r.length
  have hl2 := r2.length
  refine op_catL_run pl.isList pl2.isList ?_ (by omega)
  exact ⟨.ref _, _, I.lnew (t' := s.toks) (r.append r2) (by rw [List.length_append]; omega), rfl, q _ I.fresh⟩
def rRepL (K : PySem.W.Frag) : R2 := fun x y H Q => ∃ l k xs, x = .ref l ∧ y = .int k ∧ SqL K H l xs ∧ -(2 ^ 63) ≤ k ∧ k < 2 ^ 63 ∧ xs.length * k.toNat ≤ 2 ^ 24 ∧
  ∀ p, H p = none → Q (.ref p) (upd H p (.lst (List.replicate k.toNat xs).flatten))
theorem op_repL : OpR X (binaryOp .Mult) (rRepL X.K) := by
  intro pins s σ H x y v u Q I rx ry h
  obtain ⟨l, k, xs, rfl, rfl, hH, h1, h2, hz, q⟩ := h
  cases rx
  obtain ⟨t, rfl⟩ := ry
  obtain ⟨its, r, pl, _⟩ := I.list hH
  have hl := r.length
  refine op_repL_run pl.isList h1 h2 (by rw [← hl]; exact hz) ?_
  exact ⟨.ref _, _, I.lnew (t' := s.toks) (r.rep k.toNat) (by rw [PyProof.Rows.lm_len_rep_flat, Nat.mul_comm, sizeLine_eq]; exact hz), rfl, q _ I.fresh⟩

/-- a + b -/
abbrev dAdd : D2 := fun x y W Q => match x, y with
  | .int i, .int j => Q (.int (i + j)) W
  | .str a, .str b => a.length + b.length ≤ sizeLine ∧ Q (.str (a ++ b)) W
  | .tup a, .tup b => a.length + b.length ≤ sizeLine ∧ Q (.tup (a ++ b)) W
  | .lst a, .lst b => a.length + b.length ≤ sizeLine ∧ Q (.lst (a ++ b)) W
  | x, y => match lof x W, lof y W with
    | some a, some b => a.length + b.length ≤ sizeLine ∧ Q (.lst (a ++ b)) W
    | _, _ => False
def rAddAll (K : PySem.W.Frag) : R2 := fun x y H Q => (rI0 fun i j => .int (i + j)) x y H Q ∨ (∃ i j, x = .str i ∧ y = .str j ∧ i.length + j.length ≤ sizeLine ∧ Q (.str (i ++ j)) H) ∨ rCatA K x y H Q ∨ rCatL K x y H Q
theorem op_addAll : OpR X (binaryOp .Add) (rAddAll X.K) := op_add.or (op_add_str.or (op_catA.or op_catL))
theorem dop_catL {x y : V} {dx dy : Dt} {W : Wd} {H : Hp} {Q : DQ} {Q' : VK} (R : Rep X.K hd W H) (rx : Dv X.K (off hd W H) x dx) (ry : Dv X.K (off hd W H) y dy) (hq : ∀ v H', QL X.K hd W H Q v H' → Q' v H') {a b : List Dt} (ha : lof dx W = some a) (hb : lof dy W = some b)
    (hz : a.length + b.length ≤ sizeLine) (q : Q (.lst (a ++ b)) W) : rCatL X.K x y H Q' := by
  obtain ⟨p, vs, rfl, h1, t1⟩ := lof_V R rx ha
  obtain ⟨p2, vs2, rfl, h2, t2⟩ := lof_V R ry hb
  exact ⟨p, p2, vs, vs2, rfl, rfl, h1, h2, by rw [t1.length, t2.length]; exact hz, fun p hp => hq _ _ (ql_lst R hp (t1.append t2) q)⟩
theorem dop_add : DOp X (rAddAll X.K) dAdd := by
  intro hd x y dx dy W H Q Q' R rx ry hq h
  unfold dAdd at h
  split at h
  · cases rx; cases ry; exact .inl ⟨_, _, rfl, rfl, hq _ _ (ql_val R (.int _) h)⟩
  · cases rx; cases ry; exact .inr (.inl ⟨_, _, rfl, rfl, h.1, hq _ _ (ql_val R (.str _) h.2)⟩)
  · rename_i a b
    obtain ⟨p, vs, rfl, h1, h1', t1⟩ := tof_V rx rfl
    obtain ⟨p2, vs2, rfl, h2, h2', t2⟩ := tof_V ry rfl
    refine .inr (.inr (.inl ⟨p, p2, vs, vs2, rfl, rfl, h1, h2, by rw [t1.length, t2.length]; exact h.1, fun e => ?_, fun e e2 => ?_, fun e e2 p3 hp => ?_⟩))
    · have e' := (dvs_nil t1).mp e
      subst e'
      exact hq _ _ (ql_val R (.tup h2' t2) h.2)
    · have e' := (dvs_nil t2).mp e2
      subst e'
      have q := h.2
      rw [List.append_nil] at q
      exact hq _ _ (ql_val R (.tup h1' t1) q)
    · exact hq _ _ (ql_tup R hp (t1.append t2) h.2)
  · exact .inr (.inr (.inr (dop_catL R rx ry hq rfl rfl h.1 h.2)))
  · split at h
    · rename_i ha hb
      exact .inr (.inr (.inr (dop_catL R rx ry hq ha hb h.1 h.2)))
    · exact h.elim
/-- a - b, a // b, a % b, a ** b -/
abbrev dInt (C : Int → Int → Prop) (g : Int → Int → Dt) : D2 := fun x y W Q => match x, y with
  | .int i, .int j => C i j ∧ Q (g i j) W
  | _, _ => False
theorem dop_int {C : Int → Int → Prop} {g : Int → Int → V} {gd : Int → Int → Dt} (hg : ∀ G i j, Dv X.K G (g i j) (gd i j)) : DOp X (rI C g) (dInt C gd) := by
  intro hd x y dx dy W H Q Q' R rx ry hq h
  unfold dInt at h
  split at h
  · cases rx; cases ry; exact ⟨_, _, rfl, rfl, h.1, hq _ _ (ql_val R (hg _ _ _) h.2)⟩
  · exact h.elim
abbrev dInt0 (g : Int → Int → Dt) : D2 := fun x y W Q => match x, y with
  | .int i, .int j => Q (g i j) W
  | _, _ => False
theorem dop_int0 {g : Int → Int → V} {gd : Int → Int → Dt} (hg : ∀ G i j, Dv X.K G (g i j) (gd i j)) : DOp X (rI0 g) (dInt0 gd) := by
  intro hd x y dx dy W H Q Q' R rx ry hq h
  unfold dInt0 at h
  split at h
  · cases rx; cases ry; exact ⟨_, _, rfl, rfl, hq _ _ (ql_val R (hg _ _ _) h)⟩
  · exact h.elim
abbrev dSub : D2 := dInt0 fun i j => .int (i - j)
abbrev dFdv : D2 := dInt CDivN fun i j => .int (i.fdiv j)
abbrev dMod : D2 := dInt (fun _ j => j ≠ 0) fun i j => .int (i.fmod j)
abbrev dPow : D2 := dInt CPow fun i j => .int (i ^ j.toNat)
theorem dop_sub : DOp X (rI0 fun i j => .int (i - j)) dSub := dop_int0 fun _ _ _ => .int _
theorem dop_fdv : DOp X (rI CDivN fun i j => .int (i.fdiv j)) dFdv := dop_int fun _ _ _ => .int _
theorem dop_mod : DOp X (rI (fun _ j => j ≠ 0) fun i j => .int (i.fmod j)) dMod := dop_int fun _ _ _ => .int _
theorem dop_pow : DOp X (rI CPow fun i j => .int (i ^ j.toNat)) dPow := dop_int fun _ _ _ => .int _
abbrev dLt : D2 := dInt0 fun i j => .bl (decide (i < j))
abbrev dLe : D2 := dInt0 fun i j => .bl (decide (i ≤ j))
abbrev dGt : D2 := dInt0 fun i j => .bl (decide (j < i))
abbrev dGe : D2 := dInt0 fun i j => .bl (decide (j ≤ i))
theorem dop_lt : DOp X (rI0 fun i j => .bl (decide (i < j))) dLt := dop_int0 fun _ _ _ => .bl _
theorem dop_le : DOp X (rI0 fun i j => .bl (decide (i ≤ j))) dLe := dop_int0 fun _ _ _ => .bl _
theorem dop_gt : DOp X (rI0 fun i j => .bl (decide (j < i))) dGt := dop_int0 fun _ _ _ => .bl _
theorem dop_ge : DOp X (rI0 fun i j => .bl (decide (j ≤ i))) dGe := dop_int0 fun _ _ _ => .bl _
/-- a * b -/
abbrev dMul : D2 := fun x y W Q => match x, y with
  | .int i, .int j => CMul i j ∧ Q (.int (i * j)) W
  | .lst a, .int k => (-(2 ^ 63) ≤ k ∧ k < 2 ^ 63 ∧ a.length * k.toNat ≤ 2 ^ 24) ∧ Q (.lst (List.replicate k.toNat a).flatten) W
  | _, _ => False
def rMulAll (K : PySem.W.Frag) : R2 := fun x y H Q => (rI CMul fun i j => .int (i * j)) x y H Q ∨ rRepL K x y H Q
theorem op_mulAll : OpR X (binaryOp .Mult) (rMulAll X.K) := op_mul.or op_repL
theorem dop_mul : DOp X (rMulAll X.K) dMul := by
  intro hd x y dx dy W H Q Q' R rx ry hq h
  unfold dMul at h
  split at h
  · cases rx; cases ry; exact .inl ⟨_, _, rfl, rfl, h.1, hq _ _ (ql_val R (.int _) h.2)⟩
  · rename_i a k
    obtain ⟨p, vs, rfl, h1, t1⟩ := lof_V R rx rfl
    cases ry
    exact .inr ⟨p, k, vs, rfl, rfl, h1, h.1.1, h.1.2.1, by rw [t1.length]; exact h.1.2.2, fun p hp => hq _ _ (ql_lst R hp (t1.rep _) h.2)⟩
  · exact h.elim

/-! ### == over plain data -/
mutual
/-- None, bools, ints, texts, lists and tuples of these -/
def plain : Dt → Bool
  | .non => true | .bl _ => true | .int _ => true | .str _ => true
  | .lst ds => plains ds | .tup ds => plains ds
  | .ty _ => false | .dct _ => false | .ins _ _ => false | .exc _ _ => false | .cau _ _ _ => false | .at _ => false
def plains : List Dt → Bool
  | [] => true
  | d :: r => plain d && plains r
end
mutual
def py : Dt → PyData
  | .non => .none | .bl b => .bool b | .int i => .int i | .str x => .str x
  | .lst ds => .list (pys ds) | .tup ds => .tuple (pys ds)
  | .ty _ => .none | .dct _ => .none | .ins _ _ => .none | .exc _ _ => .none | .cau _ _ _ => .none | .at _ => .none
def pys : List Dt → List PyData
  | [] => []
  | d :: r => py d :: pys r
end
mutual
theorem dv_dp {K : PySem.W.Frag} {W : Wd} {H : Hp} : ∀ {v : V} {d : Dt}, Dv K (off hd W H) v d → plain d = true → Dp K H v (py d)
  | _, _, .non, _ => .non
  | _, _, .bl b, _ => .bl b
  | _, _, .int i, _ => .int i
  | _, _, .str x, _ => .str x
  | _, _, .lst h t, p => .lst (sql_off h) (dvs_dp t p)
  | _, _, .tup h t, p => .tup (sqt_off h) (dvs_dp t p)
  | _, _, .ty _, p => nomatch p
  | _, _, .dct _ _, p => nomatch p
  | _, _, .ins _ _, p => nomatch p
  | _, _, .exc _ _ _, p => nomatch p
  | _, _, .cau _ _, p => nomatch p
  | _, _, .at _, p => nomatch p
theorem dvs_dp {K : PySem.W.Frag} {W : Wd} {H : Hp} : ∀ {v : List V} {d : List Dt}, Dvs K (off hd W H) v d → plains d = true → DpAll K H v (pys d)
  | _, _, .nil, _ => .nil
  | _, _, .cons h t, p => by
    have p' : (plain _ && plains _) = true := p
    rw [Bool.and_eq_true] at p'
    exact .cons (dv_dp h p'.1) (dvs_dp t p'.2)
end
/-- data resolved at the top: a mutable list is its items -/
abbrev res (d : Dt) (W : Wd) : Dt := match d with
  | .at p => match W.m p with | some (.lst ds) => .lst ds | _ => .at p
  | d => d
theorem res_dp {K : PySem.W.Frag} {W : Wd} {H : Hp} (R : Rep K hd W H) {v : V} {d : Dt} (r : Dv K (off hd W H) v d) (p : plain (res d W) = true) : Dp K H v (py (res d W)) := by
  cases d with
  | «at» a =>
    cases r
    cases e : W.m a with
    | none =>
      have e2 : res (.at a) W = .at a := by simp only [res, e]
      rw [e2] at p; exact nomatch p
    | some mo =>
      cases mo with
      | ins C fs =>
        have e2 : res (.at a) W = .at a := by simp only [res, e]
        rw [e2] at p; exact nomatch p
      | lst ds =>
        have e2 : res (.at a) W = .lst ds := by simp only [res, e]
        rw [e2] at p ⊢
        obtain ⟨vs, e1, t⟩ := R.m a _ e
        exact .lst (SqL.of e1) (dvs_dp t p)
  | _ => exact dv_dp r p
def okD (d : Dt) : Prop := plain d = true ∧ SeqAt.shaped (py d) = true
abbrev dEq : D2 := fun x y W Q => match res x W, res y W with
  | .int i, .int j => Q (.bl (decide (i = j))) W
  | .str i, .str j => Q (.bl (decide (i = j))) W
  | .bl i, .bl j => Q (.bl (decide (i = j))) W
  | x', y' => okD x' ∧ okD y' ∧ Q (.bl (PyData.eqv (py x') (py y'))) W
abbrev dNe : D2 := fun x y W Q => match res x W, res y W with
  | .int i, .int j => Q (.bl (!decide (i = j))) W
  | .str i, .str j => Q (.bl (!decide (i = j))) W
  | .bl i, .bl j => Q (.bl (!decide (i = j))) W
  | x', y' => okD x' ∧ okD y' ∧ Q (.bl (!PyData.eqv (py x') (py y'))) W
theorem okD_int (i : Int) : okD (.int i) := ⟨rfl, by simp [SeqAt.shaped, py, PyData.canLay0, PyData.depth]⟩
def rEqAll (K : PySem.W.Frag) : R2 := fun x y H Q => rEq x y H Q ∨ rEqD K x y H Q
def rNeAll (K : PySem.W.Frag) : R2 := fun x y H Q => rNe x y H Q ∨ rNeD K x y H Q
theorem op_eqAll (hu : X.A.units + 64 < cLine) : OpR X (compareOp .Eq) (rEqAll X.K) := op_eq.or (op_eqD hu)
theorem op_neAll (hu : X.A.units + 64 < cLine) : OpR X (compareOp .NotEq) (rNeAll X.K) := op_ne.or (op_neD hu)
theorem res_leaf {K : PySem.W.Frag} {W : Wd} {H : Hp} {v : V} {d : Dt} (r : Dv K (off hd W H) v d) : (∀ i, res d W = .int i → v = .int i) ∧ (∀ i, res d W = .str i → v = .str i) ∧ (∀ i, res d W = .bl i → v = .bl i) := by
  cases d with
  | «at» p =>
    have no : ∀ e : Dt, res (.at p) W = e → (∃ ds, e = .lst ds) ∨ e = .at p := fun e h => by
      have h' : (match W.m p with | some (.lst ds) => Dt.lst ds | _ => .at p) = e := h
      split at h'
      · exact .inl ⟨_, h'.symm⟩
      · exact .inr h'.symm
    refine ⟨fun i h => ?_, fun i h => ?_, fun i h => ?_⟩ <;> (rcases no _ h with ⟨_, z⟩ | z <;> cases z)
  | int j =>
    refine ⟨fun i h => ?_, fun i h => ?_, fun i h => ?_⟩ <;> cases h
    cases r; rfl
  | str j =>
    refine ⟨fun i h => ?_, fun i h => ?_, fun i h => ?_⟩ <;> cases h
    cases r; rfl
  | bl j =>
    refine ⟨fun i h => ?_, fun i h => ?_, fun i h => ?_⟩ <;> cases h
    cases r; rfl
  | _ => refine ⟨fun i h => ?_, fun i h => ?_, fun i h => ?_⟩ <;> cases h
theorem dec_V {α : Type} [DecidableEq α] {f : α → V} (inj : ∀ a b, f a = f b → a = b) (i j : α) : decide (f i = f j) = decide (i = j) := by
  by_cases h : i = j
  · subst h; simp
  · rw [decide_eq_false h, decide_eq_false fun z => h (inj _ _ z)]
theorem dop_eq : DOp X (rEqAll X.K) dEq := by
  intro hd x y dx dy W H Q Q' R rx ry hq h
  obtain ⟨a1, a2, a3⟩ := res_leaf rx
  obtain ⟨b1, b2, b3⟩ := res_leaf ry
  unfold dEq at h
  split at h
  · rename_i i j e1 e2
    rw [a1 i e1, b1 j e2]
    exact .inl ⟨rfl, by rw [dec_V (fun _ _ => V.int.inj)]; exact hq _ _ (ql_val R (.bl _) h)⟩
  · rename_i i j e1 e2
    rw [a2 i e1, b2 j e2]
    exact .inl ⟨rfl, by rw [dec_V (fun _ _ => V.str.inj)]; exact hq _ _ (ql_val R (.bl _) h)⟩
  · rename_i i j e1 e2
    rw [a3 i e1, b3 j e2]
    exact .inl ⟨rfl, by rw [dec_V (fun _ _ => V.bl.inj)]; exact hq _ _ (ql_val R (.bl _) h)⟩
  · exact .inr ⟨_, _, res_dp R rx h.1.1, res_dp R ry h.2.1.1, h.1.2, h.2.1.2, hq _ _ (ql_val R (.bl _) h.2.2)⟩
theorem dop_ne : DOp X (rNeAll X.K) dNe := by
  intro hd x y dx dy W H Q Q' R rx ry hq h
  obtain ⟨a1, a2, a3⟩ := res_leaf rx
  obtain ⟨b1, b2, b3⟩ := res_leaf ry
  unfold dNe at h
  split at h
  · rename_i i j e1 e2
    rw [a1 i e1, b1 j e2]
    exact .inl ⟨rfl, by rw [dec_V (fun _ _ => V.int.inj)]; exact hq _ _ (ql_val R (.bl _) h)⟩
  · rename_i i j e1 e2
    rw [a2 i e1, b2 j e2]
    exact .inl ⟨rfl, by rw [dec_V (fun _ _ => V.str.inj)]; exact hq _ _ (ql_val R (.bl _) h)⟩
  · rename_i i j e1 e2
    rw [a3 i e1, b3 j e2]
    exact .inl ⟨rfl, by rw [dec_V (fun _ _ => V.bl.inj)]; exact hq _ _ (ql_val R (.bl _) h)⟩
  · exact .inr ⟨_, _, res_dp R rx h.1.1, res_dp R ry h.2.1.1, h.1.2, h.2.1.2, hq _ _ (ql_val R (.bl _) h.2.2)⟩

/-! ### is None -/
abbrev isNon (d : Dt) : Bool := match d with | .non => true | _ => false
abbrev dIsN : D2 := fun x y W Q => match y with | .non => Q (.bl (isNon x)) W | _ => False
abbrev dNotN : D2 := fun x y W Q => match y with | .non => Q (.bl (!isNon x)) W | _ => False
theorem dv_non {K : PySem.W.Frag} {G : Hp} {v : V} {d : Dt} (r : Dv K G v d) : decide (v = .non) = isNon d := by
  cases r <;> simp
theorem dop_isN : DOp X (fun x y H Q => y = .non ∧ Q (.bl (decide (x = .non))) H) dIsN := by
  intro hd x y dx dy W H Q Q' R rx ry hq h
  unfold dIsN at h
  split at h
  · cases ry
    rw [← dv_non rx] at h
    exact ⟨rfl, hq _ _ (ql_val R (.bl _) h)⟩
  · exact h.elim
theorem dop_notN : DOp X (fun x y H Q => y = .non ∧ Q (.bl (!decide (x = .non))) H) dNotN := by
  intro hd x y dx dy W H Q Q' R rx ry hq h
  unfold dNotN at h
  split at h
  · cases ry
    exact ⟨rfl, hq _ _ (ql_val R (.bl _) (by rw [dv_non rx]; exact h))⟩
  · exact h.elim

/-! ### x in y -/
/-- x in a list or tuple of plain data; a sign in a text -/
abbrev sg (d : Dt) : Option Nat := match d with | .str a => (match a.cps.toList with | [c] => some c | _ => none) | _ => none
abbrev dIn (neg : Bool) : D2 := fun x y W Q => match y with
  | .str z => match sg x with | some c => Q (.bl (neg != decide (c ∈ z.cps.toList))) W | none => False
  | .tup ds => okD (res x W) ∧ okD (.tup ds) ∧ Q (.bl (neg != (pys ds).any fun z => PyData.eqv z (py (res x W)))) W
  | y => okD (res x W) ∧ okD (res y W) ∧ match lof y W with | some ds => Q (.bl (neg != (pys ds).any fun z => PyData.eqv z (py (res x W)))) W | none => False
def rInT (K : PySem.W.Frag) (neg : Bool) : R2 := fun x y H Q => ∃ d ds, Dp K H x d ∧ (Dp K H y (.tuple ds) ∧ SeqAt.shaped (.tuple ds) = true ∨ Dp K H y (.list ds) ∧ SeqAt.shaped (.list ds) = true) ∧ SeqAt.shaped d = true ∧ Q (.bl (neg != ds.any fun z => PyData.eqv z d)) H
theorem op_inT (hu : X.A.units + 65 < cLine) : OpR X (compareOp .In) (rInT X.K false) := by
  intro pins s σ H x y v u Q I rx ry h
  obtain ⟨d, ds, hd, he, sd, q⟩ := h
  obtain ⟨as, r1⟩ := Dp.reads I d x v hd rx
  rw [Bool.false_bne] at q
  rcases he with ⟨he, se⟩ | ⟨he, se⟩
  · obtain ⟨bs, r2⟩ := Dp.reads I (.tuple ds) y u he ry
    exact SeqAt.in_tuple_reads r2 r1 (SeqAt.canLay_of_shaped se) (SeqAt.canLay_of_shaped sd) (PyProof.Rows.room_in_shaped sd hu) ⟨.bl _, H, I, rfl, q⟩
  · obtain ⟨bs, r2⟩ := Dp.reads I (.list ds) y u he ry
    exact SeqAt.in_list_reads r2 r1 (SeqAt.canLay_of_shaped se) (SeqAt.canLay_of_shaped sd) (PyProof.Rows.room_in_shaped sd hu) ⟨.bl _, H, I, rfl, q⟩
theorem op_notInT (hu : X.A.units + 65 < cLine) : OpR X (compareOp .NotIn) (rInT X.K true) := by
  intro pins s σ H x y v u Q I rx ry h
  obtain ⟨d, ds, hd, he, sd, q⟩ := h
  obtain ⟨as, r1⟩ := Dp.reads I d x v hd rx
  rw [Bool.true_bne] at q
  rcases he with ⟨he, se⟩ | ⟨he, se⟩
  · obtain ⟨bs, r2⟩ := Dp.reads I (.tuple ds) y u he ry
    exact SeqAt.notIn_tuple_reads r2 r1 (SeqAt.canLay_of_shaped se) (SeqAt.canLay_of_shaped sd) (PyProof.Rows.room_in_shaped sd hu) ⟨.bl _, H, I, rfl, q⟩
  · obtain ⟨bs, r2⟩ := Dp.reads I (.list ds) y u he ry
    exact SeqAt.notIn_list_reads r2 r1 (SeqAt.canLay_of_shaped se) (SeqAt.canLay_of_shaped sd) (PyProof.Rows.room_in_shaped sd hu) ⟨.bl _, H, I, rfl, q⟩
def rInC (neg : Bool) : R2 := fun x y H Q => ∃ (c : Nat) (z : Str), x = .str ⟨#[c]⟩ ∧ y = .str z ∧ Q (.bl (neg != decide (c ∈ z.cps.toList))) H
theorem op_inC : OpR X (compareOp .In) (rInC false) := by
  intro pins s σ H x y v u Q I rx ry h
  obtain ⟨c, z, e1, e2, q⟩ := h
  rw [Bool.false_bne] at q
  exact op_in_sign pins s σ H x y v u Q I rx ry ⟨c, z, e1, e2, q⟩
theorem op_notInC : OpR X (compareOp .NotIn) (rInC true) := by
  intro pins s σ H x y v u Q I rx ry h
  obtain ⟨c, z, e1, e2, q⟩ := h
  rw [Bool.true_bne] at q
  exact op_notIn_sign pins s σ H x y v u Q I rx ry ⟨c, z, e1, e2, q⟩
def rInAll (K : PySem.W.Frag) (neg : Bool) : R2 := fun x y H Q => rInT K neg x y H Q ∨ rInC neg x y H Q
theorem op_inAll (hu : X.A.units + 65 < cLine) : OpR X (compareOp .In) (rInAll X.K false) := (op_inT hu).or op_inC
theorem op_notInAll (hu : X.A.units + 65 < cLine) : OpR X (compareOp .NotIn) (rInAll X.K true) := (op_notInT hu).or op_notInC
theorem str_one {a : Str} {c : Nat} (h : a.cps.toList = [c]) : a = ⟨#[c]⟩ := by
  obtain ⟨cps⟩ := a
  have e : cps = #[c] := by
    apply Array.ext'
    simpa using h
  rw [e]
theorem dop_in {neg : Bool} : DOp X (rInAll X.K neg) (dIn neg) := by
  intro hd x y dx dy W H Q Q' R rx ry hq h
  have seq : ∀ ds : List Dt, lof dy W = some ds → okD (res dx W) ∧ okD (res dy W) ∧ Q (.bl (neg != (pys ds).any fun z => PyData.eqv z (py (res dx W)))) W → rInAll X.K neg x y H Q' := fun ds hl h => by
    have e : res dy W = .lst ds := by
      cases dy with
      | lst ds' => cases hl; rfl
      | «at» p =>
        have h' : (match W.m p with | some (.lst ds) => some ds | _ => none) = some ds := hl
        split at h'
        · rename_i ds' e
          cases h'
          simp only [res, e]
        · cases h'
      | _ => cases hl
    have p2 := h.2.1
    rw [e] at p2
    have dp := res_dp R ry (by rw [e]; exact p2.1)
    rw [e] at dp
    exact .inl ⟨_, _, res_dp R rx h.1.1, .inr ⟨dp, p2.2⟩, h.1.2, hq _ _ (ql_val R (.bl _) h.2.2)⟩
  cases dy with
  | str z =>
    cases e : sg dx with
    | none =>
      simp only [dIn, e] at h
    | some c =>
      simp only [dIn, e] at h
      cases dx with
      | str a =>
        have e' : (match a.cps.toList with | [c] => some c | _ => none) = some c := e
        split at e'
        · rename_i c' e2
          cases e'
          cases rx
          cases ry
          exact .inr ⟨c, z, by rw [str_one e2], rfl, hq _ _ (ql_val R (.bl _) h)⟩
        · cases e'
      | _ => cases e
  | tup ds => exact .inl ⟨_, _, res_dp R rx h.1.1, .inl ⟨dv_dp ry h.2.1.1, h.2.1.2⟩, h.1.2, hq _ _ (ql_val R (.bl _) h.2.2)⟩
  | lst ds => exact seq ds rfl h
  | «at» p =>
    have h2 := h.2.2
    cases e : lof (.at p) W with
    | none => simp only [e] at h2
    | some ds =>
      simp only [e] at h2
      exact seq ds e ⟨h.1, h.2.1, h2⟩
  | _ => exact h.2.2.elim
end
end DL

set_option Elab.async false
set_option linter.all false
set_option maxRecDepth 100000
set_option maxHeartbeats 4000000
/-! DG: what a def promises where no repr is under way (A.guards). -/
namespace L2
open PySem PySem.Spec PyProof.Rows
structure RoomG (k : Nat) (A : Around) : Prop extends Room k A where
  gd : A.guards = some []
theorem RoomG.mono {j k : Nat} {A : Around} (r : RoomG k A) (h : j ≤ k) : RoomG j A := ⟨r.toRoom.mono h, r.gd⟩
theorem RoomG.deeper {k : Nat} {A : Around} (r : RoomG (k + 1) A) (env : Env) : RoomG k (A.deeper env) := ⟨r.toRoom.deeper env, r.gd⟩
theorem RoomG.in1 {k : Nat} {A : Around} (r : RoomG (k + 1) A) : RoomG k A.in1 := ⟨r.toRoom.in1, r.gd⟩
theorem make_guards {A : Around} {C : Addr} {us : List Value} {kw : List (Str × Value)} : (A.under (.builtin "type.__call__" ⟨.ref C :: us, kw⟩)).guards = A.guards := by
  first | rfl | simp [Around.under, Code.guards, Code.isGuard, guardIds, pushGuards_eq]
theorem RoomG.make {k : Nat} {A : Around} (r : RoomG (k + 1) A) (C : Addr) (us : List Value) (kw : List (Str × Value)) : RoomG k (A.under (.builtin "type.__call__" ⟨.ref C :: us, kw⟩)) := ⟨r.toRoom.make C us kw, by rw [make_guards]; exact r.gd⟩
structure FnG (P : Program) (w : World) (K : PySem.W.Frag) (mg : Str → Option Value) (base : Heap) (CX : CXT) (k : Nat) (f : Addr) (fd : FuncData) (ps : List Str) (sp : Sp) : Prop where
  len : ∀ vs H Q E, sp vs H Q E → vs.length = ps.length
  run : ∀ (A : Around) (outer : List Env) (s : Shared) (H : Hp) (args : Args) (us : List Value) (vs : List V) (Q : VK) (E : XK), RoomG k A → Env0 P w K mg base A outer s H → BindsTo s fd args (ps.zip us) → Vals vs us → sp vs H Q E →
    codeAny (model P w) A (.call (.ref f) args) (CR CX outer P w H s Q E) s
theorem FnG.mono {P : Program} {w : World} {K : PySem.W.Frag} {mg : Str → Option Value} {base : Heap} {CX : CXT} {j k : Nat} {f : Addr} {fd : FuncData} {ps : List Str} {sp : Sp} (F : FnG P w K mg base CX j f fd ps sp) (h : j ≤ k) :
    FnG P w K mg base CX k f fd ps sp := ⟨F.len, fun A outer s H args us vs Q E hr => F.run A outer s H args us vs Q E (hr.mono h)⟩
theorem FnG.imp {P : Program} {w : World} {K : PySem.W.Frag} {mg : Str → Option Value} {base : Heap} {CX : CXT} {k : Nat} {f : Addr} {fd : FuncData} {ps : List Str} {sp sp' : Sp} (F : FnG P w K mg base CX k f fd ps sp)
    (h : ∀ vs H Q E, sp' vs H Q E → sp vs H Q E) : FnG P w K mg base CX k f fd ps sp' :=
  ⟨fun vs H Q E q => F.len vs H Q E (h _ _ _ _ q), fun A outer s H args us vs Q E hr he hb hv hs => F.run A outer s H args us vs Q E hr he hb hv (h _ _ _ _ hs)⟩
/-- THE RULE: a def (or a method) of the text, by its body. The body's reading t is chosen for each entry; it is run at the parameters' values -/
theorem fn_ofG {CX : CXT} {P : Program} {w : World} {K : PySem.W.Frag} {mg : Str → Option Value} {base : Heap} {k : Nat} {f : Addr} {name qual : Str} {params : Arguments} {body : List Stmt} {scope : Scope} {dV kV doc pm cdv ct oc : Value} {an od : Option Addr}
    {osl : Array (Option Value)} {N ps : List Str} {sp : Sp} (lk : K.lookup f = some ⟨oc, od, .func (PySem.W.fnOf name qual params body scope dV kV doc pm an cdv ct), osl⟩) (hcd : PySem.W.codeIn K cdv qual = true) (S : FnScope N ps scope)
    (len : ∀ vs H Q E, sp vs H Q E → vs.length = ps.length)
    (hbody : ∀ (A : Around) (outer : List Env) (s : Shared) (H : Hp) (vs : List V) (Q : VK) (E : XK), RoomG k (A.deeper (PyProof.Rows.envOfC qual scope s.heap.objs.size f cdv)) → sp vs H Q E →
      ∃ t, PSs (cxOf CX P w K mg base N qual scope f cdv A outer s H E) body t ∧ t { nx := fun _ H' => Q .non H', rt := Q } (start N vs) H) :
    FnG P w K mg base CX (k + 1) f (PySem.W.fnOf name qual params body scope dV kV doc pm an cdv ct) ps sp := by
  refine ⟨len, fun A outer s H args us vs Q E hr e0 hb r hsp => ?_⟩
  have hl := len _ _ _ _ hsp
  have KX : K.In s.heap := e0.mod.kin.keeps fun b o e => (e0.bs b o e).1
  have lim : s.heap.NoLimit := e0.mod.nolimit.keeps fun b o e => (e0.bs b o e).1
  have hkind : ∀ y ∈ ps.zip us, scope.names.lookup y.1 = some .local ∨ (scope.names.lookup y.1 = some .cell ∧ ((cellsFrom (s.heap.objs.size + 1) scope.names []).lookup y.1).isSome = true) := fun ⟨n, v⟩ hy => by
    rcases S.par n (List.of_mem_zip hy).1 with q | q
    · exact .inl q
    · exact .inr ⟨q, PySem.W.cellsFrom_some _ _ _ (.inl q)⟩
  refine codeAny_call_function hr.toRoom.depth (KX _ _ lk) rfl S.co S.gen rfl (PySem.W.codeRec_of KX hcd) (hb _ _ _ _ ?_)
  refine wpAny_newFunctionEnv_cells S.kind hkind fun env he s1 x => ?_
  subst he
  refine ⟨lim.keeps x.toInCall.keep, codeAny_func ?_⟩
  obtain ⟨t, ht, hq⟩ := hbody A outer s H vs Q E (hr.deeper _) hsp
  have I : Inv (cxOf CX P w K mg base N qual scope f cdv A outer s H E) [] (start N vs) H s1 := inv_start S hr.toRoom.hd e0 hl r x
  refine wpAny_mono (ht.run [] s1 (start N vs) H _ I hq) (fun fl s' hs => ?_) fun e s' hs => hs
  have fin : ∀ {σ' : St} {H' : Hp} {v : V} {u : Value}, Inv (cxOf CX P w K mg base N qual scope f cdv A outer s H E) [] σ' H' s' → RelV v u → Q v H' → CE outer P w H s Q u s' :=
    fun {σ' H' v u} J rv q => ⟨v, H', J.os, J.bare, J.base, J.hok, rv, q⟩
  cases fl with
  | ret u =>
    obtain ⟨v, σ', H', J, rv, q⟩ := hs
    exact fin J rv q
  | next =>
    obtain ⟨σ', H', J, q⟩ := hs
    exact fin (v := V.non) (u := Value.none) J rfl q
  | brk =>
    obtain ⟨_, _, _, q⟩ := hs
    exact False.elim q
  | cont =>
    obtain ⟨_, _, _, q⟩ := hs
    exact False.elim q

section
variable {P : Program} {w : World} {K : PySem.W.Frag} {mg : Str → Option Value} {base : Heap}
theorem Fun.okG {x qual : Str} {st : Stmt} {f : Addr} {fd : FuncData} {N ps : List Str} {k : Nat} {sp : Sp} (F : Fun K x qual st f fd) (S : FnScope N ps (defScope st)) (len : ∀ vs H Q E, sp vs H Q E → vs.length = ps.length)
    (hbody : ∀ (cdv : Value) (A : Around) (outer : List Env) (s : Shared) (H : Hp) (vs : List V) (Q : VK) (E : XK), RoomG k (A.deeper (PyProof.Rows.envOfC qual (defScope st) s.heap.objs.size f cdv)) → sp vs H Q E →
      ∃ t, PSs (cxOf (L2.CX P w) P w K mg base N qual (defScope st) f cdv A outer s H E) (defBody st) t ∧ t { nx := fun _ H' => Q .non H', rt := Q } (start N vs) H) : FnG P w K mg base (L2.CX P w) (k + 1) f fd ps sp := by
  obtain ⟨oc, od, kV, doc, pm, an, cdv, ct, osl, rfl, lk, hcd⟩ := F.ex
  exact fn_ofG lk hcd S len fun A outer s H vs Q E hr hsp => hbody cdv A outer s H vs Q E hr hsp
end
section
variable {X : Cx} {CX : CXT} {k : Nat} {C p g a dx : Addr} {fs : List (Str × V)} {f : Str} {fd : FuncData} {ps : List Str} {sp : Sp} {dvs : List V} {ds : List Value} {E : XK} {e : Expr} {pos : Pos} {ta : TE}
theorem getpropG {pins : List (Addr × Obj)} {σ : St} {H : Hp} {s : Shared} {Q : VK} {b : Bool} {E' : Value → Shared → Prop} (I : Inv X pins σ H s) (ea : H a = some (.ins C dx fs)) (c : Cls X.K C) (hp : PropOf X.K C f p g)
    (F : FnG X.prog X.w X.K X.mg X.base CX k g fd ps sp) (hr : RoomG (k + 1) X.A) (hb : Binds X.K fd ps ds) (hd : Vals dvs ds) (hx : Passes CX X.nox E) (h : sp (.ref a :: dvs) H Q E) :
    wpAny (model X.prog X.w) X.A (getAttr (.ref a) f b) (EP X pins σ Q) E' s := by
  obtain ⟨mA, O, _, _, _, _⟩ := ins_get I.hok ea
  obtain ⟨od, J, _⟩ := O.look
  obtain ⟨rest, hrec⟩ := hp.rec_
  have I1 := I.tok (s.toks + 1)
  have hl : ([Value.ref a] ++ ds).length = ps.length := by
    rw [← F.len _ _ _ _ h]
    show ds.length + 1 = dvs.length + 1
    rw [hd.length]
  have hc : (PySem.W.clsIn X.K C).isSome = true := by
    obtain ⟨cd, hc, _⟩ := PySem.W.any_some c.hd
    rw [hc]
    rfl
  refine PySem.W.get_bind I.kIn J (PySem.W.plainGet_of (c.get f)).1 (PySem.W.findObj_data hc hp.at_ hp.get hp.tak) (PySem.W.plainGet_of (c.get f)).2 (wpAny_call (PySem.W.prop_get (s := { s with toks := s.toks + 1 }) I.kIn hrec ?_))
  refine codeAny_mono (F.run X.A.in1 X.stack { s with toks := s.toks + 1 } H ⟨[.ref a], []⟩ (.ref a :: ds) (.ref a :: dvs) Q E hr.in1 I1.env0.in1 (hb _ [.ref a] I1.kIn hl) (.cons rfl hd) h) fun r s' hq => ?_
  cases r with
  | error er => exact False.elim (hx pins σ H { s with toks := s.toks + 1 } er s' (I1.wish _) hq)
  | ok fl =>
    cases fl with
    | ret u =>
      obtain ⟨v, H', I3, rv, q3⟩ := I1.after hq
      show wpAny _ _ (handedOut u) _ _ _
      rw [PySem.W.handedOut_of (handed_of rv)]
      exact wpAny_pure ⟨v, H', I3, rv, q3⟩
    | next => exact False.elim hq
    | brk => exact False.elim hq
    | cont => exact False.elim hq

end
theorem law_callG {P : Program} {w : World} {K : PySem.W.Frag} {mg mb : Str → Option Value} {CX : CXT} {k : Nat} {fa a : Addr} {fd : FuncData} {x : Str} {sp : Sp} {s₁ : Shared} {vs : List Value} {ns : List Int}
    (KX : K.In s₁.heap) (hns : s₁.heap.Ns mainGlobals mg) (hb : s₁.heap.Ns builtinsNs mb) (hbb : ∀ x : Str, x ≠ "__name__" → mb x = bootBuiltins x) (hlim : s₁.heap.NoLimit) (hg : s₁.gens = #[])
    (ha : s₁.heap.get? a = some { cls := .type "list", data := .seq vs.toArray }) (hi : IntsAre vs ns) (hl : ns.length ≤ sizeLine) (hr : Room k callerA)
    (F : ∀ base : Heap, K.In base → base.Ns mainGlobals mg → FnG P w K mg base CX k fa fd [x] sp) (hbind : ∀ (s : Shared) (u : Value), BindsTo s fd ⟨[u], []⟩ [(x, u)])
    (hsp : ∀ H : Hp, Only H → SqL K H a (ns.map V.int) → sp [.ref a] H (fun v _ => v = .bl true) fun _ _ _ => False)
    (hCX : ∀ H e s', CX [] H s₁ (fun _ _ _ => False) e s' → False) :
    codeAny (model P w) callerA (.call (.ref fa) ⟨[.ref a], []⟩) (fun r s' => r = .ok (.ret (.bool true)) ∧ OldK s₁.heap s'.heap ∧ s'.os = s₁.os ∧ AllBare s'.gens) s₁ := by
  have rv := vals_ints hi
  have lenV := hi.length
  -- from an abstract heap in which nothing but the script may be tracked
  have core : ∀ H : Hp, Only H → SqL K H a (ns.map V.int) → HOk P w H s₁.heap → (∀ b, H b ≠ none → b = a) → (H a ≠ none → K.lookup a = none) →
      codeAny (model P w) callerA (.call (.ref fa) ⟨[.ref a], []⟩) (fun r s' => r = .ok (.ret (.bool true)) ∧ OldK s₁.heap s'.heap ∧ s'.os = s₁.os ∧ AllBare s'.gens) s₁ := by
    intro H hO hS hok hA hK
    have base_of : ∀ {b : Addr} {o : Obj}, s₁.heap.get? b = some o → H b = none → (hidT s₁.heap H).get? b = some o := fun e n => hidT_get e n
    have noA : ∀ {b : Addr} {o : Obj} {es : Array DictEntry} {ep : Nat}, s₁.heap.get? b = some o → o.data = .dict es ep → H b = none := fun {b o es ep} e d => by
      cases q : H b with
      | none => rfl
      | some u =>
        have e' : b = a := hA b (by rw [q]; simp)
        subst e'
        rw [ha] at e; cases e
        have d' : Data.seq vs.toArray _ = Data.dict es ep := d
        cases d'
    have nsK : ∀ {b : Addr} {m : Str → Option Value}, s₁.heap.Ns b m → (hidT s₁.heap H).Ns b m := fun {b m} ⟨o, es, ep, e, d, r⟩ => ⟨o, es, ep, base_of e (noA e d), d, r⟩
    have hKb : K.In (hidT s₁.heap H) := fun b o e => base_of (KX b o e) (by
      cases q : H b with
      | none => rfl
      | some u =>
        have e' : b = a := hA b (by rw [q]; simp)
        subst e'
        rw [hK (by rw [q]; simp)] at e; cases e)
    have hM : Mod K mg (hidT s₁.heap H) := ⟨hKb, nsK hns, ⟨mb, nsK hb, hbb⟩, let ⟨mc, h1, h2⟩ := hlim; ⟨mc, nsK h1, h2⟩⟩
    have e0 : Env0 P w K mg (hidT s₁.heap H) callerA [] s₁ H := ⟨rfl, hM, fun b o e => of_hidT e, Nat.le_of_eq (hidT_size _ _), trivial, fun b hb => absurd (show b ∈ ([] : List Addr) from hb) (by simp), hok, .of_eq hg⟩
    refine codeAny_mono ((F _ hKb (nsK hns)).run callerA [] s₁ H ⟨[.ref a], []⟩ [.ref a] [.ref a] _ _ ⟨hr, rfl⟩ e0 (hbind s₁ (.ref a)) (.cons rfl .nil) (hsp H hO hS)) fun r s' h => ?_
    cases r with
    | error e => exact (hCX H e s' h).elim
    | ok fl =>
      cases fl with
      | next => exact False.elim h
      | brk => exact False.elim h
      | cont => exact False.elim h
      | ret u =>
        obtain ⟨v, H', os, bare, un, hok', r', q⟩ := h
        have q' : v = .bl true := q
        subst q'
        obtain rfl : u = Value.bool true := r'
        refine ⟨rfl, OldK.of_keep fun b o e => ?_, os, bare⟩
        cases q : H b with
        | none => exact un.keep b o e q (by intro z; exact absurd (show b ∈ ([] : List Addr) from z) (by simp)) (by simp)
        | some u =>
          rcases hO b with z | ⟨ob, xs, z⟩
          · rw [q] at z; cases z
          · have z2 := un.frzs b ob _ z
            obtain ⟨e1, _⟩ := hok b _ z
            obtain ⟨e2, _⟩ := hok' b _ z2
            rw [e] at e1; cases e1
            exact e2
  cases hk : K.lookup a with
  | some o =>
    -- the script is one of the module's own objects
    have e := KX a o hk
    rw [ha] at e
    cases e
    refine core (fun _ => none) (fun _ => .inl rfl) (.inr ⟨_, vs.toArray, _, hk, rfl, rfl, rfl, by rw [List.size_toArray, lenV]; exact hl, by simpa using rv⟩) (fun b u z => by have z' : (none : Option HO) = some u := z; cases z') (fun b z => absurd rfl z) fun z => absurd rfl z
  | none =>
    refine core (fun b => if b = a then some (.frz { cls := .type "list", data := .seq vs.toArray } (.lst (ns.map V.int))) else none) (fun b => ?_) (.inl (.inr ⟨{ cls := .type "list", data := .seq vs.toArray }, if_pos rfl⟩)) (fun b u z => ?_) (fun b z => ?_) fun _ => hk
    · by_cases hb : b = a
      · exact .inr ⟨_, _, if_pos hb⟩
      · exact .inl (if_neg hb)
    · by_cases hb : b = a
      · have z' := (if_pos hb).symm.trans z
        cases z'
        subst hb
        exact ⟨ha, by rw [List.length_map]; exact hl, vs, _, rv, ha⟩
      · have z' := (if_neg hb).symm.trans z
        cases z'
    · by_cases hb : b = a
      · exact hb
      · exact absurd (if_neg hb) z
theorem walk_ofG {l : PySem.W.OpenLaw} {n k : Nat} {q : Program} {loose : List Str} {XP : (Str → Option Value) → Heap → Prop} {YP : World → Heap → Prop} {d : DefRec} {K : Params → PySem.W.Frag} {CX : World → CXT} {sp : World → Sp} {x : Str}
    (hn : l.most = some n) (hn2 : n ≤ sizeLine) (hdf : d.params.defaults = []) (hr : Room k callerA)
    (hY : ∀ (w : World) (h : Heap), YP w h → (K w.params).In h)
    (F : ∀ (w : World) (mg : Str → Option Value) (fa : Addr) (h : Heap), (K w.params).In h → h.Ns mainGlobals mg → mg d.name = some (.ref fa) →
      ∃ fd : FuncData, (∀ (s : Shared) (u : Value), BindsTo s fd ⟨[u], []⟩ [(x, u)]) ∧
        ∀ base : Heap, (K w.params).In base → base.Ns mainGlobals mg → FnG l.prog w (K w.params) mg base (CX w) k fa fd [x] (sp w))
    (hsp : ∀ (w : World) (H : Hp) (a : Addr) (ns : List Int), ns.length ≤ n → Only H → SqL (K w.params) H a (ns.map V.int) → sp w [.ref a] H (fun v _ => v = .bl true) fun _ _ _ => False)
    (hCX : ∀ (w : World) (H : Hp) (s : Shared) (e : Value) (s' : Shared), CX w [] H s (fun _ _ _ => False) e s' → False) :
    PySem.W.WalkO q loose XP YP l.row.toRowW d [] (fun f vs => PySem.call f vs) := by
  refine Att.attach_call hn hdf fun w s₀ s₁ mg mb fa o pm cd doc a vs ns G Y ho hd hcd hmg hobj hints hlen hg => ?_
  have KX := hY w _ Y
  obtain ⟨fd, hb, hF⟩ := F w mg fa _ KX G.T.g hmg
  exact law_callG KX G.T.g G.T.b G.T.builtins G.T.nolimit hg hobj hints (Nat.le_trans hlen hn2) hr hF hb (fun H hO hS => hsp w H a ns hlen hO hS) fun H e s' => hCX w H s₁ e s'
end L2

set_option Elab.async false
set_option linter.all false
set_option maxRecDepth 100000
set_option maxHeartbeats 4000000
/-! DL3: subscripts, slices, built-ins, calls, methods, fields, the rule for a def. -/
namespace DL
open PySem L2
section
variable {X : Cx} {hd : Addr → Bool} {a b c e : Expr} {es : List Expr} {pos : Pos} {ta tb tc : TX} {tt tu : TXb} {ts : TXs}

/-! ### a[i] -/
theorem Dvs.at {K : PySem.W.Frag} {G : Hp} {vs : List V} {ds : List Dt} (r : Dvs K G vs ds) {i : Int} {d : Dt} (h : atI ds i = some d) : ∃ v, atI vs i = some v ∧ Dv K G v d := by
  unfold atI at h ⊢
  rw [r.length]
  cases e : ixN ds.length i with
  | none => rw [e] at h; cases h
  | some j =>
    rw [e] at h
    obtain ⟨v, h1, h2⟩ := r.get (i := j) h
    exact ⟨v, h1, h2⟩
abbrev dIx : D2 := fun x y W Q => match y with
  | .int i => match x with
    | .str z => z.length ≤ sizeLine ∧ (match atI z.cps.toList i with | some c => Q (.str ⟨#[c]⟩) W | none => False)
    | .tup ds => (match atI ds i with | some d => Q d W | none => False)
    | x => match lof x W with
      | some ds => (match atI ds i with | some d => Q d W | none => False)
      | none => False
  | _ => False
theorem dop_ix : DOp X (rIx X.K) dIx := by
  intro hd x y dx dy W H Q Q' R rx ry hq h
  cases dy with
  | int i =>
    have lst : ∀ ds, lof dx W = some ds → (match atI ds i with | some d => Q d W | none => False) → rIx X.K x y H Q' := fun ds hl h => by
      split at h
      · rename_i d e
        obtain ⟨p, vs, rfl, h1, t⟩ := lof_V R rx hl
        obtain ⟨v, e2, r2⟩ := t.at e
        cases ry
        exact .inl ⟨p, vs, i, v, rfl, rfl, h1, e2, hq _ _ (ql_val R r2 h)⟩
      · exact h.elim
    cases dx with
    | str z =>
      have h' : z.length ≤ sizeLine ∧ (match atI z.cps.toList i with | some c => Q (.str ⟨#[c]⟩) W | none => False) := h
      obtain ⟨h1, h2⟩ := h'
      split at h2
      · rename_i c e
        cases rx
        cases ry
        exact .inr (.inr ⟨z, i, c, rfl, rfl, h1, e, hq _ _ (ql_val R (.str _) h2)⟩)
      · exact h2.elim
    | tup ds =>
      have h' : (match atI ds i with | some d => Q d W | none => False) := h
      split at h'
      · rename_i d e
        obtain ⟨p, vs, rfl, h1, _, t⟩ := tof_V rx rfl
        obtain ⟨v, e2, r2⟩ := t.at e
        cases ry
        exact .inr (.inl ⟨p, vs, i, v, rfl, rfl, h1, e2, hq _ _ (ql_val R r2 h')⟩)
      · exact h'.elim
    | lst ds => exact lst ds rfl h
    | «at» p =>
      cases e : lof (.at p) W with
      | none => simp only [dIx, e] at h
      | some ds =>
        simp only [dIx, e] at h
        exact lst ds e h
    | _ => exact h.elim
  | _ => exact h.elim
theorem je_ix (ha : JE X a ta) (hb : JE X b tb) (hs : PlainIx b := by exact fun _ _ => rfl) : JE X (.Subscript a b pos) (xOp dIx ta tb) :=
  ⟨fun Wx tk σ H Γ W Q E R G x h => toE (pe_ix ix_seq semE semE hs) (monoE (seq2 tk ha hb R G x h) fun u H1 h1 => monoE h1 fun v H2 ⟨d, d2, W2, s, r1, r2, q⟩ =>
    dop_ix u v d d2 W2 H2 Q _ s.rep r1 r2 (fun _ _ k => QL.step s k) q)⟩

/-! ### slices -/
abbrev TXo := Sl → Wd → (Option Int → Wd → Prop) → DX → Prop
def QoL (K : PySem.W.Frag) (hd : Addr → Bool) (W : Wd) (H : Hp) (Q : Option Int → Wd → Prop) : Option Int → Hp → Prop := fun b H' => ∃ W', Stp K hd W H W' H' ∧ Q b W'
def wpO (X : Cx) (e : Option Expr) : TO := fun σ H Q => ∀ pins s, Inv X pins σ H s → wpAny (model X.prog X.w) X.A (evalPart e X.env) (fun u s' => ∃ o H', Inv X pins σ H' s' ∧ IsPart u o ∧ Q o H') X.xe s
theorem semO {e : Option Expr} : PO X e (wpO X e) := ⟨fun pins s σ H Q I h => h pins s I⟩
theorem toO {e : Option Expr} {t : TO} (p : PO X e t) {σ : L2.St} {H : Hp} {Q : Option Int → Hp → Prop} (h : t σ H Q) : wpO X e σ H Q := fun pins s I => p.run pins s σ H Q I h
theorem monoO {e : Option Expr} {σ : L2.St} {H : Hp} {Q Q' : Option Int → Hp → Prop} (h : wpO X e σ H Q) (q : ∀ v H', Q v H' → Q' v H') : wpO X e σ H Q' := fun pins s I => thn (h pins s I) fun u s' ⟨o, H', I', p, k⟩ => ⟨o, H', I', p, q o H' k⟩
structure JO (X : Cx) (e : Option Expr) (t : TXo) : Prop where
  run : ∀ {hd : Addr → Bool} (Wx : WX), Takes X Wx → ∀ (σ : L2.St) (H : Hp) (Γ : Sl) (W : Wd) (Q : Option Int → Wd → Prop) (E : DX), Rep X.K hd W H → EnvD X.K (off hd W H) σ Γ → XL X.K hd W H σ E Wx → t Γ W Q E → wpO X e σ H (QoL X.K hd W H Q)
abbrev xNo : TXo := fun _ W Q _ => Q none W
abbrev xPart (t : TX) : TXo := fun Γ W Q E => t Γ W (fun d W1 => match d with | .int i => Q (some i) W1 | _ => False) E
theorem jo_none : JO X none xNo := ⟨fun Wx tk σ H Γ W Q E R G x h => toO po_none ⟨W, .refl R, h⟩⟩
theorem jo_some (ha : JE X e ta) : JO X (some e) (xPart ta) := ⟨fun Wx tk σ H Γ W Q E R G x h => toO (po_some semE) (monoE (ha.run Wx tk σ H Γ W _ E R G x h) fun v H1 ⟨d, W1, s1, r1, q1⟩ => by
  cases d with
  | int i => cases r1; exact ⟨i, rfl, W1, s1, q1⟩
  | _ => exact q1.elim)⟩
def cutD (xs : List Dt) (lo hi : Option Int) : List Dt := (xs.drop (HT.sIx xs.length 0 lo)).take (HT.sIx xs.length xs.length hi - HT.sIx xs.length 0 lo)
theorem cut_dvs {K : PySem.W.Frag} {G : Hp} {vs : List V} {ds : List Dt} (r : Dvs K G vs ds) (lo hi : Option Int) : Dvs K G (cutV vs lo hi) (cutD ds lo hi) := by
  unfold cutV cutD
  rw [r.length]
  exact (r.drop _).take _
theorem cutD_all {ds : List Dt} {lo hi : Option Int} (h : HT.sIx ds.length 0 lo = 0 ∧ HT.sIx ds.length ds.length hi = ds.length) : cutD ds lo hi = ds := by
  unfold cutD
  rw [h.1, h.2]
  simp
abbrev dSl : Dt → Option Int → Option Int → Wd → DQ → Prop := fun x lo hi W Q => match x with
  | .str z => z.length ≤ sizeLine ∧ Q (.str (cutS z lo hi)) W
  | .tup ds => Q (.tup (cutD ds lo hi)) W
  | x => match lof x W with
    | some ds => Q (.lst (cutD ds lo hi)) W
    | none => False
def rSlAll (K : PySem.W.Frag) : V → Option Int → Option Int → Hp → VK → Prop := fun x lo hi H Q => rSlS x lo hi H Q ∨ rSlA K x lo hi H Q ∨ rSlL K x lo hi H Q
theorem sl_all : SlR X (rSlAll X.K) := sl_str.or (sl_tupA.or sl_list)
theorem dsl_ok {x : V} {dx : Dt} {lo hi : Option Int} {W : Wd} {H : Hp} {Q : DQ} {Q' : VK} (R : Rep X.K hd W H) (rx : Dv X.K (off hd W H) x dx) (hq : ∀ v H', QL X.K hd W H Q v H' → Q' v H') (h : dSl dx lo hi W Q) : rSlAll X.K x lo hi H Q' := by
  have lst : ∀ ds, lof dx W = some ds → Q (.lst (cutD ds lo hi)) W → rSlAll X.K x lo hi H Q' := fun ds hl h => by
    obtain ⟨p, vs, rfl, h1, t⟩ := lof_V R rx hl
    exact .inr (.inr ⟨p, vs, rfl, h1, fun p hp => hq _ _ (ql_lst R hp (cut_dvs t lo hi) h)⟩)
  cases dx with
  | str z => cases rx; exact .inl ⟨z, rfl, h.1, hq _ _ (ql_val R (.str _) h.2)⟩
  | tup ds =>
    obtain ⟨p, vs, rfl, h1, h1', t⟩ := tof_V rx rfl
    refine .inr (.inl ⟨p, vs, rfl, h1, fun hw => ?_, fun _ p hp => hq _ _ (ql_tup R hp (cut_dvs t lo hi) h)⟩)
    rw [t.length] at hw
    have h' : Q (.tup (cutD ds lo hi)) W := h
    rw [cutD_all hw] at h'
    exact hq _ _ (ql_val R (.tup h1' t) h')
  | lst ds => exact lst ds rfl h
  | «at» p =>
    cases e : lof (.at p) W with
    | none => simp only [dSl, e] at h
    | some ds =>
      simp only [dSl, e] at h
      exact lst ds e h
  | _ => exact h.elim
abbrev xSl (ta : TX) (tl th : TXo) : TX := fun Γ W Q E => ta Γ W (fun x W1 => tl Γ W1 (fun lo W2 => th Γ W2 (fun hi W3 => dSl x lo hi W3 Q) E) E) E
theorem je_slice {lo hi : Option Expr} {tl th : TXo} {p2 : Pos} (he : JE X e ta) (hl : JO X lo tl) (hu : JO X hi th) : JE X (.Subscript e (.Slice lo hi none p2) pos) (xSl ta tl th) :=
  ⟨fun Wx tk σ H Γ W Q E R G x h => toE (pe_slice sl_all semE semO semO) (monoE (he.run Wx tk σ H Γ W _ E R G x h) fun u H1 ⟨d, W1, s1, r1, q1⟩ =>
    monoO (hl.run Wx tk σ H1 Γ W1 _ E s1.rep (G.mono s1.ex) (x.step s1) q1) fun lo H2 ⟨W2, s2, q2⟩ =>
      have s12 := s1.trans s2
      monoO (hu.run Wx tk σ H2 Γ W2 _ E s2.rep (G.mono s12.ex) (x.step s12) q2) fun hi H3 ⟨W3, s3, q3⟩ =>
        have s23 := s2.trans s3
        dsl_ok s3.rep (r1.mono s23.ex) (fun _ _ k => QL.step (s12.trans s3) k) q3)⟩

/-! ### calls of built-ins -/
abbrev DC := List Dt → Wd → DQ → Prop
def DCa (X : Cx) (r : List V → Hp → VK → Prop) (rd : DC) : Prop := ∀ {hd : Addr → Bool} (vs : List V) (ds : List Dt) (W : Wd) (H : Hp) (Q : DQ) (Q' : VK), Rep X.K hd W H → Dvs X.K (off hd W H) vs ds → (∀ v H', QL X.K hd W H Q v H' → Q' v H') → rd ds W Q → r vs H Q'
abbrev xCB (rd : DC) (ts : TXs) : TX := fun Γ W Q E => ts Γ W (fun ds W1 => rd ds W1 Q) E
theorem je_callB {x : Str} {p : Pos} {id : String} {r : List V → Hp → VK → Prop} {rd : DC} (hc : CallR X (.builtin id) r) (hd : DCa X r rd) (hg : Gl X x) (hm : X.mg x = none) (hv : bootBuiltins x = some (.builtin id)) (ha : JA X (e :: es) ts) (hn : x ≠ "__name__" := by decide) (hdb : (x == ("__debug__" : Str)) = false := by decide)
    (he : starEach (e :: es) X.env = (false, eval e X.env) :: starEach es X.env := by rfl) (hpl : (backTo pos (starEach es X.env)).any (·.1) = false := by rfl) : JE X (.Call (.Name x p) (e :: es) [] pos) (xCB rd ts) :=
  ⟨fun Wx tk σ H Γ W Q E R G x h => toE (pe_callB hc hg hm hv semA hn hdb he hpl) (monoA (ha.run Wx tk σ H Γ W _ E R G x h) fun vs H1 ⟨ds, W1, s1, r1, q1⟩ => hd vs ds W1 H1 Q _ s1.rep r1 (fun _ _ k => QL.step s1 k) q1)⟩
theorem je_callTy {x : Str} {p : Pos} {T : String} {r : List V → Hp → VK → Prop} {rd : DC} (hc : CallR X (.type T) r) (hd : DCa X r rd) (hg : Gl X x) (hm : X.mg x = none) (hv : bootBuiltins x = some (.type T)) (ha : JA X (e :: es) ts) (hn : x ≠ "__name__" := by decide) (hdb : (x == ("__debug__" : Str)) = false := by decide)
    (he : starEach (e :: es) X.env = (false, eval e X.env) :: starEach es X.env := by rfl) (hpl : (backTo pos (starEach es X.env)).any (·.1) = false := by rfl) : JE X (.Call (.Name x p) (e :: es) [] pos) (xCB rd ts) :=
  ⟨fun Wx tk σ H Γ W Q E R G x h => toE (pe_callTy hc hg hm hv semA hn hdb he hpl) (monoA (ha.run Wx tk σ H Γ W _ E R G x h) fun vs H1 ⟨ds, W1, s1, r1, q1⟩ => hd vs ds W1 H1 Q _ s1.rep r1 (fun _ _ k => QL.step s1 k) q1)⟩
theorem je_glob {x : Str} {v : V} {d : Dt} {u : Value} (hg : Gl X x) (hm : X.mg x = some u) (r : RelV v u) (rd : ∀ G, Dv X.K G v d) (hd : (x == ("__debug__" : Str)) = false := by decide) : JE X (.Name x pos) (xC d) := je_c (pe_glob hg hm r hd) rd
theorem je_bltn {x : Str} {v : V} {d : Dt} {u : Value} (hg : Gl X x) (hm : X.mg x = none) (hv : bootBuiltins x = some u) (r : RelV v u) (rd : ∀ G, Dv X.K G v d) (hn : x ≠ "__name__" := by decide) (hd : (x == ("__debug__" : Str)) = false := by decide) : JE X (.Name x pos) (xC d) := je_c (pe_bltn hg hm hv r hn hd) rd

/-- len -/
abbrev cLen : DC := fun ds W Q => match ds with
  | [.str z] => z.length ≤ sizeLine ∧ Q (.int z.length) W
  | [.tup xs] => Q (.int xs.length) W
  | [d] => (match lof d W with | some xs => Q (.int xs.length) W | none => False)
  | _ => False
theorem Dvs.one {K : PySem.W.Frag} {G : Hp} {vs : List V} {d : Dt} (r : Dvs K G vs [d]) : ∃ v, vs = [v] ∧ Dv K G v d := by
  cases r with
  | cons h t => cases t; exact ⟨_, rfl, h⟩
theorem Dvs.two {K : PySem.W.Frag} {G : Hp} {vs : List V} {d e : Dt} (r : Dvs K G vs [d, e]) : ∃ v u, vs = [v, u] ∧ Dv K G v d ∧ Dv K G u e := by
  cases r with
  | cons h t =>
    obtain ⟨u, rfl, h2⟩ := t.one
    exact ⟨_, _, rfl, h, h2⟩
theorem dca_len : DCa X (fun xs H Q => ∃ x n, xs = [x] ∧ LenV X.K x H n ∧ Q (.int n) H) cLen := by
  intro hd vs ds W H Q Q' R r hq h
  match ds, h with
  | d :: _ :: _, h => cases d <;> exact h.elim
  | [d], h =>
    obtain ⟨v, rfl, rv⟩ := r.one
    have lst : ∀ xs, lof d W = some xs → Q (.int xs.length) W → ∃ x n, [v] = [x] ∧ LenV X.K x H n ∧ Q' (.int n) H := fun xs hl h => by
      obtain ⟨p, us, rfl, h1, t⟩ := lof_V R rv hl
      exact ⟨_, xs.length, rfl, .inl ⟨us, h1, t.length.symm⟩, hq _ _ (ql_val R (.int _) h)⟩
    cases d with
    | str z => cases rv; exact ⟨_, _, rfl, ⟨h.1, rfl⟩, hq _ _ (ql_val R (.int _) h.2)⟩
    | tup xs =>
      obtain ⟨p, us, rfl, h1, _, t⟩ := tof_V rv rfl
      exact ⟨_, xs.length, rfl, .inr ⟨us, h1, t.length.symm⟩, hq _ _ (ql_val R (.int _) h)⟩
    | lst xs => exact lst xs rfl h
    | «at» p =>
      cases e : lof (.at p) W with
      | none => simp only [cLen, e] at h
      | some ds =>
        simp only [cLen, e] at h
        exact lst ds e h
    | _ => exact h.elim
/-- all, any of a list of truths -/
abbrev blsOf : List Dt → Option (List Bool)
  | [] => some []
  | .bl b :: r => (blsOf r).map (b :: ·)
  | _ :: _ => none
theorem bls_map : ∀ bs : List Bool, blsOf (bs.map Dt.bl) = some bs
  | [] => rfl
  | b :: r => by show (blsOf (r.map Dt.bl)).map (b :: ·) = _; rw [bls_map r]; rfl
theorem bls_eq : ∀ {ds : List Dt} {bs : List Bool}, blsOf ds = some bs → ds = bs.map Dt.bl
  | [], bs, h => by cases h; rfl
  | d :: r, bs, h => by
    cases d with
    | bl b =>
      have h' : (blsOf r).map (b :: ·) = some bs := h
      cases e : blsOf r with
      | none => rw [e] at h'; cases h'
      | some cs =>
        rw [e] at h'
        cases h'
        rw [bls_eq e]; rfl
    | _ => cases h
abbrev cAll : DC := fun ds W Q => match ds with
  | [.lst xs] => (match blsOf xs with | some bs => Q (.bl (bs.all id)) W | none => False)
  | _ => False
abbrev cAny : DC := fun ds W Q => match ds with
  | [.lst xs] => (match blsOf xs with | some bs => Q (.bl (bs.any id)) W | none => False)
  | _ => False
theorem dca_all : DCa X (rAll X.K) cAll := by
  intro hd vs ds W H Q Q' R r hq h
  match ds, h with
  | [.lst xs], h =>
    obtain ⟨v, rfl, rv⟩ := r.one
    cases e : blsOf xs with
    | none => simp only [cAll, e] at h
    | some bs =>
      simp only [cAll, e] at h
      obtain ⟨p, us, rfl, h1, t⟩ := lof_V R rv rfl
      rw [bls_eq e] at t
      rw [t.bls] at h1
      exact ⟨p, bs, rfl, h1, hq _ _ (ql_val R (.bl _) h)⟩
theorem dca_any : DCa X (rAny X.K) cAny := by
  intro hd vs ds W H Q Q' R r hq h
  match ds, h with
  | [.lst xs], h =>
    obtain ⟨v, rfl, rv⟩ := r.one
    cases e : blsOf xs with
    | none => simp only [cAny, e] at h
    | some bs =>
      simp only [cAny, e] at h
      obtain ⟨p, us, rfl, h1, t⟩ := lof_V R rv rfl
      rw [bls_eq e] at t
      rw [t.bls] at h1
      exact ⟨p, bs, rfl, h1, hq _ _ (ql_val R (.bl _) h)⟩
/-- tuple(x), list(x) of lists, tuples -/
abbrev cTup : DC := fun ds W Q => match ds with
  | [.tup xs] => Q (.tup xs) W
  | [d] => (match lof d W with | some xs => Q (.tup xs) W | none => False)
  | _ => False
theorem dca_tup : DCa X (fun xs H Q => ∃ p ys, xs = [.ref p] ∧ ((SqL X.K H p ys ∧ ∀ l, H l = none → Q (.ref l) (upd H l (.tup ys))) ∨ (SqT X.K H p ys ∧ Q (.ref p) H))) cTup := by
  intro hd vs ds W H Q Q' R r hq h
  match ds, h with
  | d :: _ :: _, h => cases d <;> exact h.elim
  | [d], h =>
    obtain ⟨v, rfl, rv⟩ := r.one
    have lst : ∀ xs, lof d W = some xs → Q (.tup xs) W → ∃ p ys, [v] = [.ref p] ∧ ((SqL X.K H p ys ∧ ∀ l, H l = none → Q' (.ref l) (upd H l (.tup ys))) ∨ (SqT X.K H p ys ∧ Q' (.ref p) H)) := fun xs hl h => by
      obtain ⟨p, us, rfl, h1, t⟩ := lof_V R rv hl
      exact ⟨p, us, rfl, .inl ⟨h1, fun l hl => hq _ _ (ql_tup R hl t h)⟩⟩
    cases d with
    | tup xs =>
      obtain ⟨p, us, rfl, h1, h1', t⟩ := tof_V rv rfl
      exact ⟨p, us, rfl, .inr ⟨h1, hq _ _ (ql_val R (.tup h1' t) h)⟩⟩
    | lst xs => exact lst xs rfl h
    | «at» p =>
      cases e : lof (.at p) W with
      | none => simp only [cTup, e] at h
      | some ds =>
        simp only [cTup, e] at h
        exact lst ds e h
    | _ => exact h.elim
abbrev cLstOf (d : Dt) (W : Wd) : Option (List Dt) := match d with | .tup xs => some xs | d => lof d W
abbrev cLst : DC := fun ds W Q => match ds with
  | [d] => (match cLstOf d W with | some xs => Q (.lst xs) W | none => False)
  | _ => False
abbrev cLstN : DC := fun ds W Q => match ds with
  | [d] => (match cLstOf d W with | some xs => ∀ p, W.m p = none → W.hid p = false → Q (.at p) (W.put p (.lst xs)) | none => False)
  | _ => False
theorem cls_V {K : PySem.W.Frag} {W : Wd} {H : Hp} (R : Rep K hd W H) {v : V} {d : Dt} {ds : List Dt} (r : Dv K (off hd W H) v d) (h : cLstOf d W = some ds) : ∃ p vs, v = .ref p ∧ (SqL K H p vs ∨ SqT K H p vs) ∧ Dvs K (off hd W H) vs ds := by
  cases d with
  | tup xs =>
    obtain ⟨p, us, rfl, h1, h1', t⟩ := tof_V r h
    exact ⟨p, us, rfl, .inr h1, t⟩
  | lst xs =>
    obtain ⟨p, vs, rfl, h1, t⟩ := lof_V R r h
    exact ⟨p, vs, rfl, .inl h1, t⟩
  | «at» q =>
    obtain ⟨p, vs, rfl, h1, t⟩ := lof_V R r h
    exact ⟨p, vs, rfl, .inl h1, t⟩
  | _ => cases h
theorem dca_lst : DCa X (fun xs H Q => ∃ p ys, xs = [.ref p] ∧ (SqL X.K H p ys ∨ SqT X.K H p ys) ∧ ∀ l, H l = none → Q (.ref l) (upd H l (.lst ys))) cLst := by
  intro hd vs ds W H Q Q' R r hq h
  match ds, h with
  | [d], h =>
    obtain ⟨v, rfl, rv⟩ := r.one
    cases e : cLstOf d W with
    | none => simp only [cLst, e] at h
    | some xs =>
      simp only [cLst, e] at h
      obtain ⟨p, us, rfl, h1, t⟩ := cls_V R rv e
      exact ⟨p, us, rfl, h1, fun l hl => hq _ _ (ql_lst R hl t h)⟩
theorem dca_lstN : DCa X (fun xs H Q => ∃ p ys, xs = [.ref p] ∧ (SqL X.K H p ys ∨ SqT X.K H p ys) ∧ ∀ l, H l = none → Q (.ref l) (upd H l (.lst ys))) cLstN := by
  intro hd vs ds W H Q Q' R r hq h
  match ds, h with
  | [d], h =>
    obtain ⟨v, rfl, rv⟩ := r.one
    cases e : cLstOf d W with
    | none => simp only [cLstN, e] at h
    | some xs =>
      simp only [cLstN, e] at h
      obtain ⟨p, us, rfl, h1, t⟩ := cls_V R rv e
      exact ⟨p, us, rfl, h1, fun l hl => hq _ _ (ql_new R hl t h)⟩
/-- max(i, j), min(i, j) -/
abbrev cII (g : Int → Int → Dt) : DC := fun ds W Q => match ds with
  | [.int i, .int j] => Q (g i j) W
  | _ => False
theorem dca_II {g : Int → Int → V} {gd : Int → Int → Dt} (hg : ∀ G i j, Dv X.K G (g i j) (gd i j)) : DCa X (fun xs H Q => ∃ i j, xs = [.int i, .int j] ∧ Q (g i j) H) (cII gd) := by
  intro hd vs ds W H Q Q' R r hq h
  match ds, h with
  | [.int i, .int j], h =>
    obtain ⟨v, u, rfl, rv, ru⟩ := r.two
    cases rv; cases ru
    exact ⟨i, j, rfl, hq _ _ (ql_val R (hg _ _ _) h)⟩
abbrev cMax2 : DC := cII fun i j => .int (if j > i then j else i)
abbrev cMin2 : DC := cII fun i j => .int (if j < i then j else i)
theorem dca_max2 : DCa X (fun xs H Q => ∃ i j, xs = [.int i, .int j] ∧ Q (.int (if j > i then j else i)) H) cMax2 := dca_II fun _ _ _ => .int _
theorem dca_min2 : DCa X (fun xs H Q => ∃ i j, xs = [.int i, .int j] ∧ Q (.int (if j < i then j else i)) H) cMin2 := dca_II fun _ _ _ => .int _
/-- str(x) of ints and texts -/
abbrev cStr : DC := fun ds W Q => match ds with
  | [.int i] => i.natAbs.log2 < 1920 ∧ Q (.str (toString i)) W
  | [.str a] => Q (.str a) W
  | _ => False
theorem call_strA : CallR X (.type "str") (fun xs H Q => (∃ i, xs = [.int i] ∧ i.natAbs.log2 < 1920 ∧ Q (.str (toString i)) H) ∨ ∃ a, xs = [.str a] ∧ Q (.str a) H) := call_str_int.or SkE.call_str_str
theorem dca_str : DCa X (fun xs H Q => (∃ i, xs = [.int i] ∧ i.natAbs.log2 < 1920 ∧ Q (.str (toString i)) H) ∨ ∃ a, xs = [.str a] ∧ Q (.str a) H) cStr := by
  intro hd vs ds W H Q Q' R r hq h
  match ds, h with
  | [.int i], h =>
    obtain ⟨v, rfl, rv⟩ := r.one
    cases rv
    exact .inl ⟨i, rfl, h.1, hq _ _ (ql_val R (.str _) h.2)⟩
  | [.str a], h =>
    obtain ⟨v, rfl, rv⟩ := r.one
    cases rv
    exact .inr ⟨a, rfl, hq _ _ (ql_val R (.str _) h)⟩

/-! ### isinstance, of a built-in class -/
/-- the name of a value's type, where it is a built-in one -/
abbrev tyN (d : Dt) (W : Wd) : Option String := match d with
  | .non => some "NoneType" | .bl _ => some "bool" | .int _ => some "int" | .str _ => some "str" | .lst _ => some "list" | .tup _ => some "tuple" | .dct _ => some "dict"
  | .at p => (match W.m p with | some (.lst _) => some "list" | _ => none)
  | _ => none
theorem tyN_V {W : Wd} {H : Hp} (R : Rep X.K hd W H) {v : V} {d : Dt} (r : Dv X.K (off hd W H) v d) {t : String} (h : tyN d W = some t) : TyX X.K H v (.type t) := by
  have ofL : ∀ p vs, SqL X.K H p vs → TyX X.K H (.ref p) (.type "list") := fun p vs h => by
    rcases h with (h | ⟨o, h⟩) | ⟨o, its, n, h1, h2, _⟩
    · exact .base (.lst h)
    · exact .base (.frz h)
    · exact .kList h1 h2
  have ofT : ∀ p vs, SqT X.K H p vs → TyX X.K H (.ref p) (.type "tuple") := fun p vs h => by
    rcases h with (h | ⟨o, h⟩) | ⟨o, its, n, h1, h2, _⟩
    · exact .base (.tup h)
    · exact .fTuple h
    · exact .kTuple h1 h2
  cases d with
  | non => cases h; cases r; exact .base .non
  | bl b => cases h; cases r; exact .base (.bl b)
  | int i => cases h; cases r; exact .base (.int i)
  | str x => cases h; cases r; exact .base (.str x)
  | lst xs => cases h; cases r with | lst h1 t => exact ofL _ _ (sql_off h1)
  | tup xs => cases h; cases r with | tup h1 t => exact ofT _ _ (sqt_off h1)
  | dct xs => cases h; cases r with | dct h1 t => exact .base (.dK (off_some h1).2.2.1)
  | «at» p =>
    cases r
    have h' : (match W.m p with | some (.lst _) => some "list" | _ => none) = some t := h
    split at h'
    · rename_i ds e
      cases h'
      obtain ⟨vs, e1, _⟩ := R.m p _ e
      exact ofL _ _ (SqL.of e1)
    · cases h'
  | _ => cases h
/-- isinstance among the built-in kinds -/
abbrev isB (t c : String) : Bool := t == c || (t == "bool" && c == "int")
abbrev cIsB : DC := fun ds W Q => match ds with
  | [d, .ty c] => (match tyN d W with | some t => kitB t c = some (isB t c) ∧ Q (.bl (isB t c)) W | none => False)
  | _ => False
theorem dca_isB : DCa X (rIsi X.K) cIsB := by
  intro hd vs ds W H Q Q' R r hq h
  match ds, h with
  | [d, .ty c], h =>
    obtain ⟨v, u, rfl, rv, ru⟩ := r.two
    cases ru
    cases e : tyN d W with
    | none => simp only [cIsB, e] at h
    | some t =>
      simp only [cIsB, e] at h
      exact ⟨v, _, .type t, .type c, _, rfl, .ty c, tyN_V R rv e, kit_ty h.1, hq _ _ (ql_val R (.bl _) h.2)⟩
end

/-! ### what a def promises, over data -/
abbrev DSp := List Dt → Wd → DQ → DX → Prop
def spD (K : PySem.W.Frag) (S : DSp) : Sp := fun vs H Q E => ∃ hd ds W Qd Ed, Rep K hd W H ∧ Dvs K (off hd W H) vs ds ∧ S ds W Qd Ed ∧ (∀ v H', QL K hd W H Qd v H' → Q v H') ∧
  ∀ cls d fs H' W', Stp K hd W H W' H' → ExnD K (off hd W' H') d fs → Ed cls fs W' → E cls d H'
/-- what a promise asks of the number of arguments -/
def Arity (S : DSp) (n : Nat) : Prop := ∀ ds W Q E, S ds W Q E → ds.length = n
section
variable {X : Cx} {hd : Addr → Bool} {a b c e o : Expr} {es : List Expr} {p pos apos : Pos} {ta tb tc : TX} {ts : TXs} {k : Nat} {f C : Addr} {fd : FuncData} {ps : List Str} {S : DSp} {dvs : List V} {dds : List Dt} {ds : List Value} {x m : Str}
/-- a def that keeps its promise over data -/
abbrev FnD (P : Program) (w : World) (K : PySem.W.Frag) (mg : Str → Option Value) (base : Heap) (k : Nat) (f : Addr) (fd : FuncData) (ps : List Str) (S : DSp) : Prop := FnG P w K mg base (L2.CX P w) k f fd ps (spD K S)
theorem run_fnD {Wx : WX} (tk : Takes X Wx) {σ : L2.St} {pins : List (Addr × Obj)} {H : Hp} {s : Shared} {Q : VK} {us : List Value} {vs : List V} {sp : Sp} (F : FnG X.prog X.w X.K X.mg X.base (L2.CX X.prog X.w) k f fd ps sp) (hr : RoomG k X.A) (hb : Binds X.K fd ps ds) (hd : Vals dvs ds)
    (I : Inv X pins σ H s) (r : Vals vs us) (h : sp (vs ++ dvs) H Q (WE Wx σ)) : wpAny (model X.prog X.w) X.A (call (.ref f) us) (EP X pins σ Q) X.xe s := by
  have r2 : Vals (vs ++ dvs) (us ++ ds) := r.append hd
  have hl : (us ++ ds).length = ps.length := by rw [← r2.length]; exact F.len _ _ _ _ h
  refine wpAny_call (codeAny_mono (F.run X.A X.stack s H ⟨us, []⟩ (us ++ ds) (vs ++ dvs) Q _ hr I.env0 (hb s us I.kIn hl) r2 h) fun r s' hq => ?_)
  cases r with
  | error e => exact passAt tk σ pins H s e s' I hq
  | ok fl =>
    cases fl with
    | ret u => exact I.after hq
    | next => exact False.elim hq
    | brk => exact False.elim hq
    | cont => exact False.elim hq
theorem sp_of {W : Wd} {H : Hp} {σ : L2.St} {Q : DQ} {Q' : VK} {E : DX} {Wx : WX} {vs : List V} {dvl : List Dt} (R : Rep X.K hd W H) (x : XL X.K hd W H σ E Wx) (r : Dvs X.K (off hd W H) vs dvl) (hq : ∀ v H', QL X.K hd W H Q v H' → Q' v H') (h : S dvl W Q E) : spD X.K S vs H Q' (WE Wx σ) :=
  ⟨hd, dvl, W, Q, E, R, r, h, hq, x⟩
/-- f(e, ..); dds: what the defaults hold -/
abbrev xCall (S : DSp) (dds : List Dt) (ts : TXs) : TX := fun Γ W Q E => ts Γ W (fun ds W1 => S (ds ++ dds) W1 Q E) E
theorem je_call (F : FnD X.prog X.w X.K X.mg X.base k f fd ps S) (hr : RoomG k X.A) (hg : Gl X x) (hm : X.mg x = some (.ref f)) (hk : PySem.W.keepIn X.K (.ref f) = true) (hb : Binds X.K fd ps ds) (hd : Vals dvs ds) (hdd : ∀ G, Dvs X.K G dvs dds)
    (ha : JA X (e :: es) ts) (hdb : (x == ("__debug__" : Str)) = false := by decide) (he : starEach (e :: es) X.env = (false, eval e X.env) :: starEach es X.env := by rfl) (hpl : (backTo pos (starEach es X.env)).any (·.1) = false := by rfl) :
    JE X (.Call (.Name x p) (e :: es) [] pos) (xCall S dds ts) :=
  ⟨fun Wx tk σ H Γ W Q E R G xl h pins s I => wpAny_Call_Name_kw (ld_glob I hg hm (PySem.W.callWith_K (h₀ := X.base) I.ok.mod.kin hk (thn (ha.run Wx tk σ H Γ W _ E R G xl h pos pins s I) fun us s1 ⟨vs, H1, I1, r, dl, W1, s1', r1, q⟩ =>
    ⟨I1.kIn, run_fnD tk F hr hb hd I1 r (sp_of s1'.rep (xl.step s1') (r1.append (hdd _)) (fun _ _ k => QL.step s1' k) q)⟩) he hpl) hdb)⟩
theorem je_call0 (F : FnD X.prog X.w X.K X.mg X.base k f fd ps S) (hr : RoomG k X.A) (hg : Gl X x) (hm : X.mg x = some (.ref f)) (hk : PySem.W.keepIn X.K (.ref f) = true) (hb : Binds X.K fd ps ds) (hd : Vals dvs ds) (hdd : ∀ G, Dvs X.K G dvs dds)
    (hdb : (x == ("__debug__" : Str)) = false := by decide) : JE X (.Call (.Name x p) [] [] pos) (xCall S dds xNil) :=
  ⟨fun Wx tk σ H Γ W Q E R G xl h pins s I => wpAny_Call_Name_kw (ld_glob I hg hm (PySem.W.callWith_K0 I.kIn hk (run_fnD (us := []) (vs := []) tk F hr hb hd I .nil (sp_of R xl (Dvs.nil.append (hdd _)) (fun _ _ k => k) h))) hdb)⟩
/-- an instance: frozen or mutable -/
abbrev iof (d : Dt) (W : Wd) : Option (Addr × List (Str × Dt)) := match d with
  | .ins C fs => some (C, fs)
  | .at p => (match W.m p with | some (.ins C fs) => some (C, fs) | _ => none)
  | _ => none
theorem iof_V {K : PySem.W.Frag} {W : Wd} {H : Hp} (R : Rep K hd W H) {v : V} {d : Dt} {C : Addr} {fs : List (Str × Dt)} (r : Dv K (off hd W H) v d) (h : iof d W = some (C, fs)) : ∃ p dx vs, v = .ref p ∧ H p = some (.ins C dx vs) ∧ Dvf K (off hd W H) vs fs := by
  cases d with
  | ins C' fs' =>
    cases r with
    | ins h1 t => cases h; exact ⟨_, _, _, rfl, (off_some h1).2.2.1, t⟩
  | «at» p =>
    cases r
    have h' : (match W.m p with | some (.ins C fs) => some (C, fs) | _ => none) = some (C, fs) := h
    split at h'
    · rename_i C' fs' e
      cases h'
      obtain ⟨dx, vs, e1, t⟩ := R.m p _ e
      exact ⟨_, dx, vs, rfl, e1, t⟩
    · cases h'
  | _ => cases h
/-- o.m(e, ..) of an instance of the class at C -/
abbrev xMeth (C : Addr) (m : Str) (S : DSp) (dds : List Dt) (ta : TX) (ts : TXs) : TX := fun Γ W Q E => ta Γ W (fun d W1 => match iof d W1 with
  | some (C', fs) => C' = C ∧ fs.lookup m = none ∧ ts Γ W1 (fun ds W2 => S (d :: (ds ++ dds)) W2 Q E) E
  | none => False) E
theorem je_meth {pl : Sem Bool} (he : JE X o ta) (c : Cls X.K C) (hm : Meth X.K C m f) (F : FnD X.prog X.w X.K X.mg X.base k f fd ps S) (hr : RoomG k X.A) (hb : Binds X.K fd ps ds) (hd : Vals dvs ds) (hdd : ∀ G, Dvs X.K G dvs dds) (ha : JA X (e :: es) ts)
    (hst : starEach (e :: es) X.env = (false, eval e X.env) :: starEach es X.env := by rfl) (hpl : (backTo pos (starEach es X.env)).any (·.1) = false := by rfl)
    (ht : eval (.Call (.Attribute o m apos) (e :: es) [] pos) X.env = (do
      let ov ← eval o X.env
      standAt apos.atName
      let (f, first) ← holding [ov] (getMethod ov m pl)
      callWith pos f first (backTo pos (starEach (e :: es) X.env)) (backToKw pos (keywordEach [] X.env))) := by rfl) :
    JE X (.Call (.Attribute o m apos) (e :: es) [] pos) (xMeth C m S dds ta ts) := by
  refine ⟨fun Wx tk σ H Γ W Q E R G xl h pins s I => ?_⟩
  refine PySem.W.methodCall_KW (pl := pl) (thn (he.run Wx tk σ H Γ W _ E R G xl h pins s I) fun u s1 ⟨v, H1, I1, rx, d, W1, s1', r1, q⟩ => ?_) ht
  cases hi : iof d W1 with
  | none => simp only [hi] at q
  | some z =>
    obtain ⟨C', fs⟩ := z
    simp only [hi] at q
    obtain ⟨e1, l, q⟩ := q
    subst e1
    obtain ⟨a', dx, vs, rfl, ea, t⟩ := iof_V s1'.rep r1 hi
    obtain rfl : u = Value.ref a' := rx
    refine getmeth_ok I1 ea c hm (t.lookup_none l) ?_
    refine PySem.W.callWith_K (first := [.ref a']) (h₀ := X.base) I.ok.mod.kin hm.kp (thn (ha.run Wx tk σ H1 Γ W1 _ E s1'.rep (G.mono s1'.ex) (xl.step s1') q pos pins s1 I1) fun us s2 ⟨vs2, H2, I2, r, dl, W2, s2', r2, q2⟩ => ⟨I2.kIn, ?_⟩) hst hpl
    exact run_fnD (us := .ref a' :: us) (vs := .ref a' :: vs2) tk F hr hb hd I2 (.cons rfl r) (sp_of s2'.rep (xl.step (s1'.trans s2')) (.cons (r1.mono s2'.ex) (r2.append (hdd _))) (fun _ _ k => QL.step (s1'.trans s2') k) q2)
theorem je_meth0 {pl : Sem Bool} (he : JE X o ta) (c : Cls X.K C) (hm : Meth X.K C m f) (F : FnD X.prog X.w X.K X.mg X.base k f fd ps S) (hr : RoomG k X.A) (hb : Binds X.K fd ps ds) (hd : Vals dvs ds) (hdd : ∀ G, Dvs X.K G dvs dds)
    (ht : eval (.Call (.Attribute o m apos) [] [] pos) X.env = (do
      let ov ← eval o X.env
      standAt apos.atName
      let (f, first) ← holding [ov] (getMethod ov m pl)
      callWith pos f first (backTo pos (starEach [] X.env)) (backToKw pos (keywordEach [] X.env))) := by rfl) :
    JE X (.Call (.Attribute o m apos) [] [] pos) (xMeth C m S dds ta xNil) := by
  refine ⟨fun Wx tk σ H Γ W Q E R G xl h pins s I => ?_⟩
  refine PySem.W.methodCall_KW (pl := pl) (thn (he.run Wx tk σ H Γ W _ E R G xl h pins s I) fun u s1 ⟨v, H1, I1, rx, d, W1, s1', r1, q⟩ => ?_) ht
  cases hi : iof d W1 with
  | none => simp only [hi] at q
  | some z =>
    obtain ⟨C', fs⟩ := z
    simp only [hi] at q
    obtain ⟨e1, l, q⟩ := q
    subst e1
    obtain ⟨a', dx, vs, rfl, ea, t⟩ := iof_V s1'.rep r1 hi
    obtain rfl : u = Value.ref a' := rx
    refine getmeth_ok I1 ea c hm (t.lookup_none l) ?_
    exact PySem.W.callWith_K0 (first := [.ref a']) I1.kIn hm.kp (run_fnD (us := [.ref a']) (vs := [.ref a']) tk F hr hb hd I1 (.cons rfl .nil) (sp_of s1'.rep (xl.step s1') (.cons r1 (Dvs.nil.append (hdd _))) (fun _ _ k => QL.step s1' k) q))
/-- e.f, a field; okC: the classes whose instances these may be -/
abbrev xFld (okC : Addr → Prop) (f : Str) (ta : TX) : TX := fun Γ W Q E => ta Γ W (fun d W1 => match iof d W1 with
  | some (C, fs) => okC C ∧ (match fs.lookup f with | some y => Q y W1 | none => False)
  | none => False) E
theorem je_fld {okC : Addr → Prop} {f : Str} (hc : ∀ C, okC C → Cls X.K C ∧ NoAttr X.K C f) (he : JE X e ta) (hb : attributeBase e f X.env (eval e X.env) = eval e X.env := by rfl) : JE X (.Attribute e f pos) (xFld okC f ta) := by
  refine ⟨fun Wx tk σ H Γ W Q E R G xl h => toE (pe_fld semE hb) (monoE (he.run Wx tk σ H Γ W _ E R G xl h) fun v H1 ⟨d, W1, s1, r1, q⟩ => ?_)⟩
  cases hi : iof d W1 with
  | none => simp only [hi] at q
  | some z =>
    obtain ⟨C, fs⟩ := z
    simp only [hi] at q
    obtain ⟨ok, q⟩ := q
    obtain ⟨a', dx, vs, rfl, ea, t⟩ := iof_V s1.rep r1 hi
    cases hl : fs.lookup f with
    | none => simp only [hl] at q
    | some y =>
      simp only [hl] at q
      obtain ⟨u, hu, ru⟩ := t.lookup hl
      exact ⟨a', C, dx, vs, u, rfl, ea, (hc C ok).1, (hc C ok).2, hu, QL.step s1 (ql_val s1.rep ru q)⟩
/-- o.f = e, o mutable -/
abbrev xSetF (okC : Addr → Prop) (f : Str) (ta tv : TX) : TXS := fun D Γ W => tv Γ W (fun y W1 => ta Γ W1 (fun d W2 => match d with
  | .at p => (match W2.m p with | some (.ins C fs) => okC C ∧ fs.length < 1000 ∧ D.nx Γ (W2.put p (.ins C (putD f y fs))) | _ => False)
  | _ => False) (D.ex Γ)) (D.ex Γ)
theorem Dvf.put {K : PySem.W.Frag} {G : Hp} {f : Str} {x : V} {y : Dt} (r : Dv K G x y) : ∀ {v : List (Str × V)} {d : List (Str × Dt)}, Dvf K G v d → Dvf K G (putF f x v) (putD f y d)
  | _, _, .nil => .cons r .nil
  | (g, w) :: v, (_, z) :: d, .cons h t => by
    show Dvf K G (if g = f then (g, x) :: v else (g, w) :: putF f x v) (if g = f then (g, y) :: d else (g, z) :: putD f y d)
    split
    · exact .cons r t
    · exact .cons h (Dvf.put r t)
theorem js_setF {okC : Addr → Prop} {f : Str} {pos' : Pos} (hc : ∀ C, okC C → Cls X.K C ∧ NoAttr X.K C f) (ho : JE X o ta) (hv : JE X e tb) (hs : swapsWith e (some (.Attribute o f pos')) pos.line X.env = pure false := by rfl) : JS X (.Assign [.Attribute o f pos'] e pos) (xSetF okC f ta tb) := by
  refine ⟨@fun hd Wx tk σ H Γ W D R G x h => toS (ps_fld semE semE hs) (monoE (hv.run Wx tk σ H Γ W _ _ R G (x.xl G) h) fun y H1 ⟨dy, W1, s1, r1, q1⟩ =>
    monoE (ho.run Wx tk σ H1 Γ W1 _ _ s1.rep (G.mono s1.ex) ((x.xl G).step s1) q1) fun v H2 ⟨d, W2, s2, r2, q2⟩ => ?_)⟩
  cases d with
  | «at» q =>
    cases r2
    cases e : W2.m q with
    | none => simp only [e] at q2
    | some mo =>
      cases mo with
      | lst _ => simp only [e] at q2
      | ins C fs =>
        simp only [e] at q2
        obtain ⟨ok, hl, q2⟩ := q2
        obtain ⟨dx, vs, e1, t⟩ := s2.rep.m q _ e
        have r1' := r1.mono s2.ex
        have st : Stp X.K hd W2 H2 (W2.put q (.ins C (putD f dy fs))) (upd H2 q (.ins C dx (putF f y vs))) := ⟨s2.rep.put e ⟨dx, _, rfl, t.put r1'⟩, by rw [off_put e]; exact Ex.refl, fun b o hb hh => by rw [upd_ne (fun z => by subst z; rw [s2.rep.hd_m e] at hb; cases hb)]; exact hh⟩
        have st' := (s1.trans s2).trans st
        exact ⟨q, C, dx, vs, rfl, e1, (hc C ok).1, (hc C ok).2, by rw [t.length]; exact hl, Γ, _, st', G.mono st'.ex, q2⟩
  | _ => exact q2.elim
/-- a property read: the getter raises nothing -/
abbrev xProp (C : Addr) (S : DSp) (ta : TX) : TX := fun Γ W Q E => ta Γ W (fun d W1 => match iof d W1 with
  | some (C', _) => C' = C ∧ S [d] W1 Q (fun _ _ _ => False)
  | none => False) E
theorem je_prop {g q : Addr} {f : Str} (he : JE X e ta) (c : Cls X.K C) (hp : PropOf X.K C f q g) (F : FnD X.prog X.w X.K X.mg X.base k g fd ps S) (hr : RoomG (k + 1) X.A) (hb : Binds X.K fd ps [])
    (ht : attributeBase e f X.env (eval e X.env) = eval e X.env := by rfl) : JE X (.Attribute e f pos) (xProp C S ta) := by
  refine ⟨fun Wx tk σ H Γ W Q E R G xl h pins s I => attr_of ht (thn (he.run Wx tk σ H Γ W _ E R G xl h pins s I) fun u s1 ⟨v, H1, I1, rx, d, W1, s1', r1, q'⟩ => ?_)⟩
  cases hi : iof d W1 with
  | none => simp only [hi] at q'
  | some z =>
    obtain ⟨C', fs⟩ := z
    simp only [hi] at q'
    obtain ⟨e1, q'⟩ := q'
    subst e1
    obtain ⟨a', dx, vs, rfl, ea, t⟩ := iof_V s1'.rep r1 hi
    obtain rfl : u = Value.ref a' := rx
    refine getpropG (E := fun _ _ _ => False) I1 ea c hp F hr hb .nil ?_ ⟨_, [d], W1, Q, _, s1'.rep, .cons r1 .nil, q', fun _ _ k => QL.step s1' k, fun _ _ _ _ _ _ _ z => z⟩
    exact fun pins σ H s e s' I c => False.elim (by
      obtain ⟨_, _, _, _, _, _, _, _, _, _, _, _, z⟩ := c
      exact z)

/-! ### the rule for a def -/
def startD (N : List Str) (ds : List Dt) : Sl := ds.map some ++ List.replicate (N.length - ds.length) none
theorem env_start {K : PySem.W.Frag} {G : Hp} {N : List Str} {vs : List V} {ds : List Dt} (r : Dvs K G vs ds) : EnvD K G (L2.start N vs) (startD N ds) := by
  refine ⟨by simp [startD, L2.start, r.length], fun i d h => ?_⟩
  unfold startD at h
  by_cases hi : i < ds.length
  · rw [List.getElem?_append_left (by simpa using hi), List.getElem?_map] at h
    cases e : ds[i]? with
    | none => rw [e] at h; cases h
    | some d' =>
      rw [e] at h
      have h' : some d' = some d := by simpa using h
      cases h'
      obtain ⟨v, h1, h2⟩ := r.get e
      refine ⟨v, ?_, h2⟩
      unfold L2.start
      rw [List.getElem?_append_left (by rw [List.length_map, r.length]; exact hi), List.getElem?_map, h1]; rfl
  · rw [List.getElem?_append_right (by simpa using hi), List.getElem?_replicate] at h
    split at h <;> cases h
end
section
variable {P : Program} {w : World} {K : PySem.W.Frag} {mg : Str → Option Value} {base : Heap}
/-- the context of a def's body -/
abbrev cxD (P : Program) (w : World) (K : PySem.W.Frag) (mg : Str → Option Value) (base : Heap) (N : List Str) (qual : Str) (sc : Scope) (f : Addr) (cdv : Value) (A : Around) (outer : List Env) (s : Shared) (H : Hp) (E : XK) : Cx := cxOf (L2.CX P w) P w K mg base N qual sc f cdv A outer s H E
theorem fnD {x qual : Str} {st : Stmt} {f : Addr} {fd : FuncData} {N ps : List Str} {k : Nat} {S : DSp} (F : Fun K x qual st f fd) (Sc : FnScope N ps (defScope st)) (ar : Arity S ps.length) {t : TXS}
    (hb : ∀ (cdv : Value) (A : Around) (outer : List Env) (s : Shared) (H : Hp) (E : XK), RoomG k (A.deeper (PyProof.Rows.envOfC qual (defScope st) s.heap.objs.size f cdv)) → JB (cxD P w K mg base N qual (defScope st) f cdv A outer s H E) (defBody st) t)
    (hs : ∀ ds W Q E, S ds W Q E → t { nx := fun _ W' => Q .non W', rt := Q, ex := fun _ => E } (startD N ds) W) : FnD P w K mg base (k + 1) f fd ps S := by
  refine F.okG Sc (fun vs H Q E h => ?_) fun cdv A outer s H vs Q E hr h => ?_
  · obtain ⟨hd, ds, W, Qd, Ed, R, r, hS, _⟩ := h
    rw [r.length]; exact ar _ _ _ _ hS
  · obtain ⟨hd, ds, W, Qd, Ed, R, r, hS, hq, hx⟩ := h
    refine ⟨wpB _ _, semB, ?_⟩
    have tk : Takes (cxD P w K mg base N qual (defScope st) f cdv A outer s H E) (fun cls d _ H => E cls d H) := takes_of rfl rfl rfl rfl
    refine monoB ((hb cdv A outer s H E hr).run _ tk (L2.start N vs) H (startD N ds) W _ R (env_start r) (fun cls d fs σ' Γ' H' W' s1 _ xn he => hx cls d fs H' W' s1 xn he) (hs ds W Qd Ed hS)) ⟨fun σ' H' ⟨Γ', W', s1, _, q⟩ => hq _ _ ⟨.non, W', s1, .non, q⟩, fun v H' q => hq v H' q, fun σ' H' ⟨_, _, _, _, q⟩ => q.elim, fun σ' H' ⟨_, _, _, _, q⟩ => q.elim⟩
end
end DL

set_option Elab.async false
set_option linter.all false
set_option maxRecDepth 100000
set_option maxHeartbeats 4000000
/-! DL4: what is walked, for, while, comprehensions. -/
namespace DL
open PySem L2
/-- the iterator draws ds, while stay holds of the world -/
structure Draws (K : PySem.W.Frag) (hd : Addr → Bool) (J : It) (ds : List Dt) (stay : Wd → Prop) (W1 : Wd) (H1 : Hp) : Prop where
  go : ∀ (hd' : Addr → Bool) i d W H, (∀ b, hd b = true → hd' b = true) → Rep K hd' W H → Ex (off hd W1 H1) (off hd' W H) → stay W → ds[i]? = some d → J.go i H ∧ ∀ x H2, J.yld i H x H2 → Stp K hd' W H W H2 ∧ Dv K (off hd' W H2) x d
  stop : ∀ (hd' : Addr → Bool) W H, (∀ b, hd b = true → hd' b = true) → Rep K hd' W H → Ex (off hd W1 H1) (off hd' W H) → stay W → J.stop ds.length H
abbrev TXI := Sl → Wd → (List Dt → (Wd → Prop) → Wd → Prop) → DX → Prop
def QiL (K : PySem.W.Frag) (hd : Addr → Bool) (W : Wd) (H : Hp) (Q : List Dt → (Wd → Prop) → Wd → Prop) : It → Hp → Prop := fun J H' => ∃ ds stay W', Stp K hd W H W' H' ∧ Draws K hd J ds stay W' H' ∧ Q ds stay W'
def wpI (X : Cx) (tg iter : Expr) : TI := fun σ H R => ∀ pins s, Inv X pins σ H s → wpAny (model X.prog X.w) X.A (eval iter X.env) (fun v s1 => wpAny (model X.prog X.w) X.A (pyIter v) (PIE X pins σ tg R) X.xe s1) X.xe s
section
variable {X : Cx} {hd : Addr → Bool} {tg iter : Expr}
theorem semI : PI X tg iter (wpI X tg iter) := ⟨fun pins s σ H R I h => h pins s I⟩
theorem toI {t : TI} (p : PI X tg iter t) {σ : L2.St} {H : Hp} {R : It → Hp → Prop} (h : t σ H R) : wpI X tg iter σ H R := fun pins s I => p.run pins s σ H R I h
theorem monoI {σ : L2.St} {H : Hp} {R R' : It → Hp → Prop} (h : wpI X tg iter σ H R) (q : ∀ v H', R v H' → R' v H') : wpI X tg iter σ H R' := fun pins s I => thn (h pins s I) fun v s1 h1 => thn h1 fun itv s2 ⟨it, fp, tn, J, H', a, b, c, d, e, r⟩ => ⟨it, fp, tn, J, H', a, b, c, d, e, q _ _ r⟩
structure JI (X : Cx) (tg iter : Expr) (t : TXI) : Prop where
  run : ∀ {hd : Addr → Bool} (Wx : WX), Takes X Wx → ∀ (σ : L2.St) (H : Hp) (Γ : Sl) (W : Wd) (Q : List Dt → (Wd → Prop) → Wd → Prop) (E : DX), Rep X.K hd W H → EnvD X.K (off hd W H) σ Γ → XL X.K hd W H σ E Wx → t Γ W Q E → wpI X tg iter σ H (QiL X.K hd W H Q)
variable {ta tb : TX} {ts : TXs}
/-- a list, frozen or mutable (that stays) -/
abbrev iL (ta : TX) : TXI := fun Γ W Q E => ta Γ W (fun d W1 => match d with
  | .lst ds => Q ds (fun _ => True) W1
  | .at p => (match W1.m p with | some (.lst ds) => Q ds (fun W2 => W2.m p = some (.lst ds)) W1 | _ => False)
  | _ => False) E
theorem draws_L {K : PySem.W.Frag} {W : Wd} {H : Hp} {a : Addr} {vs : List V} {ds : List Dt} (h : SqL K (off hd W H) a vs) (t : Dvs K (off hd W H) vs ds) : Draws K hd (Itl K a) ds (fun _ => True) W H := by
  refine ⟨fun hd' i d W2 H2 hh R ex _ e => ?_, fun hd' W2 H2 hh R ex _ => ?_⟩
  · obtain ⟨v, hv, rv⟩ := t.get e
    have h2 := sql_off (sql_mono ex h)
    exact ⟨⟨vs, v, h2, hv⟩, fun x H3 ⟨e3, y⟩ => by
      subst e3
      have e4 := y vs h2
      rw [hv] at e4
      cases e4
      exact ⟨.refl R, rv.mono ex⟩⟩
  · exact ⟨vs, sql_off (sql_mono ex h), by rw [t.length]; exact Nat.le_refl _⟩
theorem draws_at {K : PySem.W.Frag} {W : Wd} {H : Hp} {p : Addr} {ds : List Dt} : Draws K hd (Itl K p) ds (fun W2 => W2.m p = some (.lst ds)) W H := by
  refine ⟨fun hd' i d W2 H2 hh R ex st e => ?_, fun hd' W2 H2 hh R ex st => ?_⟩
  · obtain ⟨vs, e1, t⟩ := R.m p _ st
    obtain ⟨v, hv, rv⟩ := t.get e
    exact ⟨⟨vs, v, SqL.of e1, hv⟩, fun x H3 ⟨e3, y⟩ => by
      subst e3
      have e4 := y vs (SqL.of e1)
      rw [hv] at e4
      cases e4
      exact ⟨.refl R, rv⟩⟩
  · obtain ⟨vs, e1, t⟩ := R.m p _ st
    exact ⟨vs, SqL.of e1, by rw [t.length]; exact Nat.le_refl _⟩
theorem ji_list (ha : JE X iter ta) : JI X tg iter (iL ta) := by
  refine ⟨fun Wx tk σ H Γ W Q E R G xl h => toI (pi_list semE) (monoE (ha.run Wx tk σ H Γ W _ E R G xl h) fun v H1 ⟨d, W1, s1, r1, q⟩ => ?_)⟩
  cases d with
  | lst ds =>
    cases r1 with
    | lst h1 t => exact ⟨_, rfl, ⟨_, sql_off h1⟩, ds, _, W1, s1, draws_L h1 t, q⟩
  | «at» p =>
    cases r1
    cases e : W1.m p with
    | none => simp only [e] at q
    | some mo =>
      cases mo with
      | ins _ _ => simp only [e] at q
      | lst ds =>
        simp only [e] at q
        obtain ⟨vs, e1, t⟩ := s1.rep.m p _ e
        exact ⟨p, rfl, ⟨vs, SqL.of e1⟩, ds, _, W1, s1, draws_at, q⟩
  | _ => exact q.elim
/-- a tuple -/
abbrev iT (ta : TX) : TXI := fun Γ W Q E => ta Γ W (fun d W1 => match d with
  | .tup ds => Q ds (fun _ => True) W1
  | _ => False) E
theorem draws_T {K : PySem.W.Frag} {W : Wd} {H : Hp} {a : Addr} {vs : List V} {ds : List Dt} (h : SqT K (off hd W H) a vs) (t : Dvs K (off hd W H) vs ds) : Draws K hd (Itt K a) ds (fun _ => True) W H := by
  refine ⟨fun hd' i d W2 H2 hh R ex _ e => ?_, fun hd' W2 H2 hh R ex _ => ?_⟩
  · obtain ⟨v, hv, rv⟩ := t.get e
    have h2 := sqt_off (sqt_mono ex h)
    exact ⟨⟨vs, v, h2, hv⟩, fun x H3 ⟨e3, y⟩ => by
      subst e3
      have e4 := y vs h2
      rw [hv] at e4
      cases e4
      exact ⟨.refl R, rv.mono ex⟩⟩
  · exact ⟨vs, sqt_off (sqt_mono ex h), by rw [t.length]; exact Nat.le_refl _⟩
theorem ji_tup (ha : JE X iter ta) : JI X tg iter (iT ta) := by
  refine ⟨fun Wx tk σ H Γ W Q E R G xl h => toI (pi_tup semE) (monoE (ha.run Wx tk σ H Γ W _ E R G xl h) fun v H1 ⟨d, W1, s1, r1, q⟩ => ?_)⟩
  cases d with
  | tup ds =>
    cases r1 with
    | tup h1 t => exact ⟨_, rfl, ⟨_, sqt_off h1⟩, ds, _, W1, s1, draws_T h1 t, q⟩
  | _ => exact q.elim
/-- range(n), range(a, b) -/
abbrev rangeD (lo : Int) (n : Nat) : List Dt := (List.range n).map fun (i : Nat) => Dt.int (lo + (i : Int))
theorem draws_R {K : PySem.W.Frag} {W : Wd} {H : Hp} {lo : Int} {n : Nat} : Draws K hd (Itr lo n) (rangeD lo n) (fun _ => True) W H := by
  refine ⟨fun hd' i d W2 H2 hh R ex _ e => ?_, fun hd' W2 H2 hh R ex _ => ?_⟩
  · have hi : i < n := by
      have := (List.getElem?_eq_some_iff.mp e).1
      simpa using this
    have ed : d = .int (lo + (i : Int)) := by
      simp only [List.getElem?_map, List.getElem?_range hi, Option.map_some, Option.some.injEq] at e
      exact e.symm
    subst ed
    exact ⟨hi, fun x H3 ⟨e3, y⟩ => by
      subst e3 y
      exact ⟨.refl R, .int _⟩⟩
  · show n ≤ (rangeD lo n).length
    simp
abbrev iR1 (ts : TXs) : TXI := fun Γ W Q E => ts Γ W (fun ds W1 => match ds with
  | [.int j] => (-(2 ^ 62) ≤ j ∧ j < 2 ^ 62) ∧ Q (rangeD 0 j.toNat) (fun _ => True) W1
  | _ => False) E
abbrev iR2 (ts : TXs) : TXI := fun Γ W Q E => ts Γ W (fun ds W1 => match ds with
  | [.int i, .int j] => (-(2 ^ 62) ≤ i ∧ i < 2 ^ 62 ∧ -(2 ^ 62) ≤ j ∧ j < 2 ^ 62) ∧ Q (rangeD i (j - i).toNat) (fun _ => True) W1
  | _ => False) E
theorem ji_range1 {a : Expr} {p pos : Pos} (hg : Gl X "range") (hm : X.mg "range" = none) (ha : JA X [a] ts) (hs : starEach [a] X.env = [(false, eval a X.env)] := by rfl) : JI X tg (.Call (.Name "range" p) [a] [] pos) (iR1 ts) := by
  refine ⟨fun Wx tk σ H Γ W Q E R G xl h => toI (pi_range1 hg hm semA hs) (monoA (ha.run Wx tk σ H Γ W _ E R G xl h) fun vs H1 ⟨ds, W1, s1, r1, q⟩ => ?_)⟩
  match ds, q with
  | [.int j], q =>
    obtain ⟨v, rfl, rv⟩ := r1.one
    cases rv
    exact ⟨j, rfl, q.1.1, q.1.2, rangeD 0 j.toNat, _, W1, s1, draws_R, q.2⟩
theorem ji_range2 {a b : Expr} {p pos : Pos} (hg : Gl X "range") (hm : X.mg "range" = none) (ha : JA X [a, b] ts) (hs : starEach [a, b] X.env = [(false, eval a X.env), (false, eval b X.env)] := by rfl) (hs2 : starEach [b] X.env = [(false, eval b X.env)] := by rfl) : JI X tg (.Call (.Name "range" p) [a, b] [] pos) (iR2 ts) := by
  refine ⟨fun Wx tk σ H Γ W Q E R G xl h => toI (pi_range2 hg hm semA hs hs2) (monoA (ha.run Wx tk σ H Γ W _ E R G xl h) fun vs H1 ⟨ds, W1, s1, r1, q⟩ => ?_)⟩
  match ds, q with
  | [.int i, .int j], q =>
    obtain ⟨v, u, rfl, rv, ru⟩ := r1.two
    cases rv; cases ru
    exact ⟨i, j, rfl, q.1, rangeD i (j - i).toNat, _, W1, s1, draws_R, q.2⟩

/-! ### for -/
/-- the loop from here on -/
def forL (stay : Wd → Prop) (g : TXG) (tb : TXS) (D : DEnds) : List Dt → Sl → Wd → Prop
  | [], Γ, W => stay W ∧ D.nx Γ W
  | x :: r, Γ, W => stay W ∧ g x Γ W fun Γ' W' => tb { nx := forL stay g tb D r, rt := D.rt, bk := D.nx, ct := forL stay g tb D r, ex := D.ex } Γ' W'
abbrev xFor (ti : TXI) (g : TXG) (tb : TXS) : TXS := fun D Γ W => ti Γ W (fun ds stay W1 => forL stay g tb D ds Γ W1) (D.ex Γ)
theorem drop_of {α : Type} {xs : List α} {i : Nat} {x : α} (h : xs[i]? = some x) : xs.drop i = x :: xs.drop (i + 1) := by
  obtain ⟨hl, e⟩ := List.getElem?_eq_some_iff.mp h
  rw [List.drop_eq_getElem_cons hl, e]
theorem js_for {body : List Stmt} {pos : Pos} {ti : TXI} {g : TXG} {tB : TXS} (hp : PassesOwn (model X.prog X.w) X.A X.env X.xe) (hc : X.calm = true) (hi : JI X tg iter ti) (hg : JG X tg g) (hb : JB X body tB)
    (hs : ∀ x, foldedSetIterable iter X.env x = pure x := by intro _; rfl) : JS X (.For tg iter body [] pos) (xFor ti g tB) := by
  refine ⟨@fun hd Wx tk σ H Γ W D R G x h => toS (ps_for hp hc semI semG semB hs) (monoI (hi.run Wx tk σ H Γ W _ _ R G (x.xl G) h) fun J H1 ⟨ds, stay, W1, s1, dr, q⟩ => ?_)⟩
  refine ⟨fun i m σ' H' => m = ds.length - i ∧ i ≤ ds.length ∧ ∃ Γ' W', Stp X.K hd W1 H1 W' H' ∧ EnvD X.K (off hd W' H') σ' Γ' ∧ forL stay g tB D (ds.drop i) Γ' W', ⟨ds.length, rfl, Nat.zero_le _, Γ, W1, .refl s1.rep, G.mono s1.ex, q⟩, ?_⟩
  rintro i m σ' H' ⟨rfl, hi, Γ', W', s2, G', q'⟩
  by_cases hlt : i < ds.length
  · have he : ds[i]? = some ds[i] := List.getElem?_eq_getElem hlt
    rw [drop_of he] at q'
    obtain ⟨st, q'⟩ : stay W' ∧ g ds[i] Γ' W' fun Γ2 W2 => tB { nx := forL stay g tB D (ds.drop (i + 1)), rt := D.rt, bk := D.nx, ct := forL stay g tB D (ds.drop (i + 1)), ex := D.ex } Γ2 W2 := q'
    obtain ⟨g1, g2⟩ := dr.go hd i _ W' H' (fun _ h => h) s2.rep s2.ex st he
    refine .inr ⟨g1, fun σ3 H3 => ∃ Γ3 W3, Stp X.K hd W1 H1 W3 H3 ∧ EnvD X.K (off hd W3 H3) σ3 Γ3 ∧ forL stay g tB D (ds.drop (i + 1)) Γ3 W3, fun σ3 H3 ⟨Γ3, W3, a, b, c⟩ => ⟨ds.length - (i + 1), by omega, rfl, hlt, Γ3, W3, a, b, c⟩, fun v H2 y => ?_⟩
    obtain ⟨s3, rv⟩ := g2 v H2 y
    have s23 := s2.trans s3
    refine monoG (hg.run σ' H2 Γ' W' _ v _ s3.rep (G'.mono s3.ex) rv q') fun σ4 H4 ⟨Γ4, W4, s4, G4, q4⟩ => ?_
    have s24 := s23.trans s4
    have s04 := s1.trans s24
    exact monoB (hb.run Wx tk σ4 H4 Γ4 W4 { nx := forL stay g tB D (ds.drop (i + 1)), rt := D.rt, bk := D.nx, ct := forL stay g tB D (ds.drop (i + 1)), ex := D.ex } s4.rep G4 (x.step s04) q4) ⟨fun σ5 H5 ⟨Γ5, W5, s5, G5, q5⟩ => ⟨Γ5, W5, s24.trans s5, G5, q5⟩, fun v5 H5 q5 => QL.step s04 q5, fun σ5 H5 q5 => NL.step s04 q5, fun σ5 H5 ⟨Γ5, W5, s5, G5, q5⟩ => ⟨Γ5, W5, s24.trans s5, G5, q5⟩⟩
  · have e : i = ds.length := by omega
    subst e
    rw [List.drop_length] at q'
    obtain ⟨st, q'⟩ : stay W' ∧ D.nx Γ' W' := q'
    exact .inl ⟨dr.stop hd W' H' (fun _ h => h) s2.rep s2.ex st, Γ', W', s1.trans s2, G', q'⟩

/-! ### while: by fuel -/
def whileN (tt : TXb) (tb : TXS) (D : DEnds) : Nat → Sl → Wd → Prop
  | 0, _, _ => False
  | n + 1, Γ, W => tt Γ W (fun b W1 => if b = true then tb { nx := whileN tt tb D n, rt := D.rt, bk := D.nx, ct := whileN tt tb D n, ex := D.ex } Γ W1 else D.nx Γ W1) (D.ex Γ)
abbrev xWhile (tt : TXb) (tb : TXS) : TXS := fun D Γ W => ∃ n, whileN tt tb D n Γ W
theorem js_while {c : Expr} {body : List Stmt} {pos : Pos} {tt : TXb} {tB : TXS} (hp : PassesOwn (model X.prog X.w) X.A X.env X.xe) (hc : JT X c tt) (hb : JB X body tB) : JS X (.While c body [] pos) (xWhile tt tB) := by
  refine ⟨@fun hd Wx tk σ H Γ W D R G x ⟨n, h⟩ => toS (ps_while hp semT semB) ?_⟩
  refine ⟨fun m σ' H' => ∃ Γ' W', Stp X.K hd W H W' H' ∧ EnvD X.K (off hd W' H') σ' Γ' ∧ whileN tt tB D m Γ' W', ⟨n, Γ, W, .refl R, G, h⟩, ?_⟩
  rintro m σ' H' ⟨Γ', W', s1, G1, q⟩
  cases m with
  | zero => exact q.elim
  | succ m =>
    refine monoT (hc.run Wx tk σ' H' Γ' W' _ _ s1.rep G1 ((x.step s1).xl G1) q) fun b H2 ⟨W2, s2, q2⟩ => ?_
    have s12 := s1.trans s2
    cases b with
    | true =>
      refine ⟨fun σ3 H3 => ∃ Γ3 W3, Stp X.K hd W H W3 H3 ∧ EnvD X.K (off hd W3 H3) σ3 Γ3 ∧ whileN tt tB D m Γ3 W3, fun σ3 H3 h3 => ⟨m, Nat.lt_succ_self m, h3⟩, ?_⟩
      exact monoB (hb.run Wx tk σ' H2 Γ' W2 { nx := whileN tt tB D m, rt := D.rt, bk := D.nx, ct := whileN tt tB D m, ex := D.ex } s2.rep (G1.mono s2.ex) (x.step s12) q2) ⟨fun σ5 H5 ⟨Γ5, W5, s5, G5, q5⟩ => ⟨Γ5, W5, s12.trans s5, G5, q5⟩, fun v5 H5 q5 => QL.step s12 q5, fun σ5 H5 q5 => NL.step s12 q5, fun σ5 H5 ⟨Γ5, W5, s5, G5, q5⟩ => ⟨Γ5, W5, s12.trans s5, G5, q5⟩⟩
    | false => exact ⟨Γ', W2, s12, G1.mono s2.ex, q2⟩
end

/-! ### targets that store names alone -/
structure JGw (X : Cx) (tg : Expr) (own : List Nat) (t : TXG) : Prop where
  run : ∀ {hd : Addr → Bool} (σ : L2.St) (H : Hp) (Γ : Sl) (W : Wd) (Q : Sl → Wd → Prop) (v : V) (d : Dt), Rep X.K hd W H → EnvD X.K (off hd W H) σ Γ → Dv X.K (off hd W H) v d → t d Γ W Q → wpG X tg v σ H (fun σ' H' => wipe σ' own = wipe σ own ∧ NL X.K hd W H Q σ' H')
structure JGsw (X : Cx) (ts : List Expr) (own : List Nat) (t : TXGs) : Prop where
  run : ∀ {hd : Addr → Bool} (σ : L2.St) (H : Hp) (Γ : Sl) (W : Wd) (Q : Sl → Wd → Prop) (vs : List V) (ds : List Dt), Rep X.K hd W H → EnvD X.K (off hd W H) σ Γ → Dvs X.K (off hd W H) vs ds → t ds Γ W Q → wpGs X ts vs σ H (fun σ' H' => wipe σ' own = wipe σ own ∧ NL X.K hd W H Q σ' H')
theorem wipe_get (σ : L2.St) (j : Nat) : ∀ vs : List Nat, (wipe σ vs)[j]? = if j ∈ vs then (if j < σ.length then some none else none) else σ[j]?
  | [] => by simp [wipe]
  | v :: vs => by
    show ((wipe σ vs).set v none)[j]? = _
    rw [List.getElem?_set, wipe_length, wipe_get σ j vs]
    by_cases h : v = j
    · subst h
      by_cases hl : v < σ.length <;> simp [hl]
    · have h' : ¬ j = v := fun e => h e.symm
      simp [h, h']
theorem wipe_set {σ : L2.St} {own : List Nat} {i : Nat} {v : V} (h : i ∈ own) : wipe (σ.set i (some v)) own = wipe σ own := by
  apply List.ext_getElem?
  intro j
  rw [wipe_get, wipe_get, List.length_set]
  by_cases hj : j ∈ own
  · rw [if_pos hj, if_pos hj]
  · rw [if_neg hj, if_neg hj]
    have n : i ≠ j := fun e => hj (e ▸ h)
    rw [List.getElem?_set_ne n]
section
variable {X : Cx} {tg : Expr} {own : List Nat} {es : List Expr} {e : Expr} {pos : Pos} {g : TXG} {gs : TXGs}
theorem JGw.jg (h : JGw X tg own g) : JG X tg g := ⟨fun σ H Γ W Q v d R G r q => monoG (h.run σ H Γ W Q v d R G r q) fun _ _ k => k.2⟩
theorem jgw_name {i : Nat} {x : Str} (hN : X.N.Nodup) (hi : X.N[i]? = some x) (hx : Loc X.env.scope x) (ho : i ∈ own) (hf : X.fn x = true ∨ X.env.scope.names.lookup x = some .local := by first | exact .inl rfl | exact .inr rfl | assumption) : JGw X (.Name x pos) own (gSet i) :=
  ⟨fun σ H Γ W Q v d R G r h => toG (pg_name hN hi hx hf) ⟨wipe_set ho, Γ.set i (some d), W, .refl R, G.set r, h⟩⟩
theorem jgsw_nil : JGsw X [] own gsNil := ⟨fun σ H Γ W Q vs ds R G r h => by
  cases r with
  | nil => exact toGs pgs_nil ⟨rfl, rfl, Γ, W, .refl R, G, h⟩
  | cons _ _ => exact h.elim⟩
theorem jgsw_cons (h1 : JGw X e own g) (h2 : JGsw X es own gs) (hs : (assignEach (e :: es) X.env).map (·.2) = assign e X.env :: (assignEach es X.env).map (·.2) := by rfl) : JGsw X (e :: es) own (gsCons g gs) := ⟨fun σ H Γ W Q vs ds R G r h => by
  cases r with
  | nil => exact h.elim
  | cons r1 r2 =>
    refine toGs (pgs_cons semG semGs hs) ⟨_, _, rfl, monoG (h1.run σ H Γ W _ _ _ R G r1 h) fun σ1 H1 ⟨w1, Γ1, W1, s1, G1, q1⟩ => ?_⟩
    exact monoGs (h2.run σ1 H1 Γ1 W1 _ _ _ s1.rep G1 (r2.mono s1.ex) q1) fun σ2 H2 ⟨w2, q2⟩ => ⟨w2.trans w1, NL.step s1 q2⟩⟩
/-- (a, b, ..) = a tuple of that length -/
abbrev gTupD (n : Nat) (gs : TXGs) : TXG := fun d Γ W Q => match d with
  | .tup ds => ds.length = n ∧ gs ds Γ W Q
  | _ => False
theorem jgw_tup {k n : Nat} (hc : X.calm = true) (h : JGsw X es own gs) (hn : (assignEach es X.env).length = n := by rfl) (hst : (assignEach es X.env).findIdx? (·.1) = none := by rfl) : JGw X (.Tuple es k pos) own (gTupD n gs) := ⟨fun σ H Γ W Q v d R G r q => by
  cases d with
  | tup ds =>
    obtain ⟨p, vs, rfl, h1, h1', t⟩ := tof_V r rfl
    exact toG (pg_tup hc semGs hn hst) ⟨p, vs, rfl, h1, by rw [t.length]; exact q.1, h.run σ H Γ W Q vs ds R G t q.2⟩
  | _ => exact q.elim⟩
end

/-! ### comprehensions -/
abbrev E0D : DX := fun _ _ _ => False
def wipeD (Γ : Sl) : List Nat → Sl
  | [] => Γ
  | v :: vs => (wipeD Γ vs).set v none
theorem EnvD.wipe {K : PySem.W.Frag} {G : Hp} {σ : L2.St} {Γ : Sl} (E : EnvD K G σ Γ) : ∀ vs : List Nat, EnvD K G (L2.wipe σ vs) (wipeD Γ vs)
  | [] => E
  | v :: vs => by
    have ih := E.wipe vs
    refine ⟨by simp [wipeD, L2.wipe, ih.len], fun i d h => ?_⟩
    have h' : ((wipeD Γ vs).set v none)[i]? = some (some d) := h
    by_cases n : v = i
    · subst n
      rw [List.getElem?_set] at h'
      simp only [if_true] at h'
      split at h' <;> cases h'
    · rw [List.getElem?_set_ne n] at h'
      obtain ⟨u, h1, h2⟩ := ih.get i d h'
      refine ⟨u, ?_, h2⟩
      show ((L2.wipe σ vs).set v none)[i]? = _
      rw [List.getElem?_set_ne n]; exact h1
def lcL (stay : Wd → Prop) (g : TXG) (tt : TXb) (te : TX) (Γ : Sl) (Q : List Dt → Wd → Prop) : List Dt → List Dt → Wd → Prop
  | [], acc, W => stay W ∧ Q acc W
  | x :: r, acc, W => stay W ∧ g x Γ W fun Γ2 W2 => tt Γ2 W2 (fun b W3 => if b = true then te Γ2 W3 (fun y W4 => acc.length < sizeLine ∧ lcL stay g tt te Γ Q r (acc ++ [y]) W4) E0D else lcL stay g tt te Γ Q r acc W3) E0D
abbrev xLc (ti : TXI) (g : TXG) (tt : TXb) (te : TX) (own : List Nat) : TX := fun Γ W Q E => ti Γ W (fun ds stay W1 => lcL stay g tt te (wipeD Γ own) (fun acc W2 => Q (.lst acc) W2) ds [] W1) E
/-- .. its list to be changed later -/
abbrev xLcN (ti : TXI) (g : TXG) (tt : TXb) (te : TX) (own : List Nat) : TX := fun Γ W Q E => ti Γ W (fun ds stay W1 => lcL stay g tt te (wipeD Γ own) (fun acc W2 => ∀ p, W2.m p = none → W2.hid p = false → Q (.at p) (W2.put p (.lst acc))) ds [] W1) E
structure JTs (X : Cx) (ifs : List Expr) (t : TXb) : Prop where
  run : ∀ {hd : Addr → Bool} (Wx : WX), Takes X Wx → ∀ (σ : L2.St) (H : Hp) (Γ : Sl) (W : Wd) (Q : DQb) (E : DX), Rep X.K hd W H → EnvD X.K (off hd W H) σ Γ → XL X.K hd W H σ E Wx → t Γ W Q E → ∃ tt, PTs X ifs tt ∧ tt σ H (QbL X.K hd W H Q)
abbrev xYes : TXb := fun _ W Q _ => Q true W
def wpTs (X : Cx) (ifs : List Expr) : TT := fun σ H Q => ∀ pins s, Inv X pins σ H s → wpAny (model X.prog X.w) X.A (forIn ifs true fun c r => if r = true then do let ok ← isTrue c X.env (eval c X.env); pure (ForInStep.yield ok) else pure (ForInStep.yield r)) (TP X pins σ Q) X.xe s
theorem semTs {X : Cx} {ifs : List Expr} : PTs X ifs (wpTs X ifs) := ⟨fun pins s σ H Q I h => h pins s I⟩
theorem JTs.wp {X : Cx} {ifs : List Expr} {t : TXb} (h : JTs X ifs t) {hd : Addr → Bool} {Wx : WX} (tk : Takes X Wx) {σ : L2.St} {H : Hp} {Γ : Sl} {W : Wd} {Q : DQb} {E : DX} (R : Rep X.K hd W H) (G : EnvD X.K (off hd W H) σ Γ) (x : XL X.K hd W H σ E Wx) (q : t Γ W Q E) : wpTs X ifs σ H (QbL X.K hd W H Q) := fun pins s I => by
  obtain ⟨tt, p, z⟩ := h.run Wx tk σ H Γ W Q E R G x q
  exact p.run pins s σ H _ I z
theorem jts_nil {X : Cx} : JTs X [] xYes := ⟨fun Wx tk σ H Γ W Q E R G x h => ⟨_, pts_nil, W, .refl R, h⟩⟩
theorem jts_one {X : Cx} {c : Expr} {t : TXb} (hc : JT X c t) : JTs X [c] t := ⟨fun Wx tk σ H Γ W Q E R G x h => ⟨_, pts_one semT, hc.run Wx tk σ H Γ W Q E R G x h⟩⟩
section
variable {X : Cx} {tg iter elt : Expr} {ifs : List Expr} {scope : Scope} {own : List (Str × Nat)} {pos : Pos} {ti : TXI} {g : TXG} {tt : TXb} {te : TX}
theorem takes_blk {s : Shared} {H : Hp} {scope : Scope} {env : Env} {fp : List Addr} : Takes (X.blk s H scope env fp) (fun _ _ _ _ => False) := fun u s' ⟨_, _, _, _, _, _, _, _, _, _, _, _, _, _, _, _, w⟩ => w.elim
/-- the readings of the block, whatever its context -/
def gAll (X : Cx) (scope : Scope) (tg : Expr) : TG := fun v σ H Q => ∀ (s : Shared) (H0 : Hp) (C : Addr) (cl : List (Str × Addr)) (fp : List Addr), wpG (X.blk s H0 scope (compEnvC scope cl C X.env) fp) tg v σ H Q
def tAll (X : Cx) (scope : Scope) (ifs : List Expr) : TT := fun σ H Q => ∀ (s : Shared) (H0 : Hp) (C : Addr) (cl : List (Str × Addr)) (fp : List Addr), wpTs (X.blk s H0 scope (compEnvC scope cl C X.env) fp) ifs σ H Q
def eAll (X : Cx) (scope : Scope) (e : Expr) : TE := fun σ H Q => ∀ (s : Shared) (H0 : Hp) (C : Addr) (cl : List (Str × Addr)) (fp : List Addr), wpE (X.blk s H0 scope (compEnvC scope cl C X.env) fp) e σ H Q
theorem wipe_idem (σ : L2.St) (vs : List Nat) : L2.wipe (L2.wipe σ vs) vs = L2.wipe σ vs := by
  apply List.ext_getElem?
  intro j
  rw [wipe_get, wipe_get, wipe_length]
  by_cases hj : j ∈ vs
  · rw [if_pos hj, if_pos hj]
  · rw [if_neg hj, if_neg hj]
theorem monoTs {X : Cx} {ifs : List Expr} {σ : L2.St} {H : Hp} {Q Q' : Bool → Hp → Prop} (h : wpTs X ifs σ H Q) (q : ∀ v H', Q v H' → Q' v H') : wpTs X ifs σ H Q' := fun pins s I => thn (h pins s I) fun u s' ⟨H', I', k⟩ => ⟨H', I', q u H' k⟩
/-- hidden: one more -/
abbrev hdU (hd : Addr → Bool) (D : Addr) : Addr → Bool := fun b => hd b || decide (b = D)
section
variable {K : PySem.W.Frag} {hd : Addr → Bool} {W : Wd} {H : Hp} {D : Addr} {o o' : HO}
theorem off_hide (h : off hd W H D = none ∨ True) (hD : D = D) : off (hdU hd D) W (upd H D o) = off (hdU hd D) W H := by
  funext b
  by_cases n : b = D
  · subst n; simp [off]
  · simp only [off, upd_ne n]
theorem off_hide_new (h : H D = none) : off (hdU hd D) W H = off hd W H := by
  funext b
  by_cases n : b = D
  · subst n; simp [off, h]
  · simp [off, n]
theorem Rep.hide (R : Rep K hd W H) (h : H D = none) : Rep K (hdU hd D) W (upd H D o) := by
  have e : off (hdU hd D) W (upd H D o) = off hd W H := by rw [off_hide (.inr trivial) rfl, off_hide_new h]
  refine ⟨fun b hb => ?_, fun a mo hm => ?_, fun p c n hs => ?_⟩
  · by_cases n : b = D
    · subst n
      exact ⟨R.fresh_m h, R.fresh_hid h, o, upd_same⟩
    · have hb' : hd b = true := by simpa [n] using hb
      obtain ⟨h1, h2, u, h3⟩ := R.h b hb'
      exact ⟨h1, h2, u, by rw [upd_ne n]; exact h3⟩
  · rw [e]
    have n : a ≠ D := fun z => by subst z; rw [R.fresh_m h] at hm; cases hm
    rw [upd_ne n]; exact R.m a mo hm
  · obtain ⟨h1, h2, h3, st, cells, e1, e2, q⟩ := R.s p c n hs
    have n1 : p ≠ D := ne_of_none e1 h
    have n2 : c ≠ D := ne_of_none e2 h
    exact ⟨h1, h2, h3, st, cells, by rw [upd_ne n1]; exact e1, by rw [upd_ne n2]; exact e2, q⟩
/-- the hidden object is written by its owner -/
theorem Rep.owned (R : Rep K (hdU hd D) W H) : Rep K (hdU hd D) W (upd H D o) := by
  have e : off (hdU hd D) W (upd H D o) = off (hdU hd D) W H := off_hide (.inr trivial) rfl
  obtain ⟨d1, d2, u0, d3⟩ := R.h D (by simp)
  refine ⟨fun b hb => ?_, fun a mo hm => ?_, fun p c n hs => ?_⟩
  · by_cases n : b = D
    · subst n; exact ⟨d1, d2, o, upd_same⟩
    · obtain ⟨h1, h2, u, h3⟩ := R.h b hb
      exact ⟨h1, h2, u, by rw [upd_ne n]; exact h3⟩
  · rw [e]
    have n : a ≠ D := fun z => by subst z; rw [d1] at hm; cases hm
    rw [upd_ne n]; exact R.m a mo hm
  · obtain ⟨h1, h2, h3, st, cells, e1, e2, q⟩ := R.s p c n hs
    have hh : W.hid p = true ∧ W.hid c = true := by simp [Wd.hid, hs]
    have n1 : p ≠ D := fun z => by subst z; rw [d2] at hh; cases hh.1
    have n2 : c ≠ D := fun z => by subst z; rw [d2] at hh; cases hh.2
    exact ⟨h1, h2, h3, st, cells, by rw [upd_ne n1]; exact e1, by rw [upd_ne n2]; exact e2, q⟩
theorem off_show : Ex (off (hdU hd D) W H) (off hd W H) := fun b u e => by
  obtain ⟨h1, h2, h3, h4⟩ := off_some e
  have h5 : hd b = false := by
    have : (hd b || decide (b = D)) = false := h4
    rw [Bool.or_eq_false_iff] at this
    exact this.1
  rw [off_eq h1 h2 h5]; exact h3
theorem Rep.show (R : Rep K (hdU hd D) W H) : Rep K hd W H :=
  ⟨fun b hb => R.h b (by simp [hb]), fun a mo hm => (R.m a mo hm).mono off_show, R.s⟩
end
theorem lc_ok {hd : Addr → Bool} {Wx : WX} (tk : Takes X Wx) (hi : JI X tg iter ti)
    (hg : ∀ (s : Shared) (H0 : Hp) (C : Addr) (cl : List (Str × Addr)) (fp : List Addr), JGw (X.blk s H0 scope (compEnvC scope cl C X.env) fp) tg (own.map (·.2)) g)
    (ht : ∀ (s : Shared) (H0 : Hp) (C : Addr) (cl : List (Str × Addr)) (fp : List Addr), JTs (X.blk s H0 scope (compEnvC scope cl C X.env) fp) ifs tt)
    (he : ∀ (s : Shared) (H0 : Hp) (C : Addr) (cl : List (Str × Addr)) (fp : List Addr), JE (X.blk s H0 scope (compEnvC scope cl C X.env) fp) elt te)
    {σ : L2.St} {H : Hp} {Γ : Sl} {W : Wd} {E : DX} {QQ : List Dt → Wd → Prop} {Q' : VK} (R : Rep X.K hd W H) (G : EnvD X.K (off hd W H) σ Γ) (x : XL X.K hd W H σ E Wx)
    (h : ti Γ W (fun ds stay W1 => lcL stay g tt te (wipeD Γ (own.map (·.2))) QQ ds [] W1) E)
    (hq : ∀ D H' W' vs acc, Rep X.K hd W' H' → Ex (off hd W H) (off hd W' H') → (∀ b o, hd b = true → H b = some o → H' b = some o) → H' D = some (.lst vs) → W'.m D = none → W'.hid D = false → hd D = false → Dvs X.K (off hd W' H') vs acc → Ex (off (hdU hd D) W' H') (off hd W' H') → Ex (off hd W H) (off (hdU hd D) W' H') → Dvs X.K (off (hdU hd D) W' H') vs acc → Rep X.K (hdU hd D) W' H' → QQ acc W' → Q' (.ref D) H') :
    tLc (wpI X tg iter) (gAll X scope tg) (tAll X scope ifs) (eAll X scope elt) (own.map (·.2)) σ H Q' := by
  refine monoI (hi.run Wx tk σ H Γ W _ _ R G x h) fun J H1 ⟨ds, stay, W1, s1, dr, q⟩ D hD => ?_
  have hdD : hd D = false := s1.rep.fresh_hd hD
  have R1 : Rep X.K (hdU hd D) W1 (upd H1 D (.lst [])) := s1.rep.hide hD
  have e1 : off (hdU hd D) W1 (upd H1 D (.lst [])) = off hd W1 H1 := by rw [off_hide (.inr trivial) rfl, off_hide_new hD]
  have hup : ∀ b, hd b = true → hdU hd D b = true := fun b hb => by simp [hdU, hb]
  refine ⟨fun i m H' => m = ds.length - i ∧ i ≤ ds.length ∧ ∃ W' vs acc, Rep X.K (hdU hd D) W' H' ∧ Ex (off hd W1 H1) (off (hdU hd D) W' H') ∧ (∀ b o, hd b = true → H b = some o → H' b = some o) ∧ H' D = some (.lst vs) ∧ Dvs X.K (off (hdU hd D) W' H') vs acc ∧
    lcL stay g tt te (wipeD Γ (own.map (·.2))) QQ (ds.drop i) acc W', ⟨ds.length, rfl, Nat.zero_le _, W1, [], [], R1, by rw [e1]; exact Ex.refl, fun b o hb e => ?_, upd_same, .nil, q⟩, ?_⟩
  · have n : b ≠ D := fun z => by subst z; rw [hdD] at hb; cases hb
    rw [upd_ne n]; exact s1.kp b o hb e
  rintro i m H' ⟨rfl, hi', W', vs, acc, R', ex', kp', hL, rv, q'⟩
  by_cases hlt : i < ds.length
  · have he' : ds[i]? = some ds[i] := List.getElem?_eq_getElem hlt
    rw [drop_of he'] at q'
    obtain ⟨st, q'⟩ : stay W' ∧ g ds[i] (wipeD Γ (own.map (·.2))) W' fun Γ2 W2 => tt Γ2 W2 (fun b W3 => if b = true then te Γ2 W3 (fun y W4 => acc.length < sizeLine ∧ lcL stay g tt te (wipeD Γ (own.map (·.2))) QQ (ds.drop (i + 1)) (acc ++ [y]) W4) E0D else lcL stay g tt te (wipeD Γ (own.map (·.2))) QQ (ds.drop (i + 1)) acc W3) E0D := q'
    obtain ⟨g1, g2⟩ := dr.go (hdU hd D) i _ W' H' hup R' ex' st he'
    refine .inr ⟨g1, fun H3 => ∃ W3 vs3 acc3, Rep X.K (hdU hd D) W3 H3 ∧ Ex (off hd W1 H1) (off (hdU hd D) W3 H3) ∧ (∀ b o, hd b = true → H b = some o → H3 b = some o) ∧ H3 D = some (.lst vs3) ∧ Dvs X.K (off (hdU hd D) W3 H3) vs3 acc3 ∧
      lcL stay g tt te (wipeD Γ (own.map (·.2))) QQ (ds.drop (i + 1)) acc3 W3, fun H3 ⟨W3, vs3, acc3, a⟩ => ⟨ds.length - (i + 1), by omega, rfl, hlt, W3, vs3, acc3, a⟩, fun v H2 y => ?_⟩
    obtain ⟨s3, rv3⟩ := g2 v H2 y
    have G2 : EnvD X.K (off (hdU hd D) W' H2) (L2.wipe σ (own.map (·.2))) (wipeD Γ (own.map (·.2))) := (G.mono (s1.ex.trans (ex'.trans s3.ex))).wipe _
    intro s0 H0 C cl fp
    refine monoG ((hg s0 H0 C cl fp).run _ H2 _ W' _ v _ s3.rep G2 rv3 q') fun σ4 H4 ⟨w4, Γ4, W4, s4, G4, q4⟩ => ⟨by rw [w4, wipe_idem], fun s0' H0' C' cl' fp' => ?_⟩
    have s34 := s3.trans s4
    refine monoTs ((ht s0' H0' C' cl' fp').wp takes_blk s4.rep G4 (fun _ _ _ _ _ _ _ z => z) q4) fun b H5 ⟨W5, s5, q5⟩ => ?_
    have s35 := s34.trans s5
    cases b with
    | true =>
      intro s0'' H0'' C'' cl'' fp''
      refine monoE ((he s0'' H0'' C'' cl'' fp'').run _ takes_blk σ4 H5 Γ4 W5 _ _ s5.rep (G4.mono s5.ex) (fun _ _ _ _ _ _ _ z => z) q5) fun w H6 ⟨d, W6, s6, r6, hz, q6⟩ => ?_
      have s36 := s35.trans s6
      have hL6 := s36.kp D _ (by simp [hdU]) hL
      have e6 : off (hdU hd D) W6 (upd H6 D (.lst (vs ++ [w]))) = off (hdU hd D) W6 H6 := off_hide (.inr trivial) rfl
      have rl : Dvs X.K (off (hdU hd D) W6 H6) (vs ++ [w]) (acc ++ [d]) := (rv.mono s36.ex).append (.cons r6 .nil)
      refine ⟨vs, hL6, by rw [rv.length]; exact hz, W6, vs ++ [w], acc ++ [d], s36.rep.owned, by rw [e6]; exact ex'.trans s36.ex, fun b o hb e => ?_, upd_same, by rw [e6]; exact rl, q6⟩
      have n : b ≠ D := fun z => by subst z; rw [hdD] at hb; cases hb
      rw [upd_ne n]
      exact s36.kp b o (by simp [hdU, hb]) (kp' b o hb e)
    | false =>
      exact ⟨W5, vs, acc, s35.rep, ex'.trans s35.ex, fun b o hb e => s35.kp b o (by simp [hdU, hb]) (kp' b o hb e), s35.kp D _ (by simp [hdU]) hL, rv.mono s35.ex, q5⟩
  · have e : i = ds.length := by omega
    subst e
    rw [List.drop_length] at q'
    obtain ⟨st, q'⟩ : stay W' ∧ QQ acc W' := q'
    obtain ⟨d1, d2, _⟩ := R'.h D (by simp [hdU])
    exact .inl ⟨dr.stop (hdU hd D) W' H' hup R' ex' st, hq D H' W' vs acc R'.show ((s1.ex.trans ex').trans off_show) kp' hL d1 d2 hdD (rv.mono off_show) off_show (s1.ex.trans ex') rv R' q'⟩
theorem je_lc (hc : X.calm = true) (hN : X.N.Nodup) (hi : JI X tg iter ti) (ok : BlkOk X.N X.env.scope scope own)
    (hg : ∀ (s : Shared) (H0 : Hp) (C : Addr) (cl : List (Str × Addr)) (fp : List Addr), JGw (X.blk s H0 scope (compEnvC scope cl C X.env) fp) tg (own.map (·.2)) g)
    (ht : ∀ (s : Shared) (H0 : Hp) (C : Addr) (cl : List (Str × Addr)) (fp : List Addr), JTs (X.blk s H0 scope (compEnvC scope cl C X.env) fp) ifs tt)
    (he : ∀ (s : Shared) (H0 : Hp) (C : Addr) (cl : List (Str × Addr)) (fp : List Addr), JE (X.blk s H0 scope (compEnvC scope cl C X.env) fp) elt te) (hs : ∀ x, foldedSetIterable iter X.env x = pure x := by intro _; rfl) :
    JE X (.ListComp elt [⟨tg, iter, ifs, 0⟩] scope pos) (xLc ti g tt te (own.map (·.2))) :=
  ⟨@fun hd Wx tk σ H Γ W Q E R G x h => toE (pe_lc (te := eAll X scope elt) (tt := tAll X scope ifs) (g := gAll X scope tg) hc hN semI ok (fun s H0 C cl fp => ⟨fun pins s' σ H v u Q I r q => q s H0 C cl fp pins s' u I r⟩) (fun s H0 C cl fp => ⟨fun pins s' σ H Q I q => q s H0 C cl fp pins s' I⟩) (fun s H0 C cl fp => ⟨fun pins s' σ H Q I q => q s H0 C cl fp pins s' I⟩) hs)
    (lc_ok tk hi hg ht he R G x h fun D H' W' vs acc R' ex kp hL d1 d2 d3 rv _ _ _ _ q => ⟨.lst acc, W', ⟨R', ex, kp⟩, .lst (SqL.of (by rw [off_eq d1 d2 d3]; exact hL)) rv, q⟩)⟩
theorem js_setLc {i : Nat} {y : Str} {py spos : Pos} (hc : X.calm = true) (hN : X.N.Nodup) (hy : X.N[i]? = some y) (hyl : X.env.scope.names.lookup y = some .local)
    (hsw : swapsWith (.ListComp elt [⟨tg, iter, ifs, 0⟩] scope pos) (some (.Name y py)) spos.line X.env = pure true) (hi : JI X tg iter ti) (ok : BlkOk X.N X.env.scope scope own)
    (hg : ∀ (s : Shared) (H0 : Hp) (C : Addr) (cl : List (Str × Addr)) (fp : List Addr), JGw (X.blk s H0 scope (compEnvC scope cl C X.env) fp) tg (own.map (·.2)) g)
    (ht : ∀ (s : Shared) (H0 : Hp) (C : Addr) (cl : List (Str × Addr)) (fp : List Addr), JTs (X.blk s H0 scope (compEnvC scope cl C X.env) fp) ifs tt)
    (he : ∀ (s : Shared) (H0 : Hp) (C : Addr) (cl : List (Str × Addr)) (fp : List Addr), JE (X.blk s H0 scope (compEnvC scope cl C X.env) fp) elt te) (hs : ∀ x, foldedSetIterable iter X.env x = pure x := by intro _; rfl) :
    JS X (.Assign [.Name y py] (.ListComp elt [⟨tg, iter, ifs, 0⟩] scope pos) spos) (xAsg (xLc ti g tt te (own.map (·.2))) (gSet i)) :=
  ⟨@fun hd Wx tk σ H Γ W D R G x h => toS (ps_setLc (te := eAll X scope elt) (tt := tAll X scope ifs) (g := gAll X scope tg) hc hN hy hyl hsw semI ok (fun s H0 C cl fp => ⟨fun pins s' σ H v u Q I r q => q s H0 C cl fp pins s' u I r⟩) (fun s H0 C cl fp => ⟨fun pins s' σ H Q I q => q s H0 C cl fp pins s' I⟩) (fun s H0 C cl fp => ⟨fun pins s' σ H Q I q => q s H0 C cl fp pins s' I⟩) hs)
    (lc_ok tk hi hg ht he R G (x.xl G) h fun D' H' W' vs acc R' ex kp hL d1 d2 d3 rv _ _ _ _ q => ⟨Γ.set i (some (.lst acc)), W', ⟨R', ex, kp⟩, (G.mono ex).set (.lst (SqL.of (by rw [off_eq d1 d2 d3]; exact hL)) rv), q⟩)⟩
/-- the list frozen no longer: it is the world's -/
theorem Rep.take_up {K : PySem.W.Frag} {hd : Addr → Bool} {W : Wd} {H : Hp} {D : Addr} {vs : List V} {acc : List Dt} (R : Rep K (hdU hd D) W H) (hL : H D = some (.lst vs)) (hdD : hd D = false) (rv : Dvs K (off (hdU hd D) W H) vs acc) : Rep K hd (W.put D (.lst acc)) H ∧ Ex (off (hdU hd D) W H) (off hd (W.put D (.lst acc)) H) := by
  obtain ⟨d1, d2, _⟩ := R.h D (by simp [hdU])
  have ex : Ex (off (hdU hd D) W H) (off hd (W.put D (.lst acc)) H) := fun b u e => by
    obtain ⟨h1, h2, h3, h4⟩ := off_some e
    have h4' : (hd b || decide (b = D)) = false := h4
    rw [Bool.or_eq_false_iff] at h4'
    have n : b ≠ D := of_decide_eq_false h4'.2
    rw [off_eq (by rw [Wd.put_ne n]; exact h1) (show (W.put D (.lst acc)).hid b = false from h2) h4'.1]; exact h3
  refine ⟨⟨fun b hb => ?_, fun a mo hm => ?_, fun p c n hs => ?_⟩, ex⟩
  · have n : b ≠ D := fun z => by subst z; rw [hdD] at hb; cases hb
    obtain ⟨h1, h2, h3⟩ := R.h b (by simp [hdU, hb])
    exact ⟨by rw [Wd.put_ne n]; exact h1, h2, h3⟩
  · by_cases n : a = D
    · subst n
      rw [Wd.put_m] at hm
      cases hm
      exact ⟨vs, hL, rv.mono ex⟩
    · rw [Wd.put_ne n] at hm
      exact (R.m a mo hm).mono ex
  · obtain ⟨h1, h2, r⟩ := R.s p c n hs
    have hh : W.hid p = true ∧ W.hid c = true := by
      have hs' : W.src = some (p, c, n) := hs
      simp [Wd.hid, hs']
    have n1 : p ≠ D := fun z => by subst z; rw [d2] at hh; cases hh.1
    have n2 : c ≠ D := fun z => by subst z; rw [d2] at hh; cases hh.2
    exact ⟨by rw [Wd.put_ne n1]; exact h1, by rw [Wd.put_ne n2]; exact h2, r⟩
theorem je_lcN (hc : X.calm = true) (hN : X.N.Nodup) (hi : JI X tg iter ti) (ok : BlkOk X.N X.env.scope scope own)
    (hg : ∀ (s : Shared) (H0 : Hp) (C : Addr) (cl : List (Str × Addr)) (fp : List Addr), JGw (X.blk s H0 scope (compEnvC scope cl C X.env) fp) tg (own.map (·.2)) g)
    (ht : ∀ (s : Shared) (H0 : Hp) (C : Addr) (cl : List (Str × Addr)) (fp : List Addr), JTs (X.blk s H0 scope (compEnvC scope cl C X.env) fp) ifs tt)
    (he : ∀ (s : Shared) (H0 : Hp) (C : Addr) (cl : List (Str × Addr)) (fp : List Addr), JE (X.blk s H0 scope (compEnvC scope cl C X.env) fp) elt te) (hs : ∀ x, foldedSetIterable iter X.env x = pure x := by intro _; rfl) :
    JE X (.ListComp elt [⟨tg, iter, ifs, 0⟩] scope pos) (xLcN ti g tt te (own.map (·.2))) :=
  ⟨@fun hd Wx tk σ H Γ W Q E R G x h => toE (pe_lc (te := eAll X scope elt) (tt := tAll X scope ifs) (g := gAll X scope tg) hc hN semI ok (fun s H0 C cl fp => ⟨fun pins s' σ H v u Q I r q => q s H0 C cl fp pins s' u I r⟩) (fun s H0 C cl fp => ⟨fun pins s' σ H Q I q => q s H0 C cl fp pins s' I⟩) (fun s H0 C cl fp => ⟨fun pins s' σ H Q I q => q s H0 C cl fp pins s' I⟩) hs)
    (lc_ok tk hi hg ht he R G x h fun D H' W' vs acc R' ex kp hL d1 d2 d3 rv _ ex2 rv2 R2 q => by
      obtain ⟨R3, ex3⟩ := R2.take_up hL d3 rv2
      exact ⟨.at D, W'.put D (.lst acc), ⟨R3, ex2.trans ex3, kp⟩, .at D, q D d1 d2⟩)⟩
theorem js_setLcN {i : Nat} {y : Str} {py spos : Pos} (hc : X.calm = true) (hN : X.N.Nodup) (hy : X.N[i]? = some y) (hyl : X.env.scope.names.lookup y = some .local)
    (hsw : swapsWith (.ListComp elt [⟨tg, iter, ifs, 0⟩] scope pos) (some (.Name y py)) spos.line X.env = pure true) (hi : JI X tg iter ti) (ok : BlkOk X.N X.env.scope scope own)
    (hg : ∀ (s : Shared) (H0 : Hp) (C : Addr) (cl : List (Str × Addr)) (fp : List Addr), JGw (X.blk s H0 scope (compEnvC scope cl C X.env) fp) tg (own.map (·.2)) g)
    (ht : ∀ (s : Shared) (H0 : Hp) (C : Addr) (cl : List (Str × Addr)) (fp : List Addr), JTs (X.blk s H0 scope (compEnvC scope cl C X.env) fp) ifs tt)
    (he : ∀ (s : Shared) (H0 : Hp) (C : Addr) (cl : List (Str × Addr)) (fp : List Addr), JE (X.blk s H0 scope (compEnvC scope cl C X.env) fp) elt te) (hs : ∀ x, foldedSetIterable iter X.env x = pure x := by intro _; rfl) :
    JS X (.Assign [.Name y py] (.ListComp elt [⟨tg, iter, ifs, 0⟩] scope pos) spos) (xAsg (xLcN ti g tt te (own.map (·.2))) (gSet i)) :=
  ⟨@fun hd Wx tk σ H Γ W D R G x h => toS (ps_setLc (te := eAll X scope elt) (tt := tAll X scope ifs) (g := gAll X scope tg) hc hN hy hyl hsw semI ok (fun s H0 C cl fp => ⟨fun pins s' σ H v u Q I r q => q s H0 C cl fp pins s' u I r⟩) (fun s H0 C cl fp => ⟨fun pins s' σ H Q I q => q s H0 C cl fp pins s' I⟩) (fun s H0 C cl fp => ⟨fun pins s' σ H Q I q => q s H0 C cl fp pins s' I⟩) hs)
    (lc_ok tk hi hg ht he R G (x.xl G) h fun D' H' W' vs acc R' ex kp hL d1 d2 d3 rv _ ex2 rv2 R2 q => by
      obtain ⟨R3, ex3⟩ := R2.take_up hL d3 rv2
      have ex4 := ex2.trans ex3
      exact ⟨Γ.set i (some (.at D')), W'.put D' (.lst acc), ⟨R3, ex4, kp⟩, (G.mono ex4).set (.at D'), q D' d1 d2⟩)⟩
end
end DL

set_option Elab.async false
set_option linter.all false
set_option maxRecDepth 100000
set_option maxHeartbeats 4000000
/-! DL5: chains, texts and zips walked, methods of built-ins, stores into lists, sorted. -/
namespace DL
open PySem L2
section
variable {X : Cx} {hd : Addr → Bool} {a b c e o : Expr} {es : List Expr} {pos apos cpos : Pos} {ta tb tc : TX} {tt tu : TXb} {ts : TXs} {tg iter : Expr}

/-! ### a < b < c -/
abbrev xChain (r1 r2 : D2) (ta tb tc : TX) : TX := fun Γ W Q E => ta Γ W (fun x W1 => tb Γ W1 (fun y W2 => r1 x y W2 (fun z W3 => match z with
  | .bl k => if k = true then tc Γ W3 (fun w W4 => r2 y w W4 Q) E else Q (.bl false) W3
  | _ => False)) E) E
theorem chain_ok {Wx : WX} (tk : Takes X Wx) {op op' : CmpOp} {r r' : R2} {rd rd' : D2} (hd1 : DOp X r rd) (hd2 : DOp X r' rd') (ha : JE X a ta) (hb : JE X b tb) (hc : JE X c tc) {σ : L2.St} {H : Hp} {Γ : Sl} {W : Wd} {Q : DQ} {Q' : VK} {E : DX}
    (R : Rep X.K hd W H) (G : EnvD X.K (off hd W H) σ Γ) (x : XL X.K hd W H σ E Wx) (h : xChain rd rd' ta tb tc Γ W Q E) (hq : ∀ v H', QL X.K hd W H Q v H' → Q' v H') : tChain r r' (wpE X a) (wpE X b) (wpE X c) σ H Q' :=
  monoE (seq2 tk ha hb R G x h) fun u H1 h1 => monoE h1 fun v H2 ⟨d, d2, W2, s, rx, ry, q⟩ => hd1 u v d d2 W2 H2 _ _ s.rep rx ry (fun z H3 ⟨dz, W3, s3, rz, q3⟩ => by
    cases dz with
    | bl k =>
      cases rz
      have s23 := s.trans s3
      refine ⟨k, rfl, ?_⟩
      cases k with
      | true => exact (monoE (hc.run Wx tk σ H3 Γ W3 _ E s3.rep (G.mono s23.ex) (x.step s23) q3) fun w H4 ⟨dw, W4, s4, rw', q4⟩ =>
          hd2 v w d2 dw W4 H4 Q _ s4.rep (ry.mono (s3.trans s4).ex) rw' (fun v' H' k => hq _ _ (QL.step (s23.trans s4) k)) q4)
      | false => exact hq _ _ (QL.step s23 (ql_val s3.rep (.bl false) q3))
    | _ => exact q3.elim) q
theorem je_chain {op op' : CmpOp} {r r' : R2} {rd rd' : D2} (ho : OpR X (compareOp op) r) (ho' : OpR X (compareOp op') r') (hd1 : DOp X r rd) (hd2 : DOp X r' rd') (ha : JE X a ta) (hb : JE X b tb) (hc : JE X c tc) (hm : lastMarks [op, op'] [b, c] = false := by with_unfolding_all rfl) :
    JE X (.Compare a [op, op'] [b, c] pos) (xChain rd rd' ta tb tc) :=
  ⟨fun Wx tk σ H Γ W Q E R G x h => toE (pe_chain ho ho' semE semE semE hm) (chain_ok (op := op) (op' := op') tk hd1 hd2 ha hb hc R G x h fun _ _ k => k)⟩
theorem jt_chain {op op' : CmpOp} {r r' : R2} {rd rd' : D2} (ho : OpR X (compareOp op) r) (ho' : OpR X (compareOp op') r') (hd1 : DOp X r rd) (hd2 : DOp X r' rd') (ha : JE X a ta) (hb : JE X b tb) (hc : JE X c tc) (hm : lastMarks [op, op'] [b, c] = false := by with_unfolding_all rfl) :
    JT X (.Compare a [op, op'] [b, c] pos) (xTest (xChain rd rd' ta tb tc)) :=
  ⟨fun Wx tk σ H Γ W Q E R G x h => toT (pt_chain ho ho' semE semE semE hm) (chain_ok (op := op) (op' := op') tk hd1 hd2 ha hb hc R G x h fun v H' ⟨d, W1, s1, r1, q⟩ => by
    cases d with
    | bl k => cases r1; exact ⟨k, rfl, W1, s1, q⟩
    | _ => exact q.elim)⟩

/-! ### walked: a text; zip; enumerate -/
abbrev signs (z : Str) : List Dt := z.cps.toList.map fun c => Dt.str ⟨#[c]⟩
abbrev iS (ta : TX) : TXI := fun Γ W Q E => ta Γ W (fun d W1 => match d with
  | .str z => Q (signs z) (fun _ => True) W1
  | _ => False) E
theorem draws_S {K : PySem.W.Frag} {W : Wd} {H : Hp} {z : Str} : Draws K hd (Its z) (signs z) (fun _ => True) W H := by
  refine ⟨fun hd' i d W2 H2 hh R ex _ e => ?_, fun hd' W2 H2 hh R ex _ => ?_⟩
  · have hi : i < z.cps.size := by
      have := (List.getElem?_eq_some_iff.mp e).1
      simpa using this
    refine ⟨hi, fun x H3 ⟨e3, c, hc, y⟩ => ?_⟩
    subst e3 y
    have ed : d = .str ⟨#[c]⟩ := by
      rw [List.getElem?_map, Array.getElem?_toList, hc] at e
      exact (Option.some.inj e).symm
    subst ed
    exact ⟨.refl R, .str _⟩
  · show z.cps.size ≤ (signs z).length
    simp
theorem ji_str (ha : JE X iter ta) : JI X tg iter (iS ta) := by
  refine ⟨fun Wx tk σ H Γ W Q E R G xl h => toI (pi_str semE) (monoE (ha.run Wx tk σ H Γ W _ E R G xl h) fun v H1 ⟨d, W1, s1, r1, q⟩ => ?_)⟩
  cases d with
  | str z => cases r1; exact ⟨z, rfl, _, _, W1, s1, draws_S, q⟩
  | _ => exact q.elim
/-- what a walk goes over, and what must stay for it -/
abbrev sof (d : Dt) (W : Wd) : Option (List Dt) := match d with
  | .lst ds => some ds
  | .at p => (match W.m p with | some (.lst ds) => some ds | _ => none)
  | _ => none
abbrev stayOf (d : Dt) (ds : List Dt) : Wd → Prop := match d with
  | .at p => fun W2 => W2.m p = some (.lst ds)
  | _ => fun _ => True
theorem sof_stay {K : PySem.W.Frag} {W W2 : Wd} {H H2 : Hp} {hd' : Addr → Bool} (R : Rep K hd W H) {v : V} {d : Dt} {ds : List Dt} (r : Dv K (off hd W H) v d) (h : sof d W = some ds) : ∃ p, v = .ref p ∧ (∃ vs, SqL K H p vs) ∧ ∀ hd' W2 H2, Rep K hd' W2 H2 → Ex (off hd W H) (off hd' W2 H2) → stayOf d ds W2 → ∃ vs, SqL K H2 p vs ∧ Dvs K (off hd' W2 H2) vs ds := by
  cases d with
  | lst ds' =>
    cases r with
    | lst h1 t =>
      cases h
      exact ⟨_, rfl, ⟨_, sql_off h1⟩, fun hd' W2 H2 R2 ex _ => ⟨_, sql_off (sql_mono ex h1), t.mono ex⟩⟩
  | «at» p =>
    cases r
    have h' : (match W.m p with | some (.lst ds) => some ds | _ => none) = some ds := h
    split at h'
    · rename_i ds' e
      cases h'
      obtain ⟨vs, e1, t⟩ := R.m p _ e
      exact ⟨p, rfl, ⟨vs, SqL.of e1⟩, fun hd' W2 H2 R2 ex st => by
        obtain ⟨vs2, e2, t2⟩ := R2.m p _ st
        exact ⟨vs2, SqL.of e2, t2⟩⟩
    · cases h'
  | _ => cases h
abbrev zipD (xs ys : List Dt) : List Dt := List.zipWith (fun x y => Dt.tup [x, y]) xs ys
abbrev zsrc (ds : List Dt) (W : Wd) : Option (List Dt × (Wd → Prop)) := match ds with
  | [x, y] => (match tof x, tof y with
    | some xs, some ys => some (zipD xs ys, fun _ => True)
    | _, _ => (match sof x W, sof y W with
      | some xs, some ys => some (zipD xs ys, fun W2 => stayOf x xs W2 ∧ stayOf y ys W2)
      | _, _ => none))
  | _ => none
theorem zsrc_cases {ds : List Dt} {W : Wd} {l : List Dt} {st : Wd → Prop} (h : zsrc ds W = some (l, st)) : ∃ x y xs ys, ds = [x, y] ∧ l = zipD xs ys ∧ ((tof x = some xs ∧ tof y = some ys ∧ st = fun _ => True) ∨ (sof x W = some xs ∧ sof y W = some ys ∧ st = fun W2 => stayOf x xs W2 ∧ stayOf y ys W2)) := by
  match ds, h with
  | [x, y], h =>
    have h' : (match tof x, tof y with
      | some xs, some ys => some (zipD xs ys, fun _ => True)
      | _, _ => (match sof x W, sof y W with
        | some xs, some ys => some (zipD xs ys, fun W2 => stayOf x xs W2 ∧ stayOf y ys W2)
        | _, _ => none)) = some (l, st) := h
    split at h'
    · rename_i xs ys e1 e2
      cases h'
      exact ⟨x, y, xs, ys, rfl, rfl, .inl ⟨e1, e2, rfl⟩⟩
    · split at h'
      · rename_i xs ys e1 e2
        cases h'
        exact ⟨x, y, xs, ys, rfl, rfl, .inr ⟨e1, e2, rfl⟩⟩
      · cases h'
abbrev iZ (ts : TXs) : TXI := fun Γ W Q E => ts Γ W (fun ds W1 => match zsrc ds W1 with
  | some (l, st) => Q l st W1
  | none => False) E
theorem zip_at {xs ys : List Dt} {i : Nat} {d : Dt} (h : (zipD xs ys)[i]? = some d) : ∃ x y, xs[i]? = some x ∧ ys[i]? = some y ∧ d = .tup [x, y] := by
  rw [List.getElem?_zipWith] at h
  cases e1 : xs[i]? with
  | none => rw [e1] at h; cases h
  | some x =>
    cases e2 : ys[i]? with
    | none => rw [e1, e2] at h; cases h
    | some y => rw [e1, e2] at h; exact ⟨x, y, rfl, rfl, (Option.some.inj h).symm⟩
theorem pair_new {K : PySem.W.Frag} {W : Wd} {H : Hp} {T : Addr} {u v : V} {x y : Dt} (R : Rep K hd W H) (h : H T = none) (ru : Dv K (off hd W H) u x) (rv : Dv K (off hd W H) v y) : Stp K hd W H W (upd H T (.tup [u, v])) ∧ Dv K (off hd W (upd H T (.tup [u, v]))) (.ref T) (.tup [x, y]) := by
  obtain ⟨s, e⟩ := Stp.new (o := .tup [u, v]) R h
  exact ⟨s, .tup (SqT.of e) (.cons (ru.mono s.ex) (.cons (rv.mono s.ex) .nil))⟩
theorem ji_zip {e e2 : Expr} {p tpos : Pos} {elts : List Expr} {kk : Nat} (hg : Gl X "zip") (hm : X.mg "zip" = none) (ha : JA X [e, e2] ts)
    (hs : starEach [e, e2] X.env = (false, eval e X.env) :: starEach [e2] X.env := by rfl) (hpl : (backTo pos (starEach [e2] X.env)).any (·.1) = false := by rfl) : JI X (.Tuple elts kk tpos) (.Call (.Name "zip" p) [e, e2] [] pos) (iZ ts) := by
  refine ⟨@fun hd Wx tk σ H Γ W Q E R G xl h => toI (RZ.pi_zipA hg hm semA hs hpl) (monoA (ha.run Wx tk σ H Γ W _ E R G xl h) fun vs H1 ⟨ds, W1, s1, r1, q⟩ => ?_)⟩
  cases ez : zsrc ds W1 with
  | none => simp only [ez] at q
  | some lst =>
    obtain ⟨l, st0⟩ := lst
    simp only [ez] at q
    obtain ⟨x, y, xs, ys, rfl, rfl, hc⟩ := zsrc_cases ez
    obtain ⟨v, u, rfl, rv, ru⟩ := r1.two
    rcases hc with ⟨e1, e2, rfl⟩ | ⟨e1, e2, rfl⟩
    · obtain ⟨pa, us, rfl, hu, hu', tu⟩ := tof_V rv e1
      obtain ⟨pb, ws, rfl, hw, hw', tw⟩ := tof_V ru e2
      refine ⟨pa, pb, us, ws, rfl, .inr ⟨hu, hw, _, _, W1, s1, ⟨fun hd' i d W2 H2 hh R2 exx st he => ?_, fun hd' W2 H2 hh R2 exx st => ?_⟩, q⟩⟩
      · obtain ⟨x1, y1, h1, h2, rfl⟩ := zip_at he
        obtain ⟨u1, g1, rr1⟩ := tu.get h1
        obtain ⟨w1, g2, rr2⟩ := tw.get h2
        have hu2 := sqt_off (sqt_mono exx hu')
        have hw2 := sqt_off (sqt_mono exx hw')
        refine ⟨⟨us, ws, u1, w1, hu2, hw2, g1, g2⟩, fun x H3 ⟨T, x2, y2, ev, hT, e3, k1, k2⟩ => ?_⟩
        have z1 := k1 us hu2
        have z2 := k2 ws hw2
        rw [g1] at z1; rw [g2] at z2
        cases z1; cases z2
        subst ev e3
        exact pair_new R2 hT (rr1.mono exx) (rr2.mono exx)
      · have h1 := tu.length
        have h2 := tw.length
        have h3 : (zipD xs ys).length = min xs.length ys.length := List.length_zipWith
        exact ⟨us, ws, sqt_off (sqt_mono exx hu'), sqt_off (sqt_mono exx hw'), by omega⟩
    · obtain ⟨pa, rfl, ⟨us, hu⟩, ka⟩ := sof_stay (W2 := W1) (H2 := H1) (hd' := hd) s1.rep rv e1
      obtain ⟨pb, rfl, ⟨ws, hw⟩, kb⟩ := sof_stay (W2 := W1) (H2 := H1) (hd' := hd) s1.rep ru e2
      refine ⟨pa, pb, us, ws, rfl, .inl ⟨hu, hw, _, _, W1, s1, ⟨fun hd' i d W2 H2 hh R2 exx st he => ?_, fun hd' W2 H2 hh R2 exx st => ?_⟩, q⟩⟩
      · obtain ⟨x1, y1, h1, h2, rfl⟩ := zip_at he
        obtain ⟨us2, hu2, tu⟩ := ka hd' W2 H2 R2 exx st.1
        obtain ⟨ws2, hw2, tw⟩ := kb hd' W2 H2 R2 exx st.2
        obtain ⟨u1, g1, rr1⟩ := tu.get h1
        obtain ⟨w1, g2, rr2⟩ := tw.get h2
        refine ⟨⟨us2, ws2, u1, w1, hu2, hw2, g1, g2⟩, fun x H3 ⟨T, x2, y2, ev, hT, e3, k1, k2⟩ => ?_⟩
        have z1 := k1 us2 hu2
        have z2 := k2 ws2 hw2
        rw [g1] at z1; rw [g2] at z2
        cases z1; cases z2
        subst ev e3
        exact pair_new R2 hT rr1 rr2
      · obtain ⟨us2, hu2, tu⟩ := ka hd' W2 H2 R2 exx st.1
        obtain ⟨ws2, hw2, tw⟩ := kb hd' W2 H2 R2 exx st.2
        have h1 := tu.length
        have h2 := tw.length
        have h3 : (zipD xs ys).length = min xs.length ys.length := List.length_zipWith
        exact ⟨us2, ws2, hu2, hw2, by omega⟩
abbrev enumD (xs : List Dt) : List Dt := xs.mapIdx fun (i : Nat) x => Dt.tup [.int (i : Int), x]
abbrev iEn (ts : TXs) : TXI := fun Γ W Q E => ts Γ W (fun ds W1 => match ds with
  | [x] => (match sof x W1 with | some xs => Q (enumD xs) (stayOf x xs) W1 | _ => False)
  | _ => False) E
theorem ji_enum {e : Expr} {p tpos : Pos} {elts : List Expr} {kk : Nat} (hg : Gl X "enumerate") (hm : X.mg "enumerate" = none) (ha : JA X [e] ts) (hs : starEach [e] X.env = [(false, eval e X.env)] := by rfl) : JI X (.Tuple elts kk tpos) (.Call (.Name "enumerate" p) [e] [] pos) (iEn ts) := by
  refine ⟨@fun hd Wx tk σ H Γ W Q E R G xl h => toI (pi_enum hg hm semA hs) (monoA (ha.run Wx tk σ H Γ W _ E R G xl h) fun vs H1 ⟨ds, W1, s1, r1, q⟩ => ?_)⟩
  match ds, r1, q with
  | [x], r1, q =>
    obtain ⟨v, rfl, rv⟩ := r1.one
    cases ex : sof x W1 with
    | none => simp only [ex] at q
    | some xs =>
      simp only [ex] at q
      obtain ⟨pa, rfl, ⟨us, hu⟩, ka⟩ := sof_stay (W2 := W1) (H2 := H1) (hd' := hd) s1.rep rv ex
      refine ⟨pa, us, rfl, hu, _, _, W1, s1, ⟨fun hd' i d W2 H2 hh R2 exx st he => ?_, fun hd' W2 H2 hh R2 exx st => ?_⟩, q⟩
      · obtain ⟨us2, hu2, tu⟩ := ka hd' W2 H2 R2 exx st
        have he' : (enumD xs)[i]? = some d := he
        rw [List.getElem?_mapIdx] at he'
        cases h1 : xs[i]? with
        | none => rw [h1] at he'; cases he'
        | some x1 =>
          rw [h1] at he'
          cases he'
          obtain ⟨u1, g1, rr1⟩ := tu.get h1
          refine ⟨⟨us2, u1, hu2, g1⟩, fun x H3 ⟨T, x2, ev, hT, e3, k1⟩ => ?_⟩
          have z1 := k1 us2 hu2
          rw [g1] at z1
          cases z1
          subst ev e3
          exact pair_new R2 hT (.int _) rr1
      · obtain ⟨us2, hu2, tu⟩ := ka hd' W2 H2 R2 exx st
        have h1 := tu.length
        have h3 : (enumD xs).length = xs.length := List.length_mapIdx
        exact ⟨us2, hu2, by omega⟩

/-! ### methods of built-ins -/
abbrev tyD (T : String) (d : Dt) (W : Wd) : Prop := match d with
  | .str _ => T = "str"
  | .int _ => T = "int"
  | .dct _ => T = "dict"
  | d => (match lof d W with | some _ => T = "list" | none => False)
abbrev DM := Dt → List Dt → Wd → DQ → Prop
def DMt (X : Cx) (r : V → List V → Hp → VK → Prop) (rd : DM) : Prop := ∀ {hd : Addr → Bool} (x : V) (dx : Dt) (vs : List V) (ds : List Dt) (W : Wd) (H : Hp) (Q : DQ) (Q' : VK), Rep X.K hd W H → Dv X.K (off hd W H) x dx → Dvs X.K (off hd W H) vs ds → (∀ v H', QL X.K hd W H Q v H' → Q' v H') → rd dx ds W Q → r x vs H Q'
theorem tyD_V {W : Wd} {H : Hp} (R : Rep X.K hd W H) {v : V} {d : Dt} (r : Dv X.K (off hd W H) v d) {T : String} (h : tyD T d W) : tyV X.K T v H := by
  have lst : ∀ ds, lof d W = some ds → T = "list" → tyV X.K T v H := fun ds hl h => by
    obtain ⟨p, vs, rfl, h1, t⟩ := lof_V R r hl
    exact .inl ⟨h, vs, h1⟩
  cases d with
  | str z => cases r; exact h
  | int i => cases r; exact h
  | dct kvs => cases r with | dct h1 t => exact .inr (.inr (.inl ⟨h, .inl ⟨_, (off_some h1).2.2.1⟩⟩))
  | lst ds => exact lst ds rfl h
  | «at» p =>
    cases e : lof (.at p) W with
    | none => simp only [tyD, e] at h
    | some ds =>
      simp only [tyD, e] at h
      exact lst ds e h
  | _ => exact h.elim
abbrev xBM (T : String) (rd : DM) (to : TX) (ts : TXs) : TX := fun Γ W Q E => to Γ W (fun d W1 => tyD T d W1 ∧ ts Γ W1 (fun ds W2 => rd d ds W2 Q) E) E
theorem je_bm {T id : String} {name : Str} {r : V → List V → Hp → VK → Prop} {rd : DM} (pa : PlainAttrs T) (slot : Slot T name id) (hty : typeOf (.builtin id) = pure (.type "method_descriptor")) (hm : MtR X id r) (hd : DMt X r rd) (ho : JE X o ta) (ha : JA X (e :: es) ts)
    (hbase : attributeBase o name X.env (eval o X.env) = eval o X.env := by rfl)
    (hfew : ((backTo cpos (starEach (e :: es) X.env)).all (fun x => !x.1) && (backToKw cpos (keywordEach [] X.env)).all (fun x => x.1.isSome)
      && decide ((e :: es).length + ([] : List Keyword).length + (if ([] : List Keyword).isEmpty then 0 else 1) < 30)) = true := by rfl)
    (hline : (apos.endLine == cpos.line) = true := by rfl) (hs : starEach (e :: es) X.env = (false, eval e X.env) :: starEach es X.env := by rfl) (hplain : (backTo cpos (starEach es X.env)).any (·.1) = false := by rfl) :
    JE X (.Call (.Attribute o name apos) (e :: es) [] cpos) (xBM T rd ta ts) :=
  ⟨fun Wx tk σ H Γ W Q E R G x h => toE (pe_bm pa slot hty hm semE semA hbase hfew hline hs hplain) (monoE (ho.run Wx tk σ H Γ W _ E R G x h) fun v H1 ⟨d, W1, s1, r1, ty, q1⟩ =>
    ⟨tyD_V s1.rep r1 ty, monoA (ha.run Wx tk σ H1 Γ W1 _ E s1.rep (G.mono s1.ex) (x.step s1) q1) fun vs H2 ⟨ds, W2, s2, r2, q2⟩ =>
      hd v d vs ds W2 H2 Q _ s2.rep (r1.mono s2.ex) r2 (fun _ _ k => QL.step (s1.trans s2) k) q2⟩)⟩
theorem je_bm0 {T id : String} {name : Str} {r : V → List V → Hp → VK → Prop} {rd : DM} (pa : PlainAttrs T) (slot : Slot T name id) (hty : typeOf (.builtin id) = pure (.type "method_descriptor")) (hm : MtR X id r) (hd : DMt X r rd) (ho : JE X o ta)
    (hbase : attributeBase o name X.env (eval o X.env) = eval o X.env := by rfl) (hline : (apos.endLine == cpos.line) = true := by rfl) : JE X (.Call (.Attribute o name apos) [] [] cpos) (xBM T rd ta xNil) :=
  ⟨fun Wx tk σ H Γ W Q E R G x h => toE (pe_bm0 pa slot hty hm semE hbase hline) (monoE (ho.run Wx tk σ H Γ W _ E R G x h) fun v H1 ⟨d, W1, s1, r1, ty, q1⟩ =>
    ⟨tyD_V s1.rep r1 ty, hd v d [] [] W1 H1 Q _ s1.rep r1 .nil (fun _ _ k => QL.step s1 k) q1⟩)⟩
/-- a mutable list written by a rule -/
theorem ql_put {W : Wd} {H : Hp} (R : Rep X.K hd W H) {p : Addr} {m0 : MO} {vs : List V} {ds : List Dt} {v : V} {d : Dt} {Q : DQ} (hm : W.m p = some m0) (r : Dvs X.K (off hd W H) vs ds) (rv : Dv X.K (off hd W H) v d) (q : Q d (W.put p (.lst ds))) : QL X.K hd W H Q v (upd H p (.lst vs)) := by
  have st : Stp X.K hd W H (W.put p (.lst ds)) (upd H p (.lst vs)) := ⟨R.put hm ⟨vs, rfl, r⟩, by rw [off_put hm]; exact Ex.refl, fun b o hb hh => by rw [upd_ne (fun z => by subst z; rw [R.hd_m hm] at hb; cases hb)]; exact hh⟩
  exact ⟨d, _, st, rv.mono st.ex, q⟩
abbrev dmAt (k : Addr → List Dt → Prop) (d : Dt) (W : Wd) : Prop := match d with
  | .at p => (match W.m p with | some (.lst ds) => k p ds | _ => False)
  | _ => False
theorem dmAt_V {k : Addr → List Dt → Prop} {d : Dt} {W : Wd} {H : Hp} (R : Rep X.K hd W H) {v : V} (r : Dv X.K (off hd W H) v d) (h : dmAt k d W) : ∃ p ds vs, d = .at p ∧ v = .ref p ∧ W.m p = some (.lst ds) ∧ H p = some (.lst vs) ∧ Dvs X.K (off hd W H) vs ds ∧ k p ds := by
  cases d with
  | «at» p =>
    cases r
    cases e : W.m p with
    | none => simp only [dmAt, e] at h
    | some mo =>
      cases mo with
      | ins _ _ => simp only [dmAt, e] at h
      | lst ds =>
        simp only [dmAt, e] at h
        obtain ⟨vs, e1, t⟩ := R.m p _ e
        exact ⟨p, ds, vs, rfl, rfl, e, e1, t, h⟩
  | _ => exact h.elim
abbrev mAppend : DM := fun d ds W Q => match ds with
  | [y] => dmAt (fun p xs => xs.length < sizeLine ∧ Q .non (W.put p (.lst (xs ++ [y])))) d W
  | _ => False
theorem dm_append : DMt X rAppend mAppend := by
  intro hd x dx vs ds W H Q Q' R rx r hq h
  match ds, r, h with
  | [y], r, h =>
    obtain ⟨v, rfl, rv⟩ := r.one
    obtain ⟨p, xs, us, rfl, rfl, em, eh, t, hz, q⟩ := dmAt_V R rx h
    exact ⟨p, us, v, rfl, rfl, eh, by rw [t.length]; exact hz, hq _ _ (ql_put R em (t.append (.cons rv .nil)) .non q)⟩
abbrev mPop : DM := fun d ds W Q => match ds with
  | [] => dmAt (fun p xs => match xs[xs.length - 1]? with | some y => Q y (W.put p (.lst xs.dropLast)) | none => False) d W
  | [.int i] => dmAt (fun p xs => (-(2 ^ 63) ≤ i ∧ i < 2 ^ 63) ∧ match ixN xs.length i with | some k => (match xs[k]? with | some y => Q y (W.put p (.lst (xs.eraseIdx k))) | none => False) | none => False) d W
  | _ => False
theorem Dvs.dropLast {K : PySem.W.Frag} {G : Hp} : ∀ {v : List V} {d : List Dt}, Dvs K G v d → Dvs K G v.dropLast d.dropLast
  | _, _, .nil => .nil
  | _, _, .cons h .nil => .nil
  | _, _, .cons h (.cons h2 t) => by
    have ih := Dvs.dropLast (Dvs.cons h2 t)
    exact .cons h ih
theorem dm_pop : DMt X (fun x vs H Q => rPop x vs H Q ∨ rPopAt x vs H Q) mPop := by
  intro hd x dx vs ds W H Q Q' R rx r hq h
  match ds, r, h with
  | [], r, h =>
    cases r
    obtain ⟨p, xs, us, rfl, rfl, em, eh, t, q⟩ := dmAt_V R rx h
    cases e : xs[xs.length - 1]? with
    | none => simp only [e] at q
    | some y =>
      simp only [e] at q
      obtain ⟨u, hu, ru⟩ := t.get e
      exact .inl ⟨p, us, u, rfl, rfl, eh, by rw [t.length]; exact hu, hq _ _ (ql_put R em t.dropLast ru q)⟩
  | [.int i], r, h =>
    obtain ⟨v, rfl, rv⟩ := r.one
    cases rv
    obtain ⟨p, xs, us, rfl, rfl, em, eh, t, ⟨h1, h2⟩, q⟩ := dmAt_V R rx h
    cases e : ixN xs.length i with
    | none => simp only [e] at q
    | some k =>
      simp only [e] at q
      cases e2 : xs[k]? with
      | none => simp only [e2] at q
      | some y =>
        simp only [e2] at q
        obtain ⟨u, hu, ru⟩ := t.get e2
        exact .inr ⟨p, us, i, k, u, rfl, rfl, eh, h1, h2, by rw [t.length]; exact (ixN_seq e).1, hu, hq _ _ (ql_put R em (t.eraseIdx k) ru q)⟩
theorem mt_popAll : MtR X "list.pop" (fun x vs H Q => rPop x vs H Q ∨ rPopAt x vs H Q) := MtR.or mt_pop mt_popAt
abbrev mInsert : DM := fun d ds W Q => match ds with
  | [.int i, y] => dmAt (fun p xs => (0 ≤ i ∧ i < 2 ^ 63 ∧ xs.length < sizeLine) ∧ Q .non (W.put p (.lst (xs.take i.toNat ++ [y] ++ xs.drop i.toNat)))) d W
  | _ => False
theorem dm_insert : DMt X (fun x vs H Q => ∃ (l : Addr) (xs : List V) (i : Int) (y : V), x = .ref l ∧ vs = [.int i, y] ∧ H l = some (.lst xs) ∧ xs.length < sizeLine ∧ 0 ≤ i ∧ i < 2 ^ 63 ∧ Q .non (upd H l (.lst (xs.take i.toNat ++ [y] ++ xs.drop i.toNat)))) mInsert := by
  intro hd x dx vs ds W H Q Q' R rx r hq h
  match ds, r, h with
  | [.int i, y], r, h =>
    obtain ⟨v, u, rfl, rv, ru⟩ := r.two
    cases rv
    obtain ⟨p, xs, us, rfl, rfl, em, eh, t, ⟨h1, h2, h3⟩, q⟩ := dmAt_V R rx h
    exact ⟨p, us, i, u, rfl, rfl, eh, by rw [t.length]; exact h3, h1, h2, hq _ _ (ql_put R em (((t.take _).append (.cons ru .nil)).append (t.drop _)) .non q)⟩
/-! texts -/
abbrev mSplit : DM := fun d ds W Q => match d, ds with
  | .str a, [.str b] => (b.length == 0) = false ∧ a.length + 2 ≤ sizeLine ∧ Q (.lst ((Txt.split a b).map Dt.str)) W
  | _, _ => False
theorem dm_split : DMt X (fun x xs H Q => ∃ a b, x = .str a ∧ xs = [.str b] ∧ (b.length == 0) = false ∧ a.length + 2 ≤ sizeLine ∧ rNewStrs (Txt.split a b) H Q) mSplit := by
  intro hd x dx vs ds W H Q Q' R rx r hq h
  cases dx with
  | str a =>
    match ds, r, h with
    | [.str b], r, h =>
      obtain ⟨v, rfl, rv⟩ := r.one
      cases rv; cases rx
      exact ⟨a, b, rfl, rfl, h.1, h.2.1, fun p hp => hq _ _ (ql_lst R hp (.of_strs _) h.2.2)⟩
  | _ => exact h.elim
abbrev mStarts : DM := fun d ds W Q => match d, ds with
  | .str a, [.str b] => Q (.bl (Txt.startswith a b)) W
  | _, _ => False
theorem dm_starts : DMt X (fun x xs H Q => ∃ a b, x = .str a ∧ xs = [.str b] ∧ Q (.bl (Txt.startswith a b)) H) mStarts := by
  intro hd x dx vs ds W H Q Q' R rx r hq h
  cases dx with
  | str a =>
    match ds, r, h with
    | [.str b], r, h =>
      obtain ⟨v, rfl, rv⟩ := r.one
      cases rv; cases rx
      exact ⟨a, b, rfl, rfl, hq _ _ (ql_val R (.bl _) h)⟩
  | _ => exact h.elim
abbrev strsOf : List Dt → Option (List Str)
  | [] => some []
  | .str b :: r => (strsOf r).map (b :: ·)
  | _ :: _ => none
theorem strs_map : ∀ bs : List Str, strsOf (bs.map Dt.str) = some bs
  | [] => rfl
  | b :: r => by show (strsOf (r.map Dt.str)).map (b :: ·) = _; rw [strs_map r]; rfl
theorem strs_eq : ∀ {ds : List Dt} {bs : List Str}, strsOf ds = some bs → ds = bs.map Dt.str
  | [], bs, h => by cases h; rfl
  | d :: r, bs, h => by
    cases d with
    | str b =>
      have h' : (strsOf r).map (b :: ·) = some bs := h
      cases e : strsOf r with
      | none => rw [e] at h'; cases h'
      | some cs =>
        rw [e] at h'
        cases h'
        rw [strs_eq e]; rfl
    | _ => cases h
abbrev mJoin : DM := fun d ds W Q => match d, ds with
  | .str a, [x] => (match cLstOf x W with
    | some xs => (match strsOf xs with | some ys => (ys.map (·.length)).sum + ys.length * a.length ≤ 16777216 ∧ Q (.str (Txt.join a ys)) W | none => False)
    | none => False)
  | _, _ => False
theorem dm_join : DMt X (fun x xs H Q => ∃ a p, ∃ ys : List Str, x = .str a ∧ xs = [.ref p] ∧ (SqL X.K H p (ys.map V.str) ∨ SqT X.K H p (ys.map V.str)) ∧
    (ys.map (·.length)).sum + ys.length * a.length ≤ 16777216 ∧ Q (.str (Txt.join a ys)) H) mJoin := by
  intro hd x dx vs ds W H Q Q' R rx r hq h
  cases dx with
  | str a =>
    match ds, r, h with
    | [y], r, h =>
      obtain ⟨v, rfl, rv⟩ := r.one
      cases rx
      cases e : cLstOf y W with
      | none => simp only [mJoin, e] at h
      | some xs =>
        simp only [mJoin, e] at h
        cases e2 : strsOf xs with
        | none => simp only [e2] at h
        | some ys =>
          simp only [e2] at h
          obtain ⟨p, us, rfl, h1, t⟩ := cls_V R rv e
          rw [strs_eq e2] at t
          rw [t.strs] at h1
          exact ⟨a, p, ys, rfl, rfl, h1, h.1, hq _ _ (ql_val R (.str _) h.2)⟩
  | _ => exact h.elim

/-! ### o[i] = v -/
theorem takes0 : Takes X (fun _ _ _ _ => False) := fun u s' ⟨_, _, _, _, _, _, _, _, _, _, _, _, _, _, _, _, w⟩ => w.elim
abbrev gIx (to ti : TX) : TXG := fun d Γ W Q => to Γ W (fun o W1 => ti Γ W1 (fun i W2 => match i with
  | .int k => dmAt (fun p xs => match ixN xs.length k with | some j => Q Γ (W2.put p (.lst (xs.set j d))) | none => False) o W2
  | _ => False) E0D) E0D
theorem jg_ix {i : Expr} (ho : JE X o ta) (hi : JE X i tb)
    (hx : ∀ v, assign (.Subscript o i pos) X.env v = (do
      let ov ← holding [v] (eval o X.env)
      let iv ← holding [v, ov] (eval i X.env)
      standAt pos
      holding [v, ov, iv] (setItem ov iv v)
      release [v, ov, iv] []) := by intro _; rfl) : JG X (.Subscript o i pos) (gIx ta tb) := by
  refine ⟨@fun hd σ H Γ W Q v d R G r h => toG (pg_sub semE semE set_list hx) (monoE (ho.run _ takes0 σ H Γ W _ _ R G (fun _ _ _ _ _ _ _ z => z) h) fun u H1 ⟨d1, W1, s1, r1, q1⟩ =>
    monoE (hi.run _ takes0 σ H1 Γ W1 _ _ s1.rep (G.mono s1.ex) (fun _ _ _ _ _ _ _ z => z) q1) fun w H2 ⟨d2, W2, s2, r2, q2⟩ => ?_)⟩
  have s12 := s1.trans s2
  cases d2 with
  | int k =>
    cases r2
    obtain ⟨p, xs, us, rfl, rfl, em, eh, t, q⟩ := dmAt_V s2.rep (r1.mono s2.ex) q2
    cases e : ixN xs.length k with
    | none => simp only [e] at q
    | some j =>
      simp only [e] at q
      obtain ⟨_, W3, s3, _, q3⟩ := ql_put (Q := fun _ W' => Q Γ W') (v := .non) (d := .non) s2.rep em (t.set (r.mono s12.ex) j) .non q
      exact ⟨p, us, k, j, rfl, rfl, eh, by rw [t.length]; exact e, Γ, W3, s12.trans s3, G.mono (s12.trans s3).ex, q3⟩
  | _ => exact q2.elim
end
end DL

set_option Elab.async false
set_option linter.all false
set_option maxRecDepth 100000
set_option maxHeartbeats 4000000
/-! DL6: short words for derivations. -/
namespace DL
open PySem L2
theorem Room.u65 {k : Nat} {A : Around} (r : RoomG k A) : A.units + 65 < cLine := by have := r.un; omega
section
variable {X : Cx} {a b c e o : Expr} {es : List Expr} {p pos apos cpos : Pos} {ta tb tc : TX} {tt tu : TXb} {ts : TXs}
theorem jv (i : Nat) {x : Str} {pos : Pos} (hN : X.N[i]? = some x := by rfl) (hv : Vis X.env.scope x := by first | exact Or.inl rfl | exact Or.inr (Or.inl rfl) | exact Or.inr (Or.inr rfl)) (hd : (x == ("__debug__" : Str)) = false := by decide)
    (hcd : (x == ("__classdict__" : Str)) = false := by decide) : JE X (.Name x pos) (xVar i) := je_var hN hv hd hcd
/-- name i = e -/
theorem jset (i : Nat) {x : Str} {pos' : Pos} (nd : X.N.Nodup) (he : JE X e ta) (hi : X.N[i]? = some x := by rfl) (hx : Loc X.env.scope x := by first | exact Or.inl rfl | exact Or.inr rfl) (hs : swapsWith e (some (.Name x pos')) pos.line X.env = pure false := by rfl)
    (hf : X.fn x = true ∨ X.env.scope.names.lookup x = some .local := by first | exact .inl rfl | exact .inr rfl) : JS X (.Assign [.Name x pos'] e pos) (xAsg ta (gSet i)) := js_set nd hi hx he hs hf
theorem jgn (i : Nat) {own : List Nat} {x : Str} (nd : X.N.Nodup) (ho : i ∈ own := by decide) (hi : X.N[i]? = some x := by rfl) (hx : Loc X.env.scope x := by first | exact Or.inl rfl | exact Or.inr rfl)
    (hf : X.fn x = true ∨ X.env.scope.names.lookup x = some .local := by first | exact .inl rfl | exact .inr rfl) : JGw X (.Name x pos) own (gSet i) := jgw_name nd hi hx ho hf
theorem j_len (h : X.mg "len" = none) (ha : JA X [e] ts) (hg : Gl X "len" := by rfl) (he : starEach [e] X.env = (false, eval e X.env) :: starEach [] X.env := by rfl) (hpl : (backTo pos (starEach [] X.env)).any (·.1) = false := by rfl) : JE X (.Call (.Name "len" p) [e] [] pos) (xCB cLen ts) :=
  je_callB call_len dca_len hg h PySem.boot_len ha (by decide) (by decide) he hpl
theorem j_all (h : X.mg "all" = none) (ha : JA X [e] ts) (hc : X.calm = true := by rfl) (hg : Gl X "all" := by rfl) (he : starEach [e] X.env = (false, eval e X.env) :: starEach [] X.env := by rfl) (hpl : (backTo pos (starEach [] X.env)).any (·.1) = false := by rfl) : JE X (.Call (.Name "all" p) [e] [] pos) (xCB cAll ts) :=
  je_callB (cr_all hc) dca_all hg h (by decide +kernel) ha (by decide) (by decide) he hpl
theorem j_any (h : X.mg "any" = none) (ha : JA X [e] ts) (hc : X.calm = true := by rfl) (hg : Gl X "any" := by rfl) (he : starEach [e] X.env = (false, eval e X.env) :: starEach [] X.env := by rfl) (hpl : (backTo pos (starEach [] X.env)).any (·.1) = false := by rfl) : JE X (.Call (.Name "any" p) [e] [] pos) (xCB cAny ts) :=
  je_callB (cr_any hc) dca_any hg h (by decide +kernel) ha (by decide) (by decide) he hpl
theorem j_tuple (h : X.mg "tuple" = none) (ha : JA X [e] ts) (hg : Gl X "tuple" := by rfl) (he : starEach [e] X.env = (false, eval e X.env) :: starEach [] X.env := by rfl) (hpl : (backTo pos (starEach [] X.env)).any (·.1) = false := by rfl) : JE X (.Call (.Name "tuple" p) [e] [] pos) (xCB cTup ts) :=
  je_callTy call_tuple_of dca_tup hg h (by decide +kernel) ha (by decide) (by decide) he hpl
theorem j_list (h : X.mg "list" = none) (ha : JA X [e] ts) (hg : Gl X "list" := by rfl) (he : starEach [e] X.env = (false, eval e X.env) :: starEach [] X.env := by rfl) (hpl : (backTo pos (starEach [] X.env)).any (·.1) = false := by rfl) : JE X (.Call (.Name "list" p) [e] [] pos) (xCB cLst ts) :=
  je_callTy call_list_of dca_lst hg h (by decide +kernel) ha (by decide) (by decide) he hpl
theorem j_listN (h : X.mg "list" = none) (ha : JA X [e] ts) (hg : Gl X "list" := by rfl) (he : starEach [e] X.env = (false, eval e X.env) :: starEach [] X.env := by rfl) (hpl : (backTo pos (starEach [] X.env)).any (·.1) = false := by rfl) : JE X (.Call (.Name "list" p) [e] [] pos) (xCB cLstN ts) :=
  je_callTy call_list_of dca_lstN hg h (by decide +kernel) ha (by decide) (by decide) he hpl
theorem j_str (h : X.mg "str" = none) (ha : JA X [e] ts) (hg : Gl X "str" := by rfl) (he : starEach [e] X.env = (false, eval e X.env) :: starEach [] X.env := by rfl) (hpl : (backTo pos (starEach [] X.env)).any (·.1) = false := by rfl) : JE X (.Call (.Name "str" p) [e] [] pos) (xCB cStr ts) :=
  je_callTy call_strA dca_str hg h (by decide +kernel) ha (by decide) (by decide) he hpl
theorem j_max2 (h : X.mg "max" = none) (ha : JA X [a, b] ts) (hc : X.calm = true := by rfl) (hg : Gl X "max" := by rfl) (he : starEach [a, b] X.env = (false, eval a X.env) :: starEach [b] X.env := by rfl) (hpl : (backTo pos (starEach [b] X.env)).any (·.1) = false := by rfl) : JE X (.Call (.Name "max" p) [a, b] [] pos) (xCB cMax2 ts) :=
  je_callB (call_max2 hc) dca_max2 hg h (by decide +kernel) ha (by decide) (by decide) he hpl
theorem j_min2 (h : X.mg "min" = none) (ha : JA X [a, b] ts) (hc : X.calm = true := by rfl) (hg : Gl X "min" := by rfl) (he : starEach [a, b] X.env = (false, eval a X.env) :: starEach [b] X.env := by rfl) (hpl : (backTo pos (starEach [b] X.env)).any (·.1) = false := by rfl) : JE X (.Call (.Name "min" p) [a, b] [] pos) (xCB cMin2 ts) :=
  je_callB (call_min2 hc) dca_min2 hg h (by decide +kernel) ha (by decide) (by decide) he hpl
/-- isinstance(x, T), T a built-in class -/
theorem j_isB (h : X.mg "isinstance" = none) (ha : JA X [a, b] ts) (hg : Gl X "isinstance" := by rfl) (he : starEach [a, b] X.env = (false, eval a X.env) :: starEach [b] X.env := by rfl) (hpl : (backTo pos (starEach [b] X.env)).any (·.1) = false := by rfl) : JE X (.Call (.Name "isinstance" p) [a, b] [] pos) (xCB cIsB ts) :=
  je_callB call_isi dca_isB hg h (by decide +kernel) ha (by decide) (by decide) he hpl
/-- a built-in class as a value -/
theorem j_ty {n : String} {x : Str} (h : X.mg x = none) (hv : bootBuiltins x = some (.type n) := by decide +kernel) (hg : Gl X x := by rfl) (hn : x ≠ "__name__" := by decide) (hd : (x == ("__debug__" : Str)) = false := by decide) : JE X (.Name x pos) (xC (.ty n)) :=
  je_bltn hg h hv (v := .ty n) rfl (fun _ => .ty n) hn hd
/-- a module's text, its int -/
theorem j_gs {x s : Str} (h : ∃ t, X.mg x = some (.str s t)) (hg : Gl X x := by rfl) (hd : (x == ("__debug__" : Str)) = false := by decide) : JE X (.Name x pos) (xC (.str s)) :=
  let ⟨t, e⟩ := h; je_glob hg e (v := .str s) ⟨t, rfl⟩ (fun _ => .str s) hd
theorem j_gi {x : Str} {i : Int} (h : ∃ t, X.mg x = some (.int i t)) (hg : Gl X x := by rfl) (hd : (x == ("__debug__" : Str)) = false := by decide) : JE X (.Name x pos) (xC (.int i)) :=
  let ⟨t, e⟩ := h; je_glob hg e (v := .int i) ⟨t, rfl⟩ (fun _ => .int i) hd
/-- a module's def or class as a value -/
theorem j_ga {x : Str} {f : Addr} (h : X.mg x = some (.ref f)) (hg : Gl X x := by rfl) (hd : (x == ("__debug__" : Str)) = false := by decide) : JE X (.Name x pos) (xC (.at f)) := je_glob hg h (v := .ref f) rfl (fun _ => .at f) hd
theorem j_in {hu : X.A.units + 65 < cLine} (ha : JE X a ta) (hb : JE X b tb) (hm : behindInMarks .In b = false := by rfl) : JE X (.Compare a [.In] [b] pos) (xOp (dIn false) ta tb) := je_cmp (op_inAll hu) dop_in hm ha hb
end
end DL

set_option Elab.async false
set_option linter.all false
set_option maxRecDepth 100000
set_option maxHeartbeats 4000000
/-! DE0: own exceptions over ValueError, KeyError, whose __init__ says super().__init__('..') and stores at most one field: the raw steps. -/
namespace PySem
namespace DEX
open PySem.W PySem.Calls PyProof.Rows
structure InitF (B initId : String) : Prop where
  noStar : (B != "*") = true
  kind : builtinKind initId = some .slot
  row : Manifest.signature? initId = some ⟨.positional, "*", B, .self, [⟨"args", .varPos, false⟩]⟩
  entry : entryFor table initId = some Builtin.«BaseException.__init__»
  plain : plainId initId = true
  kx : KxsFacts B initId
theorem initF_ValueError : InitF "ValueError" "ValueError.__init__" where
  noStar := F.excCall_ValueError.noStar
  kind := F.excCall_ValueError.initKind
  row := F.excCall_ValueError.initRow
  entry := F.excCall_ValueError.initEntry
  plain := F.excCall_ValueError.init.plain
  kx := kxs_ValueError
theorem initF_KeyError : InitF "KeyError" "KeyError.__init__" where
  noStar := by decide +kernel
  kind := by kernel_rfl
  row := by kernel_rfl
  entry := entryFor_alias (id' := "BaseException.__init__") (by rw [fastTable_eq_tree]; kernel_rfl) (by first | rfl | decide +kernel) (by decide +kernel) (by rw [fastTable_eq_tree]; kernel_rfl)
  plain := by decide +kernel
  kx := ⟨by show builtinType _ = _; rw [builtinType_eq_fast]; kernel_rfl, by first | kernel_rfl | rfl⟩
/-- what a built-in class bm's head gives: N: the class whose __new__ serves -/
structure BaseF (bmB : List Value) (N newId initN : String) (bmN : List Value) (B initId : String) : Prop where
  nw : ExcBaseFacts N newId initN bmN
  ini : InitF B initId
  cN : bmB.contains (.type N) = true
  cA : bmB.contains (.type "AttributeError") = false
  cM : bmB.contains (.type "NameError") = false
  cB : bmB.contains (.type B) = true
  cO : bmB.contains (.type "object") = true
  pass : ∀ self, refuseLoop self "__setattr__" bmB = pure ()
abbrev mroVE : List Value := [.type "ValueError", .type "Exception", .type "BaseException", .type "object"]
abbrev mroKE : List Value := [.type "KeyError", .type "LookupError", .type "Exception", .type "BaseException", .type "object"]
theorem baseVE : BaseF mroVE "ValueError" "ValueError.__new__" "ValueError.__init__" mroVE "ValueError" "ValueError.__init__" where
  nw := F.excBase_ValueError
  ini := initF_ValueError
  cN := by decide +kernel
  cA := by decide +kernel
  cM := by decide +kernel
  cB := by decide +kernel
  cO := by decide +kernel
  pass := fun self => by kernel_rfl
theorem baseKE : BaseF mroKE "LookupError" "LookupError.__new__" "LookupError.__init__" [.type "LookupError", .type "Exception", .type "BaseException", .type "object"] "KeyError" "KeyError.__init__" where
  nw := F.excBase_LookupError
  ini := initF_KeyError
  cN := by decide +kernel
  cA := by decide +kernel
  cM := by decide +kernel
  cB := by decide +kernel
  cO := by decide +kernel
  pass := fun self => by kernel_rfl
/-! ### the making -/
section
variable {M : Model} {A : Around} {E : Value → Shared → Prop} {h : Heap} {g : Array GenState} {d : Drawn} {t : Nat} {os : OsState}
variable {nm q : Str} {C N : Addr} {bs bm bmB bmN : List Value} {hdct : Bool} {sn : List Str} {sub : List Value} {ab : Bool} {col : Option Bool} {dd : Option Addr} {k0 k1 k2 k3 k5 : Option Value} {B NB newId initN initId : String}
theorem check_new (F : BaseF bmB NB newId initN bmN B initId) (hT : excTail bmB bm = true) {rest : List Value} {Q : Unit → Shared → Prop}
    (hC : h.get? C = some (excClassObj nm q C N bs bm hdct sn sub ab col dd k0 k1 k2 k3 k5 newId)) (hq : Q () ⟨h, g, d, t, os⟩) : wpAny M A (checkBuiltinCall newId ⟨.ref C :: rest, []⟩) Q E ⟨h, g, d, t, os⟩ := by
  have hcont : (Value.ref C :: bm).contains (.type NB) = true := by rw [List.contains_cons, excTail_contains _ _ hT, F.cN, Bool.or_true]
  have hstar := F.nw.noStar
  simp only [checkBuiltinCall, F.nw.newKind, F.nw.newSplit, F.nw.newRow]
  repeat (first | refine wpAny_loadPart_at hC ?_ | (refine wpAny_isSubtype_exc hC ?_; rw [hcont]) | refine wpAny_staticBase_exc hC ?_ | refine wpAny_madeBy_exc hC ?_ | simp only [bne_self_eq_false, Bool.false_eq_true, if_false] | wp_step)
  exact hq
theorem check_bound (F : InitF B initId) {e : Addr} {oe : Obj} {rest : List Value} {Q : Unit → Shared → Prop}
    (hC : h.get? C = some (excClassObj nm q C N bs bm hdct sn sub ab col dd k0 k1 k2 k3 k5 newId)) (he : h.get? e = some oe) (hcls : oe.cls = .ref C) (hq : Q () ⟨h, g, d, t, os⟩) : wpAny M A (checkBoundCall initId ⟨.ref e :: rest, []⟩) Q E ⟨h, g, d, t, os⟩ := by
  have hshort := F.noStar
  simp only [checkBoundCall, F.kind, F.row]
  repeat (first | (with_reducible refine wpAny_loadPart_at he ?_; rw [hcls]) | with_reducible refine wpAny_loadPart_at hC ?_ | wp_step)
  refine wpAny_onRaise ?_
  rw [show ∀ (a b : String) (n : Nat), Bind.check ⟨.positional, "*", B, .self, [⟨"args", .varPos, false⟩]⟩ a b n (List.map (fun x => x.fst) ({ pos := Value.ref e :: rest } : Args).kw) = pure () from
    fun a b n => check_star_args _ _ _ _ _ _]
  exact wpAny_pure hq
end
section
variable {prog : Program} {w : World} {A : Around} {E : Value → Shared → Prop} {R : Result → Shared → Prop} {h : Heap} {g : Array GenState} {d : Drawn} {t : Nat} {os : OsState}
variable {nm q : Str} {C N : Addr} {bs bm bmB bmN : List Value} {hdct : Bool} {sn : List Str} {sub : List Value} {ab : Bool} {col : Option Bool} {dd : Option Addr} {k0 k1 k2 k3 k5 : Option Value} {B NB newId initN initId : String}
theorem new_ok (F : BaseF bmB NB newId initN bmN B initId) (hT : excTail bmB bm = true) {rest : List Value}
    (hC : h.get? C = some (excClassObj nm q C N bs bm hdct sn sub ab col dd k0 k1 k2 k3 k5 newId))
    (hq : R (.ok (.ret (.ref (h.objs.size + 1)))) ⟨(h.push { cls := .type "tuple", data := .seq rest.toArray }).push
      { cls := .ref C, data := .fields #[.ref h.objs.size, .none, .none, .none, .bool false, .none] }, g, d, t, os⟩) (hrest : rest.length ≤ sizeLine) :
    codeAny (model prog w) A (.builtin newId ⟨.ref C :: rest, []⟩) R ⟨h, g, d, t, os⟩ := by
  have hends := F.nw.ends
  have hcB : (Value.ref C :: bm).contains (.type NB) = true := by rw [List.contains_cons, excTail_contains _ _ hT, F.cN, Bool.or_true]
  have hcA : (Value.ref C :: bm).contains (.type "AttributeError") = false := by rw [List.contains_cons, excTail_contains _ _ hT, F.cA]; rfl
  have hcN : (Value.ref C :: bm).contains (.type "NameError") = false := by rw [List.contains_cons, excTail_contains _ _ hT, F.cM]; rfl
  refine codeAny_builtinAt F.nw.entry ?_
  unfold Builtin.«BaseException.__new__»
  refine wpAt_bind ?_
  show wpAt _ _ _ (stack >>= _) _ _ _
  refine wpAt_bind (wpAt_stack fun p below => wpAt_of_wpAny ?_)
  wp_walk
  refine wpAt_of_wpAny ?_
  rw [F.nw.owner]
  repeat (first | with_reducible refine wpAny_madeHere_exc F.nw.canon hC ?_ | with_reducible refine wpAny_loadPart_at hC ?_ | (with_reducible refine wpAny_isSubtype_exc hC ?_; first | rw [hcB] | rw [hcA] | rw [hcN]) | wp_step)
  show R _ _
  rw [Heap.size_push]
  exact hq
theorem type_call (F : BaseF bmB NB newId initN bmN B initId) (hT : excTail bmB bm = true) {rest : List Value} {fI : Addr} {Q : Fin → Shared → Prop} {kw : List (Str × Value)}
    (hC : h.get? C = some (excClassObj nm q C N bs bm hdct sn sub ab col dd k0 k1 k2 k3 k5 newId))
    (hi : W.Looks (model prog w) h (typeLookup (.ref C) "__init__") (some (.ref fI))) (hb : ∀ self, W.Looks (model prog w) h (bindSpecial (.ref fI) self) (.ref fI, [self])) (hrest : rest.length ≤ sizeLine)
    (hq : codeAny (model prog w) A (.call (.ref fI) ⟨.ref (h.objs.size + 1) :: rest, []⟩)
      (fun r s' => match r with | .ok (.ret v) => v = .none ∧ Q (.done (.ret (.ref (h.objs.size + 1)))) s' | .ok _ => False | .error e => E e s')
      ⟨(h.push (W.kdv_tup rest)).push (HandSPX.excO C h.objs.size), g, d, t, os⟩) :
    wpAny (model prog w) A (Builtin.«type.__call__» ⟨.ref C :: rest, []⟩) Q E ⟨h, g, d, t, os⟩ := by
  repeat (first | with_reducible refine wpAny_loadPart_at hC ?_ | with_reducible refine wpAny_madeBy_exc hC ?_ | wp_step)
  refine codeAny_call_builtin_code (Code.quiet_builtin _ F.nw.quiet) (check_new F hT hC ?_)
  refine new_ok F hT hC ?_ hrest
  show wpAny _ _ _ _ _ _
  have k : ∀ b o, h.get? b = some o → ((h.push (W.kdv_tup rest)).push (HandSPX.excO C h.objs.size)).get? b = some o := fun b o e => Heap.get?_push_of_some _ (Heap.get?_push_of_some _ e)
  have hC₁ := k _ _ hC
  have hget : ((h.push (W.kdv_tup rest)).push (HandSPX.excO C h.objs.size)).get? (h.objs.size + 1) = some (HandSPX.excO C h.objs.size) := by heap_get
  have hcC : (Value.ref C :: bm).contains (.ref C) = true := by simp
  have i1 := hi.keeps k
  have b1 := (hb (.ref (h.objs.size + 1))).keeps k
  unfold isInstance
  repeat (first | with_reducible refine wpAny_loadPart_at hget ?_ | (with_reducible refine wpAny_isSubtype_exc hC₁ ?_; rw [hcC]) | wp_step)
  show wpAny _ _ (typeLookup (.ref C) _) _ _ _
  refine i1.at ?_
  refine wpAny_holding (wpAny_bind (b1.at ?_))
  refine wpAny_bind (wpAny_call (codeAny_mono hq fun r s' z => ?_))
  rcases r with e | (v | _ | _ | _) <;> first | exact z | exact z.elim | skip
  obtain ⟨rfl, z⟩ := z
  first
    | exact wpAny_pure (wpAny_pure z)
    | (wp_walk; exact z)
theorem call_ok (F : BaseF bmB NB newId initN bmN B initId) (hT : excTail bmB bm = true) {rest : List Value} {fI : Addr}
    (hC : h.get? C = some (excClassObj nm q C N bs bm hdct sn sub ab col dd k0 k1 k2 k3 k5 newId))
    (hi : W.Looks (model prog w) h (typeLookup (.ref C) "__init__") (some (.ref fI))) (hb : ∀ self, W.Looks (model prog w) h (bindSpecial (.ref fI) self) (.ref fI, [self])) (hrest : rest.length ≤ sizeLine)
    (hq : codeAny (model prog w) (A.under (.builtin "type.__call__" ⟨.ref C :: rest, []⟩)) (.call (.ref fI) ⟨.ref (h.objs.size + 1) :: rest, []⟩) (W.InitBack (h.objs.size + 1) R)
      ⟨(h.push (W.kdv_tup rest)).push (HandSPX.excO C h.objs.size), g, d, t, os⟩) :
    codeAny (model prog w) A (.call (.ref C) ⟨rest, []⟩) R ⟨h, g, d, t, os⟩ := by
  have f1 := tc_lookup
  have f2 := tc_bind (.ref C)
  have hTy : (⟨h, g, d, t, os⟩ : Shared).TypeIs (.ref C) "type" := ⟨_, hC, rfl⟩
  refine codeAny_of_tree ?_
  show wpAny _ _ (callAny (.ref C) _) _ _ _
  repeat (any_goals (first | assumption | with_reducible refine wpAny_loadPart_at hC ?_ | wp_step))
  refine ⟨rfl, ?_⟩
  refine codeAny_call_builtin_at (Code.quiet_builtin _ (by decide +kernel)) entry_typeCall (wpAny_check_type_call_sub hC (type_call F hT (kw := []) hC hi hb hrest ?_))
  refine codeAny_mono hq fun r s' z => ?_
  rcases r with e | (v | _ | _ | _) <;> exact z
end
end DEX
end PySem

set_option Elab.async false
set_option linter.all false
set_option maxRecDepth 100000
set_option maxHeartbeats 4000000
/-! DE1: the walk of such an __init__. -/
namespace PySem
namespace DEX
open PySem.W PySem.Calls PyProof.Rows L2
/-- an exception, not raised -/
abbrev exO (C t : Addr) (d : Option Addr) : Obj := { cls := .ref C, dict := d, data := .fields #[.ref t, .none, .none, .none, .bool false, .none] }
/-- what the written part says of such a class; f: its __init__, cc: the cell of __class__, cda: the code -/
structure ExK (prog : Program) (K : Frag) (bmB : List Value) (newId initId : String) (C fI cc cda : Addr) (qual : Str) (scope : Scope) (fd : FuncData) : Prop where
  cls : excInitIn K C bmB newId = true
  hdt : hasDictIn K C = true
  init : findIn K (.ref C) "__init__" = some (some (.ref fI))
  tfn : typeIn K (.ref fI) = some (.type "function")
  sup : ks_superIn K C C "__init__" = some (some (.builtin initId))
  opq : nsIn K cStatics "thirdparty.any" = some none
  fn : ∃ oc od osl, K.lookup fI = some ⟨oc, od, .func fd, osl⟩
  cod : codeIn K (.ref cda) qual = true
  cell : ∃ cl cld csl, K.lookup cc = some ⟨cl, cld, .cell (some (.ref C)), csl⟩
  code : ∃ ccl cdd vs ccs file tf, K.lookup cda = some ⟨ccl, cdd, .fields vs, ccs⟩ ∧ vs[2]? = some (.str file tf) ∧ ((prog.main.file : Str) == file) = true
  top : (prog.main.scope.names.lookup ("super" : Str)).isSome = false
  sa : findIn K (.ref C) "__setattr__" = some (some (.builtin "object.__setattr__"))
  kpC : keepIn K (.ref C) = true
/-- its scope -/
structure ExSc (scope : Scope) : Prop where
  sup : scope.names.lookup ("super" : Str) = some .globalImplicit
  cls : scope.names.lookup ("__class__" : Str) = some .free
  self : scope.names.lookup ("self" : Str) = some .local
  cell : ∀ x ∈ scope.names, x.2 ≠ .cell
  co : scope.isCoroutine = false
  gen : scope.isGenerator = false
  kind : scope.kind = .function
section
variable {prog : Program} {w : World} {A : Around} {E : Value → Shared → Prop} {h : Heap} {g : Array GenState} {d : Drawn} {t : Nat} {os : OsState} {K : Frag} {mg : Str → Option Value} {base : Heap}
variable {bmB bmN : List Value} {NB newId initN B initId : String} {C fI cc cda : Addr} {qual : Str} {scope : Scope} {fd : FuncData}
/-- the class object -/
theorem cls_obj (X : K.In h) (q : excInitIn K C bmB newId = true) : ∃ nm N qn bs bm hdct sn sub ab col dd k0 k1 k2 k3 k5, h.get? C = some (excClassObj nm qn C N bs bm hdct sn sub ab col dd k0 k1 k2 k3 k5 newId) ∧ excTail bmB bm = true ∧
    clsIn K C = some { name := nm, bases := bs, mro := .ref C :: bm, ns := N, qualname := qn, hasDict := hdct, slotNames := sn, subclasses := sub, abstract := ab, collection := col, hasDel := false } := by
  unfold excInitIn at q
  split at q
  · rename_i dd cd sl ho
    split at q
    · rename_i C' bm k0 k1 k2 k3 n k5 hm hs
      simp only [Bool.and_eq_true, beq_iff_eq, Bool.not_eq_true'] at q
      obtain ⟨⟨⟨rfl, rfl⟩, hdel⟩, ht⟩ := q
      obtain ⟨nm, bs, mro, ns, qn, hd, sn, sub, ab, col, del⟩ := cd
      dsimp only at hm hdel
      subst hm hdel
      have hsl : sl = #[k0, k1, k2, k3, some (.builtin n), k5] := by
        obtain ⟨l⟩ := sl
        simp only at hs
        rw [hs]
      subst hsl
      refine ⟨nm, ns, qn, bs, bm, hd, sn, sub, ab, col, dd, k0, k1, k2, k3, k5, X _ _ ho, ht, ?_⟩
      unfold clsIn
      rw [ho]
    · cases q
  · cases q
/-- super().__init__('m'), the args laid anew -/
theorem super_stmt (BF : BaseF bmB NB newId initN bmN B initId) (T : ExK prog K bmB newId initId C fI cc cda qual scope fd) (Sc : ExSc scope) (Mg : h.Ns mainGlobals mg) (hmg : mg "super" = none) (Mb : ∃ mb, h.Ns builtinsNs mb ∧ ∀ x : Str, x ≠ "__name__" → mb x = bootBuiltins x)
    (X : K.In h) {L e t0 : Addr} {ar : Arg} {m : Str → Option Value} {body : List Stmt} {p0 p1 p2 p3 p4 p5 : Pos} {msg : Str} {j : Nat} {pl : Sem Bool} {Q : Flow → Shared → Prop}
    (hp : (fd.params.posonlyargs ++ fd.params.args).head? = some ar) (har : ar.arg = "self") (hL : h.Ns L m) (hs : m "self" = some (.ref e)) (he : h.get? e = some (exO C t0 none))
    (hq : ∀ h' t1 tk, (∀ b o, b ≠ e → h.get? b = some o → h'.get? b = some o) → h'.get? e = some (exO C t1 none) → Q .next ⟨h', g, d, tk, os⟩)
    (hsw : swapsWith (.Call (.Attribute (.Call (.Name "super" p0) [] [] p1) "__init__" p2) [.Constant (.str msg) j p3] [] p4) none p5.line (ksEnv qual scope L fI (.ref cda) cc) = pure false := by rfl)
    (hint : interactive (ksEnv qual scope L fI (.ref cda) cc) = false)
    (hcall : eval (.Call (.Attribute (.Call (.Name "super" p0) [] [] p1) "__init__" p2) [.Constant (.str msg) j p3] [] p4) (ksEnv qual scope L fI (.ref cda) cc) = (do
      let ov ← attributeBase (.Call (.Name "super" p0) [] [] p1) "__init__" (ksEnv qual scope L fI (.ref cda) cc) (eval (.Call (.Name "super" p0) [] [] p1) (ksEnv qual scope L fI (.ref cda) cc))
      standAt p2.atName
      let (f, first) ← holding [ov] (getMethod ov "__init__" pl)
      callWith p4 f first (backTo p4 (starEach [.Constant (.str msg) j p3] (ksEnv qual scope L fI (.ref cda) cc))) [])) :
    _root_.PySem.wpAt (model prog w) A (.func body (ksEnv qual scope L fI (.ref cda) cc)) (exec (.Expr (.Call (.Attribute (.Call (.Name "super" p0) [] [] p1) "__init__" p2) [.Constant (.str msg) j p3] [] p4) p5) (ksEnv qual scope L fI (.ref cda) cc)) Q E ⟨h, g, d, t, os⟩ := by
  obtain ⟨oc, od, osl, hfn⟩ := T.fn
  obtain ⟨cl, cld, csl, hcell⟩ := T.cell
  obtain ⟨ccl, cdd, vs, ccs, file, tf, hcode, hvs, hfile⟩ := T.code
  obtain ⟨nm, N, qn, bs, bm, hdct, sn, sub, ab, col, dd, k0, k1, k2, k3, k5, hC, hT, hcl⟩ := cls_obj X T.cls
  obtain ⟨mb, hb1, hb2⟩ := Mb
  have hsupb : mb "super" = some (.type "super") := (hb2 _ (by decide)).trans (by decide +kernel)
  refine ks_wpAt_Expr_any ?_ hint hsw
  refine ks_wpAt_MethodCall (pl := pl) ?_ hcall
  refine ks_wpAt_super_base (env := ksEnv qual scope L fI (.ref cda) cc) Sc.sup Sc.cls (by decide) rfl (X _ _ hfn) rfl hp rfl (X _ _ hcode) rfl hvs hfile T.top ?_
  refine ks_loadName_global Sc.kind Sc.sup (loadGlobal_builtin (env := ksEnv qual scope L fI (.ref cda) cc) Mg hmg hb1 hsupb ⟨rfl, ?_⟩)
  refine wpAny_loadName_free Sc.kind Sc.cls rfl ⟨_, X _ _ hcell, rfl⟩ ?_
  rw [har]
  refine wpAny_loadName_local Sc.kind Sc.self hL hs ?_
  refine ks_wpAny_isType_cls hC rfl ⟨rfl, ?_⟩
  have hxC : e ≠ C := fun z => by
    rw [z, hC] at he
    have := congrArg Obj.cls (Option.some.inj he)
    cases this
  have hsubC : Looks (model prog w) h (isSubtype (.ref C) (.ref C)) true := looks_mroIn X (by unfold mroIn; rw [hcl, Option.bind_some]; simp)
  refine ks_wpAny_call_super hC rfl he rfl (fun c z => by cases z) hsubC (fun h1 es k1' => ?_)
  have X1 : K.In h1 := X.keeps k1'
  have hC1 := k1' _ _ hC
  have he1 := k1' _ _ he
  have hB : (Value.ref C :: bm).contains (.type B) = true := by rw [List.contains_cons, excTail_contains _ _ hT, BF.cB, Bool.or_true]
  have I1 : InstAt h1 e (exO C t0 none) C none := ⟨he1, rfl, rfl, trivial⟩
  have hsubB : Looks (model prog w) h1 (isSubtype (.ref C) (.type B)) true := looks_mroIn X1 (by unfold mroIn; rw [hcl, Option.bind_some]; simp only [List.isEmpty_cons, Bool.false_eq_true, if_false]; rw [hB])
  have hI : Looks (model prog w) h1 (isInstance (.ref e) (.type B)) true := I1.type.andThen hsubB
  have hsup := T.sup
  unfold ks_superIn at hsup
  rw [hcl] at hsup
  refine kxs_getMethod BF.ini.kx es (looks_opaque X1 T.opq) (l₀ := .ref C :: bm) (fun A Q E s k q => wpAny_bind ((looks_clsIn X1 hcl) A _ E s k (wpAny_pure q))) rfl X1 hsup hI hxC (by decide) ?_
  have k2' : ∀ b o, h1.get? b = some o → (h1.push (kxs_mw initId e)).get? b = some o := fun b o z => Heap.get?_push_of_some _ z
  have hu : (h1.push (kxs_mw initId e)).get? h1.objs.size = some (kxs_mw initId e) := Heap.get?_push_at rfl rfl
  show wpAny _ _ (callWith p4 (.ref h1.objs.size) [] (backTo p4 (starEach [.Constant (.str msg) j p3] _)) []) _ _ _
  refine kxs_callWith (i := initId) (x := e) rfl ?_
  refine evalArgs_plain ?_
  show wpAny _ _ (spliced ((false, eval (.Constant (.str msg) j p3) _) :: backTo p4 (starEach [] _))) _ _ _
  refine Calls.spliced_cons ?_
  refine wpAny_Constant_str ?_
  refine Calls.spliced_nil ⟨hu, ?_⟩
  show wpAny _ _ (call (.ref h1.objs.size) [_]) _ _ _
  have he2 := k2' _ _ he1
  have hC2 := k2' _ _ hC1
  refine wpAny_call (codeAny_of_tree ?_)
  show wpAny _ A.in1 (callAny (.ref h1.objs.size) ⟨[_], []⟩) _ _ _
  simp only [callAny]
  refine wpAny_bind (wpAny_load hu ?_)
  simp only [kxs_mw, show (Value.type "method-wrapper" == Value.type "method" || Value.type "method-wrapper" == Value.type "builtin_function_or_method" || Value.type "method-wrapper" == Value.type "method-wrapper") = true by decide, if_true]
  refine KFB.if_so (by decide) ?_
  refine wpAny_bind (check_bound BF.ini hC2 he2 rfl ?_)
  refine wpAny_bind (wpAny_pure (wpAny_pure ?_))
  refine ⟨plainId_quiet BF.ini.plain _, codeAny_builtin BF.ini.entry ?_⟩
  refine exc_init_tree (cls := .ref C) (t0 := t0) (dv := none) (c2 := .none) (c3 := .none) (b4 := .bool false) he2 (by show 1 ≤ sizeLine; rw [sizeLine_eq]; omega) (fun h' kk ee tt => ?_)
  exact hq _ _ _ (fun b o hb ho => kk b o hb (k2' b o (k1' b o ho))) ee
end
end DEX
end PySem

set_option Elab.async false
set_option linter.all false
set_option maxRecDepth 100000
set_option maxHeartbeats 4000000
/-! DE2: such an __init__ called; the class called. -/
namespace PySem
namespace DEX
open PySem.W PySem.Calls PyProof.Rows L2
abbrev exArgs0 (args : Arguments) : Prop := True
/-- super().__init__('m') -/
abbrev supSt (msg : Str) (j : Nat) (p0 p1 p2 p3 p4 p5 : Pos) : Stmt := .Expr (.Call (.Attribute (.Call (.Name "super" p0) [] [] p1) "__init__" p2) [.Constant (.str msg) j p3] [] p4) p5
abbrev fldSt (f p : Str) (q0 q1 q2 q3 : Pos) : Stmt := .Assign [.Attribute (.Name "self" q0) f q1] (.Name p q2) q3
section
open Builtin Builtin.ObjectAttr
variable {prog : Program} {w : World} {A : Around} {E : Value → Shared → Prop} {R : Result → Shared → Prop} {hp : Heap} {g : Array GenState} {d : Drawn} {t : Nat} {os : OsState} {bmB bmN : List Value} {NB newId initN B initId : String}
theorem exc_osa (BF : BaseF bmB NB newId initN bmN B initId) {K : W.Frag} {name : Str} {tk : Tok} {v : Value} {x C : Addr} {fv : Array Value} {cd : ClassData} {bm : List Value}
    (X : K.In hp) (hx : hp.get? x = some { cls := .ref C, data := .fields fv }) (hcd : W.clsIn K C = some cd) (hm : cd.mro = .ref C :: bm) (hT : excTail bmB bm = true) (hh : cd.hasDict = true) (ha : W.findIn K (.ref C) name = some none)
    (hq : ∀ h' tk' dx, (∀ b o, b ≠ x → hp.get? b = some o → h'.get? b = some o) → hp.objs.size ≤ dx → dx ≠ x → h'.get? x = some { cls := .ref C, dict := some dx, data := .fields fv } →
      h'.Ns1 dx (fun y => if y = name then some v else none) → R (.ok (.ret .none)) ⟨h', g, d, tk', os⟩) :
    codeAny (model prog w) A (.call (.builtin "object.__setattr__") ⟨[.ref x, .str name tk, v], []⟩) R ⟨hp, g, d, t, os⟩ := by
  have I : W.InstAt hp x { cls := .ref C, data := .fields fv } C none := ⟨hx, rfl, rfl, trivial⟩
  have SF := F.store_object
  have hob : (Value.ref C :: bm).contains (.type "object") = true := by rw [List.contains_cons, excTail_contains _ _ hT, BF.cO, Bool.or_true]
  have hxs : x ≠ hp.objs.size := Nat.ne_of_lt (Heap.lt_size hx)
  have sub : W.Looks (model prog w) hp (isInstance (.ref x) (.type "object")) true := I.type.andThen (W.looks_mroIn X (by unfold W.mroIn; rw [hcd, Option.bind_some, hm]; simp only [List.isEmpty_cons, Bool.false_eq_true, if_false]; rw [hob]))
  refine codeAny_call_builtin SF.slot.plain SF.entry (@W.check_slot (model prog w) _ _ ⟨hp, g, d, t, os⟩ "object.__setattr__" "object" "__setattr__" (.ref x) [.str name tk, v] [] _ SF.kind SF.split sub (SF.args (.ref x) (.str name tk) v) ?_)
  have hmr : W.Looks (model prog w) hp (mroOf (.ref C)) cd.mro := (W.looks_clsIn X hcd).andThen .now
  have L3 : W.Looks (model prog w) hp (storeTaker? none) none := .now
  have hcls : W.Looks (model prog w) hp (classData C) cd := W.looks_clsIn X hcd
  have hpass : refuseLoop (.ref x) "__setattr__" cd.mro = pure () := by
    rw [hm, refuseLoop_ref]
    exact excTail_pass _ (BF.pass _) _ hT
  rw [W.osa_eq, refuse_eq]
  refine wpAny_bind (wpAny_bind (I.type.at (wpAny_bind (hmr.at ?_))))
  rw [hpass]
  refine wpAny_pure (wpAny_bind (I.type.at (wpAny_bind ((W.looks_findIn X ha).at (wpAny_bind (L3.at ?_))))))
  show wpAny _ _ (storeInOwnDict (.ref x) (.ref C) (.str name tk) name v false) _ _ _
  obtain ⟨nm, bs, mro, ns, qn, hd, sn, sb, ab, col, del⟩ := cd
  dsimp only at hh
  subst hh
  unfold storeInOwnDict ownDictForStores
  repeat (first | with_reducible refine HandSPX.store_in_new ?_ ?_ | with_reducible refine wpAny_loadPart_at hx ?_ | with_reducible refine hcls.at ?_ | wp_step)
  · exact ⟨_, #[], _, (Heap.get?_update_ne _ _ _ _ hxs.symm).trans (Heap.get?_push_at rfl rfl), rfl, fun e he => absurd he (by simp), fun _ => rfl⟩
  · intro h' tk' hn' hs
    have hx₁ : (hp.push { cls := .type "dict", data := .dict #[] }).get? x = some { cls := .ref C, data := .fields fv } := Heap.get?_push_of_some _ hx
    refine hq h' tk' hp.objs.size (fun b o hb ho => ?_) (Nat.le_refl _) hxs.symm ?_ hn'
    · exact (hs.2 b (Nat.ne_of_lt (Heap.lt_size ho))).trans ((Heap.get?_update_ne _ _ _ _ hb).trans (Heap.get?_push_of_some _ ho))
    · exact (hs.2 x hxs).trans (Heap.get?_update_self _ hx₁ rfl)
end
section
variable {prog : Program} {w : World} {A : Around} {E : Value → Shared → Prop} {R : Result → Shared → Prop} {h : Heap} {g : Array GenState} {d : Drawn} {t : Nat} {os : OsState} {K : Frag} {mg : Str → Option Value}
variable {bmB bmN : List Value} {NB newId initN B initId : String} {C fI cc cda : Addr} {qual : Str} {scope : Scope} {params : Arguments} {dV kV doc pm ct : Value} {an : Option Addr} {msg f p : Str} {j : Nat} {p0 p1 p2 p3 p4 p5 q0 q1 q2 q3 : Pos}
theorem sup_call {env : Env} (hl : (p2.endLine == p4.line) = true) : eval (.Call (.Attribute (.Call (.Name "super" p0) [] [] p1) "__init__" p2) [.Constant (.str msg) j p3] [] p4) env = (do
      let ov ← attributeBase (.Call (.Name "super" p0) [] [] p1) "__init__" env (eval (.Call (.Name "super" p0) [] [] p1) env)
      standAt p2.atName
      let (f, first) ← holding [ov] (getMethod ov "__init__" (do return (← importBound (.Call (.Name "super" p0) [] [] p1) env).getD true))
      callWith p4 f first (backTo p4 (starEach [.Constant (.str msg) j p3] env)) []) := by
  have e : methodCallPos true (.Call (.Name "super" p0) [] [] p1) env p2 p4 = pure p4 := by
    unfold methodCallPos
    rw [hl]
    rfl
  show (do
      let ov ← attributeBase (.Call (.Name "super" p0) [] [] p1) "__init__" env (eval (.Call (.Name "super" p0) [] [] p1) env)
      standAt p2.atName
      let (f, first) ← holding [ov] (getMethod ov "__init__" (do return (← importBound (.Call (.Name "super" p0) [] [] p1) env).getD true))
      let cp ← methodCallPos true (.Call (.Name "super" p0) [] [] p1) env p2 p4
      callWith cp f first (backTo p4 (starEach [.Constant (.str msg) j p3] env)) []) = _
  rw [e]
  rfl
/-- the module at a heap -/
structure ModAt (mg : Str → Option Value) (h : Heap) : Prop where
  glob : h.Ns mainGlobals mg
  blt : ∃ mb, h.Ns builtinsNs mb ∧ ∀ x : Str, x ≠ "__name__" → mb x = bootBuiltins x
  lim : h.NoLimit
theorem ModAt.keeps {h' : Heap} (M : ModAt mg h) (k : ∀ b o, h.get? b = some o → h'.get? b = some o) : ModAt mg h' :=
  ⟨M.glob.keeps k, let ⟨mb, a, b⟩ := M.blt; ⟨mb, a.keeps k, b⟩, M.lim.keeps k⟩
/-- def __init__(self): super().__init__('m') -/
theorem init0 (BF : BaseF bmB NB newId initN bmN B initId) (T : ExK prog K bmB newId initId C fI cc cda qual scope (ksFn "__init__" qual params [supSt msg j p0 p1 p2 p3 p4 p5] scope dV kV doc pm an (.ref cda) ct cc)) (Sc : ExSc scope) (Mo : ModAt mg h) (hmg : mg "super" = none)
    (X : K.In h) {e t0 : Addr} {ar : Arg} {args : Args} {binds : List (Str × Value)} (hr : A.depth < recursionLimit) (hb : BindsTo ⟨h, g, d, t, os⟩ (ksFn "__init__" qual params [supSt msg j p0 p1 p2 p3 p4 p5] scope dV kV doc pm an (.ref cda) ct cc) args binds)
    (hloc : ∀ y ∈ binds, scope.names.lookup y.1 = some .local) (hs : binds.reverse.lookup ("self" : Str) = some (Value.ref e)) (hp : (params.posonlyargs ++ params.args).head? = some ar) (har : ar.arg = "self") (he : h.get? e = some (exO C t0 none))
    (hl : (p2.endLine == p4.line) = true) (hint : ∀ L, interactive (ksEnv qual scope L fI (.ref cda) cc) = false)
    (hq : ∀ h' t1 tk, (∀ b o, b ≠ e → h.get? b = some o → h'.get? b = some o) → h'.get? e = some (exO C t1 none) → R (.ok (.ret .none)) ⟨h', g, d, tk, os⟩) :
    codeAny (model prog w) A (.call (.ref fI) args) R ⟨h, g, d, t, os⟩ := by
  obtain ⟨oc, od, osl, hfn⟩ := T.fn
  refine ks_codeAny_call_defAt (fd := ksFn "__init__" qual params [supSt msg j p0 p1 p2 p3 p4 p5] scope dV kV doc pm an (.ref cda) ct cc) (body := [supSt msg j p0 p1 p2 p3 p4 p5]) (binds := binds) hr (X _ _ hfn) rfl Mo.lim (codeRec_of X T.cod) rfl hb Sc.cell hloc (fun h₁ hns hk₁ => ?_) Sc.co Sc.gen Sc.kind
  have Mo1 := Mo.keeps hk₁
  refine ks_wpAt_execs_cons ?_
  refine super_stmt BF T Sc Mo1.glob hmg Mo1.blt (X.keeps hk₁) (L := h.objs.size) hp har hns hs (hk₁ _ _ he) (fun h' t1 tk k1 ee => ?_) rfl (hint _) (sup_call hl)
  refine wpAt_of_wpAny (wpAny_execs_nil ?_)
  exact hq h' t1 tk (fun b o hb ho => k1 b o hb (hk₁ b o ho)) ee
/-- def __init__(self, p): super().__init__('m'); self.f = p -/
theorem init1 (BF : BaseF bmB NB newId initN bmN B initId) (T : ExK prog K bmB newId initId C fI cc cda qual scope (ksFn "__init__" qual params [supSt msg j p0 p1 p2 p3 p4 p5, fldSt f p q0 q1 q2 q3] scope dV kV doc pm an (.ref cda) ct cc)) (Sc : ExSc scope) (Mo : ModAt mg h) (hmg : mg "super" = none)
    (X : K.In h) {e t0 : Addr} {ar : Arg} {args : Args} {binds : List (Str × Value)} {v : Value} (hr : A.depth < recursionLimit) (hb : BindsTo ⟨h, g, d, t, os⟩ (ksFn "__init__" qual params [supSt msg j p0 p1 p2 p3 p4 p5, fldSt f p q0 q1 q2 q3] scope dV kV doc pm an (.ref cda) ct cc) args binds)
    (hloc : ∀ y ∈ binds, scope.names.lookup y.1 = some .local) (hs : binds.reverse.lookup ("self" : Str) = some (Value.ref e)) (hv : binds.reverse.lookup p = some v) (hpl : scope.names.lookup p = some .local) (hpd : (p == ("__debug__" : Str)) = false)
    (hp : (params.posonlyargs ++ params.args).head? = some ar) (har : ar.arg = "self") (he : h.get? e = some (exO C t0 none)) (hKe : ∀ o, K.lookup e ≠ some o) (hno : findIn K (.ref C) f = some none)
    (hl : (p2.endLine == p4.line) = true) (hint : ∀ L, interactive (ksEnv qual scope L fI (.ref cda) cc) = false)
    (hq : ∀ h' t1 tk dx, (∀ b o, b ≠ e → h.get? b = some o → h'.get? b = some o) → h.objs.size ≤ dx → dx ≠ e → h'.get? e = some (exO C t1 (some dx)) → h'.Ns1 dx (fun y => if y = f then some v else none) → R (.ok (.ret .none)) ⟨h', g, d, tk, os⟩) :
    codeAny (model prog w) A (.call (.ref fI) args) R ⟨h, g, d, t, os⟩ := by
  obtain ⟨oc, od, osl, hfn⟩ := T.fn
  obtain ⟨nm, N, qn, bs, bm, hdct, sn, sub, ab, col, dd, k0, k1, k2, k3, k5, hC, hT, hcl⟩ := cls_obj X T.cls
  have hdt : hdct = true := by
    have z := T.hdt
    unfold hasDictIn at z
    rw [hcl] at z
    exact z
  refine ks_codeAny_call_defAt (fd := ksFn "__init__" qual params [supSt msg j p0 p1 p2 p3 p4 p5, fldSt f p q0 q1 q2 q3] scope dV kV doc pm an (.ref cda) ct cc) (body := [supSt msg j p0 p1 p2 p3 p4 p5, fldSt f p q0 q1 q2 q3]) (binds := binds) hr (X _ _ hfn) rfl Mo.lim (codeRec_of X T.cod) rfl hb Sc.cell hloc (fun h₁ hns hk₁ => ?_) Sc.co Sc.gen Sc.kind
  have Mo1 := Mo.keeps hk₁
  have X1 := X.keeps hk₁
  have hLe : h.objs.size ≠ e := Nat.ne_of_gt (Heap.lt_size he)
  refine ks_wpAt_execs_cons ?_
  refine super_stmt BF T Sc Mo1.glob hmg Mo1.blt X1 (L := h.objs.size) hp har hns hs (hk₁ _ _ he) (fun h2 t1 tk k2' ee => ?_) rfl (hint _) (sup_call hl)
  have hns2 : h2.Ns h.objs.size (fun x => binds.reverse.lookup x) := hns.at fun o q => k2' _ _ hLe q
  have X2 : K.In h2 := fun b o q => by
    refine k2' b o (fun z => ?_) (X1 b o q)
    exact hKe o (by rw [← z]; exact q)
  refine wpAt_of_wpAny (wpAny_execs_cons ?_)
  refine plainObj_wpAny_Assign_Attribute (ESX.ldL hns2 hv ?_ Sc.kind hpl hpd) rfl
  refine ESX.ldL hns2 hs ?_ Sc.kind Sc.self (by decide)
  refine set_plain X2 (ox := exO C t1 none) (od := none) ⟨ee, rfl, rfl, trivial⟩ T.sa ?_
  refine exc_osa BF X2 ee hcl rfl hT hdt hno (fun h' tk' dx k3' hdx hde hx hn => ?_)
  refine wpAny_execs_nil ?_
  refine hq h' t1 tk' dx (fun b o hb ho => k3' b o hb (k2' b o hb (hk₁ b o ho))) ?_ hde hx hn
  obtain ⟨oL, _, _, eL, _⟩ := hns2
  exact Nat.le_trans (Nat.le_of_lt (Heap.lt_size eL)) hdx
/-- C(), C's __init__ as in init0 -/
theorem make0 (BF : BaseF bmB NB newId initN bmN B initId) (T : ExK prog K bmB newId initId C fI cc cda qual scope (ksFn "__init__" qual params [supSt msg j p0 p1 p2 p3 p4 p5] scope dV kV doc pm an (.ref cda) ct cc)) (Sc : ExSc scope) (Mo : ModAt mg h) (hmg : mg "super" = none)
    (X : K.In h) {ar : Arg} {Q : Value → Shared → Prop} (hr : A.depth + 1 < recursionLimit) (hb : ∀ (s : Shared) (e : Addr), BindsTo s (ksFn "__init__" qual params [supSt msg j p0 p1 p2 p3 p4 p5] scope dV kV doc pm an (.ref cda) ct cc) ⟨[.ref e], []⟩ [("self", .ref e)])
    (hp : (params.posonlyargs ++ params.args).head? = some ar) (har : ar.arg = "self")
    (hl : (p2.endLine == p4.line) = true) (hint : ∀ L, interactive (ksEnv qual scope L fI (.ref cda) cc) = false)
    (hq : ∀ h' e t1 tk, (∀ b o, h.get? b = some o → h'.get? b = some o) → h.objs.size ≤ e → h'.get? e = some (exO C t1 none) → Q (.ref e) ⟨h', g, d, tk, os⟩) :
    wpAny (model prog w) A (call (.ref C) []) Q E ⟨h, g, d, t, os⟩ := by
  obtain ⟨nm, N, qn, bs, bm, hdct, sn, sub, ab, col, dd, k0, k1, k2, k3, k5, hC, hT, hcl⟩ := cls_obj X T.cls
  have k : ∀ b o, h.get? b = some o → ((h.push (kdv_tup [])).push (HandSPX.excO C h.objs.size)).get? b = some o := fun b o e => Heap.get?_push_of_some _ (Heap.get?_push_of_some _ e)
  have hget : ((h.push (kdv_tup [])).push (HandSPX.excO C h.objs.size)).get? (h.objs.size + 1) = some (HandSPX.excO C h.objs.size) := by heap_get
  have nX : ∀ b o, h.get? b = some o → b ≠ h.objs.size + 1 := fun b o q z => by
    have y := Heap.lt_size q
    rw [z] at y
    exact Nat.not_lt.mpr (Nat.le_succ _) y
  refine wpAny_call (call_ok BF hT hC (looks_findIn X T.init) (fun self => bind_fn X self T.tfn) (Nat.zero_le _) ?_)
  refine init0 BF T Sc (Mo.keeps k) hmg (X.keeps k) (e := h.objs.size + 1) (t0 := h.objs.size) (by rw [make_depth]; exact hr) (hb _ _) (fun y hy => by rw [List.mem_singleton] at hy; subst hy; exact Sc.self) rfl hp har hget hl hint (fun h' t1 tk k1' ee => ?_)
  refine ⟨rfl, ?_⟩
  exact hq h' _ t1 tk (fun b o q => k1' b o (nX b o q) (k b o q)) (Nat.le_succ _) ee
/-- C(v), C's __init__ as in init1 -/
theorem make1 (BF : BaseF bmB NB newId initN bmN B initId) (T : ExK prog K bmB newId initId C fI cc cda qual scope (ksFn "__init__" qual params [supSt msg j p0 p1 p2 p3 p4 p5, fldSt f p q0 q1 q2 q3] scope dV kV doc pm an (.ref cda) ct cc)) (Sc : ExSc scope) (Mo : ModAt mg h) (hmg : mg "super" = none)
    (X : K.In h) {ar : Arg} {Q : Value → Shared → Prop} {v : Value} (hr : A.depth + 1 < recursionLimit) (hb : ∀ (s : Shared) (e : Addr), BindsTo s (ksFn "__init__" qual params [supSt msg j p0 p1 p2 p3 p4 p5, fldSt f p q0 q1 q2 q3] scope dV kV doc pm an (.ref cda) ct cc) ⟨[.ref e, v], []⟩ [("self", .ref e), (p, v)])
    (hpl : scope.names.lookup p = some .local) (hps : p ≠ "self") (hpd : (p == ("__debug__" : Str)) = false)
    (hp : (params.posonlyargs ++ params.args).head? = some ar) (har : ar.arg = "self") (hno : findIn K (.ref C) f = some none)
    (hl : (p2.endLine == p4.line) = true) (hint : ∀ L, interactive (ksEnv qual scope L fI (.ref cda) cc) = false)
    (hq : ∀ h' e t1 tk dx, (∀ b o, h.get? b = some o → h'.get? b = some o) → h.objs.size ≤ e → h.objs.size ≤ dx → dx ≠ e → h'.get? e = some (exO C t1 (some dx)) → h'.Ns1 dx (fun y => if y = f then some v else none) → Q (.ref e) ⟨h', g, d, tk, os⟩) :
    wpAny (model prog w) A (call (.ref C) [v]) Q E ⟨h, g, d, t, os⟩ := by
  obtain ⟨nm, N, qn, bs, bm, hdct, sn, sub, ab, col, dd, k0, k1, k2, k3, k5, hC, hT, hcl⟩ := cls_obj X T.cls
  have k : ∀ b o, h.get? b = some o → ((h.push (kdv_tup [v])).push (HandSPX.excO C h.objs.size)).get? b = some o := fun b o e => Heap.get?_push_of_some _ (Heap.get?_push_of_some _ e)
  have hget : ((h.push (kdv_tup [v])).push (HandSPX.excO C h.objs.size)).get? (h.objs.size + 1) = some (HandSPX.excO C h.objs.size) := by heap_get
  have nX : ∀ b o, h.get? b = some o → b ≠ h.objs.size + 1 := fun b o q z => by
    have y := Heap.lt_size q
    rw [z] at y
    exact Nat.not_lt.mpr (Nat.le_succ _) y
  refine wpAny_call (call_ok BF hT hC (looks_findIn X T.init) (fun self => bind_fn X self T.tfn) (by show 1 ≤ sizeLine; rw [sizeLine_eq]; omega) ?_)
  have hlk : ([("self", Value.ref (h.objs.size + 1)), (p, v)] : List (Str × Value)).reverse.lookup ("self" : Str) = some (Value.ref (h.objs.size + 1)) := by
    show ([(p, v), ("self", Value.ref (h.objs.size + 1))] : List (Str × Value)).lookup ("self" : Str) = _
    rw [List.lookup_cons, show (("self" : Str) == p) = false by simpa using Ne.symm hps]
    rfl
  refine init1 BF T Sc (Mo.keeps k) hmg (X.keeps k) (e := h.objs.size + 1) (t0 := h.objs.size) (v := v) (by rw [make_depth]; exact hr) (hb _ _) (fun y hy => ?_) hlk (by simp [List.lookup]) hpl hpd hp har hget (fun o q => nX _ _ (X _ _ q) rfl) hno hl hint (fun h' t1 tk dx k1' hdx hde ee hn => ?_)
  · rcases List.mem_cons.mp hy with rfl | hy
    · exact Sc.self
    · rw [List.mem_singleton] at hy; subst hy; exact hpl
  · refine ⟨rfl, ?_⟩
    refine hq h' _ t1 tk dx (fun b o q => k1' b o (nX b o q) (k b o q)) (Nat.le_succ _) (Nat.le_trans ?_ hdx) hde ee hn
    rw [Heap.size_push, Heap.size_push]
    exact Nat.le_trans (Nat.le_succ _) (Nat.le_succ _)
end
end DEX
end PySem

set_option Elab.async false
set_option linter.all false
set_option maxRecDepth 100000
set_option maxHeartbeats 4000000
/-! DE3: the making, with a keyword. -/
namespace PySem
namespace DEX
open PySem.W PySem.Calls PyProof.Rows L2
/-! ### the making -/
section
variable {M : Model} {A : Around} {E : Value → Shared → Prop} {h : Heap} {g : Array GenState} {d : Drawn} {t : Nat} {os : OsState}
variable {nm q : Str} {C N : Addr} {bs bm bmB bmN : List Value} {hdct : Bool} {sn : List Str} {sub : List Value} {ab : Bool} {col : Option Bool} {dd : Option Addr} {k0 k1 k2 k3 k5 : Option Value} {B NB newId initN initId : String} {kn : Str} {kv : Value}
theorem check_newK (F : BaseF bmB NB newId initN bmN B initId) (hT : excTail bmB bm = true) {rest : List Value} {Q : Unit → Shared → Prop}
    (hC : h.get? C = some (excClassObj nm q C N bs bm hdct sn sub ab col dd k0 k1 k2 k3 k5 newId)) (hq : Q () ⟨h, g, d, t, os⟩) : wpAny M A (checkBuiltinCall newId ⟨.ref C :: rest, [(kn, kv)]⟩) Q E ⟨h, g, d, t, os⟩ := by
  have hcont : (Value.ref C :: bm).contains (.type NB) = true := by rw [List.contains_cons, excTail_contains _ _ hT, F.cN, Bool.or_true]
  have hstar := F.nw.noStar
  simp only [checkBuiltinCall, F.nw.newKind, F.nw.newSplit, F.nw.newRow]
  repeat (first | refine wpAny_loadPart_at hC ?_ | (refine wpAny_isSubtype_exc hC ?_; rw [hcont]) | refine wpAny_staticBase_exc hC ?_ | refine wpAny_madeBy_exc hC ?_ | simp only [bne_self_eq_false, Bool.false_eq_true, if_false] | wp_step)
  exact hq
end
section
variable {prog : Program} {w : World} {A : Around} {E : Value → Shared → Prop} {R : Result → Shared → Prop} {h : Heap} {g : Array GenState} {d : Drawn} {t : Nat} {os : OsState}
variable {nm q : Str} {C N : Addr} {bs bm bmB bmN : List Value} {hdct : Bool} {sn : List Str} {sub : List Value} {ab : Bool} {col : Option Bool} {dd : Option Addr} {k0 k1 k2 k3 k5 : Option Value} {B NB newId initN initId : String} {kn : Str} {kv : Value}
theorem new_okK (F : BaseF bmB NB newId initN bmN B initId) (hT : excTail bmB bm = true) {rest : List Value}
    (hC : h.get? C = some (excClassObj nm q C N bs bm hdct sn sub ab col dd k0 k1 k2 k3 k5 newId))
    (hq : R (.ok (.ret (.ref (h.objs.size + 1)))) ⟨(h.push { cls := .type "tuple", data := .seq rest.toArray }).push
      { cls := .ref C, data := .fields #[.ref h.objs.size, .none, .none, .none, .bool false, .none] }, g, d, t, os⟩) (hrest : rest.length ≤ sizeLine) :
    codeAny (model prog w) A (.builtin newId ⟨.ref C :: rest, [(kn, kv)]⟩) R ⟨h, g, d, t, os⟩ := by
  have hends := F.nw.ends
  have hcB : (Value.ref C :: bm).contains (.type NB) = true := by rw [List.contains_cons, excTail_contains _ _ hT, F.cN, Bool.or_true]
  have hcA : (Value.ref C :: bm).contains (.type "AttributeError") = false := by rw [List.contains_cons, excTail_contains _ _ hT, F.cA]; rfl
  have hcN : (Value.ref C :: bm).contains (.type "NameError") = false := by rw [List.contains_cons, excTail_contains _ _ hT, F.cM]; rfl
  refine codeAny_builtinAt F.nw.entry ?_
  unfold Builtin.«BaseException.__new__»
  refine wpAt_bind ?_
  show wpAt _ _ _ (stack >>= _) _ _ _
  refine wpAt_bind (wpAt_stack fun p below => wpAt_of_wpAny ?_)
  wp_walk
  refine wpAt_of_wpAny ?_
  rw [F.nw.owner]
  repeat (first | with_reducible refine wpAny_madeHere_exc F.nw.canon hC ?_ | with_reducible refine wpAny_loadPart_at hC ?_ | (with_reducible refine wpAny_isSubtype_exc hC ?_; first | rw [hcB] | rw [hcA] | rw [hcN]) | wp_step)
  show R _ _
  rw [Heap.size_push]
  exact hq
theorem type_callK (F : BaseF bmB NB newId initN bmN B initId) (hT : excTail bmB bm = true) {rest : List Value} {fI : Addr} {Q : Fin → Shared → Prop} 
    (hC : h.get? C = some (excClassObj nm q C N bs bm hdct sn sub ab col dd k0 k1 k2 k3 k5 newId))
    (hi : W.Looks (model prog w) h (typeLookup (.ref C) "__init__") (some (.ref fI))) (hb : ∀ self, W.Looks (model prog w) h (bindSpecial (.ref fI) self) (.ref fI, [self])) (hrest : rest.length ≤ sizeLine)
    (hq : codeAny (model prog w) A (.call (.ref fI) ⟨.ref (h.objs.size + 1) :: rest, [(kn, kv)]⟩)
      (fun r s' => match r with | .ok (.ret v) => v = .none ∧ Q (.done (.ret (.ref (h.objs.size + 1)))) s' | .ok _ => False | .error e => E e s')
      ⟨(h.push (W.kdv_tup rest)).push (HandSPX.excO C h.objs.size), g, d, t, os⟩) :
    wpAny (model prog w) A (Builtin.«type.__call__» ⟨.ref C :: rest, [(kn, kv)]⟩) Q E ⟨h, g, d, t, os⟩ := by
  repeat (first | with_reducible refine wpAny_loadPart_at hC ?_ | with_reducible refine wpAny_madeBy_exc hC ?_ | wp_step)
  refine codeAny_call_builtin_code (Code.quiet_builtin _ F.nw.quiet) (check_newK F hT hC ?_)
  refine new_okK F hT hC ?_ hrest
  show wpAny _ _ _ _ _ _
  have k : ∀ b o, h.get? b = some o → ((h.push (W.kdv_tup rest)).push (HandSPX.excO C h.objs.size)).get? b = some o := fun b o e => Heap.get?_push_of_some _ (Heap.get?_push_of_some _ e)
  have hC₁ := k _ _ hC
  have hget : ((h.push (W.kdv_tup rest)).push (HandSPX.excO C h.objs.size)).get? (h.objs.size + 1) = some (HandSPX.excO C h.objs.size) := by heap_get
  have hcC : (Value.ref C :: bm).contains (.ref C) = true := by simp
  have i1 := hi.keeps k
  have b1 := (hb (.ref (h.objs.size + 1))).keeps k
  unfold isInstance
  repeat (first | with_reducible refine wpAny_loadPart_at hget ?_ | (with_reducible refine wpAny_isSubtype_exc hC₁ ?_; rw [hcC]) | wp_step)
  show wpAny _ _ (typeLookup (.ref C) _) _ _ _
  refine i1.at ?_
  refine wpAny_holding (wpAny_bind (b1.at ?_))
  refine wpAny_bind (wpAny_call (codeAny_mono hq fun r s' z => ?_))
  rcases r with e | (v | _ | _ | _) <;> first | exact z | exact z.elim | skip
  obtain ⟨rfl, z⟩ := z
  first
    | exact wpAny_pure (wpAny_pure z)
    | (wp_walk; exact z)
theorem call_okK (F : BaseF bmB NB newId initN bmN B initId) (hT : excTail bmB bm = true) {rest : List Value} {fI : Addr}
    (hC : h.get? C = some (excClassObj nm q C N bs bm hdct sn sub ab col dd k0 k1 k2 k3 k5 newId))
    (hi : W.Looks (model prog w) h (typeLookup (.ref C) "__init__") (some (.ref fI))) (hb : ∀ self, W.Looks (model prog w) h (bindSpecial (.ref fI) self) (.ref fI, [self])) (hrest : rest.length ≤ sizeLine)
    (hq : codeAny (model prog w) (A.under (.builtin "type.__call__" ⟨.ref C :: rest, [(kn, kv)]⟩)) (.call (.ref fI) ⟨.ref (h.objs.size + 1) :: rest, [(kn, kv)]⟩) (W.InitBack (h.objs.size + 1) R)
      ⟨(h.push (W.kdv_tup rest)).push (HandSPX.excO C h.objs.size), g, d, t, os⟩) :
    codeAny (model prog w) A (.call (.ref C) ⟨rest, [(kn, kv)]⟩) R ⟨h, g, d, t, os⟩ := by
  have f1 := tc_lookup
  have f2 := tc_bind (.ref C)
  have hTy : (⟨h, g, d, t, os⟩ : Shared).TypeIs (.ref C) "type" := ⟨_, hC, rfl⟩
  refine codeAny_of_tree ?_
  show wpAny _ _ (callAny (.ref C) _) _ _ _
  repeat (any_goals (first | assumption | with_reducible refine wpAny_loadPart_at hC ?_ | wp_step))
  refine ⟨rfl, ?_⟩
  refine codeAny_call_builtin_at (Code.quiet_builtin _ (by decide +kernel)) entry_typeCall (wpAny_check_type_call_sub hC (type_callK F hT hC hi hb hrest ?_))
  refine codeAny_mono hq fun r s' z => ?_
  rcases r with e | (v | _ | _ | _) <;> exact z
end
section
variable {prog : Program} {w : World} {A : Around} {E : Value → Shared → Prop} {R : Result → Shared → Prop} {h : Heap} {g : Array GenState} {d : Drawn} {t : Nat} {os : OsState} {K : Frag} {mg : Str → Option Value}
variable {bmB bmN : List Value} {NB newId initN B initId : String} {C fI cc cda : Addr} {qual : Str} {scope : Scope} {params : Arguments} {dV kV doc pm ct : Value} {an : Option Addr} {msg f p : Str} {j : Nat} {p0 p1 p2 p3 p4 p5 q0 q1 q2 q3 : Pos}
/-- C(p=v), C's __init__ as in init1 -/
theorem make1K (BF : BaseF bmB NB newId initN bmN B initId) (T : ExK prog K bmB newId initId C fI cc cda qual scope (ksFn "__init__" qual params [supSt msg j p0 p1 p2 p3 p4 p5, fldSt f p q0 q1 q2 q3] scope dV kV doc pm an (.ref cda) ct cc)) (Sc : ExSc scope) (Mo : ModAt mg h) (hmg : mg "super" = none)
    (X : K.In h) {ar : Arg} {Q : Value → Shared → Prop} {v : Value} (hr : A.depth + 1 < recursionLimit) (hb : ∀ (s : Shared) (e : Addr), BindsTo s (ksFn "__init__" qual params [supSt msg j p0 p1 p2 p3 p4 p5, fldSt f p q0 q1 q2 q3] scope dV kV doc pm an (.ref cda) ct cc) ⟨[.ref e], [(p, v)]⟩ [("self", .ref e), (p, v)])
    (hpl : scope.names.lookup p = some .local) (hps : p ≠ "self") (hpd : (p == ("__debug__" : Str)) = false)
    (hp : (params.posonlyargs ++ params.args).head? = some ar) (har : ar.arg = "self") (hno : findIn K (.ref C) f = some none)
    (hl : (p2.endLine == p4.line) = true) (hint : ∀ L, interactive (ksEnv qual scope L fI (.ref cda) cc) = false)
    (hq : ∀ h' e t1 tk dx, (∀ b o, h.get? b = some o → h'.get? b = some o) → h.objs.size ≤ e → h.objs.size ≤ dx → dx ≠ e → h'.get? e = some (exO C t1 (some dx)) → h'.Ns1 dx (fun y => if y = f then some v else none) → Q (.ref e) ⟨h', g, d, tk, os⟩) :
    wpAny (model prog w) A (call (.ref C) [] [(p, v)]) Q E ⟨h, g, d, t, os⟩ := by
  obtain ⟨nm, N, qn, bs, bm, hdct, sn, sub, ab, col, dd, k0, k1, k2, k3, k5, hC, hT, hcl⟩ := cls_obj X T.cls
  have k : ∀ b o, h.get? b = some o → ((h.push (kdv_tup [])).push (HandSPX.excO C h.objs.size)).get? b = some o := fun b o e => Heap.get?_push_of_some _ (Heap.get?_push_of_some _ e)
  have hget : ((h.push (kdv_tup [])).push (HandSPX.excO C h.objs.size)).get? (h.objs.size + 1) = some (HandSPX.excO C h.objs.size) := by heap_get
  have nX : ∀ b o, h.get? b = some o → b ≠ h.objs.size + 1 := fun b o q z => by
    have y := Heap.lt_size q
    rw [z] at y
    exact Nat.not_lt.mpr (Nat.le_succ _) y
  refine wpAny_call (call_okK BF hT hC (looks_findIn X T.init) (fun self => bind_fn X self T.tfn) (Nat.zero_le _) ?_)
  have hlk : ([("self", Value.ref (h.objs.size + 1)), (p, v)] : List (Str × Value)).reverse.lookup ("self" : Str) = some (Value.ref (h.objs.size + 1)) := by
    show ([(p, v), ("self", Value.ref (h.objs.size + 1))] : List (Str × Value)).lookup ("self" : Str) = _
    rw [List.lookup_cons, show (("self" : Str) == p) = false by simpa using Ne.symm hps]
    rfl
  refine init1 BF T Sc (Mo.keeps k) hmg (X.keeps k) (e := h.objs.size + 1) (t0 := h.objs.size) (v := v) (by rw [L2.make_depth]; exact hr) (hb _ _) (fun y hy => ?_) hlk (by simp [List.lookup]) hpl hpd hp har hget (fun o q => nX _ _ (X _ _ q) rfl) hno hl hint (fun h' t1 tk dx k1' hdx hde ee hn => ?_)
  · rcases List.mem_cons.mp hy with rfl | hy
    · exact Sc.self
    · rw [List.mem_singleton] at hy; subst hy; exact hpl
  · refine ⟨rfl, ?_⟩
    refine hq h' _ t1 tk dx (fun b o q => k1' b o (nX b o q) (k b o q)) (Nat.le_succ _) (Nat.le_trans ?_ hdx) hde ee hn
    rw [Heap.size_push, Heap.size_push]
    exact Nat.le_trans (Nat.le_succ _) (Nat.le_succ _)
end
end DEX
end PySem

set_option Elab.async false
set_option linter.all false
set_option maxRecDepth 100000
set_option maxHeartbeats 4000000
/-! DE4: own exceptions over data: made as values, raised, asked. -/
namespace DL
open PySem L2 PySem.DEX
open PySem.W (Frag)
section
variable {X : Cx} {pins : List (Addr × Obj)} {σ : L2.St} {H : Hp} {s : Shared}
/-- two new objects at once -/
theorem laid2 {h' : Heap} {a b : Addr} {o u : HO} {t' : Nat} (I : Inv X pins σ H s) (k : ∀ c z, s.heap.get? c = some z → h'.get? c = some z) (ha : s.heap.objs.size ≤ a) (hb : s.heap.objs.size ≤ b) (ne : b ≠ a)
    (na : ObjOk X.prog X.w (upd (upd H b u) a o) h' a o) (nb : ObjOk X.prog X.w (upd (upd H b u) a o) h' b u) : Inv X pins σ (upd (upd H b u) a o) { s with heap := h', toks := t' } := by
  have hna : H a = none := I.hok.fresh ha
  have hnb : H b = none := I.hok.fresh hb
  have oa : ∀ {c : Addr} {z : Obj}, s.heap.get? c = some z → c ≠ a := fun {c z} q => Nat.ne_of_lt (Nat.lt_of_lt_of_le (Heap.lt_size q) ha)
  have ob : ∀ {c : Addr} {z : Obj}, s.heap.get? c = some z → c ≠ b := fun {c z} q => Nat.ne_of_lt (Nat.lt_of_lt_of_le (Heap.lt_size q) hb)
  have up : ∀ {c : Addr} {z : HO}, H c = some z → upd (upd H b u) a o c = some z := fun {c z} q => by rw [upd_ne (ne_of_none q hna), upd_ne (ne_of_none q hnb)]; exact q
  have U : Un X.fs [] H (upd (upd H b u) a o) s.heap h' := {
    keep := fun c z q _ _ _ => k c z q
    slot := fun c z q _ _ _ => ⟨z.slots, k c z q⟩
    free := fun c z q n _ => by rw [upd_ne (oa q), upd_ne (ob q)]; exact n
    there := fun c z q _ => ⟨z, k c z q⟩
    tups := fun c xs q => up q
    frzs := fun c z v q => up q
    tbls := fun c ps q => ⟨#[], by rw [up q]; simp⟩ }
  refine I.un (t' := t') U fun c z q => ?_
  by_cases hc : c = a
  · subst hc
    rw [upd_same] at q
    cases q
    exact na
  · rw [upd_ne hc] at q
    by_cases hd : c = b
    · subst hd
      rw [upd_same] at q
      cases q
      exact nb
    · rw [upd_ne hd] at q
      exact (I.hok c z q).stay (fun d v _ y => k d v y) (fun d y => up y) (fun d xs y => up y)
end
/-- the module, read from a state -/
theorem modAt {X : Cx} {pins : List (Addr × Obj)} {σ : L2.St} {H : Hp} {s : Shared} (I : Inv X pins σ H s) : ModAt X.mg s.heap :=
  ⟨I.mod.glob.keeps I.bk, let ⟨mb, a, b⟩ := I.mod.blt; ⟨mb, a.keeps I.bk, b⟩, I.mod.nolimit.keeps I.bk⟩
/-! ### what a class must say -/
/-- so that it is raised, asked, called -/
structure ExA (K : Frag) (C : Addr) : Prop where
  is : ExcC K C
  ty : PySem.W.typeIn K (.ref C) = some (.type "type")
  ga : PySem.W.findIn K (.ref C) "__getattribute__" = some (some (.builtin "BaseException.__getattribute__"))
theorem ExA.raises {X : Cx} {C : Addr} (h : ExA X.K C) : Raises X (.ref C) := raises_own h.is.hs h.ty
structure Syn0 (st : Stmt) (msg : Str) (j : Nat) (p0 p1 p2 p3 p4 p5 : Pos) (ar : Arg) : Prop where
  body : defBody st = [supSt msg j p0 p1 p2 p3 p4 p5]
  sc : ExSc (defScope st)
  hd : ((defArgs st).posonlyargs ++ (defArgs st).args).head? = some ar
  self : ar.arg = "self"
  ln : (p2.endLine == p4.line) = true
  int : ∀ q L f cda cc, interactive (PySem.W.ksEnv q (defScope st) L f (.ref cda) cc) = false
  bind : ∀ (q : Str) (kV doc pm : Value) (an : Option Addr) (cdv ct : Value) (cc : Addr) (s : Shared) (e : Addr), BindsTo s (PySem.W.ksFn "__init__" q (defArgs st) (defBody st) (defScope st) .none kV doc pm an cdv ct cc) ⟨[.ref e], []⟩ [("self", .ref e)]
structure Syn1 (st : Stmt) (f p msg : Str) (j : Nat) (p0 p1 p2 p3 p4 p5 q0 q1 q2 q3 : Pos) (ar : Arg) : Prop where
  body : defBody st = [supSt msg j p0 p1 p2 p3 p4 p5, fldSt f p q0 q1 q2 q3]
  sc : ExSc (defScope st)
  par : (defScope st).names.lookup p = some .local
  ps : p ≠ "self"
  pd : (p == ("__debug__" : Str)) = false
  hd : ((defArgs st).posonlyargs ++ (defArgs st).args).head? = some ar
  self : ar.arg = "self"
  ln : (p2.endLine == p4.line) = true
  int : ∀ q L f cda cc, interactive (PySem.W.ksEnv q (defScope st) L f (.ref cda) cc) = false
  bind : ∀ (q : Str) (kV doc pm : Value) (an : Option Addr) (cdv ct : Value) (cc : Addr) (s : Shared) (e : Addr) (v : Value), BindsTo s (PySem.W.ksFn "__init__" q (defArgs st) (defBody st) (defScope st) .none kV doc pm an cdv ct cc) ⟨[.ref e, v], []⟩ [("self", .ref e), (p, v)]
  bindK : ∀ (q : Str) (kV doc pm : Value) (an : Option Addr) (cdv ct : Value) (cc : Addr) (s : Shared) (e : Addr) (v : Value), BindsTo s (PySem.W.ksFn "__init__" q (defArgs st) (defBody st) (defScope st) .none kV doc pm an cdv ct cc) ⟨[.ref e], [(p, v)]⟩ [("self", .ref e), (p, v)]
/-- an own exception class without a field -/
structure XC0 (P : Program) (K : Frag) (mg : Str → Option Value) (C : Addr) : Prop where
  ex : ∃ bmB NB newId initN bmN B initId fI cc cda qual st kV doc pm an ct msg j p0 p1 p2 p3 p4 p5 ar, BaseF bmB NB newId initN bmN B initId ∧ Syn0 st msg j p0 p1 p2 p3 p4 p5 ar ∧
    ExK P K bmB newId initId C fI cc cda qual (defScope st) (PySem.W.ksFn "__init__" qual (defArgs st) (defBody st) (defScope st) .none kV doc pm an (.ref cda) ct cc)
  a : ExA K C
  sup : mg "super" = none
  kp : PySem.W.keepIn K (.ref C) = true
/-- .. with the field f, its parameter p -/
structure XC1 (P : Program) (K : Frag) (mg : Str → Option Value) (C : Addr) (f p : Str) : Prop where
  ex : ∃ bmB NB newId initN bmN B initId fI cc cda qual st kV doc pm an ct msg j p0 p1 p2 p3 p4 p5 q0 q1 q2 q3 ar, BaseF bmB NB newId initN bmN B initId ∧ Syn1 st f p msg j p0 p1 p2 p3 p4 p5 q0 q1 q2 q3 ar ∧
    ExK P K bmB newId initId C fI cc cda qual (defScope st) (PySem.W.ksFn "__init__" qual (defArgs st) (defBody st) (defScope st) .none kV doc pm an (.ref cda) ct cc)
  a : ExA K C
  sup : mg "super" = none
  kp : PySem.W.keepIn K (.ref C) = true
  no : PySem.W.findIn K (.ref C) f = some none
section
variable {X : Cx} {pins : List (Addr × Obj)} {σ : L2.St} {H : Hp} {s : Shared} {C : Addr} {f p : Str} {E : Value → Shared → Prop}
theorem new0 (T : XC0 X.prog X.K X.mg C) (I : Inv X pins σ H s) (hr : X.A.depth + 1 < recursionLimit) {Q : Value → Shared → Prop}
    (hq : ∀ h' e t1 tk, (∀ b o, s.heap.get? b = some o → h'.get? b = some o) → s.heap.objs.size ≤ e → h'.get? e = some (exO C t1 none) → Q (.ref e) { s with heap := h', toks := tk }) : wpAny (model X.prog X.w) X.A (call (.ref C) []) Q E s := by
  obtain ⟨bmB, NB, newId, initN, bmN, B, initId, fI, cc, cda, qual, st, kV, doc, pm, an, ct, msg, j, p0, p1, p2, p3, p4, p5, ar, BF, S, TK⟩ := T.ex
  have hb := S.bind qual kV doc pm an (.ref cda) ct cc
  rw [S.body] at TK hb
  obtain ⟨h, g, d, t, os⟩ := s
  exact make0 BF TK S.sc (modAt I) T.sup I.kIn hr hb S.hd S.self S.ln (S.int _ · _ _ _) hq
theorem new1 (T : XC1 X.prog X.K X.mg C f p) (I : Inv X pins σ H s) (hr : X.A.depth + 1 < recursionLimit) {v : Value} {Q : Value → Shared → Prop}
    (hq : ∀ h' e t1 tk dx, (∀ b o, s.heap.get? b = some o → h'.get? b = some o) → s.heap.objs.size ≤ e → s.heap.objs.size ≤ dx → dx ≠ e → h'.get? e = some (exO C t1 (some dx)) → h'.Ns1 dx (fun y => if y = f then some v else none) → Q (.ref e) { s with heap := h', toks := tk }) :
    wpAny (model X.prog X.w) X.A (call (.ref C) [v]) Q E s := by
  obtain ⟨bmB, NB, newId, initN, bmN, B, initId, fI, cc, cda, qual, st, kV, doc, pm, an, ct, msg, j, p0, p1, p2, p3, p4, p5, q0, q1, q2, q3, ar, BF, S, TK⟩ := T.ex
  have hb := fun s e => S.bind qual kV doc pm an (.ref cda) ct cc s e v
  rw [S.body] at TK hb
  obtain ⟨h, g, d, t, os⟩ := s
  exact make1 BF TK S.sc (modAt I) T.sup I.kIn hr hb S.par S.ps S.pd S.hd S.self T.no S.ln (S.int _ · _ _ _) hq
theorem new1K (T : XC1 X.prog X.K X.mg C f p) (I : Inv X pins σ H s) (hr : X.A.depth + 1 < recursionLimit) {v : Value} {Q : Value → Shared → Prop}
    (hq : ∀ h' e t1 tk dx, (∀ b o, s.heap.get? b = some o → h'.get? b = some o) → s.heap.objs.size ≤ e → s.heap.objs.size ≤ dx → dx ≠ e → h'.get? e = some (exO C t1 (some dx)) → h'.Ns1 dx (fun y => if y = f then some v else none) → Q (.ref e) { s with heap := h', toks := tk }) :
    wpAny (model X.prog X.w) X.A (call (.ref C) [] [(p, v)]) Q E s := by
  obtain ⟨bmB, NB, newId, initN, bmN, B, initId, fI, cc, cda, qual, st, kV, doc, pm, an, ct, msg, j, p0, p1, p2, p3, p4, p5, q0, q1, q2, q3, ar, BF, S, TK⟩ := T.ex
  have hb := fun s e => S.bindK qual kV doc pm an (.ref cda) ct cc s e v
  rw [S.body] at TK hb
  obtain ⟨h, g, d, t, os⟩ := s
  exact make1K BF TK S.sc (modAt I) T.sup I.kIn hr hb S.par S.ps S.pd S.hd S.self T.no S.ln (S.int _ · _ _ _) hq
end
end DL

set_option Elab.async false
set_option linter.all false
set_option maxRecDepth 100000
set_option maxHeartbeats 4000000
/-! DE5: the rules. -/
namespace DL
open PySem L2 PySem.DEX
open PySem.W (Frag)
theorem xd_ok {P : Program} {w : World} {H : Hp} {h : Heap} {dx : Addr} {f : Str} {y : V} {u : Value} (hn : h.Ns1 dx (fun z => if z = f then some u else none)) (r : RelV y u) : ObjOk P w H h dx (.xd [(f, y)]) :=
  ⟨_, hn, relO_put (fs := []) (mA := fun _ => none) r fun _ => True.intro⟩
section
variable {X : Cx} {hd : Addr → Bool} {a b c e o : Expr} {es : List Expr} {p pos apos : Pos} {ta tb tc : TX} {ts : TXs} {C : Addr} {f pr x : Str}
/-! ### as values -/
abbrev xExc0 (C : Addr) : TX := fun _ W Q _ => Q (.exc C []) W
abbrev xExc1 (C : Addr) (f : Str) (ta : TX) : TX := fun Γ W Q E => ta Γ W (fun d W1 => Q (.exc C [(f, d)]) W1) E
theorem je_exc0 (T : XC0 X.prog X.K X.mg C) (hr : X.A.depth + 1 < recursionLimit) (hg : Gl X x) (hm : X.mg x = some (.ref C)) (hdb : (x == ("__debug__" : Str)) = false := by decide) : JE X (.Call (.Name x p) [] [] pos) (xExc0 C) := by
  refine ⟨fun Wx tk σ H Γ W Q E R G xl h pins s I => wpAny_Call_Name_kw (ld_glob I hg hm (PySem.W.callWith_K0 I.kIn T.kp (new0 T I hr fun h' e t1 tk k he ee => ?_)) hdb)⟩
  have hn : H e = none := I.hok.fresh he
  obtain ⟨s1, e1⟩ := Stp.new (o := exo e C none) R hn
  exact ⟨.ref e, _, I.laid (t' := tk) k he (exo_ok ee), rfl, .exc C [], W, s1, .exc e1 (.inl ⟨rfl, rfl⟩) .nil, h⟩
theorem exc1_end {pins : List (Addr × Obj)} {σ : L2.St} {H1 : Hp} {s1 : Shared} {W1 : Wd} {Q : DQ} {d : Dt} {v : V} {u : Value} {h' : Heap} {a t1 dx : Addr} {tk : Nat} (I1 : Inv X pins σ H1 s1) (R : Rep X.K hd W1 H1) (k : ∀ b o, s1.heap.get? b = some o → h'.get? b = some o) (he : s1.heap.objs.size ≤ a) (hdx : s1.heap.objs.size ≤ dx) (ne : dx ≠ a)
    (ee : h'.get? a = some (exO C t1 (some dx))) (hn : h'.Ns1 dx (fun y => if y = f then some u else none)) (rv : RelV v u) (r : Dv X.K (off hd W1 H1) v d) (q : Q (.exc C [(f, d)]) W1) : EP X pins σ (QL X.K hd W1 H1 Q) (.ref a) { s1 with heap := h', toks := tk } := by
  have hna : H1 a = none := I1.hok.fresh he
  have hnd : H1 dx = none := I1.hok.fresh hdx
  have hna' : upd H1 dx (.xd [(f, v)]) a = none := by rw [upd_ne (Ne.symm ne)]; exact hna
  obtain ⟨s2, e2⟩ := Stp.new (o := .xd [(f, v)]) R hnd
  obtain ⟨s3, e3⟩ := Stp.new (o := exo a C (some dx)) s2.rep hna'
  exact ⟨.ref a, _, laid2 (t' := tk) I1 k he hdx ne (exo_ok ee) (xd_ok hn rv), rfl, .exc C [(f, d)], W1, s2.trans s3, .exc e3 (.inr ⟨dx, rfl, s3.ex _ _ e2⟩) (.cons (r.mono (s2.trans s3).ex) .nil), q⟩
theorem je_exc1 (T : XC1 X.prog X.K X.mg C f pr) (hr : X.A.depth + 1 < recursionLimit) (hg : Gl X x) (hm : X.mg x = some (.ref C)) (ha : JE X e ta) (hdb : (x == ("__debug__" : Str)) = false := by decide) (he : starEach [e] X.env = (false, eval e X.env) :: starEach [] X.env := by rfl)
    (hpl : (backTo pos (starEach [] X.env)).any (·.1) = false := by rfl) : JE X (.Call (.Name x p) [e] [] pos) (xExc1 C f ta) := by
  refine ⟨fun Wx tk σ H Γ W Q E R G xl h pins s I => wpAny_Call_Name_kw (ld_glob I hg hm (PySem.W.callWith_K (h₀ := X.base) I.ok.mod.kin T.kp (thn ((ja_cons ha ja_nil he).run Wx tk σ H Γ W (fun ds W1 => ∃ d, ds = [d] ∧ Q (.exc C [(f, d)]) W1) E R G xl ?_ pos pins s I) fun us s1 ⟨vs, H1, I1, r, ds, W1, s1', r1, d, ed, q⟩ => ?_) he hpl) hdb)⟩
  · show ta Γ W (fun d W1 => ∃ d', [d] = [d'] ∧ Q (.exc C [(f, d')]) W1) E
    have e : (fun (d : Dt) (W1 : Wd) => ∃ d', [d] = [d'] ∧ Q (.exc C [(f, d')]) W1) = fun d W1 => Q (.exc C [(f, d)]) W1 := by
      funext d W1
      exact propext ⟨fun ⟨d', h1, h2⟩ => by cases h1; exact h2, fun h => ⟨d, rfl, h⟩⟩
    rw [e]; exact h
  · subst ed
    obtain ⟨v, rfl, rv⟩ := r1.one
    obtain ⟨u, rfl, ru⟩ := vals1 r
    refine ⟨I1.kIn, new1 T I1 hr fun h' e t1 tk dx k he hdx ne ee hn => ?_⟩
    obtain ⟨v', H', I', r', q'⟩ := exc1_end (tk := tk) I1 s1'.rep k he hdx ne ee hn ru rv q
    exact ⟨v', H', I', r', QL.step s1' q'⟩
theorem je_excK {kpos : Pos} (T : XC1 X.prog X.K X.mg C f pr) (hr : X.A.depth + 1 < recursionLimit) (hg : Gl X x) (hm : X.mg x = some (.ref C)) (ha : JE X e ta) (hdb : (x == ("__debug__" : Str)) = false := by decide)
    (hall : (backToKw pos (keywordEach [⟨some pr, e, kpos⟩] X.env)).all (·.1.isSome) = true := by rfl) (hks : (backToKw pos (keywordEach [⟨some pr, e, kpos⟩] X.env)).filterMap (·.1) = [pr] := by rfl)
    (hpl : ((backTo pos (starEach [] X.env)).any (·.1) || (backToKw pos (keywordEach [⟨some pr, e, kpos⟩] X.env)).any (·.1.isNone)) = false := by rfl) : JE X (.Call (.Name x p) [] [⟨some pr, e, kpos⟩] pos) (xExc1 C f ta) := by
  refine ⟨fun Wx tk σ H Γ W Q E R G xl h pins s I => wpAny_Call_Name_kw (ld_glob I hg hm (PySem.W.callWith_KW0 (h₀ := X.base) I.ok.mod.kin T.kp hall (thn ((pk_cons semE pk_nil).run pos pins s σ H
    (fun vs H1 => ∃ v d W1, vs = [v] ∧ Stp X.K _ W H W1 H1 ∧ Dv X.K (off _ W1 H1) v d ∧ Q (.exc C [(f, d)]) W1) I (monoE (ha.run Wx tk σ H Γ W _ E R G xl h) fun v H1 ⟨d, W1, s1', r1, q1⟩ => ⟨v, d, W1, rfl, s1', r1, q1⟩)) fun us s1 ⟨vs, H1, I1, r, v, d, W1, ev, s1', rv, q⟩ => ?_) hpl) hdb)⟩
  subst ev
  obtain ⟨u, rfl, ru⟩ := vals1 r
  refine ⟨I1.kIn, ?_⟩
  rw [hks]
  refine new1K T I1 hr fun h' e t1 tk dx k he hdx ne ee hn => ?_
  obtain ⟨v', H', I', r', q'⟩ := exc1_end (tk := tk) I1 s1'.rep k he hdx ne ee hn ru rv q
  exact ⟨v', H', I', r', QL.step s1' q'⟩
/-! ### raised -/
abbrev xRaise0 (C : Addr) : TXS := fun D Γ W => D.ex Γ (.ref C) [] W
abbrev xRaise1 (C : Addr) (f : Str) (ta : TX) : TXS := fun D Γ W => ta Γ W (fun d W1 => D.ex Γ (.ref C) [(f, d)] W1) (D.ex Γ)
theorem js_raise0 {pos2 : Pos} (hc : X.calm = true) (T : XC0 X.prog X.K X.mg C) (hr : X.A.depth + 1 < recursionLimit) (hg : Gl X x) (hm : X.mg x = some (.ref C)) (hdb : (x == ("__debug__" : Str)) = false := by decide) :
    JS X (.Raise (some (.Call (.Name x p) [] [] pos)) none pos2) (xRaise0 C) :=
  ⟨fun Wx tk σ H Γ W D R G xs h => toS (ps_raise hc tk (t := fun _ H Q => Q (.ref C) none H) (fun pins s σ H Q I q => wpAny_Call_Name_kw (ld_glob I hg hm (PySem.W.callWith_K0 I.kIn T.kp (new0 T I hr fun h' e t1 tk k he ee => by
    have hne : s.heap.get? e = none := by
      cases z : s.heap.get? e with
      | none => rfl
      | some o => exact absurd (Heap.lt_size z) (Nat.not_lt.mpr he)
    exact ⟨e, _, _, s, H, .ref C, none, rfl, I, k, hne, ee, ⟨rfl, rfl⟩, rfl, rfl, I.hok.fresh he, rfl, I.bare, T.a.raises, q⟩)) hdb)))
    (xs (.ref C) none [] σ Γ H W (.refl R) G (.inl ⟨rfl, rfl⟩) h)⟩
/-- the exception let go, its dict tracked -/
theorem mkp1 {pins : List (Addr × Obj)} {σ : L2.St} {H : Hp} {s : Shared} {Q : XK} {h' : Heap} {a t1 dx : Addr} {tk : Nat} {v : V} {u : Value} (T : ExA X.K C) (I : Inv X pins σ H s) (k : ∀ b o, s.heap.get? b = some o → h'.get? b = some o) (he : s.heap.objs.size ≤ a) (hdx : s.heap.objs.size ≤ dx) (ne : dx ≠ a)
    (ee : h'.get? a = some (exO C t1 (some dx))) (hn : h'.Ns1 dx (fun y => if y = f then some u else none)) (rv : RelV v u) (q : Q (.ref C) (some dx) (upd H dx (.xd [(f, v)]))) : MkP X pins σ Q (.ref a) { s with heap := h', toks := tk } := by
  obtain ⟨G, g1, g2⟩ := restrict h' fun b => decide (b ≠ a)
  have gk : ∀ b, b ≠ a → G.get? b = h'.get? b := fun b hb => g1 b (decide_eq_true hb)
  have ge : G.get? a = none := g2 a (by simp)
  have na : ∀ {b : Addr} {o : Obj}, s.heap.get? b = some o → b ≠ a := fun {b o} z => Nat.ne_of_lt (Nat.lt_of_lt_of_le (Heap.lt_size z) he)
  have kG : ∀ b o, s.heap.get? b = some o → G.get? b = some o := fun b o z => (gk b (na z)).trans (k b o z)
  have hnG : G.Ns1 dx (fun y => if y = f then some u else none) := hn.at fun o z => (gk dx ne).trans z
  have J : Inv X pins σ (upd H dx (.xd [(f, v)])) { s with heap := G, toks := tk } := I.laid (t' := tk) kG hdx (xd_ok hnG rv)
  refine ⟨a, _, _, { s with heap := G, toks := tk }, _, .ref C, some dx, rfl, J, fun b o z => ?_, ge, ee, ⟨rfl, rfl⟩, rfl, rfl, ?_, rfl, I.bare, T.raises, q⟩
  · by_cases hb : b = a
    · rw [hb, show G.get? a = none from ge] at z
      cases z
    · exact (gk b hb).symm.trans z
  · rw [upd_ne (Ne.symm ne)]
    exact I.hok.fresh he
theorem js_raise1 {pos2 : Pos} (hc : X.calm = true) (T : XC1 X.prog X.K X.mg C f pr) (hr : X.A.depth + 1 < recursionLimit) (hg : Gl X x) (hm : X.mg x = some (.ref C)) (ha : JE X e ta) (hdb : (x == ("__debug__" : Str)) = false := by decide) (he : starEach [e] X.env = (false, eval e X.env) :: starEach [] X.env := by rfl)
    (hpl : (backTo pos (starEach [] X.env)).any (·.1) = false := by rfl) : JS X (.Raise (some (.Call (.Name x p) [e] [] pos)) none pos2) (xRaise1 C f ta) := by
  have P : PMk X (.Call (.Name x p) [e] [] pos) (fun σ H Q => wpA X [e] σ H fun vs H1 => ∃ v, vs = [v] ∧ ∀ dx, H1 dx = none → Q (.ref C) (some dx) (upd H1 dx (.xd [(f, v)]))) := by
    intro pins s σ H Q I q
    refine wpAny_Call_Name_kw (ld_glob I hg hm ?_ hdb)
    refine PySem.W.callWith_K (h₀ := X.base) I.ok.mod.kin T.kp (thn (q pos pins s I) fun us s1 ⟨vs, H1, I1, r, v, ev, q1⟩ => ?_) he hpl
    subst ev
    obtain ⟨u, rfl, ru⟩ := vals1 r
    exact ⟨I1.kIn, new1 T I1 hr fun h' e t1 tk dx k he hdx ne ee hn => mkp1 T.a I1 k he hdx ne ee hn ru (q1 dx (I1.hok.fresh hdx))⟩
  refine ⟨fun Wx tk σ H Γ W D R G xs h => toS (ps_raise hc tk P) ?_⟩
  refine toA (pa_cons semE pa_nil he) (monoE (ha.run Wx tk σ H Γ W _ _ R G (xs.xl G) h) fun v H1 ⟨d, W1, s1, r1, q1⟩ => ⟨v, rfl, fun dx hdx => ?_⟩)
  obtain ⟨s2, e2⟩ := Stp.new (o := .xd [(f, v)]) s1.rep hdx
  have s12 := s1.trans s2
  exact xs (.ref C) (some dx) [(f, d)] σ Γ _ W1 s12 (G.mono s12.ex) (.inr ⟨dx, _, rfl, e2, .cons (r1.mono s2.ex) .nil⟩) q1
/-! ### isinstance -/
def rIsX (K : Frag) : List V → Hp → VK → Prop := fun xs H Q => ∃ (a C : Addr) (d : Option Addr) (c : V) (u : Value) (b : Bool), xs = [.ref a, c] ∧ ClsV c u ∧ H a = some (exo a C d) ∧ (d = none ∨ ∃ dd fs, d = some dd ∧ H dd = some (.xd fs)) ∧ ExcC K C ∧ PySem.W.kitOne K (.ref C) u = some b ∧ Q (.bl b) H
theorem call_isX : CallR X (.builtin "isinstance") (rIsX X.K) := by
  intro pins s σ H xs us Q I r h
  obtain ⟨a, C, d, c, u, b, rfl, kc, ea, hd, ec, e, q⟩ := h
  obtain ⟨u1, u2, rfl, r1, r2⟩ := vals2 r
  cases (show u1 = Value.ref a from r1)
  have e2 := kc.eq r2
  subst e2
  obtain ⟨t1, ho⟩ := exo_at I.hok ea
  have hod : ∃ od, PySem.W.InstAt s.heap a (exO C t1 d) C od := by
    rcases hd with rfl | ⟨dd, fs, rfl, hx⟩
    · exact ⟨none, ho, rfl, rfl, trivial⟩
    · obtain ⟨mA, ⟨o, _, _, e1, _⟩, _⟩ := (show ObjOk X.prog X.w H s.heap dd (.xd fs) from I.hok dd _ hx)
      exact ⟨some o, ho, rfl, rfl, e1⟩
  obtain ⟨od, J⟩ := hod
  have hcl : (PySem.W.clsIn X.K C).isSome = true := by
    obtain ⟨cd, hc, _⟩ := PySem.W.any_some ec.hd
    rw [hc]; rfl
  exact PySem.W.kia_one (PySem.W.kitx_exc (od := od) hcl ec.hg ec.hk ec.hs ec.ha ec.hn ec.ht ec.hm) I.kIn J e (fun z => nomatch z) fun tk => ⟨.bl b, H, I.tok tk, rfl, q⟩
abbrev clsU (d : Dt) : Option Value := match d with
  | .at D => some (.ref D)
  | .ty n => some (.type n)
  | _ => none
abbrev cIsX (K : Frag) (ok : Addr → Prop) : DC := fun ds W Q => match ds with
  | [.exc C _, c] => ok C ∧ ∃ u b, clsU c = some u ∧ PySem.W.kitOne K (.ref C) u = some b ∧ Q (.bl b) W
  | _ => False
theorem dca_isX {ok : Addr → Prop} (hok : ∀ C, ok C → ExcC X.K C) : DCa X (rIsX X.K) (cIsX X.K ok) := by
  intro hd vs ds W H Q Q' R r hq h
  match ds, h with
  | [.exc C fs, c], ⟨hc, u, b, hu, e, q⟩ =>
    obtain ⟨v, w, rfl, rv, rw'⟩ := r.two
    cases rv with
    | @exc a _ d vs _ ea kd t =>
      have hcu : ClsV w u := by
        cases c with
        | «at» D => cases hu; cases rw'; exact .own D
        | ty n => cases hu; cases rw'; exact .ty n
        | _ => cases hu
      exact ⟨a, C, d, w, u, b, rfl, hcu, (off_some ea).2.2.1, kd.imp (fun z => z.1) (fun ⟨dd, h1, h2⟩ => ⟨dd, _, h1, (off_some h2).2.2.1⟩), hok C hc, e, hq _ _ (ql_val R (.bl _) q)⟩
/-! ### a field -/
abbrev xXf (ok : Addr → Prop) (f : Str) (ta : TX) : TX := fun Γ W Q E => ta Γ W (fun d W1 => match d with
  | .exc C fs => ok C ∧ (match fs.lookup f with | some y => Q y W1 | none => False)
  | _ => False) E
theorem je_xf {ok : Addr → Prop} (hok : ∀ C, ok C → XfC X.K C ∧ PySem.W.findIn X.K (.ref C) f = some none) (he : JE X e ta) (hb : attributeBase e f X.env (eval e X.env) = eval e X.env := by rfl) : JE X (.Attribute e f pos) (xXf ok f ta) := by
  refine ⟨fun Wx tk σ H Γ W Q E R G xl h pins s I => attr_of hb (thn (he.run Wx tk σ H Γ W _ E R G xl h pins s I) fun u s1 ⟨v, H1, I1, rx, d, W1, s1', r1, q⟩ => ?_)⟩
  cases r1 with
  | @exc a C dd vs ds ea kd t =>
    have q' : ok C ∧ (match ds.lookup f with | some y => Q y W1 | none => False) := q
    obtain ⟨hc, q2⟩ := q'
    cases hl : ds.lookup f with
    | none => simp only [hl] at q2
    | some y =>
      simp only [hl] at q2
      obtain ⟨w, hw, rw'⟩ := t.lookup hl
      obtain rfl : u = Value.ref a := rx
      obtain ⟨T, hno⟩ := hok C hc
      obtain ⟨t1, ho⟩ := exo_at I1.hok (off_some ea).2.2.1
      rcases kd with ⟨_, rfl⟩ | ⟨dx, rfl, hx⟩
      · cases hw
      · have hx' : ObjOk X.prog X.w H1 s1.heap dx (.xd vs) := I1.hok dx _ (off_some hx).2.2.1
        obtain ⟨mA, hns, hr⟩ := hx'
        obtain ⟨od, ho2, hl2⟩ := lookIn_ns hns
        obtain ⟨z, hz, rz⟩ := RelO.some_of (v := w) (o := mA f) (by rw [← hw]; exact hr f)
        have J : PySem.W.InstAt s1.heap a (exO C t1 (some dx)) C (some od) := ⟨ho, rfl, rfl, ho2⟩
        exact HandSPX.exc_get I1.kIn J T.ga T.gg T.exC (PySem.W.findObj_own T.hdC hno rfl (by rw [hl2, hz])) (handed_of rz) ⟨w, H1, I1.tok _, rz, QL.step s1' (ql_val s1'.rep rw' q2)⟩
  | _ => exact q.elim
end
end DL

set_option Elab.async false
set_option linter.all false
set_option maxRecDepth 100000
set_option maxHeartbeats 4000000
/-! DE6: several except clauses, with and without a name. -/
namespace DL
open PySem PySem.Spec PyProof.Rows L2
/-- the clauses: the class, the name's slot, the suite's reading -/
abbrev MCl := Value × Option Nat × (Addr → Value → Option Addr → TS)
def unE (i : Nat) (D : Ends) : Ends := { nx := fun σ' H' => D.nx (σ'.set i none) H', rt := D.rt, bk := fun σ' H' => D.bk (σ'.set i none) H', ct := fun σ' H' => D.ct (σ'.set i none) H' }
def wMix (K : PySem.W.Frag) (Wout : WX) (D : Ends) : List MCl → WX
  | [] => Wout
  | (c, none, ts) :: r => fun cls d σ H => ∃ b, PySem.W.exmOne K cls c = some b ∧ (b = true → ∀ a, H a = none → ts a cls d D σ H) ∧ (b = false → wMix K Wout D r cls d σ H)
  | (c, some i, ts) :: r => fun cls d σ H => ∃ b, PySem.W.exmOne K cls c = some b ∧ (b = true → ∀ a, H a = none → ts a cls d (unE i D) (σ.set i (some (.ref a))) H) ∧ (b = false → wMix K Wout D r cls d σ H)
inductive HdX (X : Cx) : List ExceptHandler → List MCl → Prop
  | nil : HdX X [] []
  | cons {x : Str} {c : Value} {ts : Addr → Value → Option Addr → TS} {b₀ : Stmt} {suite : List Stmt} {np pos' : Pos} {hds : List ExceptHandler} {l : List MCl} (hc : Names X x c)
      (hsu : ∀ (a : Addr) (oe : Obj) (cls : Value) (d : Option Addr) (pn : List (Addr × Obj)), Zc cls d oe → (∃ vs, oe.data = .fields vs) → PSs (X.suite a ((a, oe) :: pn)) (b₀ :: suite) (ts a cls d)) (r : HdX X hds l) :
      HdX X (.ExceptHandler (some (.Name x np)) none (b₀ :: suite) pos' :: hds) ((c, none, ts) :: l)
  | consA {x n : Str} {c : Value} {i : Nat} {ts : Addr → Value → Option Addr → TS} {b₀ : Stmt} {suite : List Stmt} {np pos' : Pos} {hds : List ExceptHandler} {l : List MCl} (hN : X.N.Nodup) (hi : X.N[i]? = some n) (hln : X.env.kindOf n = some .local) (hc : Names X x c)
      (hsu : ∀ (a : Addr) (oe : Obj) (cls : Value) (d : Option Addr) (pn : List (Addr × Obj)), Zc cls d oe → (∃ vs, oe.data = .fields vs) → PSs (X.suite a ((a, oe) :: pn)) (b₀ :: suite) (ts a cls d)) (r : HdX X hds l) :
      HdX X (.ExceptHandler (some (.Name x np)) (some n) (b₀ :: suite) pos' :: hds) ((c, some i, ts) :: l)
section
variable {X : Cx} {body : List Stmt} {h₀ : ExceptHandler} {hds : List ExceptHandler} {l : List MCl} {pos : Pos} {tb : WX → TS} {Wout : WX}
theorem ps_try_mix (hs : X.stack = X.env :: X.outer) (hf : X.env.frame = some X.env.locals) (tk : Takes X Wout)
    (hb : ∀ (W : WX) (pn : List (Addr × Obj)) (xe : Value → Shared → Prop), Takes (X.tr pn xe) W → PassesOwn (model X.prog X.w) X.A X.env xe → PSs (X.tr pn xe) body (tb W))
    (hh : HdX X (h₀ :: hds) l) : PS X (.Try body (h₀ :: hds) [] [] pos) (fun D σ H => tb (wMix X.K Wout D l) D σ H) := by
  refine ⟨fun pins s σ H D I h => ?_⟩
  have ok := I.ok
  have hfr : X.A.frames = some (X.env :: X.outer) := by rw [ok.frames, hs]
  refine wpAny_Try_except ?_
  refine wpAny_mono ((hb (wMix X.K Wout D l) (X.pn ++ pins) (fun e s₁ => wpAny (model X.prog X.w) X.A (noteFrame e X.env) (fun _ s₂ => wpAny (model X.prog X.w) X.A (setFlight e none) (fun _ s₃ =>
    wpAny (model X.prog X.w) X.A (handleBy e X.env (h₀ :: hds)) (SP X pins D) X.xe s₃) X.xe s₂) X.xe s₁) (fun u s' xx => ?_) PassesOwn.looking).run [] s σ H D (I.toTry _) h) (fun f s1 hsp => ?_) (fun e s1 he => he)
  · -- the catch
    obtain ⟨a, B, sI, pins', σ', H', cls, d, rfl, J', nb, up, sky, na, os, ag, w⟩ := xx
    have J : Inv X pins σ' H' sI := J'.ofTry ok
    have sky' : Sky B (X.env :: X.outer) a (Zc cls d) X.env.locals s'.heap := by rw [← hs]; exact sky
    show wpAny (model X.prog X.w) X.A (noteFrame (.ref a) X.env) _ _ _
    refine Sky.land Zc.steady hfr hf sky' fun h3 fl3 up3 => ?_
    have J3 : Inv X pins σ' H' { s' with heap := h3 } := J.landed nb fl3.1 (up.trans up3) os ag
    obtain ⟨oe3, vs3, he3, hz3, hd3⟩ := fl3.there
    have notFr : ∀ {h : Heap} {o : Obj} {vs : Array Value}, h.FunFrames B (X.env :: X.outer) → h.get? a = some o → o.data = .fields vs → a ∉ frs (X.env :: X.outer) := fun {h o vs} ff e dd hm => by
      obtain ⟨_, o', e', hnf⟩ := ff.mem hm
      rw [e] at e'; cases e'
      exact hnf _ dd
    have nfr := notFr fl3.2.2.1 he3 hd3
    have nL : a ≠ X.env.locals := fun z => nfr (List.mem_filterMap.mpr ⟨X.env, List.mem_cons_self, by rw [hf, z]⟩)
    have nF : a ∉ X.fs := fun hm => by
      obtain ⟨e, he, q⟩ := List.mem_filterMap.mp hm
      exact nfr (List.mem_filterMap.mpr ⟨e, List.mem_cons_of_mem _ he, q⟩)
    have S3 := J3.suite he3 hd3 na nL nF
    have go : ∀ {hds' : List ExceptHandler} {l' : List MCl}, HdX X hds' l' → wMix X.K Wout D l' cls d σ' H' →
        wpAny (model X.prog X.w) X.A (handleBy (.ref a) X.env hds') (SP X pins D) X.xe { s' with heap := h3 } := by
      intro hds' l' hk
      induction hk with
      | nil =>
        intro w
        refine wpAny_handleBy_nil ?_
        obtain ⟨k1, k2, k3, oe, vs, T, oT, ts', he, hz, hd, h1, hr⟩ := id fl3
        unfold PySem.passOn
        refine wpAny_bind (wpAny_field he hd h1 ?_)
        rw [if_neg (show ¬ ((Value.ref T == Value.none) = true) from by simp)]
        have fin : wpAny (model X.prog X.w) X.A (setFlight (.ref a) X.env.frame) (fun _ s4 => wpAny (model X.prog X.w) X.A (throw (.ref a) : Sem Flow) (SP X pins D) X.xe s4) X.xe { s' with heap := h3 } := by
          rw [hf]
          refine HandSPX.setFlight_upZ fl3 fun h4 hh4 up4 => wpAny_throw (tk _ _ ?_)
          exact ⟨a, B, sI, pins, σ', H', cls, d, rfl, J, nb, (up.trans up3).trans up4, .inr (.inr (by rw [hs]; exact hh4)), na, os, ag, w⟩
        first
          | exact wpAny_bind (wpAny_pure (wpAny_bind fin))
          | exact wpAny_bind fin
      | @cons x c ts b₀ suite np pos' hds2 l2 hc hsu r ih =>
        intro w
        obtain ⟨b, hb1, hyes, hno⟩ := w
        refine wpAny_handleBy_cons (codeAny_handlers_test ?_) (by intro q; cases q)
        have LT : PySem.W.Looks (model X.prog X.w) h3 (typeOf (.ref a)) cls := fun A Q E s k q => wpAny_typeOf_ref (k _ _ he3) (by rw [hz3.1]; exact q)
        have LM := PySem.W.exm_one (M := model X.prog X.w) (J3.kIn) LT hb1
        have test : ∀ {Q : Value → Shared → Prop} {E : Value → Shared → Prop}, Q c { s' with heap := h3 } → wpAny (model X.prog X.w) (X.A.mark (some (.ref a))) (eval (.Name x np) X.env) Q E { s' with heap := h3 } := fun {Q E} q => by
          obtain ⟨hg, hdbg, hm | ⟨hm, hv, hnn⟩⟩ := hc
          · exact ld_glob (X := X.suite a ((a, oe3) :: (X.pn ++ pins))) S3 hg hm q hdbg
          · exact ld_blt (X := X.suite a ((a, oe3) :: (X.pn ++ pins))) S3 hg hm hv q hnn hdbg
        refine test (LM.here ?_)
        cases b with
        | true =>
          refine codeAny_handlers_suite ?_
          refine HandSPX.lands_againZ fl3 fun h4 fl4 up4 => ?_
          have J4 : Inv X pins σ' H' { s' with heap := h4 } := J.landed nb fl4.1 ((up.trans up3).trans up4) os ag
          obtain ⟨oe4, vs4, he4, hz4, hd4⟩ := fl4.there
          have S4 := J4.suite he4 hd4 na nL nF
          refine wpAny_mono ((hsu a oe4 cls d (X.pn ++ pins) hz4 ⟨_, hd4⟩).run [] _ _ H' _ S4 (hyes rfl a na)) (fun f s6 hsp => ?_) (fun _ _ z => False.elim z)
          cases f with
          | next =>
            obtain ⟨σ6, H6, S6, q6⟩ := hsp
            exact ⟨_, _, S6.unsuite ok, q6⟩
          | brk =>
            obtain ⟨σ6, H6, S6, q6⟩ := hsp
            exact ⟨_, _, S6.unsuite ok, q6⟩
          | cont =>
            obtain ⟨σ6, H6, S6, q6⟩ := hsp
            exact ⟨_, _, S6.unsuite ok, q6⟩
          | ret u =>
            obtain ⟨v6, σ6, H6, S6, r6, q6⟩ := hsp
            exact ⟨_, _, _, S6.unsuite ok, r6, q6⟩
        | false =>
          show wpAny _ X.A (handleBy (.ref a) X.env hds2) _ _ _
          exact ih (hno rfl)
      | @consA x n c i ts b₀ suite np pos' hds2 l2 hN hi hln hc hsu r ih =>
        intro w
        obtain ⟨b, hb1, hyes, hno⟩ := w
        refine wpAny_handleBy_cons (codeAny_handlers_test ?_) (by intro q; cases q)
        have LT : PySem.W.Looks (model X.prog X.w) h3 (typeOf (.ref a)) cls := fun A Q E s k q => wpAny_typeOf_ref (k _ _ he3) (by rw [hz3.1]; exact q)
        have LM := PySem.W.exm_one (M := model X.prog X.w) (J3.kIn) LT hb1
        have test : ∀ {Q : Value → Shared → Prop} {E : Value → Shared → Prop}, Q c { s' with heap := h3 } → wpAny (model X.prog X.w) (X.A.mark (some (.ref a))) (eval (.Name x np) X.env) Q E { s' with heap := h3 } := fun {Q E} q => by
          obtain ⟨hg, hdbg, hm | ⟨hm, hv, hnn⟩⟩ := hc
          · exact ld_glob (X := X.suite a ((a, oe3) :: (X.pn ++ pins))) S3 hg hm q hdbg
          · exact ld_blt (X := X.suite a ((a, oe3) :: (X.pn ++ pins))) S3 hg hm hv q hnn hdbg
        refine test (LM.here ?_)
        cases b with
        | true =>
          have hloc : Loc X.env.scope n := .inl hln
          refine codeAny_handlers_suite_as ?_
          refine HandSPX.lands_againZ fl3 fun h4 fl4 up4 => ?_
          have J4 : Inv X pins σ' H' { s' with heap := h4 } := J.landed nb fl4.1 ((up.trans up3).trans up4) os ag
          obtain ⟨oe4, vs4, he4, hz4, hd4⟩ := fl4.there
          have S4 := J4.suite he4 hd4 na nL nF
          refine store_ok (X := X.suite a ((a, oe4) :: (X.pn ++ pins))) (v := .ref a) S4 hN hi hloc rfl (fun s5 S5 => ?_) (.inr hln)
          refine wpAny_mono ((hsu a oe4 cls d (X.pn ++ pins) hz4 ⟨_, hd4⟩).run [] s5 _ H' _ S5 (hyes rfl a na)) (fun f s6 hsp => ?_) (fun _ _ z => False.elim z)
          have end_ : ∀ {σ6 : L2.St} {H6 : Hp} {Q : Shared → Prop}, Inv (X.suite a ((a, oe4) :: (X.pn ++ pins))) [] σ6 H6 s6 → (∀ s7, Inv X pins (σ6.set i none) H6 s7 → Q s7) →
              wpAny (model X.prog X.w) X.A (do bindName X.env n .none; unbindBehindTheSuite X.env n pos') (fun _ s7 => Q s7) X.xe s6 := fun {σ6 H6 Q} S6 hq => gone_ok (S6.unsuite ok) hN hi hln hq
          cases f with
          | next =>
            obtain ⟨σ6, H6, S6, q6⟩ := hsp
            exact end_ S6 fun s7 J7 => ⟨_, _, J7, q6⟩
          | brk =>
            obtain ⟨σ6, H6, S6, q6⟩ := hsp
            exact end_ S6 fun s7 J7 => ⟨_, _, J7, q6⟩
          | cont =>
            obtain ⟨σ6, H6, S6, q6⟩ := hsp
            exact end_ S6 fun s7 J7 => ⟨_, _, J7, q6⟩
          | ret u =>
            obtain ⟨v6, σ6, H6, S6, r6, q6⟩ := hsp
            exact end_ S6 fun s7 J7 => ⟨_, _, _, J7, r6, q6⟩
        | false =>
          show wpAny _ X.A (handleBy (.ref a) X.env hds2) _ _ _
          exact ih (hno rfl)
    exact go hh w
  · cases f with
    | next =>
      obtain ⟨σ', H', J', q⟩ := hsp
      exact wpAny_execs_nil ⟨σ', H', J'.ofTry ok, q⟩
    | brk =>
      obtain ⟨σ', H', J', q⟩ := hsp
      exact ⟨σ', H', J'.ofTry ok, q⟩
    | cont =>
      obtain ⟨σ', H', J', q⟩ := hsp
      exact ⟨σ', H', J'.ofTry ok, q⟩
    | ret u =>
      obtain ⟨v, σ', H', J', r, q⟩ := hsp
      exact ⟨v, σ', H', J'.ofTry ok, r, q⟩
end
end DL

set_option Elab.async false
set_option linter.all false
set_option maxRecDepth 100000
set_option maxHeartbeats 4000000
/-! DE7: try over data. -/
namespace DL
open PySem L2 PySem.DEX
open PySem.W (Frag)
/-- a clause: the class, the name's slot, the suite's reading -/
abbrev DCl := Value × Option Nat × (Addr → Value → Option Addr → TXS)
/-- a suite lets nothing out -/
def shut (D : DEnds) : DEnds := { nx := D.nx, rt := D.rt, bk := D.bk, ct := D.ct, ex := fun _ _ _ _ => False }
def shutI (i : Nat) (D : DEnds) : DEnds := { nx := fun Γ W => D.nx (Γ.set i none) W, rt := D.rt, bk := fun Γ W => D.bk (Γ.set i none) W, ct := fun Γ W => D.ct (Γ.set i none) W, ex := fun _ _ _ _ => False }
def xCls (K : Frag) (D : DEnds) : List DCl → Sl → DX
  | [] => D.ex
  | (c, none, t) :: r => fun Γ cls fs W => ∃ b, PySem.W.exmOne K cls c = some b ∧ (b = true → ∀ a d, t a cls d (shut D) Γ W) ∧ (b = false → xCls K D r Γ cls fs W)
  | (c, some i, t) :: r => fun Γ cls fs W => ∃ b, PySem.W.exmOne K cls c = some b ∧ (b = true → ∀ a d, t a cls d (shutI i D) (Γ.set i (some (.cau a d fs))) W) ∧ (b = false → xCls K D r Γ cls fs W)
abbrev xTry (K : Frag) (tb : TXS) (l : List DCl) : TXS := fun D Γ W => tb { D with ex := xCls K D l } Γ W
inductive HdD (X : Cx) : List ExceptHandler → List DCl → Prop
  | nil : HdD X [] []
  | cons {x : Str} {c : Value} {t : Addr → Value → Option Addr → TXS} {b₀ : Stmt} {suite : List Stmt} {np pos' : Pos} {hds : List ExceptHandler} {l : List DCl} (hc : Names X x c)
      (hsu : ∀ (a : Addr) (oe : Obj) (cls : Value) (d : Option Addr) (pn : List (Addr × Obj)), Zc cls d oe → (∃ vs, oe.data = .fields vs) → JB (X.suite a ((a, oe) :: pn)) (b₀ :: suite) (t a cls d)) (r : HdD X hds l) :
      HdD X (.ExceptHandler (some (.Name x np)) none (b₀ :: suite) pos' :: hds) ((c, none, t) :: l)
  | consA {x n : Str} {c : Value} {i : Nat} {t : Addr → Value → Option Addr → TXS} {b₀ : Stmt} {suite : List Stmt} {np pos' : Pos} {hds : List ExceptHandler} {l : List DCl} (hN : X.N.Nodup) (hi : X.N[i]? = some n) (hln : X.env.kindOf n = some .local) (hc : Names X x c)
      (hsu : ∀ (a : Addr) (oe : Obj) (cls : Value) (d : Option Addr) (pn : List (Addr × Obj)), Zc cls d oe → (∃ vs, oe.data = .fields vs) → JB (X.suite a ((a, oe) :: pn)) (b₀ :: suite) (t a cls d)) (r : HdD X hds l) :
      HdD X (.ExceptHandler (some (.Name x np)) (some n) (b₀ :: suite) pos' :: hds) ((c, some i, t) :: l)
section
variable {X : Cx}
/-- the suite, for every pinned exception -/
def wpSu (X : Cx) (sts : List Stmt) (a : Addr) (cls : Value) (d : Option Addr) : TS := fun D σ H => ∀ (oe : Obj) (pn : List (Addr × Obj)), Zc cls d oe → (∃ vs, oe.data = .fields vs) → wpB (X.suite a ((a, oe) :: pn)) sts D σ H
def wpTr (X : Cx) (sts : List Stmt) (W : WX) : TS := fun D σ H => ∀ (pn : List (Addr × Obj)) (xe : Value → Shared → Prop), Takes (X.tr pn xe) W → wpB (X.tr pn xe) sts D σ H
theorem hd_low : ∀ {hds : List ExceptHandler} {l : List DCl}, HdD X hds l → ∃ l', HdX X hds l' ∧ ∀ {hd : Addr → Bool} (Wx : WX) (W : Wd) (H : Hp) (D : DEnds), XSL X.K hd W H D.ex Wx → XSL X.K hd W H (xCls X.K D l) (wMix X.K Wx (EndsL X.K hd W H D) l')
  | _, _, .nil => ⟨[], .nil, fun {hd} Wx W H D x => x⟩
  | _, _, .cons (c := c) (t := t) (b₀ := b₀) (suite := suite) hc hsu r => by
    obtain ⟨l', h1, h2⟩ := hd_low r
    refine ⟨(c, none, fun a cls d => wpSu X (b₀ :: suite) a cls d) :: l', .cons hc (fun a oe cls d pn z f => ⟨fun pins s σ H D I q => q oe pn z f pins s I⟩) h1, @fun hd Wx W H D x cls d fs σ' Γ' H' W' s1 g xn h => ?_⟩
    obtain ⟨b, e, hy, hno⟩ := h
    refine ⟨b, e, fun hb a ha oe pn z f => ?_, fun hb => h2 Wx W H D x cls d fs σ' Γ' H' W' s1 g xn (hno hb)⟩
    exact monoB ((hsu a oe cls d pn z f).run (fun _ _ _ _ => False) takes_none5 σ' H' Γ' W' (shut D) s1.rep g (fun _ _ _ _ _ _ _ _ _ _ q => q) (hy hb a d))
      ⟨fun _ _ q => NL.step s1 q, fun _ _ q => QL.step s1 q, fun _ _ q => NL.step s1 q, fun _ _ q => NL.step s1 q⟩
  | _, _, .consA (c := c) (i := i) (t := t) (b₀ := b₀) (suite := suite) hN hi hln hc hsu r => by
    obtain ⟨l', h1, h2⟩ := hd_low r
    refine ⟨(c, some i, fun a cls d => wpSu X (b₀ :: suite) a cls d) :: l', .consA hN hi hln hc (fun a oe cls d pn z f => ⟨fun pins s σ H D I q => q oe pn z f pins s I⟩) h1, @fun hd Wx W H D x cls d fs σ' Γ' H' W' s1 g xn h => ?_⟩
    obtain ⟨b, e, hy, hno⟩ := h
    refine ⟨b, e, fun hb a ha oe pn z f => ?_, fun hb => h2 Wx W H D x cls d fs σ' Γ' H' W' s1 g xn (hno hb)⟩
    have rc : ∃ vs : List (Str × V), Dv X.K (off hd W' H') (.ref a) (.cau a d fs) := by
      rcases xn with ⟨rfl, rfl⟩ | ⟨dd, vs, rfl, h3, h4⟩
      · exact ⟨[], .cau (.inl ⟨rfl, rfl⟩) .nil⟩
      · exact ⟨vs, .cau (.inr ⟨dd, rfl, h3⟩) h4⟩
    obtain ⟨_, rc⟩ := rc
    have un : ∀ {q : Sl → Wd → Prop} {σ6 : L2.St} {H6 : Hp}, NL X.K hd W' H' (fun Γ W => q (Γ.set i none) W) σ6 H6 → NL X.K hd W H q (σ6.set i none) H6 := fun {q σ6 H6} ⟨Γ6, W6, s6, g6, q6⟩ => ⟨Γ6.set i none, W6, s1.trans s6, g6.unset, q6⟩
    exact monoB ((hsu a oe cls d pn z f).run (fun _ _ _ _ => False) takes_none5 (σ'.set i (some (.ref a))) H' (Γ'.set i (some (.cau a d fs))) W' (shutI i D) s1.rep (g.set rc) (fun _ _ _ _ _ _ _ _ _ _ q => q) (hy hb a d))
      ⟨fun _ _ q => un q, fun _ _ q => QL.step s1 q, fun _ _ q => un q, fun _ _ q => un q⟩
theorem js_try {body : List Stmt} {h₀ : ExceptHandler} {hds : List ExceptHandler} {l : List DCl} {pos : Pos} {tb : TXS} (hb : ∀ (pn : List (Addr × Obj)) (xe : Value → Shared → Prop), JB (X.tr pn xe) body tb) (hh : HdD X (h₀ :: hds) l)
    (hs : X.stack = X.env :: X.outer := by rfl) (hf : X.env.frame = some X.env.locals := by rfl) : JS X (.Try body (h₀ :: hds) [] [] pos) (xTry X.K tb l) := by
  obtain ⟨l', h1, h2⟩ := hd_low hh
  refine ⟨@fun hd Wx tk σ H Γ W D R G x h => toS (ps_try_mix (tb := fun W' => wpTr X body W') hs hf tk (fun W' pn xe t _ => ⟨fun pins s σ H D I q => q pn xe t pins s I⟩) h1) fun pn xe t => ?_⟩
  exact monoB ((hb pn xe).run _ t σ H Γ W { D with ex := xCls X.K D l } R G (h2 Wx W H D x) h) ⟨fun _ _ q => q, fun _ _ q => q, fun _ _ q => q, fun _ _ q => q⟩
/-- the caught exception's field -/
abbrev xCau (ok : Addr → Prop) (a : Addr) (cls : Value) (d : Option Addr) (f : Str) (ta : TX) : TX := fun Γ W Q E => ta Γ W (fun x W1 => match x with
  | .cau a' d' fs => a' = a ∧ d' = d ∧ (∃ C, cls = .ref C ∧ ok C) ∧ (match fs.lookup f with | some y => Q y W1 | none => False)
  | _ => False) E
theorem je_cau {e : Expr} {ta : TX} {pos : Pos} {a : Addr} {oe : Obj} {cls : Value} {d : Option Addr} {pn : List (Addr × Obj)} {f : Str} {ok : Addr → Prop} (hok : ∀ C, ok C → XfC X.K C ∧ PySem.W.findIn X.K (.ref C) f = some none) (hz : Zc cls d oe) (hf : ∃ vs, oe.data = .fields vs)
    (he : JE (X.suite a ((a, oe) :: pn)) e ta) (hb : attributeBase e f X.env (eval e X.env) = eval e X.env := by rfl) : JE (X.suite a ((a, oe) :: pn)) (.Attribute e f pos) (xCau ok a cls d f ta) := by
  refine ⟨@fun hd Wx tk σ H Γ W Q E R G xl h pins s I => attr_of hb (thn (he.run Wx tk σ H Γ W _ E R G xl h pins s I) fun u s1 ⟨v, H1, I1, rx, x, W1, s1', r1, q⟩ => ?_)⟩
  cases r1 with
  | @cau a' d' vs ds kd t =>
    have q' : a' = a ∧ d' = d ∧ (∃ C, cls = .ref C ∧ ok C) ∧ (match ds.lookup f with | some y => Q y W1 | none => False) := q
    obtain ⟨rfl, rfl, ⟨C, rfl, hc⟩, q2⟩ := q'
    cases hl : ds.lookup f with
    | none => simp only [hl] at q2
    | some y =>
      simp only [hl] at q2
      obtain ⟨w, hw, rw'⟩ := t.lookup hl
      obtain rfl : u = Value.ref a' := rx
      obtain ⟨T, hno⟩ := hok C hc
      rcases kd with ⟨_, rfl⟩ | ⟨dx, rfl, hx⟩
      · cases hw
      · obtain ⟨hget, _⟩ := I1.pin (a', oe) (List.mem_append_left _ List.mem_cons_self)
        obtain ⟨vs2, hdat⟩ := hf
        have hx' : ObjOk X.prog X.w H1 s1.heap dx (.xd vs) := I1.hok dx _ (off_some hx).2.2.1
        obtain ⟨mA, hns, hr⟩ := hx'
        obtain ⟨od, ho2, hl2⟩ := lookIn_ns hns
        obtain ⟨z, hz', rz⟩ := RelO.some_of (v := w) (o := mA f) (by rw [← hw]; exact hr f)
        have J : PySem.W.InstAt s1.heap a' oe C (some od) := ⟨hget, hz.1, by unfold PySem.W.notCls; rw [hdat] <;> rfl, by rw [hz.2]; exact ho2⟩
        exact HandSPX.exc_get I1.kIn J T.ga T.gg T.exC (PySem.W.findObj_own T.hdC hno rfl (by rw [hl2, hz'])) (handed_of rz) ⟨w, H1, I1.tok _, rz, QL.step s1' (ql_val s1'.rep rw' q2)⟩
  | _ => exact q.elim
end
end DL

set_option Elab.async false
set_option linter.all false
set_option maxRecDepth 100000
set_option maxHeartbeats 4000000
/-! DR0: repr of data in which dicts stand, where only the dicts are known to be other than sys.modules (the library's ReprReads asks it of the lists, too). -/
namespace PySem
open PyProof.Rows
mutual
inductive RdK (h : Heap) : Value → PyData → Prop
  | none : RdK h .none .none
  | bool (b : Bool) : RdK h (.bool b) (.bool b)
  | int (i : Int) (t : Tok) : RdK h (.int i t) (.int i)
  | str (x : Str) (t : Tok) : RdK h (.str x t) (.str x)
  | list {a : Addr} {o : Obj} {vs : Array Value} {n : Nat} {xs : List PyData} : h.get? a = some o → o.cls = .type "list" → o.data = .seq vs n → RdKAll h vs.toList xs → RdK h (.ref a) (.list xs)
  | tuple {a : Addr} {o : Obj} {vs : Array Value} {n : Nat} {xs : List PyData} : h.get? a = some o → o.cls = .type "tuple" → o.data = .seq vs n → RdKAll h vs.toList xs → RdK h (.ref a) (.tuple xs)
  | dict {a : Addr} {o : Obj} {es : Array DictEntry} {n : Nat} {kvs : List (PyData × PyData)} : (a == sysModules) = false → h.get? a = some o → o.cls = .type "dict" → o.data = .dict es n → RdKAll h (es.toList.map (·.key)) (kvs.map (·.1)) →
      RdKAll h (es.toList.map (·.val)) (kvs.map (·.2)) → RdK h (.ref a) (.dict kvs)
inductive RdKAll (h : Heap) : List Value → List PyData → Prop
  | nil : RdKAll h [] []
  | cons {v : Value} {vs : List Value} {d : PyData} {ds : List PyData} : RdK h v d → RdKAll h vs ds → RdKAll h (v :: vs) (d :: ds)
end
mutual
theorem RdK.reads {h : Heap} : ∀ {v : Value} {d : PyData}, RdK h v d → ∃ as, Reads h v d as
  | _, _, .none => ⟨_, .none⟩
  | _, _, .bool b => ⟨_, .bool b⟩
  | _, _, .int i t => ⟨_, .int i t⟩
  | _, _, .str x t => ⟨_, .str x t⟩
  | _, _, .list h1 h2 h3 h4 => let ⟨_, r⟩ := RdKAll.reads h4; ⟨_, .list h1 h2 h3 r⟩
  | _, _, .tuple h1 h2 h3 h4 => let ⟨_, r⟩ := RdKAll.reads h4; ⟨_, .tuple h1 h2 h3 r⟩
  | _, _, .dict _ h1 h2 h3 h4 h5 => let ⟨_, r⟩ := RdKAll.reads h4; let ⟨_, r2⟩ := RdKAll.reads h5; ⟨_, .dict h1 h2 h3 r r2⟩
theorem RdKAll.reads {h : Heap} : ∀ {v : List Value} {d : List PyData}, RdKAll h v d → ∃ as, ReadsAll h v d as
  | _, _, .nil => ⟨_, .nil⟩
  | _, _, .cons h1 h2 => let ⟨_, r⟩ := RdK.reads h1; let ⟨_, r2⟩ := RdKAll.reads h2; ⟨_, .cons r r2⟩
end
section
variable {prog : Program} {w : World} {h₀ : Heap} {a : Addr} {d : PyData}
mutual
theorem ReprK.of_rdk : ∀ {v : Value} {d : PyData}, RdK h₀ v d → d.showable = true → d.shown.length ≤ sizeLine → ∃ bs, ReadAtMost h₀ d.depth bs ∧ ReprK prog w bs h₀ d.depth v d.shown
  | _, _, .none, _, _ => ⟨[], (fun _ h => nomatch h), by simp only [PyData.shown]; exact .of_is ReprIs.none _ _ _⟩
  | _, _, .bool b, _, _ => ⟨[], (fun _ h => nomatch h), by simp only [PyData.shown]; exact .of_is (ReprIs.bool b) _ _ _⟩
  | _, _, .int i t, hs, _ => ⟨[], (fun _ h => nomatch h), by simp only [PyData.shown]; exact .of_is (ReprIs.int t (by simpa [PyData.showable] using hs)) _ _ _⟩
  | _, _, .str x t, _, hz => ⟨[], (fun _ h => nomatch h), by simp only [PyData.shown]; exact .of_is (ReprIs.str x t (by simpa only [PyData.shown] using hz)) _ _ _⟩
  | _, _, .list (a := a) (vs := vs) (xs := xs) h1 h2 h3 h4, hs, hz => by
    have hz' : (listText (PyData.shownAll xs)).length ≤ sizeLine := by simpa only [PyData.shown] using hz
    obtain ⟨bs, hb, hk⟩ := ReprAllK.of_rdkAll h4 (by simpa [PyData.showable] using hs) (fun t ht => Nat.le_trans (listText_mem_le ht) hz')
    obtain ⟨_, h4r⟩ := h4.reads
    have r : Reads h₀ (.ref a) (.list xs) _ := .list h1 h2 h3 h4r
    have hna : a ∉ bs := not_mem_of_deeper r (by simp only [PyData.depth]; omega) hb
    refine ⟨a :: bs, ReadAtMost.cons r (by simp only [PyData.depth]; omega) hb, ?_⟩
    simp only [PyData.depth, PyData.shown]
    obtain ⟨l⟩ := vs
    cases l with
    | nil =>
      have h4' : RdKAll h₀ [] xs := h4
      cases h4'
      simp only [PyData.shownAll, listText_nil]
      exact ReprK.listEmpty h1 h2 h3
    | cons x l => exact ReprK.list h1 h2 h3 hna (by simpa using hk.length_eq) (fun i y e => hk.item i y (by simpa using e))
  | _, _, .tuple (a := a) (xs := xs) h1 h2 h3 h4, hs, hz => by
    have hz' : (tupleText (PyData.shownAll xs)).length ≤ sizeLine := by simpa only [PyData.shown] using hz
    obtain ⟨bs, hb, hk⟩ := ReprAllK.of_rdkAll h4 (by simpa [PyData.showable] using hs) (fun t ht => Nat.le_trans (tupleText_mem_le ht) hz')
    obtain ⟨_, h4r⟩ := h4.reads
    have r : Reads h₀ (.ref a) (.tuple xs) _ := .tuple h1 h2 h3 h4r
    have hna : a ∉ bs := not_mem_of_deeper r (by simp only [PyData.depth]; omega) hb
    refine ⟨a :: bs, ReadAtMost.cons r (by simp only [PyData.depth]; omega) hb, ?_⟩
    simp only [PyData.depth, PyData.shown]
    exact ReprK.tuple h1 h2 h3 hna hk
  | _, _, .dict (a := a) (es := es) (kvs := kvs) hns h1 h2 h3 h4 h5, hs, hz => by
    have hz' : (dictText (PyData.shownKv kvs)).length ≤ sizeLine := by simpa only [PyData.shown] using hz
    obtain ⟨hs1, hs2⟩ := PyData.showableKv_split kvs (by simpa [PyData.showable] using hs)
    obtain ⟨b1, hb1, k1⟩ := ReprAllK.of_rdkAll h4 hs1 (fun t ht => let ⟨p, hp, hl⟩ := PyData.shownKv_key_le kvs t ht; Nat.le_trans hl (Nat.le_trans (dictText_mem_le hp) hz'))
    obtain ⟨b2, hb2, k2⟩ := ReprAllK.of_rdkAll h5 hs2 (fun t ht => let ⟨p, hp, hl⟩ := PyData.shownKv_val_le kvs t ht; Nat.le_trans hl (Nat.le_trans (dictText_mem_le hp) hz'))
    obtain ⟨_, h4r⟩ := h4.reads
    obtain ⟨_, h5r⟩ := h5.reads
    have r : Reads h₀ (.ref a) (.dict kvs) _ := .dict h1 h2 h3 h4r h5r
    have hb : ReadAtMost h₀ (PyData.depthKv kvs) (b1 ++ b2) := (hb1.mono (PyData.depthAll_keys_le kvs)).append (hb2.mono (PyData.depthAll_vals_le kvs))
    have hna : a ∉ b1 ++ b2 := not_mem_of_deeper r (by simp only [PyData.depth]; omega) hb
    have hsys : (a == sysModules) = false := hns
    refine ⟨a :: (b1 ++ b2), ReadAtMost.cons r (by simp only [PyData.depth]; omega) hb, ?_⟩
    simp only [PyData.depth, PyData.shown, PyData.shownKv_eq]
    exact ReprK.dict h1 h2 h3 hsys hna (ReprEntriesK.of_two es.toList _ _
      (k1.more_le (fun b hb => List.mem_append_left _ hb) (PyData.depthAll_keys_le kvs)) (k2.more_le (fun b hb => List.mem_append_right _ hb) (PyData.depthAll_vals_le kvs)))
theorem ReprAllK.of_rdkAll : ∀ {vs : List Value} {ds : List PyData}, RdKAll h₀ vs ds →  PyData.showableAll ds = true → (∀ t ∈ PyData.shownAll ds, t.length ≤ sizeLine) →
    ∃ bs, ReadAtMost h₀ (PyData.depthAll ds) bs ∧ ReprAllK prog w bs h₀ (PyData.depthAll ds) vs (PyData.shownAll ds)
  | _, _, .nil, _, _ => ⟨[], (fun _ h => nomatch h), by simp only [PyData.shownAll]; exact .nil⟩
  | _, _, .cons (d := d) (ds := ds) r rs, hs, hz => by
    have hs' : d.showable = true ∧ PyData.showableAll ds = true := by simpa [PyData.showableAll] using hs
    obtain ⟨b1, hb1, k1⟩ := ReprK.of_rdk r hs'.1 (hz _ (by simp only [PyData.shownAll]; exact List.mem_cons_self ..))
    obtain ⟨b2, hb2, k2⟩ := ReprAllK.of_rdkAll rs hs'.2 (fun t ht => hz t (by simp only [PyData.shownAll]; exact List.mem_cons_of_mem _ ht))
    refine ⟨b1 ++ b2, ?_, ?_⟩
    · intro b hm
      simp only [PyData.depthAll]
      rcases List.mem_append.mp hm with hm | hm
      · obtain ⟨d', as', r', hd'⟩ := hb1 b hm
        exact ⟨d', as', r', Nat.le_trans hd' (Nat.le_max_left _ _)⟩
      · obtain ⟨d', as', r', hd'⟩ := hb2 b hm
        exact ⟨d', as', r', Nat.le_trans hd' (Nat.le_max_right _ _)⟩
    · simp only [PyData.depthAll, PyData.shownAll]
      exact .cons ((k1.more fun b hb => List.mem_append_left _ hb).level_le (Nat.le_max_left _ _)) (k2.more_le (fun b hb => List.mem_append_right _ hb) (Nat.le_max_right _ _))
end


theorem showsBy_of_rdk (r : RdK h₀ (.ref a) d) (hs : d.showable = true)
    (hsz : d.shown.length ≤ sizeLine := by size_fits) : ∃ T idr, ShowsBy prog w h₀ a d T idr := by
  cases r with
  | list h1 h2 h3 h4 =>
    rename_i o vs n xs
    have hz' : (listText (PyData.shownAll xs)).length ≤ sizeLine := by simpa only [PyData.shown] using hsz
    obtain ⟨bs, hb, hk⟩ := ReprAllK.of_rdkAll (prog := prog) (w := w) h4 (by simpa [PyData.showable] using hs) (fun t ht => Nat.le_trans (listText_mem_le ht) hz')
    obtain ⟨_, h4r⟩ := h4.reads
    have hna : a ∉ bs := not_mem_of_deeper (.list h1 h2 h3 h4r) (by simp only [PyData.depth]; omega) hb
    refine ⟨"list", "list.__repr__", F.slot_list_repr.toG, F.slot_list_str, F.slot_list_format, fun s hk0 => ⟨o, hk0 _ _ h1, h2⟩, fun A E s Q hg hu hk0 hQ => ?_⟩
    simp only [PyData.depth] at hu
    simp only [PyData.shown] at hQ
    obtain ⟨l⟩ := vs
    cases l with
    | nil =>
      have h4' : RdKAll h₀ [] xs := h4
      cases h4'
      simp only [PyData.shownAll, listText_nil] at hQ
      exact call_list_repr_empty ⟨o, hk0 _ _ h1, h2⟩ (hk0 _ _ h1) h3 (hQ s.heap _ _ fun _ _ e => e)
    | cons x l =>
      exact call_list_reprK h1 h2 h3 hna (by simpa using hk.length_eq) (fun i y e => hk.item i y (by simpa using e)) hg (fun b _ => Clear.nil b) hu hk0 hQ hz'
  | tuple h1 h2 h3 h4 =>
    rename_i o vs n xs
    have hz' : (tupleText (PyData.shownAll xs)).length ≤ sizeLine := by simpa only [PyData.shown] using hsz
    obtain ⟨bs, hb, hk⟩ := ReprAllK.of_rdkAll (prog := prog) (w := w) h4 (by simpa [PyData.showable] using hs) (fun t ht => Nat.le_trans (tupleText_mem_le ht) hz')
    obtain ⟨_, h4r⟩ := h4.reads
    have hna : a ∉ bs := not_mem_of_deeper (.tuple h1 h2 h3 h4r) (by simp only [PyData.depth]; omega) hb
    refine ⟨"tuple", "tuple.__repr__", F.slot_tuple_repr, F.slot_tuple_str, F.slot_tuple_format, fun s hk0 => ⟨o, hk0 _ _ h1, h2⟩, fun A E s Q hg hu hk0 hQ => ?_⟩
    simp only [PyData.depth] at hu
    simp only [PyData.shown] at hQ
    exact call_tuple_reprK h1 h2 h3 hna hk hg (fun b _ => Clear.nil b) hu hk0 hQ hz'
  | dict hns h1 h2 h3 h4 h5 =>
    rename_i o es n kvs
    have hz' : (dictText (PyData.shownKv kvs)).length ≤ sizeLine := by simpa only [PyData.shown] using hsz
    obtain ⟨hs1, hs2⟩ := PyData.showableKv_split kvs (by simpa [PyData.showable] using hs)
    obtain ⟨b1, hb1, k1⟩ := ReprAllK.of_rdkAll (prog := prog) (w := w) h4 hs1 (fun t ht => let ⟨p, hp, hl⟩ := PyData.shownKv_key_le kvs t ht; Nat.le_trans hl (Nat.le_trans (dictText_mem_le hp) hz'))
    obtain ⟨b2, hb2, k2⟩ := ReprAllK.of_rdkAll (prog := prog) (w := w) h5 hs2 (fun t ht => let ⟨p, hp, hl⟩ := PyData.shownKv_val_le kvs t ht; Nat.le_trans hl (Nat.le_trans (dictText_mem_le hp) hz'))
    have hb : ReadAtMost h₀ (PyData.depthKv kvs) (b1 ++ b2) := (hb1.mono (PyData.depthAll_keys_le kvs)).append (hb2.mono (PyData.depthAll_vals_le kvs))
    obtain ⟨_, h4r⟩ := h4.reads
    obtain ⟨_, h5r⟩ := h5.reads
    have hna : a ∉ b1 ++ b2 := not_mem_of_deeper (.dict h1 h2 h3 h4r h5r) (by simp only [PyData.depth]; omega) hb
    have hsys : (a == sysModules) = false := hns
    refine ⟨"dict", "dict.__repr__", F.slot_dict_repr, F.slot_dict_str, F.slot_dict_format, fun s hk0 => ⟨o, hk0 _ _ h1, h2⟩, fun A E s Q hg hu hk0 hQ => ?_⟩
    simp only [PyData.depth] at hu
    simp only [PyData.shown, PyData.shownKv_eq] at hQ
    exact call_dict_reprK h1 h2 h3 hsys hna (ReprEntriesK.of_two es.toList _ _
      (k1.more_le (fun b hb => List.mem_append_left _ hb) (PyData.depthAll_keys_le kvs)) (k2.more_le (fun b hb => List.mem_append_right _ hb) (PyData.depthAll_vals_le kvs))) hg (fun b _ => Clear.nil b) hu hk0 hQ (by rw [← PyData.shownKv_eq]; exact hz')


variable {A : Around} {E : Value → Shared → Prop} {s : Shared} {Q : Value → Shared → Prop}
theorem repr_of_rdk (r : RdK h₀ (.ref a) d) (hs : d.showable = true) (hg : A.guards = some []) (hu : A.units + (d.depth + 1) < cLine) (hk0 : ∀ b o, h₀.get? b = some o → s.heap.get? b = some o)
    (hQ : ∀ h' u tk, (∀ b o, s.heap.get? b = some o → h'.get? b = some o) → Q (.str d.shown u) { s with heap := h', toks := tk })
    (hsz : d.shown.length ≤ sizeLine := by size_fits) : wpAny (model prog w) A (call (.builtin "repr") [.ref a]) Q E s := by
  obtain ⟨T, idr, S⟩ := showsBy_of_rdk (prog := prog) (w := w) r hs hsz
  exact call_repr_slot (by omega) (S.typeIs s hk0) S.slotRepr (S.call A.in1 E s _ hg (by show A.units + 1 + d.depth < cLine; omega) hk0 fun h' u tk hk => ⟨_, _, rfl, hQ h' u tk hk⟩)
end
end PySem

set_option Elab.async false
set_option linter.all false
set_option maxRecDepth 100000
set_option maxHeartbeats 4000000
/-! DR: repr of data, dicts among them. -/
namespace DL
open PySem L2
open PySem.W (Frag)
def keyP : Key → PyData
  | .inl i => .int i
  | .inr x => .str x
mutual
/-- None, bools, ints, texts, lists, tuples, dicts of these -/
def plainK : Dt → Bool
  | .non => true | .bl _ => true | .int _ => true | .str _ => true
  | .lst ds => plainsK ds | .tup ds => plainsK ds | .dct kvs => plainKv kvs
  | .ty _ => false | .ins _ _ => false | .exc _ _ => false | .cau _ _ _ => false | .at _ => false
def plainsK : List Dt → Bool
  | [] => true
  | d :: r => plainK d && plainsK r
def plainKv : List (Key × Dt) → Bool
  | [] => true
  | (_, d) :: r => plainK d && plainKv r
end
mutual
def pyK : Dt → PyData
  | .non => .none | .bl b => .bool b | .int i => .int i | .str x => .str x
  | .lst ds => .list (pysK ds) | .tup ds => .tuple (pysK ds) | .dct kvs => .dict (pyKv kvs)
  | .ty _ => .none | .ins _ _ => .none | .exc _ _ => .none | .cau _ _ _ => .none | .at _ => .none
def pysK : List Dt → List PyData
  | [] => []
  | d :: r => pyK d :: pysK r
def pyKv : List (Key × Dt) → List (PyData × PyData)
  | [] => []
  | (k, d) :: r => (keyP k, pyK d) :: pyKv r
end
theorem pyKv_1 : ∀ kvs : List (Key × Dt), (pyKv kvs).map (·.1) = kvs.map fun p => keyP p.1
  | [] => rfl
  | (k, d) :: r => by show keyP k :: (pyKv r).map (·.1) = _; rw [pyKv_1 r]; rfl
theorem pyKv_2 : ∀ kvs : List (Key × Dt), (pyKv kvs).map (·.2) = pysK (kvs.map (·.2))
  | [] => rfl
  | (k, d) :: r => by show pyK d :: (pyKv r).map (·.2) = _; rw [pyKv_2 r]; rfl
section
variable {X : Cx} {hd : Addr → Bool} {pins : List (Addr × Obj)} {σ : L2.St} {H : Hp} {s : Shared} {W : Wd}
theorem keys_read : ∀ {es : List DictEntry} {kvs : List (Key × Value)}, Pairs (mixKind X.prog X.w) es kvs → RdKAll s.heap (es.map (·.key)) (kvs.map fun p => keyP p.1)
  | _, _, .nil => .nil
  | e :: es, (k, v) :: kvs, .cons h1 _ t => by
    rcases keyIs_shape (k := k) (v := e.key) h1 with ⟨i, t', rfl, e1⟩ | ⟨x, t', rfl, e1⟩
    · show RdKAll s.heap (e.key :: es.map (·.key)) (.int i :: kvs.map fun p => keyP p.1)
      rw [e1]; exact .cons (.int i t') (keys_read t)
    · show RdKAll s.heap (e.key :: es.map (·.key)) (.str x :: kvs.map fun p => keyP p.1)
      rw [e1]; exact .cons (.str x t') (keys_read t)
theorem pairs_vals : ∀ {es : List DictEntry} {kvs : List (Key × Value)}, Pairs (mixKind X.prog X.w) es kvs → es.map (·.val) = kvs.map (·.2)
  | _, _, .nil => rfl
  | e :: es, (k, v) :: kvs, .cons _ h2 t => by
    show e.val :: es.map (·.val) = v :: kvs.map (·.2)
    rw [h2, pairs_vals t]
theorem kv_vals : ∀ {kvs : List (Key × V)} {us : List (Key × Value)}, KV kvs us → Vals (kvs.map (·.2)) (us.map (·.2)) ∧ (kvs.map (·.1)) = us.map (·.1)
  | _, _, .nil => ⟨.nil, rfl⟩
  | (k, v) :: kvs, (k', u) :: us, .cons h t => by
    obtain ⟨h1, h2⟩ := h
    obtain ⟨a, b⟩ := kv_vals t
    exact ⟨.cons h2 a, by show k :: _ = k' :: _; rw [b]; rw [show k = k' from h1]⟩
theorem dvk_split {K : Frag} {G : Hp} : ∀ {kvs : List (Key × V)} {ds : List (Key × Dt)}, Dvk K G kvs ds → Dvs K G (kvs.map (·.2)) (ds.map (·.2)) ∧ kvs.map (·.1) = ds.map (·.1)
  | _, _, .nil => ⟨.nil, rfl⟩
  | _, _, .cons h t => by
    obtain ⟨a, b⟩ := dvk_split t
    exact ⟨.cons h a, by show _ :: _ = _ :: _; rw [b]⟩
mutual
theorem dv_reads (I : Inv X pins σ H s) : ∀ {v : V} {d : Dt} {u : Value}, Dv X.K (off hd W H) v d → plainK d = true → RelV v u → RdK s.heap u (pyK d)
  | _, _, u, .non, _, r => by cases r; exact .none
  | _, _, u, .bl b, _, r => by cases r; exact .bool b
  | _, _, u, .int i, _, r => by obtain ⟨t, rfl⟩ := r; exact .int i t
  | _, _, u, .str x, _, r => by obtain ⟨t, rfl⟩ := r; exact .str x t
  | _, _, u, .lst h t, p, r => by
    cases r
    obtain ⟨its, rv, ⟨o, n, ho, hc, _, hdt⟩, _⟩ := I.list (sql_off h)
    exact .list ho hc hdt (dvs_reads I t p rv)
  | _, _, u, .tup h t, p, r => by
    cases r
    obtain ⟨its, rv, ⟨o, ho, hc, n, hdt⟩, _⟩ := I.tuple (sqt_off h)
    exact .tuple ho hc hdt (dvs_reads I t p rv)
  | _, .dct ds, u, .dct (kvs := kvs) h t, p, r => by
    cases r
    obtain ⟨_, hns, us, kv, o, es, ep, ho, hex, hdt, _, pr, _⟩ := (show ObjOk X.prog X.w H s.heap _ (.dK kvs) from I.hok _ _ (off_some h).2.2.1)
    obtain ⟨kv1, kv2⟩ := kv_vals kv
    have h1 := dvk_reads I t p kv1
    have hk : RdKAll s.heap (es.toList.map (·.key)) ((pyKv ds).map (·.1)) := by
      have e : us.map (fun q => keyP q.1) = ds.map fun q => keyP q.1 := by
        have e2 := kv2.symm.trans (dvk_split t).2
        have e3 := congrArg (List.map keyP) e2
        simpa [List.map_map, Function.comp_def] using e3
      rw [pyKv_1, ← e]
      exact keys_read pr
    have hv : RdKAll s.heap (es.toList.map (·.val)) ((pyKv ds).map (·.2)) := by
      rw [pairs_vals pr, pyKv_2]; exact h1
    exact .dict hns ho hex.1 hdt hk hv
  | _, _, _, .ty _, p, _ => nomatch p
  | _, _, _, .ins _ _, p, _ => nomatch p
  | _, _, _, .exc _ _ _, p, _ => nomatch p
  | _, _, _, .cau _ _, p, _ => nomatch p
  | _, _, _, .at _, p, _ => nomatch p
theorem dvs_reads (I : Inv X pins σ H s) : ∀ {v : List V} {d : List Dt} {u : List Value}, Dvs X.K (off hd W H) v d → plainsK d = true → Vals v u → RdKAll s.heap u (pysK d)
  | _, _, _, .nil, _, r => by cases r; exact .nil
  | _, _, _, .cons h t, p, .cons r1 r2 => by
    have p' : (plainK _ && plainsK _) = true := p
    rw [Bool.and_eq_true] at p'
    exact .cons (dv_reads I h p'.1 r1) (dvs_reads I t p'.2 r2)
theorem dvk_reads (I : Inv X pins σ H s) : ∀ {v : List (Key × V)} {d : List (Key × Dt)} {u : List Value}, Dvk X.K (off hd W H) v d → plainKv d = true → Vals (v.map (·.2)) u → RdKAll s.heap u (pysK (d.map (·.2)))
  | _, _, _, .nil, _, r => by cases r; exact .nil
  | _, _, _, .cons h t, p, .cons r1 r2 => by
    have p' : (plainK _ && plainKv _) = true := p
    rw [Bool.and_eq_true] at p'
    exact .cons (dv_reads I h p'.1 r1) (dvk_reads I t p'.2 r2)
end
end

section
variable {X : Cx} {hd : Addr → Bool} {e : Expr} {p pos : Pos} {ts : TXs}
def rRepr (X : Cx) : List V → Hp → VK → Prop := fun xs H Q => ∃ (x : V) (pd : PyData), xs = [x] ∧ (∀ (pins : List (Addr × Obj)) (σ : L2.St) (s : Shared) (u : Value), Inv X pins σ H s → RelV x u → RdK s.heap u pd) ∧
  pd.showable = true ∧ pd.depth ≤ 64 ∧ pd.shown.length ≤ sizeLine ∧ Q (.str pd.shown) H
theorem call_repr (hg : X.A.guards = some []) (hu : X.A.units + 65 < cLine) : CallR X (.builtin "repr") (rRepr X) := by
  intro pins s σ H xs us Q I r h
  obtain ⟨x, pd, rfl, hr, h1, h2, h3, q⟩ := h
  obtain ⟨u, rfl, ru⟩ := vals1 r
  have R := hr pins σ s u I ru
  have hk : ∀ a, u = .ref a → wpAny (model X.prog X.w) X.A (call (.builtin "repr") [u]) (EP X pins σ Q) X.xe s := fun a ea => by
    subst ea
    exact repr_of_rdk R h1 hg (by omega) (fun _ _ z => z) (fun h' t tk k => ⟨.str _, H, I.kept (t' := tk) k, ⟨t, rfl⟩, q⟩) h3
  cases R with
  | none => exact P.repr_of_none ⟨.str _, H, I.tok _, ⟨_, rfl⟩, q⟩
  | bool b => exact P.repr_of_bool ⟨.str _, H, I.tok _, ⟨_, rfl⟩, q⟩
  | int i t =>
    have h1' : i.natAbs.log2 < 1920 := by simpa [PyData.showable] using h1
    exact P.repr_of_int h1' ⟨.str _, H, I.tok _, ⟨_, rfl⟩, q⟩
  | str y t => exact P.repr_of_str ⟨.str _, H, I.tok _, ⟨_, rfl⟩, q⟩ h3
  | list _ _ _ _ => exact hk _ rfl
  | tuple _ _ _ _ => exact hk _ rfl
  | dict _ _ _ _ _ _ => exact hk _ rfl
/-- what repr may show -/
structure ShowOk (d : Dt) : Prop where
  pl : plainK d = true
  sh : (pyK d).showable = true
  dp : (pyK d).depth ≤ 64
  ln : (pyK d).shown.length ≤ sizeLine
abbrev cRepr : DC := fun ds W Q => match ds with
  | [d] => ShowOk (res d W) ∧ Q (.str (pyK (res d W)).shown) W
  | _ => False
theorem dca_repr : DCa X (rRepr X) cRepr := by
  intro hd vs ds W H Q Q' R r hq h
  match ds, h with
  | [d], ⟨ok, q⟩ =>
    obtain ⟨v, rfl, rv⟩ := r.one
    refine ⟨v, pyK (res d W), rfl, fun pins σ s u I ru => ?_, ok.sh, ok.dp, ok.ln, hq _ _ (ql_val R (.str _) q)⟩
    have pl := ok.pl
    cases d with
    | «at» a =>
      cases rv
      cases e : W.m a with
      | none =>
        have e2 : res (.at a) W = .at a := by simp only [res, e]
        rw [e2] at pl; exact nomatch pl
      | some mo =>
        cases mo with
        | ins C fs =>
          have e2 : res (.at a) W = .at a := by simp only [res, e]
          rw [e2] at pl; exact nomatch pl
        | lst ds =>
          have e2 : res (.at a) W = .lst ds := by simp only [res, e]
          rw [e2] at pl ⊢
          obtain ⟨ws, e1, t⟩ := R.m a _ e
          cases ru
          obtain ⟨its, rv', ⟨o, n, ho, hc, _, hdt⟩, _⟩ := I.list (SqL.of e1)
          exact .list ho hc hdt (dvs_reads I t pl rv')
    | _ => exact dv_reads I rv pl ru
theorem j_repr (h : X.mg "repr" = none) (hgd : X.A.guards = some []) (hu : X.A.units + 65 < cLine) (ha : JA X [e] ts) (hg : Gl X "repr" := by rfl) (he : starEach [e] X.env = (false, eval e X.env) :: starEach [] X.env := by rfl) (hpl : (backTo pos (starEach [] X.env)).any (·.1) = false := by rfl) :
    JE X (.Call (.Name "repr" p) [e] [] pos) (xCB cRepr ts) :=
  je_callB (call_repr hgd hu) dca_repr hg h (by decide +kernel) ha (by decide) (by decide) he hpl
end
end DL

set_option Elab.async false
set_option linter.all false
set_option maxRecDepth 100000
set_option maxHeartbeats 4000000
/-! DM: dict displays, text * int, the source opened. -/
namespace DL
open PySem L2
section
variable {X : Cx} {hd : Addr → Bool} {e k : Expr} {p pos : Pos} {ta tb : TX} {ts : TXs}
/-! ### text * int -/
theorem op_mulS : OpR X (binaryOp .Mult) (fun x y H Q => ∃ (a : Str) (n : Int), x = .str a ∧ y = .int n ∧ MulOk a n ∧ Q (.str (Txt.mul a n)) H) := by
  intro pins s σ H x y v u Q I rx ry h
  obtain ⟨a, n, rfl, rfl, ok, q⟩ := h
  obtain ⟨t, rfl⟩ := rx
  obtain ⟨t', rfl⟩ := ry
  exact SB.mul ok fun t1 k1 => ⟨.str _, H, I.tok _, ⟨_, rfl⟩, q⟩
abbrev dMulS : D2 := fun x y W Q => match x, y with
  | .str a, .int n => MulOk a n ∧ Q (.str (Txt.mul a n)) W
  | _, _ => False
theorem dop_mulS : DOp X (fun x y H Q => ∃ (a : Str) (n : Int), x = .str a ∧ y = .int n ∧ MulOk a n ∧ Q (.str (Txt.mul a n)) H) dMulS := by
  intro hd x y dx dy W H Q Q' R rx ry hq h
  unfold dMulS at h
  split at h
  · cases rx; cases ry
    exact ⟨_, _, rfl, rfl, h.1, hq _ _ (ql_val R (.str _) h.2)⟩
  · exact h.elim
/-! ### {k: v, ..}, the keys written out -/
abbrev kTrs (X : Cx) (l : List (Key × Expr)) : List (TE × TE) := l.map fun q => (tC (kV q.1), wpE X q.2)
structure JP (X : Cx) (l : List (Key × Expr)) (ts : TXs) : Prop where
  run : ∀ {hd : Addr → Bool} (Wx : WX), Takes X Wx → ∀ (σ : L2.St) (H : Hp) (Γ : Sl) (W : Wd) (Q : DQs) (E : DX), Rep X.K hd W H → EnvD X.K (off hd W H) σ Γ → XL X.K hd W H σ E Wx → ts Γ W Q E →
    ∀ R0 : List (V × V) → Hp → Prop, (∀ vs H', vs.length = l.length → QsL X.K hd W H Q vs H' → R0 (((l.map (·.1)).zip vs).map fun q => (kV q.1, q.2)) H') → tPairs (kTrs X l) σ H R0
theorem jp_nil : JP X [] xNil := ⟨fun Wx tk σ H Γ W Q E R G x h R0 hr => hr [] H rfl ⟨[], W, .refl R, .nil, h⟩⟩
theorem jp_cons {v : Expr} {key : Key} {l : List (Key × Expr)} (ha : JE X v ta) (hl : JP X l ts) : JP X ((key, v) :: l) (xCons ta ts) :=
  ⟨fun Wx tk σ H Γ W Q E R G x h R0 hr => monoE (ha.run Wx tk σ H Γ W _ E R G x h) fun u H1 ⟨d, W1, s1, r1, q1⟩ =>
    hl.run Wx tk σ H1 Γ W1 _ E s1.rep (G.mono s1.ex) (x.step s1) q1 _ fun vs H2 hlen ⟨ds, W2, s2, r2, q2⟩ => hr (u :: vs) H2 (by simp [hlen]) ⟨d :: ds, W2, s1.trans s2, .cons (r1.mono s2.ex) r2, q2⟩⟩
theorem merge_nodup : ∀ (more kvs : List (Key × V)), ((kvs ++ more).map (·.1)).Nodup → mergeK kvs more = kvs ++ more
  | [], kvs, _ => by simp [mergeK]
  | p :: r, kvs, h => by
    have hn : valV kvs p.1 = none := by
      have hnot : p.1 ∉ kvs.map (·.1) := by
        rw [List.map_append, List.nodup_append] at h
        intro z
        exact h.2.2 _ z _ (by simp) rfl
      cases q : valV kvs p.1 with
      | none => rfl
      | some v =>
        unfold valV at q
        cases f : kvs.find? (fun kv => decide (kv.1 = p.1)) with
        | none => rw [f] at q; cases q
        | some kv =>
          have h1 := List.find?_some f
          have h2 := List.mem_of_find?_eq_some f
          exact absurd (List.mem_map.mpr ⟨kv, h2, by simpa using h1⟩) hnot
    have e : mergeK kvs (p :: r) = mergeK (kvs ++ [p]) r := by
      show mergeK (putK kvs p.1 p.2) r = _
      rw [putK_new p.2 hn]
    rw [e, merge_nodup r (kvs ++ [p]) (by simpa using h)]
    simp
theorem dvk_zip {K : PySem.W.Frag} {G : Hp} : ∀ {ks : List Key} {vs : List V} {ds : List Dt}, Dvs K G vs ds → ks.length = ds.length → Dvk K G (ks.zip vs) (ks.zip ds)
  | [], _, _, .nil, _ => .nil
  | k :: ks, _, _, .cons h t, e => .cons h (dvk_zip t (by simpa using e))
  | [], _, _, .cons _ _, e => by cases e
  | _ :: _, _, _, .nil, e => by cases e
abbrev xDct (ks : List Key) (ts : TXs) : TX := fun Γ W Q E => ts Γ W (fun ds W1 => Q (.dct (ks.zip ds)) W1) E
theorem je_dct {keys : List (Option Expr)} {values : List Expr} {l : List (Key × Expr)} (hp : JP X l ts) (hk : PPs X pos keys values (kTrs X l)) (nd : (l.map (·.1)).Nodup) (hl : keys.length = values.length) (hll : l.length ≤ 15) (hall : keys.all (·.isSome) = true) (h0 : keys ≠ []) (h15 : keys.length ≤ 15) :
    JE X (.Dict keys values pos) (xDct (l.map (·.1)) ts) := by
  refine ⟨@fun hd Wx tk σ H Γ W Q E R G x h => toE (pe_disp hk hall hl h0 h15) fun p hp' => ?_⟩
  have hdD : hd p = false := R.fresh_hd hp'
  have R1 : Rep X.K (hdU hd p) W (upd H p (.dK [])) := R.hide hp'
  have e1 : off (hdU hd p) W (upd H p (.dK [])) = off hd W H := by rw [off_hide (.inr trivial) rfl, off_hide_new hp']
  have st : ∀ {W' : Wd} {H' : Hp}, Stp X.K (hdU hd p) W (upd H p (.dK [])) W' H' → Stp X.K hd W H W' H' := fun {W' H'} s => ⟨s.rep.show, fun b o z => off_show b o (s.ex b o (by rw [e1]; exact z)), fun b o hb z => by
    have n : b ≠ p := fun y => by subst y; rw [hdD] at hb; cases hb
    exact s.kp b o (by simp [hdU, hb]) (by rw [upd_ne n]; exact z)⟩
  have x1 : XL X.K (hdU hd p) W (upd H p (.dK [])) σ E Wx := fun cls d fs H' W' s xn he => x cls d fs H' W' (st s) (xn.imp id fun ⟨dd, vs, h1, h2, h3⟩ => ⟨dd, vs, h1, off_show _ _ h2, h3.mono off_show⟩) he
  refine hp.run Wx tk σ (upd H p (.dK [])) Γ W _ E R1 (by rw [e1]; exact G) x1 h _ fun vs H2 hlen ⟨ds, W2, s2, r2, q2⟩ => ?_
  have hL := s2.kp p (.dK []) (by simp [hdU]) upd_same
  have hks : ((l.map (·.1)).zip vs).map (·.1) = l.map (·.1) := by
    rw [List.map_fst_zip]; simp [hlen]
  have e2 : off (hdU hd p) W2 (upd H2 p (.dK ((l.map (·.1)).zip vs))) = off (hdU hd p) W2 H2 := off_hide (.inr trivial) rfl
  obtain ⟨d1, d2, _⟩ := s2.rep.h p (by simp [hdU])
  refine ⟨hL, (l.map (·.1)).zip vs, rfl, by simp; omega, ?_⟩
  rw [merge_nodup _ [] (by rw [List.nil_append, hks]; exact nd), List.nil_append]
  have R3 : Rep X.K hd W2 (upd H2 p (.dK ((l.map (·.1)).zip vs))) := (s2.rep.owned).show
  have ex3 : Ex (off (hdU hd p) W2 H2) (off hd W2 (upd H2 p (.dK ((l.map (·.1)).zip vs)))) := fun b o z => off_show b o (by rw [e2]; exact z)
  refine ⟨.dct ((l.map (·.1)).zip ds), W2, ⟨R3, fun b o z => ex3 b o (s2.ex b o (by rw [e1]; exact z)), fun b o hb z => ?_⟩, .dct (kvs := (l.map (·.1)).zip vs) (by rw [off_eq d1 d2 hdD]; exact upd_same) (dvk_zip (r2.mono ex3) (by rw [← r2.length, hlen]; simp)), q2⟩
  have n : b ≠ p := fun y => by subst y; rw [hdD] at hb; cases hb
  rw [upd_ne n]
  exact s2.kp b o (by simp [hdU, hb]) (by rw [upd_ne n]; exact z)
end
end DL

set_option Elab.async false
set_option linter.all false
set_option maxRecDepth 100000
set_option maxHeartbeats 4000000
/-! DS: a law's source: opened where it is made and drawn from, closed elsewhere. -/
namespace DL
open PySem L2
open PySem.W (Frag)
/-- the source's two lists as mutable lists -/
def Wd.opened (W : Wd) (p c : Addr) (st : Int) (n : Nat) (cells : List Int) : Wd :=
  { m := fun b => if b = p then some (.lst [.at c, .int st, .int n]) else if b = c then some (.lst (cells.map Dt.int)) else W.m b, src := none }
def Wd.closed (W : Wd) (p c : Addr) (n : Nat) : Wd := { m := fun b => if b = p ∨ b = c then none else W.m b, src := some (p, c, n) }
section
variable {K : Frag} {hd : Addr → Bool} {W : Wd} {H : Hp} {p c : Addr} {n : Nat} {st : Int} {cells : List Int}
theorem off_opened (hs : W.src = some (p, c, n)) : off hd (W.opened p c st n cells) H = off hd W H := by
  funext b
  have e : W.hid b = (decide (b = p) || decide (b = c)) := by simp [Wd.hid, hs]
  have e2 : (W.opened p c st n cells).hid b = false := rfl
  have e3 : ((W.opened p c st n cells).m b).isSome = (decide (b = p) || decide (b = c) || (W.m b).isSome) := by
    unfold Wd.opened
    dsimp only
    by_cases h1 : b = p
    · simp [h1]
    · by_cases h2 : b = c
      · simp [h1, h2]
        split <;> rfl
      · simp [h1, h2]
  unfold off
  rw [e, e2, e3]
  have : (decide (b = p) || decide (b = c) || (W.m b).isSome || false || hd b) = ((W.m b).isSome || (decide (b = p) || decide (b = c)) || hd b) := by
    cases decide (b = p) <;> cases decide (b = c) <;> cases (W.m b).isSome <;> cases hd b <;> rfl
  rw [this]
theorem int_rels {G : Hp} : ∀ cells : List Int, Dvs K G (cells.map V.int) (cells.map Dt.int)
  | [] => .nil
  | n :: r => .cons (.int n) (int_rels r)
theorem Rep.opened (R : Rep K hd W H) (hs : W.src = some (p, c, n)) : ∃ st cells, 0 ≤ st ∧ st < 2147483648 ∧ cells.length ≤ 64 ∧ p ≠ c ∧ W.m p = none ∧ W.m c = none ∧ hd p = false ∧ hd c = false ∧ Rep K hd (W.opened p c st n cells) H := by
  obtain ⟨h1, h2, hne, st, cells, e1, e2, hl, b1, b2⟩ := R.s p c n hs
  have hh : W.hid p = true ∧ W.hid c = true := by simp [Wd.hid, hs]
  have n1 : hd p = false := by
    cases q : hd p with
    | false => rfl
    | true => have := (R.h p q).2.1; rw [hh.1] at this; cases this
  have n2 : hd c = false := by
    cases q : hd c with
    | false => rfl
    | true => have := (R.h c q).2.1; rw [hh.2] at this; cases this
  refine ⟨st, cells, b1, b2, hl, hne, h1, h2, n1, n2, ⟨fun b hb => ?_, fun a mo hm => ?_, fun _ _ _ z => by cases z⟩⟩
  · obtain ⟨q1, q2, q3⟩ := R.h b hb
    have m1 : b ≠ p := fun z => by subst z; rw [n1] at hb; cases hb
    have m2 : b ≠ c := fun z => by subst z; rw [n2] at hb; cases hb
    exact ⟨by show (if b = p then _ else if b = c then _ else W.m b) = none; rw [if_neg m1, if_neg m2]; exact q1, rfl, q3⟩
  · rw [off_opened hs]
    have hm' : (if a = p then some (MO.lst [.at c, .int st, .int n]) else if a = c then some (MO.lst (cells.map Dt.int)) else W.m a) = some mo := hm
    by_cases z1 : a = p
    · subst z1
      rw [if_pos rfl] at hm'; cases hm'
      exact ⟨_, e1, .cons (.at c) (.cons (.int st) (.cons (.int n) .nil))⟩
    · rw [if_neg z1] at hm'
      by_cases z2 : a = c
      · subst z2
        rw [if_pos rfl] at hm'; cases hm'
        exact ⟨_, e2, int_rels cells⟩
      · rw [if_neg z2] at hm'
        exact R.m a mo hm'
theorem off_closed (hp : W.m p ≠ none) (hc : W.m c ≠ none) (hs : W.src = none) : off hd (W.closed p c n) H = off hd W H := by
  funext b
  have e : (W.closed p c n).hid b = (decide (b = p) || decide (b = c)) := rfl
  have e2 : W.hid b = false := by simp [Wd.hid, hs]
  have e3 : ((W.closed p c n).m b).isSome = (!(decide (b = p) || decide (b = c)) && (W.m b).isSome) := by
    show (if b = p ∨ b = c then none else W.m b).isSome = _
    by_cases z : b = p ∨ b = c
    · rw [if_pos z]; rcases z with z | z <;> simp [z]
    · rw [if_neg z]; simp at z; simp [z]
  have e4 : (decide (b = p) || decide (b = c)) = true → (W.m b).isSome = true := fun z => by
    simp only [Bool.or_eq_true, decide_eq_true_eq] at z
    rcases z with z | z
    · rw [z]; cases q : W.m p with | none => exact absurd q hp | some _ => rfl
    · rw [z]; cases q : W.m c with | none => exact absurd q hc | some _ => rfl
  unfold off
  rw [e, e2, e3]
  cases q : (decide (b = p) || decide (b = c)) with
  | true => rw [e4 q]; simp
  | false => simp
theorem Rep.closed (R : Rep K hd W H) (hs : W.src = none) (hp : W.m p = some (.lst [.at c, .int st, .int n])) (hc : W.m c = some (.lst (cells.map Dt.int))) (hne : p ≠ c) (b1 : 0 ≤ st) (b2 : st < 2147483648) (hl : cells.length ≤ 64) : Rep K hd (W.closed p c n) H := by
  have eo : off hd (W.closed p c n) H = off hd W H := off_closed (by rw [hp]; simp) (by rw [hc]; simp) hs
  refine ⟨fun b hb => ?_, fun a mo hm => ?_, fun p' c' n' z => ?_⟩
  · obtain ⟨q1, q2, q3⟩ := R.h b hb
    have m1 : b ≠ p := fun z => by subst z; rw [hp] at q1; cases q1
    have m2 : b ≠ c := fun z => by subst z; rw [hc] at q1; cases q1
    exact ⟨by show (if b = p ∨ b = c then none else W.m b) = none; rw [if_neg (by simp [m1, m2])]; exact q1, by show (decide (b = p) || decide (b = c)) = false; simp [m1, m2], q3⟩
  · have hm' : (if a = p ∨ a = c then none else W.m a) = some mo := hm
    by_cases z : a = p ∨ a = c
    · rw [if_pos z] at hm'; cases hm'
    · rw [if_neg z] at hm'
      rw [eo]; exact R.m a mo hm'
  · have z' : some (p, c, n) = some (p', c', n') := z
    cases z'
    refine ⟨by show (if p = p ∨ p = c then none else W.m p) = none; simp, by show (if c = p ∨ c = c then none else W.m c) = none; simp, hne, st, cells, ?_, ?_, hl, b1, b2⟩
    · obtain ⟨vs, e, r⟩ := R.m p _ hp
      rw [e]
      cases r with
      | cons r1 r => cases r with
        | cons r2 r => cases r with
          | cons r3 r => cases r; cases r1; cases r2; cases r3; rfl
    · obtain ⟨vs, e, r⟩ := R.m c _ hc
      rw [e, r.ints]
end
/-! ### the promises -/
/-- _law_draw, the source closed -/
def S_draw : DSp := fun ds W Q E => ∃ p c n many, ds = [.at p, .int many] ∧ W.src = some (p, c, n) ∧ 0 < many ∧ many < 1073741824 ∧ n < 1000000000 ∧ ∀ k, 0 ≤ k → k < many → Q (.int k) (W.drawn (n + 1))
/-- .. opened -/
def S_drawO : DSp := fun ds W Q E => ∃ (p c : Addr) (st : Int) (n : Nat) (cells : List Int) (many : Int), ds = [.at p, .int many] ∧ W.src = none ∧ W.m p = some (.lst [.at c, .int st, .int n]) ∧ W.m c = some (.lst (cells.map Dt.int)) ∧ p ≠ c ∧ 0 ≤ st ∧ st < 2147483648 ∧ cells.length ≤ 64 ∧
  0 < many ∧ many < 1073741824 ∧ n < 1000000000 ∧ ∀ (k : Int) (cells' : List Int), 0 ≤ k → k < many → cells'.length ≤ 64 → Q (.int k) ((W.put p (.lst [.at c, .int st, .int (n + 1 : Nat)])).put c (.lst (cells'.map Dt.int)))
/-- _law_source -/
def S_source : DSp := fun ds W Q E => ∃ ns : List Int, ds = [.lst (ns.map Dt.int)] ∧ W.src = none ∧ ns.length ≤ 63 ∧ ∀ p c, Q (.at p) { W with src := some (p, c, 0) }
def S_sourceO : DSp := fun ds W Q E => ∃ ns : List Int, ds = [.lst (ns.map Dt.int)] ∧ W.src = none ∧ ns.length ≤ 63 ∧ ∀ (p c : Addr) (st : Int) (cells : List Int), p ≠ c → W.m p = none → W.m c = none → 0 ≤ st → st < 2147483648 → cells.length ≤ 64 →
  Q (.at p) ((W.put c (.lst (cells.map Dt.int))).put p (.lst [.at c, .int st, .int 0]))
section
variable {P : Program} {w : World} {K : Frag} {mg : Str → Option Value} {base : Heap} {k : Nat} {f : Addr} {fd : FuncData} {ps : List Str}
theorem draw_close (F : FnD P w K mg base k f fd ps S_drawO) : FnD P w K mg base k f fd ps S_draw := F.imp fun vs H Q E h => by
  obtain ⟨hd, ds, W, Qd, Ed, R, rv, ⟨p, c, n, many, rfl, hs, m1, m2, hn, hq⟩, hQ, hE⟩ := h
  obtain ⟨st, cells, b1, b2, hl, hne, e1, e2, d1, d2, Ro⟩ := R.opened hs
  have eo : off hd (W.opened p c st n cells) H = off hd W H := off_opened hs
  refine ⟨hd, [.at p, .int many], W.opened p c st n cells, fun d W' => ∃ (k : Int) (cells' : List Int), d = .int k ∧ 0 ≤ k ∧ k < many ∧ cells'.length ≤ 64 ∧ W' = (((W.opened p c st n cells).put p (.lst [.at c, .int st, .int (n + 1 : Nat)])).put c (.lst (cells'.map Dt.int))), fun _ _ _ => False, Ro, by rw [eo]; exact rv,
    ⟨p, c, st, n, cells, many, rfl, rfl, if_pos rfl, (if_neg hne.symm).trans (if_pos rfl), hne, b1, b2, hl, m1, m2, hn, fun k cells' k1 k2 k3 => ⟨k, cells', rfl, k1, k2, k3, rfl⟩⟩, fun v H' q => ?_, fun _ _ _ _ _ _ _ z => z.elim⟩
  obtain ⟨d, W', s1, r1, k, cells', rfl, k1, k2, k3, rfl⟩ := q
  have hp' : (((W.opened p c st n cells).put p (.lst [.at c, .int st, .int (n + 1 : Nat)])).put c (.lst (cells'.map Dt.int))).m p = some (.lst [.at c, .int st, .int (n + 1 : Nat)]) := by rw [Wd.put_ne hne, Wd.put_m]
  have hc' : (((W.opened p c st n cells).put p (.lst [.at c, .int st, .int (n + 1 : Nat)])).put c (.lst (cells'.map Dt.int))).m c = some (.lst (cells'.map Dt.int)) := Wd.put_m
  have Rc := s1.rep.closed (p := p) (c := c) (n := n + 1) rfl hp' hc' hne b1 b2 k3
  have ec : off hd ((((W.opened p c st n cells).put p (.lst [.at c, .int st, .int (n + 1 : Nat)])).put c (.lst (cells'.map Dt.int))).closed p c (n + 1)) H' = off hd (((W.opened p c st n cells).put p (.lst [.at c, .int st, .int (n + 1 : Nat)])).put c (.lst (cells'.map Dt.int))) H' := off_closed (by rw [hp']; simp) (by rw [hc']; simp) rfl
  have ew : ((((W.opened p c st n cells).put p (.lst [.at c, .int st, .int (n + 1 : Nat)])).put c (.lst (cells'.map Dt.int))).closed p c (n + 1)) = W.drawn (n + 1) := by
    obtain ⟨m, src⟩ := W
    have hs' : src = some (p, c, n) := hs
    subst hs'
    have e : (fun b => if b = p ∨ b = c then none else if b = c then some (MO.lst (cells'.map Dt.int)) else if b = p then some (MO.lst [.at c, .int st, .int (n + 1 : Nat)]) else if b = p then some (MO.lst [.at c, .int st, .int n]) else if b = c then some (MO.lst (cells.map Dt.int)) else m b) = m := by
      funext b
      by_cases z1 : b = p
      · subst z1; simp; exact e1.symm
      · by_cases z2 : b = c
        · subst z2; simp; exact e2.symm
        · simp [z1, z2]
    show (⟨fun b => if b = p ∨ b = c then none else if b = c then some (MO.lst (cells'.map Dt.int)) else if b = p then some (MO.lst [.at c, .int st, .int (n + 1 : Nat)]) else if b = p then some (MO.lst [.at c, .int st, .int n]) else if b = c then some (MO.lst (cells.map Dt.int)) else m b, some (p, c, n + 1)⟩ : Wd) = ⟨m, some (p, c, n + 1)⟩
    rw [e]
  rw [ew] at Rc ec
  refine hQ v H' ⟨.int k, W.drawn (n + 1), ⟨Rc, by rw [ec, ← eo]; exact s1.ex, s1.kp⟩, by rw [ec]; exact r1, hq k k1 k2⟩
theorem source_close (F : FnD P w K mg base k f fd ps S_sourceO) : FnD P w K mg base k f fd ps S_source := F.imp fun vs H Q E h => by
  obtain ⟨hd, ds, W, Qd, Ed, R, rv, ⟨ns, rfl, hs, hl, hq⟩, hQ, hE⟩ := h
  refine ⟨hd, _, W, fun d W' => ∃ (p c : Addr) (st : Int) (cells : List Int), p ≠ c ∧ W.m p = none ∧ W.m c = none ∧ 0 ≤ st ∧ st < 2147483648 ∧ cells.length ≤ 64 ∧ d = .at p ∧ W' = (W.put c (.lst (cells.map Dt.int))).put p (.lst [.at c, .int st, .int 0]), fun _ _ _ => False, R, rv,
    ⟨ns, rfl, hs, hl, fun p c st cells h1 h2 h3 h4 h5 h6 => ⟨p, c, st, cells, h1, h2, h3, h4, h5, h6, rfl, rfl⟩⟩, fun v H' q => ?_, fun _ _ _ _ _ _ _ z => z.elim⟩
  obtain ⟨d, W', s1, r1, p, c, st, cells, hne, e1, e2, b1, b2, b3, rfl, rfl⟩ := q
  have hp' : ((W.put c (.lst (cells.map Dt.int))).put p (.lst [.at c, .int st, .int 0])).m p = some (.lst [.at c, .int st, .int 0]) := Wd.put_m
  have hc' : ((W.put c (.lst (cells.map Dt.int))).put p (.lst [.at c, .int st, .int 0])).m c = some (.lst (cells.map Dt.int)) := by rw [Wd.put_ne hne.symm, Wd.put_m]
  have hs' : ((W.put c (.lst (cells.map Dt.int))).put p (.lst [.at c, .int st, .int 0])).src = none := hs
  have Rc := s1.rep.closed (p := p) (c := c) (n := 0) hs' hp' hc' hne b1 b2 b3
  have ec : off hd (((W.put c (.lst (cells.map Dt.int))).put p (.lst [.at c, .int st, .int 0])).closed p c 0) H' = off hd ((W.put c (.lst (cells.map Dt.int))).put p (.lst [.at c, .int st, .int 0])) H' := off_closed (by rw [hp']; simp) (by rw [hc']; simp) hs'
  have ew : ((W.put c (.lst (cells.map Dt.int))).put p (.lst [.at c, .int st, .int 0])).closed p c 0 = { W with src := some (p, c, 0) } := by
    obtain ⟨m, src⟩ := W
    have e : (fun b => if b = p ∨ b = c then none else if b = p then some (MO.lst [.at c, .int st, .int 0]) else if b = c then some (MO.lst (cells.map Dt.int)) else m b) = m := by
      funext b
      by_cases z1 : b = p
      · subst z1; simp; exact e1.symm
      · by_cases z2 : b = c
        · subst z2; simp; exact e2.symm
        · simp [z1, z2]
    show (⟨fun b => if b = p ∨ b = c then none else if b = p then some (MO.lst [.at c, .int st, .int 0]) else if b = c then some (MO.lst (cells.map Dt.int)) else m b, some (p, c, 0)⟩ : Wd) = ⟨m, some (p, c, 0)⟩
    rw [e]
  rw [ew] at Rc ec
  exact hQ v H' ⟨.at p, { W with src := some (p, c, 0) }, ⟨Rc, by rw [ec]; exact s1.ex, s1.kp⟩, by rw [ec]; exact r1, hq p c⟩
end
end DL

set_option Elab.async false
set_option linter.all false
set_option maxRecDepth 100000
set_option maxHeartbeats 4000000
/-! DW: words for printed derivations. -/
namespace DL
open PySem L2
section
variable {X : Cx} {k : Nat} {a b c e o : Expr} {es : List Expr} {p pos apos : Pos} {ta tb tc : TX} {ts : TXs}
theorem _root_.L2.RoomG.u64 {A : Around} (r : RoomG k A) : A.units + 64 < cLine := by have := r.un; omega
theorem _root_.L2.RoomG.u65 {A : Around} (r : RoomG k A) : A.units + 65 < cLine := by have := r.un; omega
theorem _root_.L2.RoomG.d1 {A : Around} (r : RoomG k A) : A.depth + 1 < recursionLimit := by have := r.dp; omega
theorem ja1 (ha : JE X a ta) (h1 : starEach [a] X.env = (false, eval a X.env) :: starEach [] X.env := by rfl) : JA X [a] (xCons ta xNil) := ja_cons ha ja_nil h1
theorem b_add (ha : JE X a ta) (hb : JE X b tb) : JE X (.BinOp a .Add b pos) (xOp dAdd ta tb) := je_op op_addAll dop_add ha hb
theorem b_sub (ha : JE X a ta) (hb : JE X b tb) : JE X (.BinOp a .Sub b pos) (xOp dSub ta tb) := je_op op_sub dop_sub ha hb
theorem b_mul (ha : JE X a ta) (hb : JE X b tb) : JE X (.BinOp a .Mult b pos) (xOp dMul ta tb) := je_op op_mulAll dop_mul ha hb
theorem b_mulS (ha : JE X a ta) (hb : JE X b tb) : JE X (.BinOp a .Mult b pos) (xOp dMulS ta tb) := je_op op_mulS dop_mulS ha hb
theorem b_mod (ha : JE X a ta) (hb : JE X b tb) : JE X (.BinOp a .Mod b pos) (xOp dMod ta tb) := je_op op_modN dop_mod ha hb
theorem b_fdv (ha : JE X a ta) (hb : JE X b tb) : JE X (.BinOp a .FloorDiv b pos) (xOp dFdv ta tb) := je_op op_fdivN dop_fdv ha hb
theorem b_pow (ha : JE X a ta) (hb : JE X b tb) : JE X (.BinOp a .Pow b pos) (xOp dPow ta tb) := je_op op_pow dop_pow ha hb
abbrev dNeg : D1 := fun x W Q => match x with | .int i => Q (.int (-i)) W | _ => False
theorem dun_neg : DUn X (rU fun i => .int (-i)) dNeg := by
  intro hd x dx W H Q Q' R rx hq h
  unfold dNeg at h
  split at h
  · cases rx
    exact ⟨_, rfl, hq _ _ (ql_val R (.int _) h)⟩
  · exact h.elim
theorem u_neg (ha : JE X a ta) : JE X (.UnaryOp .USub a pos) (xUn dNeg ta) := je_un un_neg dun_neg ha
theorem e_eq (hr : RoomG k X.A) (ha : JE X a ta) (hb : JE X b tb) (hm : behindInMarks .Eq b = false := by rfl) : JE X (.Compare a [.Eq] [b] pos) (xOp dEq ta tb) := je_cmp (op_eqAll hr.u64) dop_eq hm ha hb
theorem e_ne (hr : RoomG k X.A) (ha : JE X a ta) (hb : JE X b tb) (hm : behindInMarks .NotEq b = false := by rfl) : JE X (.Compare a [.NotEq] [b] pos) (xOp dNe ta tb) := je_cmp (op_neAll hr.u64) dop_ne hm ha hb
theorem e_lt (ha : JE X a ta) (hb : JE X b tb) (hm : behindInMarks .Lt b = false := by rfl) : JE X (.Compare a [.Lt] [b] pos) (xOp dLt ta tb) := je_cmp op_lt dop_lt hm ha hb
theorem e_le (ha : JE X a ta) (hb : JE X b tb) (hm : behindInMarks .LtE b = false := by rfl) : JE X (.Compare a [.LtE] [b] pos) (xOp dLe ta tb) := je_cmp op_le dop_le hm ha hb
theorem e_gt (ha : JE X a ta) (hb : JE X b tb) (hm : behindInMarks .Gt b = false := by rfl) : JE X (.Compare a [.Gt] [b] pos) (xOp dGt ta tb) := je_cmp op_gt dop_gt hm ha hb
theorem e_ge (ha : JE X a ta) (hb : JE X b tb) (hm : behindInMarks .GtE b = false := by rfl) : JE X (.Compare a [.GtE] [b] pos) (xOp dGe ta tb) := je_cmp op_ge dop_ge hm ha hb
theorem e_in (hr : RoomG k X.A) (ha : JE X a ta) (hb : JE X b tb) (hm : behindInMarks .In b = false := by rfl) : JE X (.Compare a [.In] [b] pos) (xOp (dIn false) ta tb) := je_cmp (op_inAll hr.u65) dop_in hm ha hb
theorem e_nin (hr : RoomG k X.A) (ha : JE X a ta) (hb : JE X b tb) (hm : behindInMarks .NotIn b = false := by rfl) : JE X (.Compare a [.NotIn] [b] pos) (xOp (dIn true) ta tb) := je_cmp (op_notInAll hr.u65) dop_in hm ha hb
theorem q_eq (hr : RoomG k X.A) (ha : JE X a ta) (hb : JE X b tb) (hm : behindInMarks .Eq b = false := by rfl) : JT X (.Compare a [.Eq] [b] pos) (xTest (xOp dEq ta tb)) := jt_cmp (op_eqAll hr.u64) dop_eq hm ha hb
theorem q_ne (hr : RoomG k X.A) (ha : JE X a ta) (hb : JE X b tb) (hm : behindInMarks .NotEq b = false := by rfl) : JT X (.Compare a [.NotEq] [b] pos) (xTest (xOp dNe ta tb)) := jt_cmp (op_neAll hr.u64) dop_ne hm ha hb
theorem q_lt (ha : JE X a ta) (hb : JE X b tb) (hm : behindInMarks .Lt b = false := by rfl) : JT X (.Compare a [.Lt] [b] pos) (xTest (xOp dLt ta tb)) := jt_cmp op_lt dop_lt hm ha hb
theorem q_le (ha : JE X a ta) (hb : JE X b tb) (hm : behindInMarks .LtE b = false := by rfl) : JT X (.Compare a [.LtE] [b] pos) (xTest (xOp dLe ta tb)) := jt_cmp op_le dop_le hm ha hb
theorem q_gt (ha : JE X a ta) (hb : JE X b tb) (hm : behindInMarks .Gt b = false := by rfl) : JT X (.Compare a [.Gt] [b] pos) (xTest (xOp dGt ta tb)) := jt_cmp op_gt dop_gt hm ha hb
theorem q_ge (ha : JE X a ta) (hb : JE X b tb) (hm : behindInMarks .GtE b = false := by rfl) : JT X (.Compare a [.GtE] [b] pos) (xTest (xOp dGe ta tb)) := jt_cmp op_ge dop_ge hm ha hb
theorem q_in (hr : RoomG k X.A) (ha : JE X a ta) (hb : JE X b tb) (hm : behindInMarks .In b = false := by rfl) : JT X (.Compare a [.In] [b] pos) (xTest (xOp (dIn false) ta tb)) := jt_cmp (op_inAll hr.u65) dop_in hm ha hb
theorem q_nin (hr : RoomG k X.A) (ha : JE X a ta) (hb : JE X b tb) (hm : behindInMarks .NotIn b = false := by rfl) : JT X (.Compare a [.NotIn] [b] pos) (xTest (xOp (dIn true) ta tb)) := jt_cmp (op_notInAll hr.u65) dop_in hm ha hb
theorem q_isN (ha : JE X a ta) (hb : JE X b tb) (hm : behindInMarks .Is b = false := by rfl) : JT X (.Compare a [.Is] [b] pos) (xTest (xOp dIsN ta tb)) := jt_cmp op_isN dop_isN hm ha hb
theorem q_notN (ha : JE X a ta) (hb : JE X b tb) (hm : behindInMarks .IsNot b = false := by rfl) : JT X (.Compare a [.IsNot] [b] pos) (xTest (xOp dNotN ta tb)) := jt_cmp op_notN dop_notN hm ha hb
/-! ### a def of the text that keeps a promise -/
structure OkD (P : Program) (w : World) (K : PySem.W.Frag) (mg : Str → Option Value) (base : Heap) (k : Nat) (x : Str) (ps : List Str) (S : DSp) : Prop where
  ex : ∃ f fd, FnD P w K mg base k f fd ps S ∧ mg x = some (.ref f) ∧ PySem.W.keepIn K (.ref f) = true ∧ Binds K fd ps []
/-- the def as it stands -/
structure DefD (K : PySem.W.Frag) (mg : Str → Option Value) (x : Str) (ps : List Str) (st : Stmt) : Prop where
  ex : ∃ f fd, Fun K x x st f fd ∧ mg x = some (.ref f) ∧ Binds K fd ps []
theorem je_cf {x : Str} {j : Nat} {ps : List Str} {S : DSp} (F : OkD X.prog X.w X.K X.mg X.base k x ps S) (hr : RoomG j X.A) (ha : JA X (e :: es) ts) (hk : k ≤ j := by decide) (hg : Gl X x := by rfl) (hdb : (x == ("__debug__" : Str)) = false := by decide)
    (he : starEach (e :: es) X.env = (false, eval e X.env) :: starEach es X.env := by rfl) (hpl : (backTo pos (starEach es X.env)).any (·.1) = false := by rfl) : JE X (.Call (.Name x p) (e :: es) [] pos) (xCall S [] ts) := by
  obtain ⟨f, fd, h1, h2, h3, h4⟩ := F.ex
  exact je_call h1 (hr.mono hk) hg h2 h3 h4 .nil (fun _ => .nil) ha hdb he hpl
theorem je_cf0 {x : Str} {j : Nat} {ps : List Str} {S : DSp} (F : OkD X.prog X.w X.K X.mg X.base k x ps S) (hr : RoomG j X.A) (hk : k ≤ j := by decide) (hg : Gl X x := by rfl) (hdb : (x == ("__debug__" : Str)) = false := by decide) : JE X (.Call (.Name x p) [] [] pos) (xCall S [] xNil) := by
  obtain ⟨f, fd, h1, h2, h3, h4⟩ := F.ex
  exact je_call0 h1 (hr.mono hk) hg h2 h3 h4 .nil (fun _ => .nil) hdb
end
section
variable {P : Program} {w : World} {K : PySem.W.Frag} {mg : Str → Option Value} {base : Heap}
theorem okF {x : Str} {st : Stmt} {N ps : List Str} {k : Nat} {S : DSp} (d : DefD K mg x ps st) (Sc : FnScope N ps (defScope st)) (ar : Arity S ps.length) {t : TXS}
    (hb : ∀ (f : Addr) (cdv : Value) (A : Around) (outer : List Env) (s : Shared) (H : Hp) (E : XK), RoomG k (A.deeper (PyProof.Rows.envOfC x (defScope st) s.heap.objs.size f cdv)) → JB (cxD P w K mg base N x (defScope st) f cdv A outer s H E) (defBody st) t)
    (hs : ∀ ds W Q E, S ds W Q E → t { nx := fun _ W' => Q .non W', rt := Q, ex := fun _ => E } (startD N ds) W) : OkD P w K mg base (k + 1) x ps S := by
  obtain ⟨f, fd, F, hm, hb'⟩ := d.ex
  exact ⟨f, fd, fnD F Sc ar (hb f) hs, hm, F.kp, hb'⟩
theorem OkD.imp {x : Str} {ps : List Str} {k : Nat} {S S' : DSp} (F : OkD P w K mg base k x ps S) (h : ∀ {f fd}, FnD P w K mg base k f fd ps S → FnD P w K mg base k f fd ps S') : OkD P w K mg base k x ps S' := by
  obtain ⟨f, fd, h1, h2⟩ := F.ex
  exact ⟨f, fd, h h1, h2⟩
end
end DL

set_option Elab.async false
set_option linter.all false
set_option maxRecDepth 100000
set_option maxHeartbeats 4000000
/-! DN: not as a value; isinstance of exceptions by name. -/
namespace DL
open PySem L2 PySem.DEX
section
variable {X : Cx} {a b : Expr} {p pos : Pos} {ta : TX} {ts : TXs}
abbrev xNotV (ta : TX) : TX := fun Γ W Q E => ta Γ W (fun d W1 => match d with | .bl k => Q (.bl (!k)) W1 | _ => False) E
theorem je_notV (ha : JE X a ta) : JE X (.UnaryOp .Not a pos) (xNotV ta) :=
  ⟨fun Wx tk σ H Γ W Q E R G x h => toE (pe_not semE) (monoE (ha.run Wx tk σ H Γ W _ E R G x h) fun u H1 ⟨d, W1, s1, r1, q1⟩ => by
    cases d with
    | bl k => cases r1; exact ⟨k, rfl, .bl (!k), W1, s1, .bl _, q1⟩
    | _ => exact q1.elim)⟩
theorem j_isX {ok : Addr → Prop} (h : X.mg "isinstance" = none) (hok : ∀ C, ok C → ExcC X.K C) (ha : JA X [a, b] ts) (hg : Gl X "isinstance" := by rfl) (he : starEach [a, b] X.env = (false, eval a X.env) :: starEach [b] X.env := by rfl) (hpl : (backTo pos (starEach [b] X.env)).any (·.1) = false := by rfl) : JE X (.Call (.Name "isinstance" p) [a, b] [] pos) (xCB (cIsX X.K ok) ts) :=
  je_callB call_isX (dca_isX hok) hg h (by decide +kernel) ha (by decide) (by decide) he hpl
theorem q_eqU {b' : Expr} {tb : TX} (hu : X.A.units + 64 < cLine) (ha : JE X a ta) (hb : JE X b' tb) (hm : behindInMarks .Eq b' = false := by rfl) : JT X (.Compare a [.Eq] [b'] pos) (xTest (xOp dEq ta tb)) := jt_cmp (op_eqAll hu) dop_eq hm ha hb
theorem q_neU {b' : Expr} {tb : TX} (hu : X.A.units + 64 < cLine) (ha : JE X a ta) (hb : JE X b' tb) (hm : behindInMarks .NotEq b' = false := by rfl) : JT X (.Compare a [.NotEq] [b'] pos) (xTest (xOp dNe ta tb)) := jt_cmp (op_neAll hu) dop_ne hm ha hb
theorem e_eqU {b' : Expr} {tb : TX} (hu : X.A.units + 64 < cLine) (ha : JE X a ta) (hb : JE X b' tb) (hm : behindInMarks .Eq b' = false := by rfl) : JE X (.Compare a [.Eq] [b'] pos) (xOp dEq ta tb) := je_cmp (op_eqAll hu) dop_eq hm ha hb
theorem e_neU {b' : Expr} {tb : TX} (hu : X.A.units + 64 < cLine) (ha : JE X a ta) (hb : JE X b' tb) (hm : behindInMarks .NotEq b' = false := by rfl) : JE X (.Compare a [.NotEq] [b'] pos) (xOp dNe ta tb) := je_cmp (op_neAll hu) dop_ne hm ha hb
end
end DL

set_option Elab.async false
set_option linter.all false
set_option maxRecDepth 100000
set_option maxHeartbeats 4000000
/-! K1A: k01: what the defs promise, and the printed derivations. -/
namespace K1
open PySem L2 DL PySem.DEX
open PySem.W (Frag)
abbrev P0 : Program := PySem.Challenge.pw_wouldturn_k01_errors
def top (i : Nat) : Stmt := P0.main.body.getD i (.Pass ⟨0, 0, 0, 0⟩)
/-- the classes: 0 to 17 as the law numbers them, 18 TurnError, 19 Unknown -/
abbrev Ad := Nat → Addr
/-- the field of the i-th class -/
abbrev fld : Nat → Str
  | 8 => "change" | 9 => "name" | 10 => "number" | 11 => "numbers" | 12 => "tree" | 13 => "mixes" | 14 => "name" | 15 => "row" | 16 => "number" | _ => "name"
def okC (a : Ad) (C : Addr) : Prop := ∃ i, i < 18 ∧ C = a i
def okX (a : Ad) (f : Str) (C : Addr) : Prop := ∃ i, 8 ≤ i ∧ i < 18 ∧ fld i = f ∧ C = a i
structure Txt (P : Program) (K : Frag) (mg : Str → Option Value) (a : Ad) : Prop where
  b_list : mg "list" = none
  b_range : mg "range" = none
  b_isinstance : mg "isinstance" = none
  b_repr : mg "repr" = none
  b_tuple : mg "tuple" = none
  b_len : mg "len" = none
  b_ValueError : mg "ValueError" = none
  b_KeyError : mg "KeyError" = none
  m0 : mg "InvalidTable" = some (.ref (a 0))
  m1 : mg "InvalidStore" = some (.ref (a 1))
  m2 : mg "InvalidQuestion" = some (.ref (a 2))
  m3 : mg "InvalidForm" = some (.ref (a 3))
  m4 : mg "InvalidText" = some (.ref (a 4))
  m5 : mg "InvalidCommand" = some (.ref (a 5))
  m6 : mg "InvalidShape" = some (.ref (a 6))
  m7 : mg "Full" = some (.ref (a 7))
  m8 : mg "InvalidChange" = some (.ref (a 8))
  m9 : mg "NameTaken" = some (.ref (a 9))
  m10 : mg "Broken" = some (.ref (a 10))
  m11 : mg "Barred" = some (.ref (a 11))
  m12 : mg "NoOrder" = some (.ref (a 12))
  m13 : mg "Bound" = some (.ref (a 13))
  m14 : mg "UnknownTable" = some (.ref (a 14))
  m15 : mg "UnknownRow" = some (.ref (a 15))
  m16 : mg "UnknownNumber" = some (.ref (a 16))
  m17 : mg "UnknownReplica" = some (.ref (a 17))
  m18 : mg "TurnError" = some (.ref (a 18))
  m19 : mg "Unknown" = some (.ref (a 19))
  x0 : ∀ i, i < 8 → XC0 P K mg (a i)
  x1 : ∀ i, 8 ≤ i → i < 18 → XC1 P K mg (a i) (fld i) (fld i)
  ok : ∀ C, okC a C → ExcC K C
  okf : ∀ f C, okX a f C → XfC K C ∧ PySem.W.findIn K (.ref C) f = some none
  kit : ∀ i j, i < 18 → j < 18 → PySem.W.kitOne K (.ref (a i)) (.ref (a j)) = some (decide (j = i))
  kitT : ∀ i, i < 18 → PySem.W.kitOne K (.ref (a i)) (.ref (a 18)) = some (decide (i < 14))
  kitU : ∀ i, i < 18 → PySem.W.kitOne K (.ref (a i)) (.ref (a 19)) = some (!decide (i < 14))
  kitV : ∀ i, i < 18 → PySem.W.kitOne K (.ref (a i)) (.type "ValueError") = some (decide (i < 14))
  kitK : ∀ i, i < 18 → PySem.W.kitOne K (.ref (a i)) (.type "KeyError") = some (!decide (i < 14))
  exm : ∀ i j, i < 18 → j < 18 → PySem.W.exmOne K (.ref (a i)) (.ref (a j)) = some (decide (j = i))
  exmT : ∀ i, i < 18 → PySem.W.exmOne K (.ref (a i)) (.ref (a 18)) = some (decide (i < 14))
  exmU : ∀ i, i < 18 → PySem.W.exmOne K (.ref (a i)) (.ref (a 19)) = some (!decide (i < 14))
/-! ### the promises -/
def SrcAt (W : Wd) (p : Addr) (n : Nat) : Prop := ∃ c, W.src = some (p, c, n)
/-- items[_law_draw(source, len(items))] -/
def S_pick : DSp := fun ds W Q E => ∃ p n l, ds = [.at p, .lst l] ∧ SrcAt W p n ∧ n < 900000000 ∧ l ≠ [] ∧ l.length < 1000000 ∧ ∀ x ∈ l, Q x (W.drawn (n + 1))
def texts : List Str := ["", "ann", "t", "a b", "A", "\n", Txt.mul "x" 60]
def PlainV (d : Dt) : Prop := d = .non ∨ (∃ b, d = .bl b) ∨ (∃ i : Int, d = .int i ∧ i.natAbs < 10 ^ 50) ∨ (∃ x ∈ texts, d = .str x) ∨ d = .tup []
def S_plain : DSp := fun ds W Q E => ∃ p n, ds = [.at p] ∧ SrcAt W p n ∧ n < 800000000 ∧ ∀ d, PlainV d → Q d (W.drawn (n + 3))
inductive Val : Nat → Dt → Prop
  | plain {m : Nat} {d : Dt} (h : PlainV d) : Val m d
  | tup {m : Nat} {l : List Dt} (h : ∀ x ∈ l, Val m x) (n : l.length ≤ 2) : Val (m + 1) (.tup l)
  | lst {m : Nat} {l : List Dt} (h : ∀ x ∈ l, Val m x) (n : l.length ≤ 2) : Val (m + 1) (.lst l)
  | dct {m : Nat} {l : List Dt} {q : Dt} (h : ∀ x ∈ l, Val m x) (n : l.length ≤ 2) (hq : PlainV q) : Val (m + 1) (.dct [(.inr "a", .lst l), (.inl 1, q)])
/-- below depth N -/
def S_valueN (N : Nat) : DSp := fun ds W Q E => ∃ p n m, m < N ∧ ds = [.at p, .int (m : Nat)] ∧ SrcAt W p n ∧ n + 5 * 3 ^ m < 700000000 ∧ ∀ d n', Val m d → n' ≤ n + 5 * 3 ^ m → Q d (W.drawn n')
def S_bare (a : Ad) : DSp := fun ds W Q E => ∃ i : Nat, i < 8 ∧ ds = [.int i] ∧ Q (.exc (a i) []) W
def S_made (a : Ad) : DSp := fun ds W Q E => ∃ (i : Nat) (d : Dt), 8 ≤ i ∧ i < 18 ∧ ds = [.int i, d] ∧ Q (.exc (a i) [(fld i, d)]) W
def S_held (a : Ad) : DSp := fun ds W Q E => ∃ (i : Nat) (d : Dt), 8 ≤ i ∧ i < 18 ∧ ds = [.int i, .exc (a i) [(fld i, d)]] ∧ Q d W
def marks (i : Nat) : Dt := .tup [.lst ((List.range 18).map fun k => .bl (decide (k = i))), .lst [.bl (decide (i < 14)), .bl (decide (i < 14))], .lst [.bl (!decide (i < 14)), .bl (!decide (i < 14))]]
def S_marks (a : Ad) : DSp := fun ds W Q E => ∃ (i : Nat) (fs : List (Str × Dt)), i < 18 ∧ ds = [.exc (a i) fs] ∧ Q (marks i) W
def S_due : DSp := fun ds W Q E => ∃ i : Nat, i < 18 ∧ ds = [.int i] ∧ Q (marks i) W
def raised : List Nat := [8, 11, 13, 15, 16, 4, 7]
def rfs (i : Nat) (d : Dt) : List (Str × Dt) := if i < 8 then [] else [(fld i, d)]
def S_raise (a : Ad) : DSp := fun ds W Q E => ∃ (i : Nat) (d : Dt), i ∈ raised ∧ ds = [.int i, d] ∧ E (.ref (a i)) (rfs i d) W
def wide (i : Nat) : Str := if i = 8 ∨ i = 13 ∨ i = 15 then "" else if i = 16 then "unknown" else "turn"
def S_raised (a : Ad) : DSp := fun ds W Q E => ∃ (i : Nat) (d : Dt), i ∈ raised ∧ ds = [.int i, d, .str (wide i)] ∧ ShowOk d ∧ Q (.bl true) W
section
variable {P : Program} {w : World} {K : Frag} {mg : Str → Option Value} {base : Heap} {a : Ad}
abbrev s__law_source : Stmt := top 22
theorem sc__law_source : FnScope ["script", "stirred", "cell"] ["script"] (defScope s__law_source) := ⟨rfl, rfl, rfl, by decide +kernel, rfl, by decide +kernel, by decide +kernel⟩
def t__law_source (K : PySem.W.Frag) (a : Ad) : TXS :=
    (xSeq (xAsg (xC (.int 90101)) (gSet 1))
    (xSeq (xFor (iL (xSl (xVar 0) xNo (xPart (xC (.int 60))))) (gSet 2) (xAsg (xOp dMod (xOp dAdd (xOp dAdd (xOp dMul (xVar 1) (xC (.int 48271))) (xOp dMod (xVar 2) (xC (.int 2147483563)))) (xC (.int 17))) (xC (.int 2147483629))) (gSet 1)))
    (xRet (xNew (xCons (xCB cLstN (xCons (xSl (xVar 0) xNo (xPart (xC (.int 60)))) xNil)) (xCons (xVar 1) (xCons (xC (.int 0)) xNil)))))))
theorem j__law_source {f : Addr} {cdv : Value} {A : Around} {outer : List Env} {s : Shared} {H : Hp} {E : XK} (T : Txt P K mg a) (hr : RoomG 0 (A.deeper (PyProof.Rows.envOfC "_law_source" (defScope s__law_source) s.heap.objs.size f cdv))) :
    JB (cxD P w K mg base ["script", "stirred", "cell"] "_law_source" (defScope s__law_source) f cdv A outer s H E) (defBody s__law_source) ((xSeq (xAsg (xC (.int 90101)) (gSet 1))
    (xSeq (xFor (iL (xSl (xVar 0) xNo (xPart (xC (.int 60))))) (gSet 2) (xAsg (xOp dMod (xOp dAdd (xOp dAdd (xOp dMul (xVar 1) (xC (.int 48271))) (xOp dMod (xVar 2) (xC (.int 2147483563)))) (xC (.int 17))) (xC (.int 2147483629))) (gSet 1)))
    (xRet (xNew (xCons (xCB cLstN (xCons (xSl (xVar 0) xNo (xPart (xC (.int 60)))) xNil)) (xCons (xVar 1) (xCons (xC (.int 0)) xNil)))))))) :=
    (jb_cons (jset 1 sc__law_source.nd je_int)
    (jb_cons (js_for (passes_of rfl) rfl (ji_list (je_slice (jv 0) jo_none (jo_some je_int))) (jgn (own := [2]) 2 sc__law_source.nd).jg (jb_one (jset 1 sc__law_source.nd (b_mod (b_add (b_add (b_mul (jv 1) je_int) (b_mod (jv 2) je_int)) je_int) je_int))))
    (jb_one (js_ret (je_new (ja_cons (j_listN T.b_list (ja_cons (je_slice (jv 0) jo_none (jo_some je_int)) ja_nil)) (ja_cons (jv 1) (ja_cons je_int ja_nil))))))))
abbrev s__law_draw : Stmt := top 23
theorem sc__law_draw : FnScope ["source", "many", "blend", "cell"] ["source", "many"] (defScope s__law_draw) := ⟨rfl, rfl, rfl, by decide +kernel, rfl, by decide +kernel, by decide +kernel⟩
def t__law_draw (K : PySem.W.Frag) (a : Ad) : TXS :=
    (xSeq (xAsg (xOp dAdd (xOp dIx (xVar 0) (xC (.int 2))) (xC (.int 1))) (gIx (xVar 0) (xC (.int 2))))
    (xSeq (xAsg (xOp dAdd (xOp dIx (xVar 0) (xC (.int 1))) (xOp dMul (xOp dMul (xC (.int 40009)) (xOp dIx (xVar 0) (xC (.int 2)))) (xOp dIx (xVar 0) (xC (.int 2))))) (gSet 2))
    (xSeq (xIfS (xTest (xOp dNe (xOp dIx (xVar 0) (xC (.int 0))) (xLst xNil))) (xSeq (xAsg (xBM "list" mPop (xOp dIx (xVar 0) (xC (.int 0))) (xCons (xC (.int 0)) xNil)) (gSet 3))
    (xSeq (xIfS (xTest (xOp dGe (xVar 3) (xOp dPow (xC (.int 10)) (xC (.int 18))))) (xSeq (xDrop (xBM "list" mInsert (xOp dIx (xVar 0) (xC (.int 0))) (xCons (xC (.int 0)) (xCons (xOp dFdv (xVar 3) (xVar 1)) xNil))))
    (xRet (xOp dMod (xVar 3) (xVar 1)))) xNext)
    (xAsg (xOp dAdd (xVar 2) (xVar 3)) (gSet 2)))) xNext)
    (xSeq (xAsg (xOp dMod (xOp dMul (xOp dMod (xVar 2) (xC (.int 2147483563))) (xC (.int 69621))) (xC (.int 2147483647))) (gSet 2))
    (xSeq (xAsg (xOp dMod (xOp dAdd (xOp dAdd (xOp dMul (xVar 2) (xVar 2)) (xOp dMul (xC (.int 16807)) (xVar 2))) (xC (.int 5))) (xC (.int 2147483587))) (gSet 2))
    (xRet (xOp dMod (xOp dFdv (xOp dMod (xOp dMul (xVar 2) (xC (.int 40692))) (xC (.int 2147483629))) (xC (.int 32))) (xVar 1))))))))
theorem j__law_draw {f : Addr} {cdv : Value} {A : Around} {outer : List Env} {s : Shared} {H : Hp} {E : XK} (T : Txt P K mg a) (hr : RoomG 0 (A.deeper (PyProof.Rows.envOfC "_law_draw" (defScope s__law_draw) s.heap.objs.size f cdv))) :
    JB (cxD P w K mg base ["source", "many", "blend", "cell"] "_law_draw" (defScope s__law_draw) f cdv A outer s H E) (defBody s__law_draw) ((xSeq (xAsg (xOp dAdd (xOp dIx (xVar 0) (xC (.int 2))) (xC (.int 1))) (gIx (xVar 0) (xC (.int 2))))
    (xSeq (xAsg (xOp dAdd (xOp dIx (xVar 0) (xC (.int 1))) (xOp dMul (xOp dMul (xC (.int 40009)) (xOp dIx (xVar 0) (xC (.int 2)))) (xOp dIx (xVar 0) (xC (.int 2))))) (gSet 2))
    (xSeq (xIfS (xTest (xOp dNe (xOp dIx (xVar 0) (xC (.int 0))) (xLst xNil))) (xSeq (xAsg (xBM "list" mPop (xOp dIx (xVar 0) (xC (.int 0))) (xCons (xC (.int 0)) xNil)) (gSet 3))
    (xSeq (xIfS (xTest (xOp dGe (xVar 3) (xOp dPow (xC (.int 10)) (xC (.int 18))))) (xSeq (xDrop (xBM "list" mInsert (xOp dIx (xVar 0) (xC (.int 0))) (xCons (xC (.int 0)) (xCons (xOp dFdv (xVar 3) (xVar 1)) xNil))))
    (xRet (xOp dMod (xVar 3) (xVar 1)))) xNext)
    (xAsg (xOp dAdd (xVar 2) (xVar 3)) (gSet 2)))) xNext)
    (xSeq (xAsg (xOp dMod (xOp dMul (xOp dMod (xVar 2) (xC (.int 2147483563))) (xC (.int 69621))) (xC (.int 2147483647))) (gSet 2))
    (xSeq (xAsg (xOp dMod (xOp dAdd (xOp dAdd (xOp dMul (xVar 2) (xVar 2)) (xOp dMul (xC (.int 16807)) (xVar 2))) (xC (.int 5))) (xC (.int 2147483587))) (gSet 2))
    (xRet (xOp dMod (xOp dFdv (xOp dMod (xOp dMul (xVar 2) (xC (.int 40692))) (xC (.int 2147483629))) (xC (.int 32))) (xVar 1))))))))) :=
    (jb_cons (js_asg (b_add (je_ix (jv 0) je_int) je_int) (jg_ix (jv 0) je_int))
    (jb_cons (jset 2 sc__law_draw.nd (b_add (je_ix (jv 0) je_int) (b_mul (b_mul je_int (je_ix (jv 0) je_int)) (je_ix (jv 0) je_int))))
    (jb_cons (js_if (q_ne hr (je_ix (jv 0) je_int) (je_lst ja_nil)) (jb_cons (jset 3 sc__law_draw.nd (je_bm PySem.F.plainAttrs_list PySem.F.slot_list_pop PySem.F.type_list_pop mt_popAll dm_pop (je_ix (jv 0) je_int) (ja_cons je_int ja_nil)))
    (jb_cons (js_if (q_ge (jv 3) (b_pow je_int je_int)) (jb_cons (js_expr (je_bm PySem.F.plainAttrs_list PySem.F.slot_list_insert PySem.F.type_list_insert mt_insert dm_insert (je_ix (jv 0) je_int) (ja_cons je_int (ja_cons (b_fdv (jv 3) (jv 1)) ja_nil))))
    (jb_one (js_ret (b_mod (jv 3) (jv 1))))) jb_nil)
    (jb_one (jset 2 sc__law_draw.nd (b_add (jv 2) (jv 3)))))) jb_nil)
    (jb_cons (jset 2 sc__law_draw.nd (b_mod (b_mul (b_mod (jv 2) je_int) je_int) je_int))
    (jb_cons (jset 2 sc__law_draw.nd (b_mod (b_add (b_add (b_mul (jv 2) (jv 2)) (b_mul je_int (jv 2))) je_int) je_int))
    (jb_one (js_ret (b_mod (b_fdv (b_mod (b_mul (jv 2) je_int) je_int) je_int) (jv 1)))))))))
abbrev s__law_pick : Stmt := top 24
theorem sc__law_pick : FnScope ["source", "items"] ["source", "items"] (defScope s__law_pick) := ⟨rfl, rfl, rfl, by decide +kernel, rfl, by decide +kernel, by decide +kernel⟩
def t__law_pick (K : PySem.W.Frag) (a : Ad) : TXS :=
    (xRet (xOp dIx (xVar 1) (xCall S_draw [] (xCons (xVar 0) (xCons (xCB cLen (xCons (xVar 1) xNil)) xNil)))))
theorem j__law_pick {f : Addr} {cdv : Value} {A : Around} {outer : List Env} {s : Shared} {H : Hp} {E : XK} (T : Txt P K mg a) (O__law_draw : OkD P w K mg base 1 "_law_draw" ["source", "many"] S_draw) (hr : RoomG 1 (A.deeper (PyProof.Rows.envOfC "_law_pick" (defScope s__law_pick) s.heap.objs.size f cdv))) :
    JB (cxD P w K mg base ["source", "items"] "_law_pick" (defScope s__law_pick) f cdv A outer s H E) (defBody s__law_pick) ((xRet (xOp dIx (xVar 1) (xCall S_draw [] (xCons (xVar 0) (xCons (xCB cLen (xCons (xVar 1) xNil)) xNil)))))) :=
    (jb_one (js_ret (je_ix (jv 1) (je_cf O__law_draw hr (ja_cons (jv 0) (ja_cons (j_len T.b_len (ja_cons (jv 1) ja_nil)) ja_nil))))))
abbrev s__law_plain : Stmt := top 25
theorem sc__law_plain : FnScope ["source", "far", "some"] ["source"] (defScope s__law_plain) := ⟨rfl, rfl, rfl, by decide +kernel, rfl, by decide +kernel, by decide +kernel⟩
def t__law_plain (K : PySem.W.Frag) (a : Ad) : TXS :=
    (xSeq (xAsg (xOp dAdd (xOp dMul (xCall S_draw [] (xCons (xVar 0) (xCons (xOp dPow (xC (.int 10)) (xC (.int 6))) xNil))) (xOp dPow (xC (.int 10)) (xC (.int 33)))) (xCall S_draw [] (xCons (xVar 0) (xCons (xOp dPow (xC (.int 10)) (xC (.int 6))) xNil)))) (gSet 1))
    (xSeq (xAsg (xLst (xCons (xC .non) (xCons (xC (.bl true)) (xCons (xC (.bl false)) (xCons (xC (.int 0)) (xCons (xC (.int 1)) (xCons (xUn dNeg (xC (.int 1))) (xCons (xVar 1) (xCons (xOp dSub (xC (.int 0)) (xVar 1)) (xCons (xC (.str "")) (xCons (xC (.str "ann")) (xCons (xC (.str "t")) (xCons (xC (.str "a b")) (xCons (xC (.str "A")) (xCons (xC (.str "\n")) (xCons (xTup xNil) (xCons (xOp dMulS (xC (.str "x")) (xC (.int 60))) xNil))))))))))))))))) (gSet 2))
    (xRet (xCall S_pick [] (xCons (xVar 0) (xCons (xVar 2) xNil))))))
theorem j__law_plain {f : Addr} {cdv : Value} {A : Around} {outer : List Env} {s : Shared} {H : Hp} {E : XK} (T : Txt P K mg a) (O__law_draw : OkD P w K mg base 1 "_law_draw" ["source", "many"] S_draw) (O__law_pick : OkD P w K mg base 2 "_law_pick" ["source", "items"] S_pick) (hr : RoomG 2 (A.deeper (PyProof.Rows.envOfC "_law_plain" (defScope s__law_plain) s.heap.objs.size f cdv))) :
    JB (cxD P w K mg base ["source", "far", "some"] "_law_plain" (defScope s__law_plain) f cdv A outer s H E) (defBody s__law_plain) ((xSeq (xAsg (xOp dAdd (xOp dMul (xCall S_draw [] (xCons (xVar 0) (xCons (xOp dPow (xC (.int 10)) (xC (.int 6))) xNil))) (xOp dPow (xC (.int 10)) (xC (.int 33)))) (xCall S_draw [] (xCons (xVar 0) (xCons (xOp dPow (xC (.int 10)) (xC (.int 6))) xNil)))) (gSet 1))
    (xSeq (xAsg (xLst (xCons (xC .non) (xCons (xC (.bl true)) (xCons (xC (.bl false)) (xCons (xC (.int 0)) (xCons (xC (.int 1)) (xCons (xUn dNeg (xC (.int 1))) (xCons (xVar 1) (xCons (xOp dSub (xC (.int 0)) (xVar 1)) (xCons (xC (.str "")) (xCons (xC (.str "ann")) (xCons (xC (.str "t")) (xCons (xC (.str "a b")) (xCons (xC (.str "A")) (xCons (xC (.str "\n")) (xCons (xTup xNil) (xCons (xOp dMulS (xC (.str "x")) (xC (.int 60))) xNil))))))))))))))))) (gSet 2))
    (xRet (xCall S_pick [] (xCons (xVar 0) (xCons (xVar 2) xNil))))))) :=
    (jb_cons (jset 1 sc__law_plain.nd (b_add (b_mul (je_cf O__law_draw hr (ja_cons (jv 0) (ja_cons (b_pow je_int je_int) ja_nil))) (b_pow je_int je_int)) (je_cf O__law_draw hr (ja_cons (jv 0) (ja_cons (b_pow je_int je_int) ja_nil)))))
    (jb_cons (jset 2 sc__law_plain.nd (je_lst (ja_cons je_non (ja_cons je_bl (ja_cons je_bl (ja_cons je_int (ja_cons je_int (ja_cons (u_neg je_int) (ja_cons (jv 1) (ja_cons (b_sub je_int (jv 1)) (ja_cons je_str (ja_cons je_str (ja_cons je_str (ja_cons je_str (ja_cons je_str (ja_cons je_str (ja_cons (je_tup ja_nil) (ja_cons (b_mulS je_str je_int) ja_nil))))))))))))))))))
    (jb_one (js_ret (je_cf O__law_pick hr (ja_cons (jv 0) (ja_cons (jv 2) ja_nil)))))))
abbrev s__law_value : Stmt := top 26
theorem sc__law_value : FnScope ["source", "deep", "way", "inner", "k"] ["source", "deep"] (defScope s__law_value) := ⟨rfl, rfl, rfl, by decide +kernel, rfl, by decide +kernel, by decide +kernel⟩
def t__law_value (K : PySem.W.Frag) (a : Ad) (NV kv : Nat) : TXS :=
    (xSeq (xAsg (xCall S_draw [] (xCons (xVar 0) (xCons (xC (.int 6)) xNil))) (gSet 2))
    (xSeq (xIfS (xOr (xTest (xOp dEq (xVar 1) (xC (.int 0)))) (xTest (xOp dLt (xVar 2) (xC (.int 3))))) (xRet (xCall S_plain [] (xCons (xVar 0) xNil))) xNext)
    (xSeq (xAsg (xLc (iR1 (xCons (xCall S_draw [] (xCons (xVar 0) (xCons (xC (.int 3)) xNil))) xNil)) (gSet 4) xYes (xCall (S_valueN NV) [] (xCons (xVar 0) (xCons (xOp dSub (xVar 1) (xC (.int 1))) xNil))) [4]) (gSet 3))
    (xSeq (xIfS (xTest (xOp dEq (xVar 2) (xC (.int 3)))) (xRet (xCB cTup (xCons (xVar 3) xNil))) xNext)
    (xSeq (xIfS (xTest (xOp dEq (xVar 2) (xC (.int 4)))) (xRet (xVar 3)) xNext)
    (xRet (xDct [.inr "a", .inl 1] (xCons (xVar 3) (xCons (xCall S_plain [] (xCons (xVar 0) xNil)) xNil)))))))))
theorem j__law_value {f : Addr} {cdv : Value} {A : Around} {outer : List Env} {s : Shared} {H : Hp} {E : XK} (T : Txt P K mg a) (NV kv : Nat) (O__law_draw : OkD P w K mg base 1 "_law_draw" ["source", "many"] S_draw) (O__law_plain : OkD P w K mg base 3 "_law_plain" ["source"] S_plain) (O__law_value : OkD P w K mg base kv "_law_value" ["source", "deep"] (S_valueN NV)) (kv0 : Nat) (h__law_draw : 1 ≤ kv0) (h__law_plain : 3 ≤ kv0) (h__law_value : kv ≤ kv0) (hr : RoomG kv0 (A.deeper (PyProof.Rows.envOfC "_law_value" (defScope s__law_value) s.heap.objs.size f cdv))) :
    JB (cxD P w K mg base ["source", "deep", "way", "inner", "k"] "_law_value" (defScope s__law_value) f cdv A outer s H E) (defBody s__law_value) ((xSeq (xAsg (xCall S_draw [] (xCons (xVar 0) (xCons (xC (.int 6)) xNil))) (gSet 2))
    (xSeq (xIfS (xOr (xTest (xOp dEq (xVar 1) (xC (.int 0)))) (xTest (xOp dLt (xVar 2) (xC (.int 3))))) (xRet (xCall S_plain [] (xCons (xVar 0) xNil))) xNext)
    (xSeq (xAsg (xLc (iR1 (xCons (xCall S_draw [] (xCons (xVar 0) (xCons (xC (.int 3)) xNil))) xNil)) (gSet 4) xYes (xCall (S_valueN NV) [] (xCons (xVar 0) (xCons (xOp dSub (xVar 1) (xC (.int 1))) xNil))) [4]) (gSet 3))
    (xSeq (xIfS (xTest (xOp dEq (xVar 2) (xC (.int 3)))) (xRet (xCB cTup (xCons (xVar 3) xNil))) xNext)
    (xSeq (xIfS (xTest (xOp dEq (xVar 2) (xC (.int 4)))) (xRet (xVar 3)) xNext)
    (xRet (xDct [.inr "a", .inl 1] (xCons (xVar 3) (xCons (xCall S_plain [] (xCons (xVar 0) xNil)) xNil)))))))))) :=
    (jb_cons (jset 2 sc__law_value.nd (je_cf O__law_draw hr (ja_cons (jv 0) (ja_cons je_int ja_nil)) (hk := h__law_draw)))
    (jb_cons (js_if (JW.jt (jw_or (q_eq hr (jv 1) je_int) (jw_or1 (q_lt (jv 2) je_int)))) (jb_one (js_ret (je_cf O__law_plain hr (ja_cons (jv 0) ja_nil) (hk := h__law_plain)))) jb_nil)
    (jb_cons (js_setLc (own := [("k", 4)]) rfl sc__law_value.nd rfl rfl rfl (ji_range1 rfl T.b_range (ja_cons (je_cf O__law_draw hr (ja_cons (jv 0) (ja_cons je_int ja_nil)) (hk := h__law_draw)) ja_nil)) (blkOk_by (N := ["source", "deep", "way", "inner", "k"]) (sc := defScope s__law_value) (by decide +kernel)) (fun _ _ _ _ _ => (jgn (own := [4]) 4 sc__law_value.nd)) (fun _ _ _ _ _ => jts_nil) (fun _ _ _ _ _ => (je_cf O__law_value hr (ja_cons (jv 0) (ja_cons (b_sub (jv 1) je_int) ja_nil)) (hk := h__law_value))))
    (jb_cons (js_if (q_eq hr (jv 2) je_int) (jb_one (js_ret (j_tuple T.b_tuple (ja_cons (jv 3) ja_nil)))) jb_nil)
    (jb_cons (js_if (q_eq hr (jv 2) je_int) (jb_one (js_ret (jv 3))) jb_nil)
    (jb_one (js_ret (je_dct (jp_cons (key := .inr "a") (jv 3) (jp_cons (key := .inl 1) (je_cf O__law_plain hr (ja_cons (jv 0) ja_nil) (hk := h__law_plain)) jp_nil)) (pps_cons pe_str semE (pps_cons pe_int semE pps_nil)) (by decide) rfl (by decide) rfl (by simp) (by decide)))))))))
abbrev s__law_bare : Stmt := top 27
theorem sc__law_bare : FnScope ["which"] ["which"] (defScope s__law_bare) := ⟨rfl, rfl, rfl, by decide +kernel, rfl, by decide +kernel, by decide +kernel⟩
def t__law_bare (K : PySem.W.Frag) (a : Ad) : TXS :=
    (xSeq (xIfS (xTest (xOp dEq (xVar 0) (xC (.int 0)))) (xRet (xExc0 (a 0))) xNext)
    (xSeq (xIfS (xTest (xOp dEq (xVar 0) (xC (.int 1)))) (xRet (xExc0 (a 1))) xNext)
    (xSeq (xIfS (xTest (xOp dEq (xVar 0) (xC (.int 2)))) (xRet (xExc0 (a 2))) xNext)
    (xSeq (xIfS (xTest (xOp dEq (xVar 0) (xC (.int 3)))) (xRet (xExc0 (a 3))) xNext)
    (xSeq (xIfS (xTest (xOp dEq (xVar 0) (xC (.int 4)))) (xRet (xExc0 (a 4))) xNext)
    (xSeq (xIfS (xTest (xOp dEq (xVar 0) (xC (.int 5)))) (xRet (xExc0 (a 5))) xNext)
    (xSeq (xIfS (xTest (xOp dEq (xVar 0) (xC (.int 6)))) (xRet (xExc0 (a 6))) xNext)
    (xRet (xExc0 (a 7))))))))))
theorem j__law_bare {f : Addr} {cdv : Value} {A : Around} {outer : List Env} {s : Shared} {H : Hp} {E : XK} (T : Txt P K mg a) (hr : RoomG 0 (A.deeper (PyProof.Rows.envOfC "_law_bare" (defScope s__law_bare) s.heap.objs.size f cdv))) :
    JB (cxD P w K mg base ["which"] "_law_bare" (defScope s__law_bare) f cdv A outer s H E) (defBody s__law_bare) ((xSeq (xIfS (xTest (xOp dEq (xVar 0) (xC (.int 0)))) (xRet (xExc0 (a 0))) xNext)
    (xSeq (xIfS (xTest (xOp dEq (xVar 0) (xC (.int 1)))) (xRet (xExc0 (a 1))) xNext)
    (xSeq (xIfS (xTest (xOp dEq (xVar 0) (xC (.int 2)))) (xRet (xExc0 (a 2))) xNext)
    (xSeq (xIfS (xTest (xOp dEq (xVar 0) (xC (.int 3)))) (xRet (xExc0 (a 3))) xNext)
    (xSeq (xIfS (xTest (xOp dEq (xVar 0) (xC (.int 4)))) (xRet (xExc0 (a 4))) xNext)
    (xSeq (xIfS (xTest (xOp dEq (xVar 0) (xC (.int 5)))) (xRet (xExc0 (a 5))) xNext)
    (xSeq (xIfS (xTest (xOp dEq (xVar 0) (xC (.int 6)))) (xRet (xExc0 (a 6))) xNext)
    (xRet (xExc0 (a 7))))))))))) :=
    (jb_cons (js_if (q_eq hr (jv 0) je_int) (jb_one (js_ret (je_exc0 (T.x0 0 (by decide)) hr.d1 rfl T.m0))) jb_nil)
    (jb_cons (js_if (q_eq hr (jv 0) je_int) (jb_one (js_ret (je_exc0 (T.x0 1 (by decide)) hr.d1 rfl T.m1))) jb_nil)
    (jb_cons (js_if (q_eq hr (jv 0) je_int) (jb_one (js_ret (je_exc0 (T.x0 2 (by decide)) hr.d1 rfl T.m2))) jb_nil)
    (jb_cons (js_if (q_eq hr (jv 0) je_int) (jb_one (js_ret (je_exc0 (T.x0 3 (by decide)) hr.d1 rfl T.m3))) jb_nil)
    (jb_cons (js_if (q_eq hr (jv 0) je_int) (jb_one (js_ret (je_exc0 (T.x0 4 (by decide)) hr.d1 rfl T.m4))) jb_nil)
    (jb_cons (js_if (q_eq hr (jv 0) je_int) (jb_one (js_ret (je_exc0 (T.x0 5 (by decide)) hr.d1 rfl T.m5))) jb_nil)
    (jb_cons (js_if (q_eq hr (jv 0) je_int) (jb_one (js_ret (je_exc0 (T.x0 6 (by decide)) hr.d1 rfl T.m6))) jb_nil)
    (jb_one (js_ret (je_exc0 (T.x0 7 (by decide)) hr.d1 rfl T.m7))))))))))
abbrev s__law_made : Stmt := top 28
theorem sc__law_made : FnScope ["which", "it"] ["which", "it"] (defScope s__law_made) := ⟨rfl, rfl, rfl, by decide +kernel, rfl, by decide +kernel, by decide +kernel⟩
def t__law_made (K : PySem.W.Frag) (a : Ad) : TXS :=
    (xSeq (xIfS (xTest (xOp dEq (xVar 0) (xC (.int 8)))) (xRet (xExc1 (a 8) "change" (xVar 1))) xNext)
    (xSeq (xIfS (xTest (xOp dEq (xVar 0) (xC (.int 9)))) (xRet (xExc1 (a 9) "name" (xVar 1))) xNext)
    (xSeq (xIfS (xTest (xOp dEq (xVar 0) (xC (.int 10)))) (xRet (xExc1 (a 10) "number" (xVar 1))) xNext)
    (xSeq (xIfS (xTest (xOp dEq (xVar 0) (xC (.int 11)))) (xRet (xExc1 (a 11) "numbers" (xVar 1))) xNext)
    (xSeq (xIfS (xTest (xOp dEq (xVar 0) (xC (.int 12)))) (xRet (xExc1 (a 12) "tree" (xVar 1))) xNext)
    (xSeq (xIfS (xTest (xOp dEq (xVar 0) (xC (.int 13)))) (xRet (xExc1 (a 13) "mixes" (xVar 1))) xNext)
    (xSeq (xIfS (xTest (xOp dEq (xVar 0) (xC (.int 14)))) (xRet (xExc1 (a 14) "name" (xVar 1))) xNext)
    (xSeq (xIfS (xTest (xOp dEq (xVar 0) (xC (.int 15)))) (xRet (xExc1 (a 15) "row" (xVar 1))) xNext)
    (xSeq (xIfS (xTest (xOp dEq (xVar 0) (xC (.int 16)))) (xRet (xExc1 (a 16) "number" (xVar 1))) xNext)
    (xRet (xExc1 (a 17) "name" (xVar 1))))))))))))
theorem j__law_made {f : Addr} {cdv : Value} {A : Around} {outer : List Env} {s : Shared} {H : Hp} {E : XK} (T : Txt P K mg a) (hr : RoomG 0 (A.deeper (PyProof.Rows.envOfC "_law_made" (defScope s__law_made) s.heap.objs.size f cdv))) :
    JB (cxD P w K mg base ["which", "it"] "_law_made" (defScope s__law_made) f cdv A outer s H E) (defBody s__law_made) ((xSeq (xIfS (xTest (xOp dEq (xVar 0) (xC (.int 8)))) (xRet (xExc1 (a 8) "change" (xVar 1))) xNext)
    (xSeq (xIfS (xTest (xOp dEq (xVar 0) (xC (.int 9)))) (xRet (xExc1 (a 9) "name" (xVar 1))) xNext)
    (xSeq (xIfS (xTest (xOp dEq (xVar 0) (xC (.int 10)))) (xRet (xExc1 (a 10) "number" (xVar 1))) xNext)
    (xSeq (xIfS (xTest (xOp dEq (xVar 0) (xC (.int 11)))) (xRet (xExc1 (a 11) "numbers" (xVar 1))) xNext)
    (xSeq (xIfS (xTest (xOp dEq (xVar 0) (xC (.int 12)))) (xRet (xExc1 (a 12) "tree" (xVar 1))) xNext)
    (xSeq (xIfS (xTest (xOp dEq (xVar 0) (xC (.int 13)))) (xRet (xExc1 (a 13) "mixes" (xVar 1))) xNext)
    (xSeq (xIfS (xTest (xOp dEq (xVar 0) (xC (.int 14)))) (xRet (xExc1 (a 14) "name" (xVar 1))) xNext)
    (xSeq (xIfS (xTest (xOp dEq (xVar 0) (xC (.int 15)))) (xRet (xExc1 (a 15) "row" (xVar 1))) xNext)
    (xSeq (xIfS (xTest (xOp dEq (xVar 0) (xC (.int 16)))) (xRet (xExc1 (a 16) "number" (xVar 1))) xNext)
    (xRet (xExc1 (a 17) "name" (xVar 1))))))))))))) :=
    (jb_cons (js_if (q_eq hr (jv 0) je_int) (jb_one (js_ret (je_exc1 (T.x1 8 (by decide) (by decide)) hr.d1 rfl T.m8 (jv 1)))) jb_nil)
    (jb_cons (js_if (q_eq hr (jv 0) je_int) (jb_one (js_ret (je_exc1 (T.x1 9 (by decide) (by decide)) hr.d1 rfl T.m9 (jv 1)))) jb_nil)
    (jb_cons (js_if (q_eq hr (jv 0) je_int) (jb_one (js_ret (je_exc1 (T.x1 10 (by decide) (by decide)) hr.d1 rfl T.m10 (jv 1)))) jb_nil)
    (jb_cons (js_if (q_eq hr (jv 0) je_int) (jb_one (js_ret (je_exc1 (T.x1 11 (by decide) (by decide)) hr.d1 rfl T.m11 (jv 1)))) jb_nil)
    (jb_cons (js_if (q_eq hr (jv 0) je_int) (jb_one (js_ret (je_exc1 (T.x1 12 (by decide) (by decide)) hr.d1 rfl T.m12 (jv 1)))) jb_nil)
    (jb_cons (js_if (q_eq hr (jv 0) je_int) (jb_one (js_ret (je_exc1 (T.x1 13 (by decide) (by decide)) hr.d1 rfl T.m13 (jv 1)))) jb_nil)
    (jb_cons (js_if (q_eq hr (jv 0) je_int) (jb_one (js_ret (je_exc1 (T.x1 14 (by decide) (by decide)) hr.d1 rfl T.m14 (jv 1)))) jb_nil)
    (jb_cons (js_if (q_eq hr (jv 0) je_int) (jb_one (js_ret (je_exc1 (T.x1 15 (by decide) (by decide)) hr.d1 rfl T.m15 (jv 1)))) jb_nil)
    (jb_cons (js_if (q_eq hr (jv 0) je_int) (jb_one (js_ret (je_exc1 (T.x1 16 (by decide) (by decide)) hr.d1 rfl T.m16 (jv 1)))) jb_nil)
    (jb_one (js_ret (je_exc1 (T.x1 17 (by decide) (by decide)) hr.d1 rfl T.m17 (jv 1)))))))))))))
abbrev s__law_made_by_name : Stmt := top 29
theorem sc__law_made_by_name : FnScope ["which", "it"] ["which", "it"] (defScope s__law_made_by_name) := ⟨rfl, rfl, rfl, by decide +kernel, rfl, by decide +kernel, by decide +kernel⟩
def t__law_made_by_name (K : PySem.W.Frag) (a : Ad) : TXS :=
    (xSeq (xIfS (xTest (xOp dEq (xVar 0) (xC (.int 8)))) (xRet (xExc1 (a 8) "change" (xVar 1))) xNext)
    (xSeq (xIfS (xTest (xOp dEq (xVar 0) (xC (.int 9)))) (xRet (xExc1 (a 9) "name" (xVar 1))) xNext)
    (xSeq (xIfS (xTest (xOp dEq (xVar 0) (xC (.int 10)))) (xRet (xExc1 (a 10) "number" (xVar 1))) xNext)
    (xSeq (xIfS (xTest (xOp dEq (xVar 0) (xC (.int 11)))) (xRet (xExc1 (a 11) "numbers" (xVar 1))) xNext)
    (xSeq (xIfS (xTest (xOp dEq (xVar 0) (xC (.int 12)))) (xRet (xExc1 (a 12) "tree" (xVar 1))) xNext)
    (xSeq (xIfS (xTest (xOp dEq (xVar 0) (xC (.int 13)))) (xRet (xExc1 (a 13) "mixes" (xVar 1))) xNext)
    (xSeq (xIfS (xTest (xOp dEq (xVar 0) (xC (.int 14)))) (xRet (xExc1 (a 14) "name" (xVar 1))) xNext)
    (xSeq (xIfS (xTest (xOp dEq (xVar 0) (xC (.int 15)))) (xRet (xExc1 (a 15) "row" (xVar 1))) xNext)
    (xSeq (xIfS (xTest (xOp dEq (xVar 0) (xC (.int 16)))) (xRet (xExc1 (a 16) "number" (xVar 1))) xNext)
    (xRet (xExc1 (a 17) "name" (xVar 1))))))))))))
theorem j__law_made_by_name {f : Addr} {cdv : Value} {A : Around} {outer : List Env} {s : Shared} {H : Hp} {E : XK} (T : Txt P K mg a) (hr : RoomG 0 (A.deeper (PyProof.Rows.envOfC "_law_made_by_name" (defScope s__law_made_by_name) s.heap.objs.size f cdv))) :
    JB (cxD P w K mg base ["which", "it"] "_law_made_by_name" (defScope s__law_made_by_name) f cdv A outer s H E) (defBody s__law_made_by_name) ((xSeq (xIfS (xTest (xOp dEq (xVar 0) (xC (.int 8)))) (xRet (xExc1 (a 8) "change" (xVar 1))) xNext)
    (xSeq (xIfS (xTest (xOp dEq (xVar 0) (xC (.int 9)))) (xRet (xExc1 (a 9) "name" (xVar 1))) xNext)
    (xSeq (xIfS (xTest (xOp dEq (xVar 0) (xC (.int 10)))) (xRet (xExc1 (a 10) "number" (xVar 1))) xNext)
    (xSeq (xIfS (xTest (xOp dEq (xVar 0) (xC (.int 11)))) (xRet (xExc1 (a 11) "numbers" (xVar 1))) xNext)
    (xSeq (xIfS (xTest (xOp dEq (xVar 0) (xC (.int 12)))) (xRet (xExc1 (a 12) "tree" (xVar 1))) xNext)
    (xSeq (xIfS (xTest (xOp dEq (xVar 0) (xC (.int 13)))) (xRet (xExc1 (a 13) "mixes" (xVar 1))) xNext)
    (xSeq (xIfS (xTest (xOp dEq (xVar 0) (xC (.int 14)))) (xRet (xExc1 (a 14) "name" (xVar 1))) xNext)
    (xSeq (xIfS (xTest (xOp dEq (xVar 0) (xC (.int 15)))) (xRet (xExc1 (a 15) "row" (xVar 1))) xNext)
    (xSeq (xIfS (xTest (xOp dEq (xVar 0) (xC (.int 16)))) (xRet (xExc1 (a 16) "number" (xVar 1))) xNext)
    (xRet (xExc1 (a 17) "name" (xVar 1))))))))))))) :=
    (jb_cons (js_if (q_eq hr (jv 0) je_int) (jb_one (js_ret (je_excK (T.x1 8 (by decide) (by decide)) hr.d1 rfl T.m8 (jv 1)))) jb_nil)
    (jb_cons (js_if (q_eq hr (jv 0) je_int) (jb_one (js_ret (je_excK (T.x1 9 (by decide) (by decide)) hr.d1 rfl T.m9 (jv 1)))) jb_nil)
    (jb_cons (js_if (q_eq hr (jv 0) je_int) (jb_one (js_ret (je_excK (T.x1 10 (by decide) (by decide)) hr.d1 rfl T.m10 (jv 1)))) jb_nil)
    (jb_cons (js_if (q_eq hr (jv 0) je_int) (jb_one (js_ret (je_excK (T.x1 11 (by decide) (by decide)) hr.d1 rfl T.m11 (jv 1)))) jb_nil)
    (jb_cons (js_if (q_eq hr (jv 0) je_int) (jb_one (js_ret (je_excK (T.x1 12 (by decide) (by decide)) hr.d1 rfl T.m12 (jv 1)))) jb_nil)
    (jb_cons (js_if (q_eq hr (jv 0) je_int) (jb_one (js_ret (je_excK (T.x1 13 (by decide) (by decide)) hr.d1 rfl T.m13 (jv 1)))) jb_nil)
    (jb_cons (js_if (q_eq hr (jv 0) je_int) (jb_one (js_ret (je_excK (T.x1 14 (by decide) (by decide)) hr.d1 rfl T.m14 (jv 1)))) jb_nil)
    (jb_cons (js_if (q_eq hr (jv 0) je_int) (jb_one (js_ret (je_excK (T.x1 15 (by decide) (by decide)) hr.d1 rfl T.m15 (jv 1)))) jb_nil)
    (jb_cons (js_if (q_eq hr (jv 0) je_int) (jb_one (js_ret (je_excK (T.x1 16 (by decide) (by decide)) hr.d1 rfl T.m16 (jv 1)))) jb_nil)
    (jb_one (js_ret (je_excK (T.x1 17 (by decide) (by decide)) hr.d1 rfl T.m17 (jv 1)))))))))))))
abbrev s__law_held : Stmt := top 30
theorem sc__law_held : FnScope ["which", "error"] ["which", "error"] (defScope s__law_held) := ⟨rfl, rfl, rfl, by decide +kernel, rfl, by decide +kernel, by decide +kernel⟩
def t__law_held (K : PySem.W.Frag) (a : Ad) : TXS :=
    (xSeq (xIfS (xTest (xOp dEq (xVar 0) (xC (.int 8)))) (xRet (xXf (okX a "change") "change" (xVar 1))) xNext)
    (xSeq (xIfS (xTest (xOp (dIn false) (xVar 0) (xTup (xCons (xC (.int 9)) (xCons (xC (.int 14)) (xCons (xC (.int 17)) xNil)))))) (xRet (xXf (okX a "name") "name" (xVar 1))) xNext)
    (xSeq (xIfS (xTest (xOp (dIn false) (xVar 0) (xTup (xCons (xC (.int 10)) (xCons (xC (.int 16)) xNil))))) (xRet (xXf (okX a "number") "number" (xVar 1))) xNext)
    (xSeq (xIfS (xTest (xOp dEq (xVar 0) (xC (.int 11)))) (xRet (xXf (okX a "numbers") "numbers" (xVar 1))) xNext)
    (xSeq (xIfS (xTest (xOp dEq (xVar 0) (xC (.int 12)))) (xRet (xXf (okX a "tree") "tree" (xVar 1))) xNext)
    (xSeq (xIfS (xTest (xOp dEq (xVar 0) (xC (.int 13)))) (xRet (xXf (okX a "mixes") "mixes" (xVar 1))) xNext)
    (xRet (xXf (okX a "row") "row" (xVar 1)))))))))
theorem j__law_held {f : Addr} {cdv : Value} {A : Around} {outer : List Env} {s : Shared} {H : Hp} {E : XK} (T : Txt P K mg a) (hr : RoomG 0 (A.deeper (PyProof.Rows.envOfC "_law_held" (defScope s__law_held) s.heap.objs.size f cdv))) :
    JB (cxD P w K mg base ["which", "error"] "_law_held" (defScope s__law_held) f cdv A outer s H E) (defBody s__law_held) ((xSeq (xIfS (xTest (xOp dEq (xVar 0) (xC (.int 8)))) (xRet (xXf (okX a "change") "change" (xVar 1))) xNext)
    (xSeq (xIfS (xTest (xOp (dIn false) (xVar 0) (xTup (xCons (xC (.int 9)) (xCons (xC (.int 14)) (xCons (xC (.int 17)) xNil)))))) (xRet (xXf (okX a "name") "name" (xVar 1))) xNext)
    (xSeq (xIfS (xTest (xOp (dIn false) (xVar 0) (xTup (xCons (xC (.int 10)) (xCons (xC (.int 16)) xNil))))) (xRet (xXf (okX a "number") "number" (xVar 1))) xNext)
    (xSeq (xIfS (xTest (xOp dEq (xVar 0) (xC (.int 11)))) (xRet (xXf (okX a "numbers") "numbers" (xVar 1))) xNext)
    (xSeq (xIfS (xTest (xOp dEq (xVar 0) (xC (.int 12)))) (xRet (xXf (okX a "tree") "tree" (xVar 1))) xNext)
    (xSeq (xIfS (xTest (xOp dEq (xVar 0) (xC (.int 13)))) (xRet (xXf (okX a "mixes") "mixes" (xVar 1))) xNext)
    (xRet (xXf (okX a "row") "row" (xVar 1)))))))))) :=
    (jb_cons (js_if (q_eq hr (jv 0) je_int) (jb_one (js_ret (je_xf (T.okf "change") (jv 1)))) jb_nil)
    (jb_cons (js_if (q_in hr (jv 0) (je_tup (ja_cons je_int (ja_cons je_int (ja_cons je_int ja_nil))))) (jb_one (js_ret (je_xf (T.okf "name") (jv 1)))) jb_nil)
    (jb_cons (js_if (q_in hr (jv 0) (je_tup (ja_cons je_int (ja_cons je_int ja_nil)))) (jb_one (js_ret (je_xf (T.okf "number") (jv 1)))) jb_nil)
    (jb_cons (js_if (q_eq hr (jv 0) je_int) (jb_one (js_ret (je_xf (T.okf "numbers") (jv 1)))) jb_nil)
    (jb_cons (js_if (q_eq hr (jv 0) je_int) (jb_one (js_ret (je_xf (T.okf "tree") (jv 1)))) jb_nil)
    (jb_cons (js_if (q_eq hr (jv 0) je_int) (jb_one (js_ret (je_xf (T.okf "mixes") (jv 1)))) jb_nil)
    (jb_one (js_ret (je_xf (T.okf "row") (jv 1))))))))))
abbrev s__law_marks : Stmt := top 31
theorem sc__law_marks : FnScope ["error", "found", "bases"] ["error"] (defScope s__law_marks) := ⟨rfl, rfl, rfl, by decide +kernel, rfl, by decide +kernel, by decide +kernel⟩
def t__law_marks (K : PySem.W.Frag) (a : Ad) : TXS :=
    (xSeq (xAsg (xLst (xCons (xCB (cIsX K (okC a)) (xCons (xVar 0) (xCons (xC (.at (a 0))) xNil))) (xCons (xCB (cIsX K (okC a)) (xCons (xVar 0) (xCons (xC (.at (a 1))) xNil))) (xCons (xCB (cIsX K (okC a)) (xCons (xVar 0) (xCons (xC (.at (a 2))) xNil))) xNil)))) (gSet 1))
    (xSeq (xAsg (xOp dAdd (xVar 1) (xLst (xCons (xCB (cIsX K (okC a)) (xCons (xVar 0) (xCons (xC (.at (a 3))) xNil))) (xCons (xCB (cIsX K (okC a)) (xCons (xVar 0) (xCons (xC (.at (a 4))) xNil))) (xCons (xCB (cIsX K (okC a)) (xCons (xVar 0) (xCons (xC (.at (a 5))) xNil))) xNil))))) (gSet 1))
    (xSeq (xAsg (xOp dAdd (xVar 1) (xLst (xCons (xCB (cIsX K (okC a)) (xCons (xVar 0) (xCons (xC (.at (a 6))) xNil))) (xCons (xCB (cIsX K (okC a)) (xCons (xVar 0) (xCons (xC (.at (a 7))) xNil))) (xCons (xCB (cIsX K (okC a)) (xCons (xVar 0) (xCons (xC (.at (a 8))) xNil))) xNil))))) (gSet 1))
    (xSeq (xAsg (xOp dAdd (xVar 1) (xLst (xCons (xCB (cIsX K (okC a)) (xCons (xVar 0) (xCons (xC (.at (a 9))) xNil))) (xCons (xCB (cIsX K (okC a)) (xCons (xVar 0) (xCons (xC (.at (a 10))) xNil))) (xCons (xCB (cIsX K (okC a)) (xCons (xVar 0) (xCons (xC (.at (a 11))) xNil))) xNil))))) (gSet 1))
    (xSeq (xAsg (xOp dAdd (xVar 1) (xLst (xCons (xCB (cIsX K (okC a)) (xCons (xVar 0) (xCons (xC (.at (a 12))) xNil))) (xCons (xCB (cIsX K (okC a)) (xCons (xVar 0) (xCons (xC (.at (a 13))) xNil))) (xCons (xCB (cIsX K (okC a)) (xCons (xVar 0) (xCons (xC (.at (a 14))) xNil))) xNil))))) (gSet 1))
    (xSeq (xAsg (xOp dAdd (xVar 1) (xLst (xCons (xCB (cIsX K (okC a)) (xCons (xVar 0) (xCons (xC (.at (a 15))) xNil))) (xCons (xCB (cIsX K (okC a)) (xCons (xVar 0) (xCons (xC (.at (a 16))) xNil))) xNil)))) (gSet 1))
    (xSeq (xAsg (xOp dAdd (xVar 1) (xLst (xCons (xCB (cIsX K (okC a)) (xCons (xVar 0) (xCons (xC (.at (a 17))) xNil))) xNil))) (gSet 1))
    (xSeq (xAsg (xLst (xCons (xCB (cIsX K (okC a)) (xCons (xVar 0) (xCons (xC (.at (a 18))) xNil))) (xCons (xCB (cIsX K (okC a)) (xCons (xVar 0) (xCons (xC (.ty "ValueError")) xNil))) xNil))) (gSet 2))
    (xRet (xTup (xCons (xVar 1) (xCons (xVar 2) (xCons (xLst (xCons (xCB (cIsX K (okC a)) (xCons (xVar 0) (xCons (xC (.at (a 19))) xNil))) (xCons (xCB (cIsX K (okC a)) (xCons (xVar 0) (xCons (xC (.ty "KeyError")) xNil))) xNil))) xNil)))))))))))))
theorem j__law_marks {f : Addr} {cdv : Value} {A : Around} {outer : List Env} {s : Shared} {H : Hp} {E : XK} (T : Txt P K mg a) (hr : RoomG 0 (A.deeper (PyProof.Rows.envOfC "_law_marks" (defScope s__law_marks) s.heap.objs.size f cdv))) :
    JB (cxD P w K mg base ["error", "found", "bases"] "_law_marks" (defScope s__law_marks) f cdv A outer s H E) (defBody s__law_marks) ((xSeq (xAsg (xLst (xCons (xCB (cIsX K (okC a)) (xCons (xVar 0) (xCons (xC (.at (a 0))) xNil))) (xCons (xCB (cIsX K (okC a)) (xCons (xVar 0) (xCons (xC (.at (a 1))) xNil))) (xCons (xCB (cIsX K (okC a)) (xCons (xVar 0) (xCons (xC (.at (a 2))) xNil))) xNil)))) (gSet 1))
    (xSeq (xAsg (xOp dAdd (xVar 1) (xLst (xCons (xCB (cIsX K (okC a)) (xCons (xVar 0) (xCons (xC (.at (a 3))) xNil))) (xCons (xCB (cIsX K (okC a)) (xCons (xVar 0) (xCons (xC (.at (a 4))) xNil))) (xCons (xCB (cIsX K (okC a)) (xCons (xVar 0) (xCons (xC (.at (a 5))) xNil))) xNil))))) (gSet 1))
    (xSeq (xAsg (xOp dAdd (xVar 1) (xLst (xCons (xCB (cIsX K (okC a)) (xCons (xVar 0) (xCons (xC (.at (a 6))) xNil))) (xCons (xCB (cIsX K (okC a)) (xCons (xVar 0) (xCons (xC (.at (a 7))) xNil))) (xCons (xCB (cIsX K (okC a)) (xCons (xVar 0) (xCons (xC (.at (a 8))) xNil))) xNil))))) (gSet 1))
    (xSeq (xAsg (xOp dAdd (xVar 1) (xLst (xCons (xCB (cIsX K (okC a)) (xCons (xVar 0) (xCons (xC (.at (a 9))) xNil))) (xCons (xCB (cIsX K (okC a)) (xCons (xVar 0) (xCons (xC (.at (a 10))) xNil))) (xCons (xCB (cIsX K (okC a)) (xCons (xVar 0) (xCons (xC (.at (a 11))) xNil))) xNil))))) (gSet 1))
    (xSeq (xAsg (xOp dAdd (xVar 1) (xLst (xCons (xCB (cIsX K (okC a)) (xCons (xVar 0) (xCons (xC (.at (a 12))) xNil))) (xCons (xCB (cIsX K (okC a)) (xCons (xVar 0) (xCons (xC (.at (a 13))) xNil))) (xCons (xCB (cIsX K (okC a)) (xCons (xVar 0) (xCons (xC (.at (a 14))) xNil))) xNil))))) (gSet 1))
    (xSeq (xAsg (xOp dAdd (xVar 1) (xLst (xCons (xCB (cIsX K (okC a)) (xCons (xVar 0) (xCons (xC (.at (a 15))) xNil))) (xCons (xCB (cIsX K (okC a)) (xCons (xVar 0) (xCons (xC (.at (a 16))) xNil))) xNil)))) (gSet 1))
    (xSeq (xAsg (xOp dAdd (xVar 1) (xLst (xCons (xCB (cIsX K (okC a)) (xCons (xVar 0) (xCons (xC (.at (a 17))) xNil))) xNil))) (gSet 1))
    (xSeq (xAsg (xLst (xCons (xCB (cIsX K (okC a)) (xCons (xVar 0) (xCons (xC (.at (a 18))) xNil))) (xCons (xCB (cIsX K (okC a)) (xCons (xVar 0) (xCons (xC (.ty "ValueError")) xNil))) xNil))) (gSet 2))
    (xRet (xTup (xCons (xVar 1) (xCons (xVar 2) (xCons (xLst (xCons (xCB (cIsX K (okC a)) (xCons (xVar 0) (xCons (xC (.at (a 19))) xNil))) (xCons (xCB (cIsX K (okC a)) (xCons (xVar 0) (xCons (xC (.ty "KeyError")) xNil))) xNil))) xNil)))))))))))))) :=
    (jb_cons (jset 1 sc__law_marks.nd (je_lst (ja_cons (j_isX T.b_isinstance T.ok (ja_cons (jv 0) (ja_cons (j_ga T.m0) ja_nil))) (ja_cons (j_isX T.b_isinstance T.ok (ja_cons (jv 0) (ja_cons (j_ga T.m1) ja_nil))) (ja_cons (j_isX T.b_isinstance T.ok (ja_cons (jv 0) (ja_cons (j_ga T.m2) ja_nil))) ja_nil)))))
    (jb_cons (jset 1 sc__law_marks.nd (b_add (jv 1) (je_lst (ja_cons (j_isX T.b_isinstance T.ok (ja_cons (jv 0) (ja_cons (j_ga T.m3) ja_nil))) (ja_cons (j_isX T.b_isinstance T.ok (ja_cons (jv 0) (ja_cons (j_ga T.m4) ja_nil))) (ja_cons (j_isX T.b_isinstance T.ok (ja_cons (jv 0) (ja_cons (j_ga T.m5) ja_nil))) ja_nil))))))
    (jb_cons (jset 1 sc__law_marks.nd (b_add (jv 1) (je_lst (ja_cons (j_isX T.b_isinstance T.ok (ja_cons (jv 0) (ja_cons (j_ga T.m6) ja_nil))) (ja_cons (j_isX T.b_isinstance T.ok (ja_cons (jv 0) (ja_cons (j_ga T.m7) ja_nil))) (ja_cons (j_isX T.b_isinstance T.ok (ja_cons (jv 0) (ja_cons (j_ga T.m8) ja_nil))) ja_nil))))))
    (jb_cons (jset 1 sc__law_marks.nd (b_add (jv 1) (je_lst (ja_cons (j_isX T.b_isinstance T.ok (ja_cons (jv 0) (ja_cons (j_ga T.m9) ja_nil))) (ja_cons (j_isX T.b_isinstance T.ok (ja_cons (jv 0) (ja_cons (j_ga T.m10) ja_nil))) (ja_cons (j_isX T.b_isinstance T.ok (ja_cons (jv 0) (ja_cons (j_ga T.m11) ja_nil))) ja_nil))))))
    (jb_cons (jset 1 sc__law_marks.nd (b_add (jv 1) (je_lst (ja_cons (j_isX T.b_isinstance T.ok (ja_cons (jv 0) (ja_cons (j_ga T.m12) ja_nil))) (ja_cons (j_isX T.b_isinstance T.ok (ja_cons (jv 0) (ja_cons (j_ga T.m13) ja_nil))) (ja_cons (j_isX T.b_isinstance T.ok (ja_cons (jv 0) (ja_cons (j_ga T.m14) ja_nil))) ja_nil))))))
    (jb_cons (jset 1 sc__law_marks.nd (b_add (jv 1) (je_lst (ja_cons (j_isX T.b_isinstance T.ok (ja_cons (jv 0) (ja_cons (j_ga T.m15) ja_nil))) (ja_cons (j_isX T.b_isinstance T.ok (ja_cons (jv 0) (ja_cons (j_ga T.m16) ja_nil))) ja_nil)))))
    (jb_cons (jset 1 sc__law_marks.nd (b_add (jv 1) (je_lst (ja_cons (j_isX T.b_isinstance T.ok (ja_cons (jv 0) (ja_cons (j_ga T.m17) ja_nil))) ja_nil))))
    (jb_cons (jset 2 sc__law_marks.nd (je_lst (ja_cons (j_isX T.b_isinstance T.ok (ja_cons (jv 0) (ja_cons (j_ga T.m18) ja_nil))) (ja_cons (j_isX T.b_isinstance T.ok (ja_cons (jv 0) (ja_cons (j_ty T.b_ValueError) ja_nil))) ja_nil))))
    (jb_one (js_ret (je_tup (ja_cons (jv 1) (ja_cons (jv 2) (ja_cons (je_lst (ja_cons (j_isX T.b_isinstance T.ok (ja_cons (jv 0) (ja_cons (j_ga T.m19) ja_nil))) (ja_cons (j_isX T.b_isinstance T.ok (ja_cons (jv 0) (ja_cons (j_ty T.b_KeyError) ja_nil))) ja_nil))) ja_nil))))))))))))))
abbrev s__law_due : Stmt := top 32
theorem sc__law_due : FnScope ["which", "is_turn", "k"] ["which"] (defScope s__law_due) := ⟨rfl, rfl, rfl, by decide +kernel, rfl, by decide +kernel, by decide +kernel⟩
def t__law_due (K : PySem.W.Frag) (a : Ad) : TXS :=
    (xSeq (xAsg (xOp dLt (xVar 0) (xC (.int 14))) (gSet 1))
    (xRet (xTup (xCons (xLc (iR1 (xCons (xC (.int 18)) xNil)) (gSet 2) xYes (xOp dEq (xVar 2) (xVar 0)) [2]) (xCons (xOp dMul (xLst (xCons (xVar 1) xNil)) (xC (.int 2))) (xCons (xOp dMul (xLst (xCons (xNotV (xVar 1)) xNil)) (xC (.int 2))) xNil))))))
theorem j__law_due {f : Addr} {cdv : Value} {A : Around} {outer : List Env} {s : Shared} {H : Hp} {E : XK} (T : Txt P K mg a) (hr : RoomG 0 (A.deeper (PyProof.Rows.envOfC "_law_due" (defScope s__law_due) s.heap.objs.size f cdv))) :
    JB (cxD P w K mg base ["which", "is_turn", "k"] "_law_due" (defScope s__law_due) f cdv A outer s H E) (defBody s__law_due) ((xSeq (xAsg (xOp dLt (xVar 0) (xC (.int 14))) (gSet 1))
    (xRet (xTup (xCons (xLc (iR1 (xCons (xC (.int 18)) xNil)) (gSet 2) xYes (xOp dEq (xVar 2) (xVar 0)) [2]) (xCons (xOp dMul (xLst (xCons (xVar 1) xNil)) (xC (.int 2))) (xCons (xOp dMul (xLst (xCons (xNotV (xVar 1)) xNil)) (xC (.int 2))) xNil))))))) :=
    (jb_cons (jset 1 sc__law_due.nd (e_lt (jv 0) je_int))
    (jb_one (js_ret (je_tup (ja_cons (je_lc (own := [("k", 2)]) rfl sc__law_due.nd (ji_range1 rfl T.b_range (ja_cons je_int ja_nil)) (blkOk_by (N := ["which", "is_turn", "k"]) (sc := defScope s__law_due) (by decide +kernel)) (fun _ _ _ _ _ => (jgn (own := [2]) 2 sc__law_due.nd)) (fun _ _ _ _ _ => jts_nil) (fun _ _ _ _ _ => (e_eq hr (jv 2) (jv 0)))) (ja_cons (b_mul (je_lst (ja_cons (jv 1) ja_nil)) je_int) (ja_cons (b_mul (je_lst (ja_cons (je_notV (jv 1)) ja_nil)) je_int) ja_nil)))))))
abbrev s__law_raise : Stmt := top 34
theorem sc__law_raise : FnScope ["which", "it"] ["which", "it"] (defScope s__law_raise) := ⟨rfl, rfl, rfl, by decide +kernel, rfl, by decide +kernel, by decide +kernel⟩
def t__law_raise (K : PySem.W.Frag) (a : Ad) : TXS :=
    (xSeq (xIfS (xTest (xOp dEq (xVar 0) (xC (.int 8)))) (xRaise1 (a 8) "change" (xVar 1)) xNext)
    (xSeq (xIfS (xTest (xOp dEq (xVar 0) (xC (.int 11)))) (xRaise1 (a 11) "numbers" (xVar 1)) xNext)
    (xSeq (xIfS (xTest (xOp dEq (xVar 0) (xC (.int 13)))) (xRaise1 (a 13) "mixes" (xVar 1)) xNext)
    (xSeq (xIfS (xTest (xOp dEq (xVar 0) (xC (.int 15)))) (xRaise1 (a 15) "row" (xVar 1)) xNext)
    (xSeq (xIfS (xTest (xOp dEq (xVar 0) (xC (.int 16)))) (xRaise1 (a 16) "number" (xVar 1)) xNext)
    (xSeq (xIfS (xTest (xOp dEq (xVar 0) (xC (.int 4)))) (xRaise0 (a 4)) xNext)
    (xRaise0 (a 7))))))))
theorem j__law_raise {f : Addr} {cdv : Value} {A : Around} {outer : List Env} {s : Shared} {H : Hp} {E : XK} (T : Txt P K mg a) (hr : RoomG 0 (A.deeper (PyProof.Rows.envOfC "_law_raise" (defScope s__law_raise) s.heap.objs.size f cdv))) :
    JB (cxD P w K mg base ["which", "it"] "_law_raise" (defScope s__law_raise) f cdv A outer s H E) (defBody s__law_raise) ((xSeq (xIfS (xTest (xOp dEq (xVar 0) (xC (.int 8)))) (xRaise1 (a 8) "change" (xVar 1)) xNext)
    (xSeq (xIfS (xTest (xOp dEq (xVar 0) (xC (.int 11)))) (xRaise1 (a 11) "numbers" (xVar 1)) xNext)
    (xSeq (xIfS (xTest (xOp dEq (xVar 0) (xC (.int 13)))) (xRaise1 (a 13) "mixes" (xVar 1)) xNext)
    (xSeq (xIfS (xTest (xOp dEq (xVar 0) (xC (.int 15)))) (xRaise1 (a 15) "row" (xVar 1)) xNext)
    (xSeq (xIfS (xTest (xOp dEq (xVar 0) (xC (.int 16)))) (xRaise1 (a 16) "number" (xVar 1)) xNext)
    (xSeq (xIfS (xTest (xOp dEq (xVar 0) (xC (.int 4)))) (xRaise0 (a 4)) xNext)
    (xRaise0 (a 7))))))))) :=
    (jb_cons (js_if (q_eq hr (jv 0) je_int) (jb_one (js_raise1 rfl (T.x1 8 (by decide) (by decide)) hr.d1 rfl T.m8 (jv 1))) jb_nil)
    (jb_cons (js_if (q_eq hr (jv 0) je_int) (jb_one (js_raise1 rfl (T.x1 11 (by decide) (by decide)) hr.d1 rfl T.m11 (jv 1))) jb_nil)
    (jb_cons (js_if (q_eq hr (jv 0) je_int) (jb_one (js_raise1 rfl (T.x1 13 (by decide) (by decide)) hr.d1 rfl T.m13 (jv 1))) jb_nil)
    (jb_cons (js_if (q_eq hr (jv 0) je_int) (jb_one (js_raise1 rfl (T.x1 15 (by decide) (by decide)) hr.d1 rfl T.m15 (jv 1))) jb_nil)
    (jb_cons (js_if (q_eq hr (jv 0) je_int) (jb_one (js_raise1 rfl (T.x1 16 (by decide) (by decide)) hr.d1 rfl T.m16 (jv 1))) jb_nil)
    (jb_cons (js_if (q_eq hr (jv 0) je_int) (jb_one (js_raise0 rfl (T.x0 4 (by decide)) hr.d1 rfl T.m4)) jb_nil)
    (jb_one (js_raise0 rfl (T.x0 7 (by decide)) hr.d1 rfl T.m7))))))))
abbrev s__law_raised : Stmt := top 33
theorem sc__law_raised : FnScope ["which", "it", "wide", "found", "e"] ["which", "it", "wide"] (defScope s__law_raised) := ⟨rfl, rfl, rfl, by decide +kernel, rfl, by decide +kernel, by decide +kernel⟩
def t__law_raised (K : PySem.W.Frag) (a : Ad) : TXS :=
    (xSeq (xAsg (xC (.str "none")) (gSet 3))
    (xSeq (xTry K (xDrop (xCall (S_raise a) [] (xCons (xVar 0) (xCons (xVar 1) xNil)))) [(.ref (a 8), some 4, fun ae cls d => (xAsg (xIf (xAnd (xTest (xOp dEq (xVar 0) (xC (.int 8)))) (xTest (xOp dEq (xCB cRepr (xCons (xCau (okX a "change") ae cls d "change" (xVar 4)) xNil)) (xCB cRepr (xCons (xVar 1) xNil))))) (xC (.str "own")) (xC (.str "odd"))) (gSet 3))), (.ref (a 13), some 4, fun ae cls d => (xAsg (xIf (xAnd (xTest (xOp dEq (xVar 0) (xC (.int 13)))) (xTest (xOp dEq (xCB cRepr (xCons (xCau (okX a "mixes") ae cls d "mixes" (xVar 4)) xNil)) (xCB cRepr (xCons (xVar 1) xNil))))) (xC (.str "own")) (xC (.str "odd"))) (gSet 3))), (.ref (a 15), some 4, fun ae cls d => (xAsg (xIf (xAnd (xTest (xOp dEq (xVar 0) (xC (.int 15)))) (xTest (xOp dEq (xCB cRepr (xCons (xCau (okX a "row") ae cls d "row" (xVar 4)) xNil)) (xCB cRepr (xCons (xVar 1) xNil))))) (xC (.str "own")) (xC (.str "odd"))) (gSet 3))), (.ref (a 18), none, fun ae cls d => (xAsg (xC (.str "turn")) (gSet 3))), (.ref (a 19), none, fun ae cls d => (xAsg (xC (.str "unknown")) (gSet 3)))])
    (xRet (xOp dEq (xVar 3) (xIf (xTest (xOp (dIn false) (xVar 0) (xTup (xCons (xC (.int 8)) (xCons (xC (.int 13)) (xCons (xC (.int 15)) xNil)))))) (xC (.str "own")) (xVar 2))))))
theorem j__law_raised {f : Addr} {cdv : Value} {A : Around} {outer : List Env} {s : Shared} {H : Hp} {E : XK} (T : Txt P K mg a) (O__law_raise : OkD P w K mg base 1 "_law_raise" ["which", "it"] (S_raise a)) (hr : RoomG 1 (A.deeper (PyProof.Rows.envOfC "_law_raised" (defScope s__law_raised) s.heap.objs.size f cdv))) :
    JB (cxD P w K mg base ["which", "it", "wide", "found", "e"] "_law_raised" (defScope s__law_raised) f cdv A outer s H E) (defBody s__law_raised) ((xSeq (xAsg (xC (.str "none")) (gSet 3))
    (xSeq (xTry K (xDrop (xCall (S_raise a) [] (xCons (xVar 0) (xCons (xVar 1) xNil)))) [(.ref (a 8), some 4, fun ae cls d => (xAsg (xIf (xAnd (xTest (xOp dEq (xVar 0) (xC (.int 8)))) (xTest (xOp dEq (xCB cRepr (xCons (xCau (okX a "change") ae cls d "change" (xVar 4)) xNil)) (xCB cRepr (xCons (xVar 1) xNil))))) (xC (.str "own")) (xC (.str "odd"))) (gSet 3))), (.ref (a 13), some 4, fun ae cls d => (xAsg (xIf (xAnd (xTest (xOp dEq (xVar 0) (xC (.int 13)))) (xTest (xOp dEq (xCB cRepr (xCons (xCau (okX a "mixes") ae cls d "mixes" (xVar 4)) xNil)) (xCB cRepr (xCons (xVar 1) xNil))))) (xC (.str "own")) (xC (.str "odd"))) (gSet 3))), (.ref (a 15), some 4, fun ae cls d => (xAsg (xIf (xAnd (xTest (xOp dEq (xVar 0) (xC (.int 15)))) (xTest (xOp dEq (xCB cRepr (xCons (xCau (okX a "row") ae cls d "row" (xVar 4)) xNil)) (xCB cRepr (xCons (xVar 1) xNil))))) (xC (.str "own")) (xC (.str "odd"))) (gSet 3))), (.ref (a 18), none, fun ae cls d => (xAsg (xC (.str "turn")) (gSet 3))), (.ref (a 19), none, fun ae cls d => (xAsg (xC (.str "unknown")) (gSet 3)))])
    (xRet (xOp dEq (xVar 3) (xIf (xTest (xOp (dIn false) (xVar 0) (xTup (xCons (xC (.int 8)) (xCons (xC (.int 13)) (xCons (xC (.int 15)) xNil)))))) (xC (.str "own")) (xVar 2))))))) :=
    (jb_cons (jset 3 sc__law_raised.nd je_str)
    (jb_cons (js_try (fun pn xe => (jb_one (js_expr (je_cf O__law_raise hr (ja_cons (jv 0) (ja_cons (jv 1) ja_nil)))))) (.consA sc__law_raised.nd rfl rfl ⟨rfl, by decide, .inl T.m8⟩ (fun ae oe cls d pn hz hf => (jb_one (jset 3 sc__law_raised.nd (je_if (JW.jt (jw_and (q_eqU hr.u64 (jv 0) je_int) (jw_and1 (q_eqU hr.u64 (j_repr T.b_repr hr.gd hr.u65 (ja_cons (je_cau (T.okf "change") hz hf (jv 4)) ja_nil)) (j_repr T.b_repr hr.gd hr.u65 (ja_cons (jv 1) ja_nil)))))) je_str je_str)))) (.consA sc__law_raised.nd rfl rfl ⟨rfl, by decide, .inl T.m13⟩ (fun ae oe cls d pn hz hf => (jb_one (jset 3 sc__law_raised.nd (je_if (JW.jt (jw_and (q_eqU hr.u64 (jv 0) je_int) (jw_and1 (q_eqU hr.u64 (j_repr T.b_repr hr.gd hr.u65 (ja_cons (je_cau (T.okf "mixes") hz hf (jv 4)) ja_nil)) (j_repr T.b_repr hr.gd hr.u65 (ja_cons (jv 1) ja_nil)))))) je_str je_str)))) (.consA sc__law_raised.nd rfl rfl ⟨rfl, by decide, .inl T.m15⟩ (fun ae oe cls d pn hz hf => (jb_one (jset 3 sc__law_raised.nd (je_if (JW.jt (jw_and (q_eqU hr.u64 (jv 0) je_int) (jw_and1 (q_eqU hr.u64 (j_repr T.b_repr hr.gd hr.u65 (ja_cons (je_cau (T.okf "row") hz hf (jv 4)) ja_nil)) (j_repr T.b_repr hr.gd hr.u65 (ja_cons (jv 1) ja_nil)))))) je_str je_str)))) (.cons ⟨rfl, by decide, .inl T.m18⟩ (fun ae oe cls d pn hz hf => (jb_one (jset 3 sc__law_raised.nd je_str))) (.cons ⟨rfl, by decide, .inl T.m19⟩ (fun ae oe cls d pn hz hf => (jb_one (jset 3 sc__law_raised.nd je_str))) .nil))))))
    (jb_one (js_ret (e_eq hr (jv 3) (je_if (q_in hr (jv 0) (je_tup (ja_cons je_int (ja_cons je_int (ja_cons je_int ja_nil))))) je_str (jv 2)))))))
abbrev s_law : Stmt := top 35
theorem sc_law : FnScope ["script", "source", "which", "turn", "it", "kept", "error", "wide"] ["script"] (defScope s_law) := ⟨rfl, rfl, rfl, by decide +kernel, rfl, by decide +kernel, by decide +kernel⟩
def t_law (K : PySem.W.Frag) (a : Ad) : TXS :=
    (xSeq (xAsg (xCall S_source [] (xCons (xVar 0) xNil)) (gSet 1))
    (xSeq (xFor (iR1 (xCons (xC (.int 8)) xNil)) (gSet 2) (xIfS (xTest (xOp dNe (xCall (S_marks a) [] (xCons (xCall (S_bare a) [] (xCons (xVar 2) xNil)) xNil)) (xCall S_due [] (xCons (xVar 2) xNil)))) (xRet (xC (.bl false))) xNext))
    (xSeq (xFor (iR1 (xCons (xC (.int 12)) xNil)) (gSet 3) (xSeq (xAsg (xCall (S_valueN 4) [] (xCons (xVar 1) (xCons (xC (.int 3)) xNil))) (gSet 4))
    (xSeq (xAsg (xCB cRepr (xCons (xVar 4) xNil)) (gSet 5))
    (xSeq (xFor (iR2 (xCons (xC (.int 8)) (xCons (xC (.int 18)) xNil))) (gSet 2) (xFor (iT (xTup (xCons (xCall (S_made a) [] (xCons (xVar 2) (xCons (xVar 4) xNil))) (xCons (xCall (S_made a) [] (xCons (xVar 2) (xCons (xVar 4) xNil))) xNil)))) (gSet 6) (xIfS (xOr (xTest (xOp dNe (xCall (S_marks a) [] (xCons (xVar 6) xNil)) (xCall S_due [] (xCons (xVar 2) xNil)))) (xTest (xOp dNe (xCB cRepr (xCons (xCall (S_held a) [] (xCons (xVar 2) (xCons (xVar 6) xNil))) xNil)) (xVar 5)))) (xRet (xC (.bl false))) xNext)))
    (xSeq (xFor (iT (xTup (xCons (xTup (xCons (xC (.int 8)) (xCons (xC (.str "")) xNil))) (xCons (xTup (xCons (xC (.int 13)) (xCons (xC (.str "")) xNil))) (xCons (xTup (xCons (xC (.int 11)) (xCons (xC (.str "turn")) xNil))) (xCons (xTup (xCons (xC (.int 15)) (xCons (xC (.str "")) xNil))) (xCons (xTup (xCons (xC (.int 16)) (xCons (xC (.str "unknown")) xNil))) (xCons (xTup (xCons (xC (.int 4)) (xCons (xC (.str "turn")) xNil))) (xCons (xTup (xCons (xC (.int 7)) (xCons (xC (.str "turn")) xNil))) xNil))))))))) (gTupD 2 (gsCons (gSet 2) (gsCons (gSet 7) gsNil))) (xIfS (xNot (xTru (xCall (S_raised a) [] (xCons (xVar 2) (xCons (xVar 4) (xCons (xVar 7) xNil)))))) (xRet (xC (.bl false))) xNext))
    (xIfS (xTest (xOp dNe (xCB cRepr (xCons (xVar 4) xNil)) (xVar 5))) (xRet (xC (.bl false))) xNext))))))
    (xRet (xC (.bl true))))))
theorem j_law {f : Addr} {cdv : Value} {A : Around} {outer : List Env} {s : Shared} {H : Hp} {E : XK} (T : Txt P K mg a) (O__law_source : OkD P w K mg base 1 "_law_source" ["script"] S_source) (O__law_value : OkD P w K mg base 7 "_law_value" ["source", "deep"] (S_valueN 4)) (O__law_bare : OkD P w K mg base 1 "_law_bare" ["which"] (S_bare a)) (O__law_made : OkD P w K mg base 1 "_law_made" ["which", "it"] (S_made a)) (O__law_made_by_name : OkD P w K mg base 1 "_law_made_by_name" ["which", "it"] (S_made a)) (O__law_held : OkD P w K mg base 1 "_law_held" ["which", "error"] (S_held a)) (O__law_marks : OkD P w K mg base 1 "_law_marks" ["error"] (S_marks a)) (O__law_due : OkD P w K mg base 1 "_law_due" ["which"] S_due) (O__law_raised : OkD P w K mg base 2 "_law_raised" ["which", "it", "wide"] (S_raised a)) (hr : RoomG 20 (A.deeper (PyProof.Rows.envOfC "law" (defScope s_law) s.heap.objs.size f cdv))) :
    JB (cxD P w K mg base ["script", "source", "which", "turn", "it", "kept", "error", "wide"] "law" (defScope s_law) f cdv A outer s H E) (defBody s_law) ((xSeq (xAsg (xCall S_source [] (xCons (xVar 0) xNil)) (gSet 1))
    (xSeq (xFor (iR1 (xCons (xC (.int 8)) xNil)) (gSet 2) (xIfS (xTest (xOp dNe (xCall (S_marks a) [] (xCons (xCall (S_bare a) [] (xCons (xVar 2) xNil)) xNil)) (xCall S_due [] (xCons (xVar 2) xNil)))) (xRet (xC (.bl false))) xNext))
    (xSeq (xFor (iR1 (xCons (xC (.int 12)) xNil)) (gSet 3) (xSeq (xAsg (xCall (S_valueN 4) [] (xCons (xVar 1) (xCons (xC (.int 3)) xNil))) (gSet 4))
    (xSeq (xAsg (xCB cRepr (xCons (xVar 4) xNil)) (gSet 5))
    (xSeq (xFor (iR2 (xCons (xC (.int 8)) (xCons (xC (.int 18)) xNil))) (gSet 2) (xFor (iT (xTup (xCons (xCall (S_made a) [] (xCons (xVar 2) (xCons (xVar 4) xNil))) (xCons (xCall (S_made a) [] (xCons (xVar 2) (xCons (xVar 4) xNil))) xNil)))) (gSet 6) (xIfS (xOr (xTest (xOp dNe (xCall (S_marks a) [] (xCons (xVar 6) xNil)) (xCall S_due [] (xCons (xVar 2) xNil)))) (xTest (xOp dNe (xCB cRepr (xCons (xCall (S_held a) [] (xCons (xVar 2) (xCons (xVar 6) xNil))) xNil)) (xVar 5)))) (xRet (xC (.bl false))) xNext)))
    (xSeq (xFor (iT (xTup (xCons (xTup (xCons (xC (.int 8)) (xCons (xC (.str "")) xNil))) (xCons (xTup (xCons (xC (.int 13)) (xCons (xC (.str "")) xNil))) (xCons (xTup (xCons (xC (.int 11)) (xCons (xC (.str "turn")) xNil))) (xCons (xTup (xCons (xC (.int 15)) (xCons (xC (.str "")) xNil))) (xCons (xTup (xCons (xC (.int 16)) (xCons (xC (.str "unknown")) xNil))) (xCons (xTup (xCons (xC (.int 4)) (xCons (xC (.str "turn")) xNil))) (xCons (xTup (xCons (xC (.int 7)) (xCons (xC (.str "turn")) xNil))) xNil))))))))) (gTupD 2 (gsCons (gSet 2) (gsCons (gSet 7) gsNil))) (xIfS (xNot (xTru (xCall (S_raised a) [] (xCons (xVar 2) (xCons (xVar 4) (xCons (xVar 7) xNil)))))) (xRet (xC (.bl false))) xNext))
    (xIfS (xTest (xOp dNe (xCB cRepr (xCons (xVar 4) xNil)) (xVar 5))) (xRet (xC (.bl false))) xNext))))))
    (xRet (xC (.bl true))))))) :=
    (jb_cons (jset 1 sc_law.nd (je_cf O__law_source hr (ja_cons (jv 0) ja_nil)))
    (jb_cons (js_for (passes_of rfl) rfl (ji_range1 rfl T.b_range (ja_cons je_int ja_nil)) (jgn (own := [2]) 2 sc_law.nd).jg (jb_one (js_if (q_ne hr (je_cf O__law_marks hr (ja_cons (je_cf O__law_bare hr (ja_cons (jv 2) ja_nil)) ja_nil)) (je_cf O__law_due hr (ja_cons (jv 2) ja_nil))) (jb_one (js_ret je_bl)) jb_nil)))
    (jb_cons (js_for (passes_of rfl) rfl (ji_range1 rfl T.b_range (ja_cons je_int ja_nil)) (jgn (own := [3]) 3 sc_law.nd).jg (jb_cons (jset 4 sc_law.nd (je_cf O__law_value hr (ja_cons (jv 1) (ja_cons je_int ja_nil))))
    (jb_cons (jset 5 sc_law.nd (j_repr T.b_repr hr.gd hr.u65 (ja_cons (jv 4) ja_nil)))
    (jb_cons (js_for (passes_of rfl) rfl (ji_range2 rfl T.b_range (ja_cons je_int (ja_cons je_int ja_nil))) (jgn (own := [2]) 2 sc_law.nd).jg (jb_one (js_for (passes_of rfl) rfl (ji_tup (je_tup (ja_cons (je_cf O__law_made hr (ja_cons (jv 2) (ja_cons (jv 4) ja_nil))) (ja_cons (je_cf O__law_made_by_name hr (ja_cons (jv 2) (ja_cons (jv 4) ja_nil))) ja_nil)))) (jgn (own := [6]) 6 sc_law.nd).jg (jb_one (js_if (JW.jt (jw_or (q_ne hr (je_cf O__law_marks hr (ja_cons (jv 6) ja_nil)) (je_cf O__law_due hr (ja_cons (jv 2) ja_nil))) (jw_or1 (q_ne hr (j_repr T.b_repr hr.gd hr.u65 (ja_cons (je_cf O__law_held hr (ja_cons (jv 2) (ja_cons (jv 6) ja_nil))) ja_nil)) (jv 5))))) (jb_one (js_ret je_bl)) jb_nil)))))
    (jb_cons (js_for (passes_of rfl) rfl (ji_tup (je_tup (ja_cons (je_tup (ja_cons je_int (ja_cons je_str ja_nil))) (ja_cons (je_tup (ja_cons je_int (ja_cons je_str ja_nil))) (ja_cons (je_tup (ja_cons je_int (ja_cons je_str ja_nil))) (ja_cons (je_tup (ja_cons je_int (ja_cons je_str ja_nil))) (ja_cons (je_tup (ja_cons je_int (ja_cons je_str ja_nil))) (ja_cons (je_tup (ja_cons je_int (ja_cons je_str ja_nil))) (ja_cons (je_tup (ja_cons je_int (ja_cons je_str ja_nil))) ja_nil))))))))) (jgw_tup (own := [2, 7]) rfl (jgsw_cons (jgn (own := [2, 7]) 2 sc_law.nd) (jgsw_cons (jgn (own := [2, 7]) 7 sc_law.nd) jgsw_nil))).jg (jb_one (js_if (jt_not (jt_val (je_cf O__law_raised hr (ja_cons (jv 2) (ja_cons (jv 4) (ja_cons (jv 7) ja_nil)))))) (jb_one (js_ret je_bl)) jb_nil)))
    (jb_one (js_if (q_ne hr (j_repr T.b_repr hr.gd hr.u65 (ja_cons (jv 4) ja_nil)) (jv 5)) (jb_one (js_ret je_bl)) jb_nil)))))))
    (jb_one (js_ret je_bl)))))
end
end K1

set_option Elab.async false
set_option linter.all false
set_option maxRecDepth 100000
set_option maxHeartbeats 4000000
/-! DV: steps for the sources' promises. -/
namespace DL
open PySem L2
theorem ixm {W : Wd} {p : Addr} {ds : List Dt} {i : Int} {d : Dt} {Q : DQ} (h : W.m p = some (.lst ds)) (e : atI ds i = some d) (q : Q d W) : dIx (.at p) (.int i) W Q := by
  have l : lof (.at p) W = some ds := by simp only [lof, h]
  show (match lof (.at p) W with | some ds => (match atI ds i with | some d => Q d W | none => False) | none => False)
  rw [l]
  show (match atI ds i with | some d => Q d W | none => False)
  rw [e]; exact q
theorem stm {W : Wd} {p : Addr} {ds : List Dt} {i : Int} {j : Nat} {d : Dt} {Γ : Sl} {Q : Sl → Wd → Prop} (h : W.m p = some (.lst ds)) (e : ixN ds.length i = some j) (q : Q Γ (W.put p (.lst (ds.set j d)))) :
    dmAt (fun p xs => match ixN xs.length i with | some j => Q Γ (W.put p (.lst (xs.set j d))) | none => False) (.at p) W := by
  show (match W.m p with | some (.lst ds) => (match ixN ds.length i with | some j => Q Γ (W.put p (.lst (ds.set j d))) | none => False) | _ => False)
  rw [h]
  show (match ixN ds.length i with | some j => Q Γ (W.put p (.lst (ds.set j d))) | none => False)
  rw [e]; exact q
theorem tym {W : Wd} {p : Addr} {ds : List Dt} (h : W.m p = some (.lst ds)) : tyD "list" (.at p) W := by
  have l : lof (.at p) W = some ds := by simp only [lof, h]
  show (match lof (.at p) W with | some _ => "list" = "list" | none => False)
  rw [l]
theorem plains_ints : ∀ l : List Int, plains (l.map Dt.int) = true
  | [] => rfl
  | _ :: r => plains_ints r
theorem canLay_ints : ∀ l : List Int, PyData.canLayAll0 (pys (l.map Dt.int)) = true
  | [] => rfl
  | _ :: r => canLay_ints r
theorem depth_ints : ∀ l : List Int, PyData.depthAll (pys (l.map Dt.int)) = 0
  | [] => rfl
  | _ :: r => by
    show max (PyData.depth (.int _)) (PyData.depthAll (pys (r.map Dt.int))) = 0
    rw [depth_ints r]; rfl
theorem okD_ints (l : List Int) : okD (.lst (l.map Dt.int)) := by
  refine ⟨plains_ints l, ?_⟩
  unfold SeqAt.shaped
  rw [Bool.and_eq_true]
  refine ⟨canLay_ints l, decide_eq_true ?_⟩
  show PyData.depth (.list (pys (l.map Dt.int))) ≤ 64
  simp only [PyData.depth, depth_ints]
  decide
theorem nem {W : Wd} {c : Addr} {l : List Int} {Q : DQ} (h : W.m c = some (.lst (l.map Dt.int))) (q : Q (.bl (!l.isEmpty)) W) : dNe (.at c) (.lst []) W Q := by
  have e : res (.at c) W = .lst (l.map Dt.int) := by simp only [res, h]
  show (match res (.at c) W, Dt.lst [] with | .int i, .int j => Q (.bl (!decide (i = j))) W | .str i, .str j => Q (.bl (!decide (i = j))) W | .bl i, .bl j => Q (.bl (!decide (i = j))) W | x', y' => okD x' ∧ okD y' ∧ Q (.bl (!PyData.eqv (py x') (py y'))) W)
  rw [e]
  refine ⟨okD_ints l, okD_ints [], ?_⟩
  cases l with
  | nil => exact q
  | cons _ _ => exact q
theorem popm {W : Wd} {c : Addr} {d : Dt} {r : List Dt} {Q : DQ} (h : W.m c = some (.lst (d :: r))) (q : Q d (W.put c (.lst r))) : mPop (.at c) [.int 0] W Q := by
  show (match W.m c with | some (.lst xs) => ((-(2 ^ 63) ≤ (0 : Int) ∧ (0 : Int) < 2 ^ 63) ∧ match ixN xs.length 0 with | some k => (match xs[k]? with | some y => Q y (W.put c (.lst (xs.eraseIdx k))) | none => False) | none => False) | _ => False)
  rw [h]
  refine ⟨by decide, ?_⟩
  have e : ixN (d :: r).length 0 = some 0 := by unfold ixN; rw [if_pos (by decide), if_pos (by simp)]; rfl
  show (match ixN (d :: r).length 0 with | some k => (match (d :: r)[k]? with | some y => Q y (W.put c (.lst ((d :: r).eraseIdx k))) | none => False) | none => False)
  rw [e]; exact q
theorem insm {W : Wd} {c : Addr} {y : Dt} {r : List Dt} {Q : DQ} (h : W.m c = some (.lst r)) (hl : r.length < sizeLine) (q : Q .non (W.put c (.lst (y :: r)))) : mInsert (.at c) [.int 0, y] W Q := by
  show (match W.m c with | some (.lst xs) => ((0 ≤ (0 : Int) ∧ (0 : Int) < 2 ^ 63 ∧ xs.length < sizeLine) ∧ Q .non (W.put c (.lst (xs.take (0 : Int).toNat ++ [y] ++ xs.drop (0 : Int).toNat)))) | _ => False)
  rw [h]
  exact ⟨⟨by decide, by decide, hl⟩, q⟩
theorem put_same {W : Wd} {c : Addr} {o : MO} (h : W.m c = some o) : W.put c o = W := by
  obtain ⟨m, s⟩ := W
  have e : (fun b => if b = c then some o else m b) = m := by
    funext b
    by_cases hb : b = c
    · subst hb; simp; exact h.symm
    · simp [hb]
  show (⟨fun b => if b = c then some o else m b, s⟩ : Wd) = ⟨m, s⟩
  rw [e]
theorem fm_ge {x m : Int} (h : 0 < m) : 0 ≤ x.fmod m := Int.fmod_nonneg_of_pos x h
theorem fm_lt {x m : Int} (h : 0 < m) : x.fmod m < m := Int.fmod_lt_of_pos x h
theorem fm_mul {x m y : Int} (h : 0 < m) (h2 : m ≤ 2 ^ 62) : CMul (x.fmod m) y := .inl ⟨by have := fm_ge (x := x) h; omega, by have := fm_lt (x := x) h; omega⟩
theorem dm_at {F : Addr → List Dt → Prop} {W : Wd} {p : Addr} {ds : List Dt} (h : W.m p = some (.lst ds)) (q : F p ds) : dmAt F (.at p) W := by
  show (match W.m p with | some (.lst ds) => F p ds | _ => False)
  rw [h]; exact q
section
variable {i j : Int} {W : Wd} {Q : DQ}
theorem add_ii (q : Q (.int (i + j)) W) : dAdd (.int i) (.int j) W Q := q
theorem sub_ii (q : Q (.int (i - j)) W) : dSub (.int i) (.int j) W Q := q
theorem mul_ii (h : CMul i j) (q : Q (.int (i * j)) W) : dMul (.int i) (.int j) W Q := ⟨h, q⟩
theorem mod_ii (h : j ≠ 0) (q : Q (.int (i.fmod j)) W) : dMod (.int i) (.int j) W Q := ⟨h, q⟩
theorem fdv_ii (h : CDivN i j) (q : Q (.int (i.fdiv j)) W) : dFdv (.int i) (.int j) W Q := ⟨h, q⟩
theorem pow_ii (h : CPow i j) (q : Q (.int (i ^ j.toNat)) W) : dPow (.int i) (.int j) W Q := ⟨h, q⟩
theorem lt_ii (q : Q (.bl (decide (i < j))) W) : dLt (.int i) (.int j) W Q := q
theorem le_ii (q : Q (.bl (decide (i ≤ j))) W) : dLe (.int i) (.int j) W Q := q
theorem gt_ii (q : Q (.bl (decide (j < i))) W) : dGt (.int i) (.int j) W Q := q
theorem ge_ii (q : Q (.bl (decide (j ≤ i))) W) : dGe (.int i) (.int j) W Q := q
theorem eq_ii (q : Q (.bl (decide (i = j))) W) : dEq (.int i) (.int j) W Q := q
theorem ne_ii (q : Q (.bl (!decide (i = j))) W) : dNe (.int i) (.int j) W Q := q
theorem eq_ss {x y : Str} (q : Q (.bl (decide (x = y))) W) : dEq (.str x) (.str y) W Q := q
theorem ne_ss {x y : Str} (q : Q (.bl (!decide (x = y))) W) : dNe (.str x) (.str y) W Q := q
end
end DL

set_option Elab.async false
set_option linter.all false
set_option maxRecDepth 100000
set_option maxHeartbeats 4000000
/-! K1B: k01: the promises kept. -/
namespace K1
open PySem L2 DL PySem.DEX
open PySem.W (Frag)
/-- a comprehension of one value each, the world unchanged -/
theorem lcL_map {stay : Wd → Prop} {g : TXG} {te : TX} {Γ : Sl} {Q : List Dt → Wd → Prop} {W : Wd} (f : Dt → Dt) (st : stay W) : ∀ (ds acc : List Dt), (∀ x ∈ ds, ∀ R : DQ, R (f x) W → g x Γ W fun Γ2 W2 => te Γ2 W2 R E0D) → acc.length + ds.length ≤ sizeLine → Q (acc ++ ds.map f) W →
    (∀ x ∈ ds, ∀ G G' : Sl → Wd → Prop, (∀ Γ2 W2, G Γ2 W2 → G' Γ2 W2) → g x Γ W G → g x Γ W G') → lcL stay g xYes te Γ Q ds acc W
  | [], acc, _, _, q, _ => ⟨st, by simpa using q⟩
  | x :: r, acc, h, hl, q, hm => by
    refine ⟨st, hm x (by simp) _ _ (fun Γ2 W2 z => ?_) (h x (by simp) (fun y W4 => acc.length < sizeLine ∧ lcL stay g xYes te Γ Q r (acc ++ [y]) W4) ⟨by simp at hl; omega, ?_⟩)⟩
    · show (if true = true then _ else _)
      rw [if_pos rfl]; exact z
    · exact lcL_map f st r (acc ++ [f x]) (fun y hy => h y (by simp [hy])) (by simp at hl ⊢; omega) (by simpa using q) (fun y hy => hm y (by simp [hy]))
theorem okD_dec {d : Dt} (h : (plain d && SeqAt.shaped (py d)) = true) : okD d := by
  rw [Bool.and_eq_true] at h; exact h
theorem show_res {d : Dt} {W : Wd} (h : ShowOk d) : res d W = d := by
  have := h.pl
  cases d <;> first | rfl | cases this
section
variable {P : Program} {w : World} {K : Frag} {mg : Str → Option Value} {base : Heap} {a : Ad}
theorem ok_pick (T : Txt P K mg a) (d : DefD K mg "_law_pick" ["source", "items"] s__law_pick) (O : OkD P w K mg base 1 "_law_draw" ["source", "many"] S_draw) : OkD P w K mg base 2 "_law_pick" ["source", "items"] S_pick := by
  refine okF d sc__law_pick (fun ds W Q E h => ?_) (fun f cdv A outer s H E hr => j__law_pick T O hr) fun ds W Q E h => ?_
  · obtain ⟨p, n, l, rfl, _⟩ := h; rfl
  · obtain ⟨p, n, l, rfl, ⟨c, hs⟩, hn, hl, hl2, hq⟩ := h
    have hpos : 0 < l.length := List.length_pos_iff.mpr hl
    refine ⟨p, c, n, l.length, rfl, hs, by omega, by omega, by omega, fun k k0 k1 => ?_⟩
    obtain ⟨m, rfl⟩ := Int.eq_ofNat_of_zero_le k0
    have hm : m < l.length := by omega
    have e : atI l (m : Int) = some l[m] := by
      unfold atI
      rw [show ixN l.length (m : Int) = some m from by unfold ixN; rw [if_pos (by omega)]; simp; omega]
      exact List.getElem?_eq_getElem hm
    show (match atI l (m : Int) with | some d => Q d (W.drawn (n + 1)) | none => False)
    rw [e]
    exact hq _ (List.getElem_mem hm)
theorem ok_bare (T : Txt P K mg a) (d : DefD K mg "_law_bare" ["which"] s__law_bare) : OkD P w K mg base 1 "_law_bare" ["which"] (S_bare a) := by
  refine okF d sc__law_bare (fun ds W Q E h => ?_) (fun f cdv A outer s H E hr => j__law_bare T hr) fun ds W Q E h => ?_
  · obtain ⟨i, _, rfl, _⟩ := h; rfl
  · obtain ⟨i, hi, rfl, hq⟩ := h
    match i, hi with
    | 0, _ => exact hq
    | 1, _ => exact hq
    | 2, _ => exact hq
    | 3, _ => exact hq
    | 4, _ => exact hq
    | 5, _ => exact hq
    | 6, _ => exact hq
    | 7, _ => exact hq
    | i + 8, h => omega
theorem ok_made (T : Txt P K mg a) (d : DefD K mg "_law_made" ["which", "it"] s__law_made) : OkD P w K mg base 1 "_law_made" ["which", "it"] (S_made a) := by
  refine okF d sc__law_made (fun ds W Q E h => ?_) (fun f cdv A outer s H E hr => j__law_made T hr) fun ds W Q E h => ?_
  · obtain ⟨i, d, _, _, rfl, _⟩ := h; rfl
  · obtain ⟨i, d, h8, hi, rfl, hq⟩ := h
    match i, h8, hi with
    | 8, _, _ => exact hq
    | 9, _, _ => exact hq
    | 10, _, _ => exact hq
    | 11, _, _ => exact hq
    | 12, _, _ => exact hq
    | 13, _, _ => exact hq
    | 14, _, _ => exact hq
    | 15, _, _ => exact hq
    | 16, _, _ => exact hq
    | 17, _, _ => exact hq
    | i + 18, _, h => omega
theorem ok_made_by_name (T : Txt P K mg a) (d : DefD K mg "_law_made_by_name" ["which", "it"] s__law_made_by_name) : OkD P w K mg base 1 "_law_made_by_name" ["which", "it"] (S_made a) := by
  refine okF d sc__law_made_by_name (fun ds W Q E h => ?_) (fun f cdv A outer s H E hr => j__law_made_by_name T hr) fun ds W Q E h => ?_
  · obtain ⟨i, d, _, _, rfl, _⟩ := h; rfl
  · obtain ⟨i, d, h8, hi, rfl, hq⟩ := h
    match i, h8, hi with
    | 8, _, _ => exact hq
    | 9, _, _ => exact hq
    | 10, _, _ => exact hq
    | 11, _, _ => exact hq
    | 12, _, _ => exact hq
    | 13, _, _ => exact hq
    | 14, _, _ => exact hq
    | 15, _, _ => exact hq
    | 16, _, _ => exact hq
    | 17, _, _ => exact hq
    | i + 18, _, h => omega
theorem okA : okD (.tup [.int 9, .int 14, .int 17]) := okD_dec (by decide +kernel)
theorem okB : okD (.tup [.int 10, .int 16]) := okD_dec (by decide +kernel)
theorem ok_held (T : Txt P K mg a) (d : DefD K mg "_law_held" ["which", "error"] s__law_held) : OkD P w K mg base 1 "_law_held" ["which", "error"] (S_held a) := by
  refine okF d sc__law_held (fun ds W Q E h => ?_) (fun f cdv A outer s H E hr => j__law_held T hr) fun ds W Q E h => ?_
  · obtain ⟨i, d, _, _, rfl, _⟩ := h; rfl
  · obtain ⟨i, d, h8, hi, rfl, hq⟩ := h
    have hl : ∀ n : Nat, 3 ≤ sizeLine := fun _ => by rw [sizeLine_eq]; omega
    match i, h8, hi with
    | 8, _, _ => exact ⟨⟨8, by decide, by decide, rfl, rfl⟩, hq⟩
    | 9, _, _ => exact ⟨by rw [sizeLine_eq]; decide, okD_int _, okA, ⟨9, by decide, by decide, rfl, rfl⟩, hq⟩
    | 10, _, _ => exact ⟨by rw [sizeLine_eq]; decide, okD_int _, okA, by rw [sizeLine_eq]; decide, okD_int _, okB, ⟨10, by decide, by decide, rfl, rfl⟩, hq⟩
    | 11, _, _ => exact ⟨by rw [sizeLine_eq]; decide, okD_int _, okA, by rw [sizeLine_eq]; decide, okD_int _, okB, ⟨11, by decide, by decide, rfl, rfl⟩, hq⟩
    | 12, _, _ => exact ⟨by rw [sizeLine_eq]; decide, okD_int _, okA, by rw [sizeLine_eq]; decide, okD_int _, okB, ⟨12, by decide, by decide, rfl, rfl⟩, hq⟩
    | 13, _, _ => exact ⟨by rw [sizeLine_eq]; decide, okD_int _, okA, by rw [sizeLine_eq]; decide, okD_int _, okB, ⟨13, by decide, by decide, rfl, rfl⟩, hq⟩
    | 14, _, _ => exact ⟨by rw [sizeLine_eq]; decide, okD_int _, okA, ⟨14, by decide, by decide, rfl, rfl⟩, hq⟩
    | 15, _, _ => exact ⟨by rw [sizeLine_eq]; decide, okD_int _, okA, by rw [sizeLine_eq]; decide, okD_int _, okB, ⟨15, by decide, by decide, rfl, rfl⟩, hq⟩
    | 16, _, _ => exact ⟨by rw [sizeLine_eq]; decide, okD_int _, okA, by rw [sizeLine_eq]; decide, okD_int _, okB, ⟨16, by decide, by decide, rfl, rfl⟩, hq⟩
    | 17, _, _ => exact ⟨by rw [sizeLine_eq]; decide, okD_int _, okA, ⟨17, by decide, by decide, rfl, rfl⟩, hq⟩
    | i + 18, _, h => omega
theorem ok_raise (T : Txt P K mg a) (d : DefD K mg "_law_raise" ["which", "it"] s__law_raise) : OkD P w K mg base 1 "_law_raise" ["which", "it"] (S_raise a) := by
  refine okF d sc__law_raise (fun ds W Q E h => ?_) (fun f cdv A outer s H E hr => j__law_raise T hr) fun ds W Q E h => ?_
  · obtain ⟨i, d, _, rfl, _⟩ := h; rfl
  · obtain ⟨i, d, hi, rfl, hq⟩ := h
    simp only [raised, List.mem_cons, List.not_mem_nil, or_false] at hi
    rcases hi with rfl | rfl | rfl | rfl | rfl | rfl | rfl <;> exact hq
theorem ok_due (T : Txt P K mg a) (d : DefD K mg "_law_due" ["which"] s__law_due) : OkD P w K mg base 1 "_law_due" ["which"] S_due := by
  refine okF d sc__law_due (fun ds W Q E h => ?_) (fun f cdv A outer s H E hr => j__law_due T hr) fun ds W Q E h => ?_
  · obtain ⟨i, _, rfl, _⟩ := h; rfl
  · obtain ⟨i, hi, rfl, hq⟩ := h
    refine ⟨by decide, lcL_map (fun x => match x with | .int k => .bl (decide (k = i)) | d => d) True.intro _ _ (fun x hx R q => ?_) ?_ ?_ (fun x hx G G' m q => m _ _ q)⟩
    · obtain ⟨j, _, rfl⟩ := List.mem_map.mp hx
      exact q
    · rw [sizeLine_eq]; decide
    · have h1 : (1 : Nat) ≤ sizeLine := by rw [sizeLine_eq]; decide
      have h3 : (3 : Nat) ≤ sizeLine := by rw [sizeLine_eq]; decide
      have b2 : (1 * 2 : Nat) ≤ 2 ^ 24 := by decide
      refine ⟨h1, ⟨by decide, by decide, b2⟩, h1, ⟨by decide, by decide, b2⟩, h3, (congrArg (fun z => Q z W) ?_).mpr hq⟩
      match i, hi with
      | 0, _ => rfl
      | 1, _ => rfl
      | 2, _ => rfl
      | 3, _ => rfl
      | 4, _ => rfl
      | 5, _ => rfl
      | 6, _ => rfl
      | 7, _ => rfl
      | 8, _ => rfl
      | 9, _ => rfl
      | 10, _ => rfl
      | 11, _ => rfl
      | 12, _ => rfl
      | 13, _ => rfl
      | 14, _ => rfl
      | 15, _ => rfl
      | 16, _ => rfl
      | 17, _ => rfl
      | i + 18, h => omega
theorem ok_marks (T : Txt P K mg a) (d : DefD K mg "_law_marks" ["error"] s__law_marks) : OkD P w K mg base 1 "_law_marks" ["error"] (S_marks a) := by
  refine okF d sc__law_marks (fun ds W Q E h => ?_) (fun f cdv A outer s H E hr => j__law_marks T hr) fun ds W Q E h => ?_
  · obtain ⟨i, fs, _, rfl, _⟩ := h; rfl
  · obtain ⟨i, fs, hi, rfl, hq⟩ := h
    have hok : okC a (a i) := ⟨i, hi, rfl⟩
    have hs : ∀ n : Nat, n ≤ 1000 → n ≤ sizeLine := fun n h => by rw [sizeLine_eq]; omega
    have k2 : ∀ n : Nat, n ≤ 1000 → n ≤ sizeLine := hs
    refine ⟨hok, _, _, rfl, T.kit i 0 hi (by decide), hok, _, _, rfl, T.kit i 1 hi (by decide), hok, _, _, rfl, T.kit i 2 hi (by decide), hs 3 (by decide), ?_⟩
    refine ⟨hok, _, _, rfl, T.kit i 3 hi (by decide), hok, _, _, rfl, T.kit i 4 hi (by decide), hok, _, _, rfl, T.kit i 5 hi (by decide), hs 3 (by decide), hs 6 (by decide), ?_⟩
    refine ⟨hok, _, _, rfl, T.kit i 6 hi (by decide), hok, _, _, rfl, T.kit i 7 hi (by decide), hok, _, _, rfl, T.kit i 8 hi (by decide), hs 3 (by decide), hs 9 (by decide), ?_⟩
    refine ⟨hok, _, _, rfl, T.kit i 9 hi (by decide), hok, _, _, rfl, T.kit i 10 hi (by decide), hok, _, _, rfl, T.kit i 11 hi (by decide), hs 3 (by decide), hs 12 (by decide), ?_⟩
    refine ⟨hok, _, _, rfl, T.kit i 12 hi (by decide), hok, _, _, rfl, T.kit i 13 hi (by decide), hok, _, _, rfl, T.kit i 14 hi (by decide), hs 3 (by decide), hs 15 (by decide), ?_⟩
    refine ⟨hok, _, _, rfl, T.kit i 15 hi (by decide), hok, _, _, rfl, T.kit i 16 hi (by decide), hs 2 (by decide), hs 17 (by decide), ?_⟩
    refine ⟨hok, _, _, rfl, T.kit i 17 hi (by decide), hs 1 (by decide), hs 18 (by decide), ?_⟩
    refine ⟨hok, _, _, rfl, T.kitT i hi, hok, _, _, rfl, T.kitV i hi, hs 2 (by decide), ?_⟩
    refine ⟨hok, _, _, rfl, T.kitU i hi, hok, _, _, rfl, T.kitK i hi, hs 2 (by decide), hs 3 (by decide), ?_⟩
    exact hq
end
end K1

set_option Elab.async false
set_option linter.all false
set_option maxRecDepth 100000
set_option maxHeartbeats 4000000
/-! K1C: k01: the source and its draws. -/
namespace K1
open PySem L2 DL PySem.DEX
open PySem.W (Frag)
section
variable {P : Program} {w : World} {K : Frag} {mg : Str → Option Value} {base : Heap} {a : Ad}
theorem draw_tail {D : DEnds} {s x : Option Dt} {many : Int} {W : Wd} (h1 : 0 < many) (hq : ∀ k : Int, 0 ≤ k → k < many → D.rt (.int k) W) (b : Int) :
    (xSeq (xAsg (xOp dMod (xOp dMul (xOp dMod (xVar 2) (xC (.int 2147483563))) (xC (.int 69621))) (xC (.int 2147483647))) (gSet 2))
    (xSeq (xAsg (xOp dMod (xOp dAdd (xOp dAdd (xOp dMul (xVar 2) (xVar 2)) (xOp dMul (xC (.int 16807)) (xVar 2))) (xC (.int 5))) (xC (.int 2147483587))) (gSet 2))
    (xRet (xOp dMod (xOp dFdv (xOp dMod (xOp dMul (xVar 2) (xC (.int 40692))) (xC (.int 2147483629))) (xC (.int 32))) (xVar 1))))) D [s, some (.int many), some (.int b), x] W := by
  refine ⟨(by show (_ : Int) ≠ 0; decide), .inr ⟨by decide, by decide⟩, (by show (_ : Int) ≠ 0; decide), ?_⟩
  refine ⟨fm_mul (by decide) (by decide), .inl ⟨by decide, by decide⟩, (by show (_ : Int) ≠ 0; decide), ?_⟩
  refine ⟨.inr ⟨by decide, by decide⟩, (by show (_ : Int) ≠ 0; decide), ⟨by decide, by decide⟩, by omega, ?_⟩
  exact hq _ (fm_ge h1) (fm_lt h1)
theorem ok_draw (T : Txt P K mg a) (d : DefD K mg "_law_draw" ["source", "many"] s__law_draw) : OkD P w K mg base 1 "_law_draw" ["source", "many"] S_draw := by
  refine OkD.imp (okF (S := S_drawO) d sc__law_draw (fun ds W Q E h => ?_) (fun f cdv A outer s H E hr => j__law_draw T hr) fun ds W Q E h => ?_) (fun F => draw_close F)
  · obtain ⟨p, c, st, n, cells, many, rfl, _⟩ := h; rfl
  · obtain ⟨p, c, st, n, cells, many, rfl, hs, mp, mc, hne, b1, b2, hl, m1, m2, hn, hq⟩ := h
    have hp1 : (W.put p (.lst [.at c, .int st, .int ((n : Int) + 1)])).m p = some (.lst [.at c, .int st, .int ((n : Int) + 1)]) := Wd.put_m
    have hc1 : (W.put p (.lst [.at c, .int st, .int ((n : Int) + 1)])).m c = some (.lst (cells.map Dt.int)) := by rw [Wd.put_ne hne.symm]; exact mc
    dsimp only [xSeq, xAsg, xOp, xVar, xC, gIx, xIfS, xTest, xBM, xDrop, xRet, xNext, xCons, xNil, xLst, gSet, startD, List.map, List.length_cons, List.length_nil, Nat.reduceAdd, Nat.reduceSub, List.replicate_succ, List.replicate_zero, List.cons_append, List.nil_append, List.getElem?_cons_zero, List.getElem?_cons_succ, List.set_cons_zero, List.set_cons_succ]
    refine ixm (i := 2) (d := .int n) mp rfl ?_
    refine add_ii ?_
    refine dm_at mp ?_
    rw [show ixN [Dt.at c, Dt.int st, Dt.int ↑n].length 2 = some 2 from rfl]
    dsimp only [List.set_cons_zero, List.set_cons_succ]
    refine ixm (i := 1) (d := .int st) hp1 rfl ?_
    refine ixm (i := 2) (d := .int ((n : Int) + 1)) hp1 rfl ?_
    refine mul_ii (.inl ⟨by decide, by decide⟩) ?_
    refine ixm (i := 2) (d := .int ((n : Int) + 1)) hp1 rfl ?_
    refine mul_ii (.inr ⟨by omega, by omega⟩) ?_
    refine add_ii ?_
    refine ixm (i := 0) (d := .at c) hp1 rfl ?_
    refine ⟨Nat.zero_le _, nem hc1 ?_⟩
    cases cells with
    | nil =>
      refine draw_tail (D := { nx := fun _ W' => Q .non W', rt := Q, ex := fun _ => E }) (s := some (.at p)) (x := none) (b := st + 40009 * ((n : Int) + 1) * ((n : Int) + 1)) m1 (fun k k0 k1 => ?_)
      have : Q (.int k) ((W.put p (.lst [.at c, .int st, .int ((n : Int) + 1)])).put c (.lst ([].map Dt.int))) := hq k [] k0 k1 (by simp)
      rw [put_same (W := W.put p _) (c := c) hc1] at this
      exact this
    | cons x r =>
      rw [show (!(x :: r).isEmpty) = true from rfl]
      dsimp only
      rw [if_pos rfl]
      refine ixm (i := 0) (d := .at c) hp1 rfl ?_
      refine ⟨tym hc1, popm hc1 ?_⟩
      have hp2 : ((W.put p (.lst [.at c, .int st, .int ((n : Int) + 1)])).put c (.lst (r.map Dt.int))).m p = some (.lst [.at c, .int st, .int ((n : Int) + 1)]) := by rw [Wd.put_ne hne]; exact hp1
      have hc2 : ((W.put p (.lst [.at c, .int st, .int ((n : Int) + 1)])).put c (.lst (r.map Dt.int))).m c = some (.lst (r.map Dt.int)) := Wd.put_m
      have hr : r.length < 64 := by simp at hl; omega
      refine pow_ii ⟨by decide, by decide, by decide⟩ ?_
      refine ge_ii ?_
      by_cases hx : (10 : Int) ^ 18 ≤ x
      · have e : decide ((10 : Int) ^ (Int.toNat 18) ≤ x) = true := decide_eq_true hx
        rw [e]
        dsimp only
        rw [if_pos rfl]
        refine ixm (i := 0) (d := .at c) hp2 rfl ?_
        refine ⟨tym hc2, fdv_ii ⟨by omega, by omega⟩ (insm hc2 (by rw [sizeLine_eq]; simp; omega) ?_)⟩
        refine mod_ii (by omega) ?_
        have := hq (x.fmod many) (x.fdiv many :: r) (fm_ge m1) (fm_lt m1) (by simp; omega)
        rw [Wd.put_put]
        exact this
      · have e : decide ((10 : Int) ^ (Int.toNat 18) ≤ x) = false := decide_eq_false hx
        rw [e]
        dsimp only
        rw [if_neg (by decide)]
        exact draw_tail (D := { nx := fun _ W' => Q .non W', rt := Q, ex := fun _ => E }) (s := some (.at p)) (x := some (.int x)) (b := st + 40009 * ((n : Int) + 1) * ((n : Int) + 1) + x) m1 (fun k k0 k1 => hq k r k0 k1 (by omega))
theorem src_loop {D : DEnds} {s : Option Dt} {W : Wd} (hq : ∀ (st : Int) (x : Option Dt), 0 ≤ st → st < 2147483648 → D.nx [s, some (.int st), x] W) : ∀ (l : List Int) (st : Int) (x : Option Dt), 0 ≤ st → st < 2147483648 →
    forL (fun _ => True) (gSet 2) (xAsg (xOp dMod (xOp dAdd (xOp dAdd (xOp dMul (xVar 1) (xC (.int 48271))) (xOp dMod (xVar 2) (xC (.int 2147483563)))) (xC (.int 17))) (xC (.int 2147483629))) (gSet 1)) D (l.map Dt.int) [s, some (.int st), x] W
  | [], st, x, h1, h2 => ⟨True.intro, hq st x h1 h2⟩
  | y :: r, st, x, h1, h2 => by
    refine ⟨True.intro, ?_⟩
    refine ⟨.inr ⟨by decide, by decide⟩, (by show (_ : Int) ≠ 0; decide), (by show (_ : Int) ≠ 0; decide), ?_⟩
    exact src_loop hq r _ _ (fm_ge (by decide)) (Int.lt_trans (fm_lt (by decide)) (by decide))
theorem ok_source (T : Txt P K mg a) (d : DefD K mg "_law_source" ["script"] s__law_source) : OkD P w K mg base 1 "_law_source" ["script"] S_source := by
  refine OkD.imp (okF (S := S_sourceO) d sc__law_source (fun ds W Q E h => ?_) (fun f cdv A outer s H E hr => j__law_source T hr) fun ds W Q E h => ?_) (fun F => source_close F)
  · obtain ⟨ns, rfl, _⟩ := h; rfl
  · obtain ⟨ns, rfl, hs, hl, hq⟩ := h
    have cut : ∀ lo hi, cutD (ns.map Dt.int) lo hi = (((ns.drop (HT.sIx ns.length 0 lo)).take (HT.sIx ns.length ns.length hi - HT.sIx ns.length 0 lo))).map Dt.int := fun lo hi => by
      unfold cutD
      rw [List.length_map, List.map_take, List.map_drop]
    have loop : ∀ (D : DEnds) (l : List Dt) (s : Option Dt) (st : Int) (x : Option Dt), l = cutD (ns.map Dt.int) none (some 60) → 0 ≤ st → st < 2147483648 → (∀ (st : Int) (x : Option Dt), 0 ≤ st → st < 2147483648 → D.nx [s, some (.int st), x] W) →
        forL (fun _ => True) (gSet 2) (xAsg (xOp dMod (xOp dAdd (xOp dAdd (xOp dMul (xVar 1) (xC (.int 48271))) (xOp dMod (xVar 2) (xC (.int 2147483563)))) (xC (.int 17))) (xC (.int 2147483629))) (gSet 1)) D l [s, some (.int st), x] W := fun D l s st x e h1 h2 h3 => by
      rw [e, cut]; exact src_loop h3 _ _ _ h1 h2
    refine loop _ _ _ _ _ rfl (by decide) (by decide) fun st x h1 h2 => ?_
    refine fun c hc1 hc2 => ?_
    refine ⟨by rw [sizeLine_eq]; show (3 : Nat) ≤ 16777216; decide, fun p hp1 hp2 => ?_⟩
    have hne : p ≠ c := fun z => by
      subst z
      rw [show (W.put p (.lst (cutD (ns.map Dt.int) none (some 60)))).m p = some (.lst (cutD (ns.map Dt.int) none (some 60))) from Wd.put_m] at hp1
      cases hp1
    have hpW : W.m p = none := by
      have : (W.put c (.lst (cutD (ns.map Dt.int) none (some 60)))).m p = none := hp1
      rw [Wd.put_ne hne] at this
      exact this
    have := hq p c st _ hne hpW hc1 h1 h2 (show (((ns.drop (HT.sIx ns.length 0 none)).take (HT.sIx ns.length ns.length (some 60) - HT.sIx ns.length 0 none))).length ≤ 64 by simp; omega)
    rw [← cut] at this
    exact this
end
end K1

set_option Elab.async false
set_option linter.all false
set_option maxRecDepth 100000
set_option maxHeartbeats 4000000
/-! K1D: k01: drawn values. -/
namespace K1
open PySem L2 DL PySem.DEX
open PySem.W (Frag)
theorem drawn2 {W : Wd} {n m : Nat} : (W.drawn n).drawn m = W.drawn m := by
  obtain ⟨m', s⟩ := W
  cases s <;> rfl
theorem src_drawn {W : Wd} {p c : Addr} {n m : Nat} (h : W.src = some (p, c, n)) : (W.drawn m).src = some (p, c, m) := by
  show W.src.map _ = _
  rw [h]; rfl
section
variable {P : Program} {w : World} {K : Frag} {mg : Str → Option Value} {base : Heap} {a : Ad}
theorem ok_plain (T : Txt P K mg a) (d : DefD K mg "_law_plain" ["source"] s__law_plain) (O : OkD P w K mg base 1 "_law_draw" ["source", "many"] S_draw) (O2 : OkD P w K mg base 2 "_law_pick" ["source", "items"] S_pick) : OkD P w K mg base 3 "_law_plain" ["source"] S_plain := by
  refine okF d sc__law_plain (fun ds W Q E h => ?_) (fun f cdv A outer s H E hr => j__law_plain T O O2 hr) fun ds W Q E h => ?_
  · obtain ⟨p, n, rfl, _⟩ := h; rfl
  · obtain ⟨p, n, rfl, ⟨c, hs⟩, hn, hq⟩ := h
    dsimp only [xSeq, xAsg, xOp, xVar, xC, xUn, dNeg, xCall, xRet, xCons, xNil, xLst, xTup, gSet, startD, List.map, List.length_cons, List.length_nil, Nat.reduceAdd, Nat.reduceSub, List.replicate_succ, List.replicate_zero, List.cons_append, List.nil_append, List.append_nil, List.getElem?_cons_zero, List.getElem?_cons_succ, List.set_cons_zero, List.set_cons_succ]
    refine pow_ii ⟨by decide, by decide, by decide⟩ ?_
    refine ⟨p, c, n, _, rfl, hs, by decide, by decide, by omega, fun k k0 k1 => ?_⟩
    have k1' : k < 1000000 := k1
    refine pow_ii ⟨by decide, by decide, by decide⟩ ?_
    refine mul_ii (.inl ⟨by omega, by omega⟩) ?_
    refine pow_ii ⟨by decide, by decide, by decide⟩ ?_
    refine ⟨p, c, n + 1, _, rfl, src_drawn hs, by decide, by decide, by omega, fun l l0 l1 => ?_⟩
    have l1' : l < 1000000 := l1
    rw [drawn2]
    refine add_ii ?_
    refine sub_ii ?_
    have e33 : (10 : Int) ^ Int.toNat 33 = 1000000000000000000000000000000000 := by decide
    have e50 : (10 : Nat) ^ 50 = 100000000000000000000000000000000000000000000000000 := by decide
    refine ⟨Nat.zero_le _, ⟨⟨by decide, fun _ _ => by decide +kernel, fun _ _ => by decide +kernel⟩, ?_⟩⟩
    refine ⟨by rw [sizeLine_eq]; decide, ⟨p, n + 2, _, rfl, ⟨c, src_drawn hs⟩, by omega, by simp, by simp, fun x hx => ?_⟩⟩
    rw [drawn2]
    refine hq x ?_
    have hi : ∀ i : Int, i.natAbs < 100000000000000000000000000000000000000000000000000 → PlainV (.int i) := fun i h => .inr (.inr (.inl ⟨i, rfl, by rw [e50]; exact h⟩))
    have ht : ∀ y, y ∈ texts → PlainV (.str y) := fun y h => .inr (.inr (.inr (.inl ⟨y, h, rfl⟩)))
    rw [e33] at hx
    simp only [List.mem_cons, List.not_mem_nil, or_false] at hx
    rcases hx with rfl | rfl | rfl | rfl | rfl | rfl | rfl | rfl | rfl | rfl | rfl | rfl | rfl | rfl | rfl | rfl
    · exact .inl rfl
    · exact .inr (.inl ⟨_, rfl⟩)
    · exact .inr (.inl ⟨_, rfl⟩)
    · exact hi _ (by omega)
    · exact hi _ (by omega)
    · exact hi _ (by omega)
    · exact hi _ (by omega)
    · exact hi _ (by omega)
    · exact ht _ (.head _)
    · exact ht _ (.tail _ (.head _))
    · exact ht _ (.tail _ (.tail _ (.head _)))
    · exact ht _ (.tail _ (.tail _ (.tail _ (.head _))))
    · exact ht _ (.tail _ (.tail _ (.tail _ (.tail _ (.head _)))))
    · exact ht _ (.tail _ (.tail _ (.tail _ (.tail _ (.tail _ (.head _))))))
    · exact .inr (.inr (.inr (.inr rfl)))
    · exact ht _ (.tail _ (.tail _ (.tail _ (.tail _ (.tail _ (.tail _ (.head _)))))))
theorem never {k : Nat} {x : Str} {ps : List Str} {st : Stmt} {S : DSp} (d : DefD K mg x ps st) (h : ∀ ds W Q E, ¬ S ds W Q E) : OkD P w K mg base k x ps S := by
  obtain ⟨f, fd, F, h1, h2⟩ := d.ex
  exact ⟨f, fd, ⟨fun vs H Q E z => (let ⟨_, _, _, _, _, _, _, q, _⟩ := z; (h _ _ _ _ q).elim), fun A outer s H args us vs Q E _ _ _ _ z => (let ⟨_, _, _, _, _, _, _, q, _⟩ := z; (h _ _ _ _ q).elim)⟩, h1, F.kp, h2⟩
theorem lc_vals {W : Wd} {p c : Addr} {N m n : Nat} {k : Int} {Q0 : List Dt → Wd → Prop} (hs : W.src = some (p, c, n)) (hm : m < N) (hn : n + 5 * 3 ^ (m + 1) < 700000000)
    (fin : ∀ acc n', (∀ x ∈ acc, Val m x) → acc.length ≤ 2 → n' ≤ n + 2 + 2 * (5 * 3 ^ m) → Q0 acc (W.drawn n')) : ∀ (l acc : List Dt) (n' : Nat), n' ≤ n + 2 + acc.length * (5 * 3 ^ m) → acc.length + l.length ≤ 2 → (∀ x ∈ acc, Val m x) →
    lcL (fun _ => True) (gSet 4) xYes (xCall (S_valueN N) [] (xCons (xVar 0) (xCons (xOp dSub (xVar 1) (xC (.int 1))) xNil))) (wipeD [some (.at p), some (.int ((m + 1 : Nat) : Int)), some (.int k), none, none] [4]) Q0 l acc (W.drawn n')
  | [], acc, n', h1, h2, h3 => ⟨True.intro, fin acc n' h3 (by simpa using h2) (by
      have : acc.length * (5 * 3 ^ m) ≤ 2 * (5 * 3 ^ m) := Nat.mul_le_mul_right _ (by simpa using h2)
      omega)⟩
  | x :: r, acc, n', h1, h2, h3 => by
    have hlen : acc.length + 1 ≤ 2 := by simp at h2; omega
    have b1 : acc.length * (5 * 3 ^ m) ≤ 1 * (5 * 3 ^ m) := Nat.mul_le_mul_right _ (by omega)
    have e3 : 3 ^ (m + 1) = 3 * 3 ^ m := by rw [Nat.pow_succ, Nat.mul_comm]
    have p3 : 1 ≤ 3 ^ m := Nat.one_le_pow _ _ (by decide)
    have em : ((m + 1 : Nat) : Int) - 1 = (m : Int) := by omega
    refine ⟨True.intro, ?_⟩
    show (if true = true then _ else _)
    rw [if_pos rfl]
    refine ⟨p, n', m, hm, ?_, ⟨c, src_drawn hs⟩, by omega, fun d n2 hv h4 => ⟨by rw [sizeLine_eq]; omega, ?_⟩⟩
    · show [Dt.at p, Dt.int (((m + 1 : Nat) : Int) - 1)] = _
      rw [em]
    · rw [drawn2]
      refine lc_vals hs hm hn fin r (acc ++ [d]) n2 ?_ (by simp at h2 ⊢; omega) fun y hy => ?_
      · rw [List.length_append, List.length_singleton, Nat.add_mul]; omega
      · rcases List.mem_append.mp hy with hy | hy
        · exact h3 y hy
        · rw [List.mem_singleton] at hy; subst hy; exact hv
theorem ok_value (T : Txt P K mg a) (d : DefD K mg "_law_value" ["source", "deep"] s__law_value) (O : OkD P w K mg base 1 "_law_draw" ["source", "many"] S_draw) (O2 : OkD P w K mg base 3 "_law_plain" ["source"] S_plain) :
    ∀ N : Nat, OkD P w K mg base (3 + N) "_law_value" ["source", "deep"] (S_valueN N)
  | 0 => never d fun ds W Q E h => by
    obtain ⟨p, n, m, hm, _⟩ := h
    exact absurd hm (Nat.not_lt_zero _)
  | N + 1 => by
    have ih := ok_value T d O O2 N
    refine okF d sc__law_value (fun ds W Q E h => ?_) (fun f cdv A outer s H E hr => j__law_value T N (3 + N) O O2 ih (3 + N) (by omega) (by omega) (Nat.le_refl _) hr) fun ds W Q E h => ?_
    · obtain ⟨p, n, m, _, rfl, _⟩ := h; rfl
    · obtain ⟨p, n, m, hm, rfl, ⟨c, hs⟩, hn, hq⟩ := h
      dsimp only [xSeq, xAsg, xOp, xVar, xC, xCall, xRet, xCons, xNil, xTup, xIfS, xOr, xTest, xNext, xLc, xCB, xDct, xYes, gSet, startD, List.map, List.length_cons, List.length_nil, Nat.reduceAdd, Nat.reduceSub, List.replicate_succ, List.replicate_zero, List.cons_append, List.nil_append, List.append_nil, List.getElem?_cons_zero, List.getElem?_cons_succ, List.set_cons_zero, List.set_cons_succ]
      have p3 : 1 ≤ 3 ^ m := Nat.one_le_pow _ _ (by decide)
      refine ⟨p, c, n, _, rfl, hs, by decide, by decide, by omega, fun k k0 k1 => ?_⟩
      have plain_end : S_plain [.at p] (W.drawn (n + 1)) Q E := ⟨p, n + 1, rfl, ⟨c, src_drawn hs⟩, by omega, fun d hd => by
        rw [drawn2]; exact hq d (n + 1 + 3) (.plain hd) (by omega)⟩
      refine eq_ii ?_
      cases m with
      | zero =>
        rw [show decide (((0 : Nat) : Int) = 0) = true from rfl]
        dsimp only
        rw [if_pos rfl, if_pos rfl]
        exact plain_end
      | succ m =>
        have e3 : 3 ^ (m + 1) = 3 * 3 ^ m := by rw [Nat.pow_succ, Nat.mul_comm]
        have q3 : 1 ≤ 3 ^ m := Nat.one_le_pow _ _ (by decide)
        rw [show decide (((m + 1 : Nat) : Int) = 0) = false from decide_eq_false (by omega)]
        dsimp only
        rw [if_neg (by decide)]
        refine lt_ii ?_
        by_cases hk : k < 3
        · rw [decide_eq_true hk]
          dsimp only
          rw [if_pos rfl]
          exact plain_end
        · rw [decide_eq_false hk]
          dsimp only
          rw [if_neg (by decide)]
          dsimp only [iR1, xCall, xCons, xNil, xVar, xC, List.getElem?_cons_zero, List.cons_append, List.nil_append, List.append_nil]
          refine ⟨p, c, n + 1, 3, rfl, src_drawn hs, by decide, by decide, by omega, fun j j0 j1 => ?_⟩
          rw [drawn2]
          refine ⟨⟨by omega, by omega⟩, lc_vals hs (by omega) hn (fun acc n' hv hl hb => ?_) _ [] (n + 1 + 1) (by simp) (by simp [rangeD]; omega) (by simp)⟩
          refine eq_ii ?_
          by_cases h3 : k = 3
          · rw [decide_eq_true h3]
            exact hq (.tup acc) n' (.tup hv hl) (by omega)
          · rw [decide_eq_false h3]
            dsimp only
            rw [if_neg (by decide)]
            refine eq_ii ?_
            by_cases h4 : k = 4
            · rw [decide_eq_true h4]
              exact hq (.lst acc) n' (.lst hv hl) (by omega)
            · rw [decide_eq_false h4]
              dsimp only
              rw [if_neg (by decide)]
              refine ⟨p, n', rfl, ⟨c, src_drawn hs⟩, by omega, fun d hd => ?_⟩
              rw [drawn2]
              exact hq _ (n' + 3) (.dct hv hl hd) (by omega)
end
end K1

set_option Elab.async false
set_option linter.all false
set_option maxRecDepth 100000
set_option maxHeartbeats 4000000
/-! K1E: k01: raised, caught. -/
namespace K1
open PySem L2 DL PySem.DEX
open PySem.W (Frag)
theorem fin_eq {x y : Str} {W : Wd} {Q : DQ} (h : x = y) (q : Q (.bl true) W) : dEq (.str x) (.str y) W Q := by
  refine eq_ss ?_
  rw [decide_eq_true h]; exact q
theorem okE : okD (.tup [.int 8, .int 13, .int 15]) := okD_dec (by decide +kernel)
section
variable {P : Program} {w : World} {K : Frag} {mg : Str → Option Value} {base : Heap} {a : Ad}
theorem ok_raised (T : Txt P K mg a) (d : DefD K mg "_law_raised" ["which", "it", "wide"] s__law_raised) (O : OkD P w K mg base 1 "_law_raise" ["which", "it"] (S_raise a)) : OkD P w K mg base 2 "_law_raised" ["which", "it", "wide"] (S_raised a) := by
  refine okF d sc__law_raised (fun ds W Q E h => ?_) (fun f cdv A outer s H E hr => j__law_raised T O hr) fun ds W Q E h => ?_
  · obtain ⟨i, d, _, rfl, _⟩ := h; rfl
  · obtain ⟨i, d, hi, rfl, sh, hq⟩ := h
    have h3 : (3 : Nat) ≤ sizeLine := by rw [sizeLine_eq]; decide
    have sh' : ShowOk (res d W) := by rw [show_res sh]; exact sh
    refine ⟨i, d, hi, rfl, ?_⟩
    simp only [raised, List.mem_cons, List.not_mem_nil, or_false] at hi
    rcases hi with rfl | rfl | rfl | rfl | rfl | rfl | rfl
    · refine ⟨_, T.exm 8 8 (by decide) (by decide), fun _ ae dd => ?_, fun h => absurd h (by decide)⟩
      refine ⟨rfl, rfl, ⟨_, rfl, 8, by decide, by decide, rfl, rfl⟩, ?_⟩
      refine ⟨sh', sh', ?_⟩
      refine fin_eq rfl ?_
      refine ⟨h3, okD_int _, okE, ?_⟩
      exact fin_eq rfl hq
    · refine ⟨_, T.exm 11 8 (by decide) (by decide), fun h => absurd h (by decide), fun _ => ?_⟩
      refine ⟨_, T.exm 11 13 (by decide) (by decide), fun h => absurd h (by decide), fun _ => ?_⟩
      refine ⟨_, T.exm 11 15 (by decide) (by decide), fun h => absurd h (by decide), fun _ => ?_⟩
      refine ⟨_, T.exmT 11 (by decide), fun _ ae dd => ?_, fun h => absurd h (by decide)⟩
      refine ⟨h3, okD_int _, okE, ?_⟩
      exact fin_eq rfl hq
    · refine ⟨_, T.exm 13 8 (by decide) (by decide), fun h => absurd h (by decide), fun _ => ?_⟩
      refine ⟨_, T.exm 13 13 (by decide) (by decide), fun _ ae dd => ?_, fun h => absurd h (by decide)⟩
      refine ⟨rfl, rfl, ⟨_, rfl, 13, by decide, by decide, rfl, rfl⟩, ?_⟩
      refine ⟨sh', sh', ?_⟩
      refine fin_eq rfl ?_
      refine ⟨h3, okD_int _, okE, ?_⟩
      exact fin_eq rfl hq
    · refine ⟨_, T.exm 15 8 (by decide) (by decide), fun h => absurd h (by decide), fun _ => ?_⟩
      refine ⟨_, T.exm 15 13 (by decide) (by decide), fun h => absurd h (by decide), fun _ => ?_⟩
      refine ⟨_, T.exm 15 15 (by decide) (by decide), fun _ ae dd => ?_, fun h => absurd h (by decide)⟩
      refine ⟨rfl, rfl, ⟨_, rfl, 15, by decide, by decide, rfl, rfl⟩, ?_⟩
      refine ⟨sh', sh', ?_⟩
      refine fin_eq rfl ?_
      refine ⟨h3, okD_int _, okE, ?_⟩
      exact fin_eq rfl hq
    · refine ⟨_, T.exm 16 8 (by decide) (by decide), fun h => absurd h (by decide), fun _ => ?_⟩
      refine ⟨_, T.exm 16 13 (by decide) (by decide), fun h => absurd h (by decide), fun _ => ?_⟩
      refine ⟨_, T.exm 16 15 (by decide) (by decide), fun h => absurd h (by decide), fun _ => ?_⟩
      refine ⟨_, T.exmT 16 (by decide), fun h => absurd h (by decide), fun _ => ?_⟩
      refine ⟨_, T.exmU 16 (by decide), fun _ ae dd => ?_, fun h => absurd h (by decide)⟩
      refine ⟨h3, okD_int _, okE, ?_⟩
      exact fin_eq rfl hq
    · refine ⟨_, T.exm 4 8 (by decide) (by decide), fun h => absurd h (by decide), fun _ => ?_⟩
      refine ⟨_, T.exm 4 13 (by decide) (by decide), fun h => absurd h (by decide), fun _ => ?_⟩
      refine ⟨_, T.exm 4 15 (by decide) (by decide), fun h => absurd h (by decide), fun _ => ?_⟩
      refine ⟨_, T.exmT 4 (by decide), fun _ ae dd => ?_, fun h => absurd h (by decide)⟩
      refine ⟨h3, okD_int _, okE, ?_⟩
      exact fin_eq rfl hq
    · refine ⟨_, T.exm 7 8 (by decide) (by decide), fun h => absurd h (by decide), fun _ => ?_⟩
      refine ⟨_, T.exm 7 13 (by decide) (by decide), fun h => absurd h (by decide), fun _ => ?_⟩
      refine ⟨_, T.exm 7 15 (by decide) (by decide), fun h => absurd h (by decide), fun _ => ?_⟩
      refine ⟨_, T.exmT 7 (by decide), fun _ ae dd => ?_, fun h => absurd h (by decide)⟩
      refine ⟨h3, okD_int _, okE, ?_⟩
      exact fin_eq rfl hq
end
end K1

set_option Elab.async false
set_option linter.all false
set_option maxRecDepth 100000
set_option maxHeartbeats 4000000
/-! K1F: k01: drawn values may be shown. -/
namespace K1
open PySem PySem.StrLaws L2 DL PySem.DEX
def WM (m : Nat) : Nat := 408 * 2 ^ m - 208
structure G (m : Nat) (d : Dt) : Prop where
  pl : plainK d = true
  sh : (pyK d).showable = true
  dp : (pyK d).depth ≤ 2 * m + 1
  ls : (pyK d).leavesShort 100 = true
  wt : (pyK d).weight ≤ WM m
theorem wm_ge (m : Nat) : 200 ≤ WM m := by
  have : 1 ≤ 2 ^ m := Nat.one_le_pow _ _ (by decide)
  unfold WM; omega
theorem wm_succ (m : Nat) : 2 * WM m + 208 = WM (m + 1) := by
  have : 1 ≤ 2 ^ m := Nat.one_le_pow _ _ (by decide)
  unfold WM
  rw [Nat.pow_succ]
  omega
theorem int_short {i : Int} (h : i.natAbs < 10 ^ 50) : (PyData.shown (.int i)).length ≤ 51 := by
  show (Str.ofString (toString i)).length ≤ 51
  rw [ofString_length]
  exact int_text_length_le10 (by decide) h
theorem int_log {i : Int} (h : i.natAbs < 10 ^ 50) : i.natAbs.log2 < 200 := by
  by_cases h0 : i.natAbs = 0
  · rw [h0]; decide
  · exact (Nat.log2_lt h0).mpr (Nat.lt_trans h (by decide))
theorem g_plain {m : Nat} {d : Dt} (h : PlainV d) : G m d := by
  have hw := wm_ge m
  rcases h with rfl | ⟨b, rfl⟩ | ⟨i, rfl, hi⟩ | ⟨x, hx, rfl⟩ | rfl
  · exact ⟨rfl, rfl, by simp [pyK, PyData.depth], rfl, by simp [pyK, PyData.weight]⟩
  · exact ⟨rfl, rfl, by simp [pyK, PyData.depth], rfl, by simp [pyK, PyData.weight]⟩
  · have l := int_log hi
    refine ⟨rfl, by simp only [pyK, PyData.showable]; exact decide_eq_true (by omega), by simp [pyK, PyData.depth], ?_, ?_⟩
    · simp only [pyK, PyData.leavesShort]
      exact decide_eq_true (Nat.le_trans (int_short hi) (by decide))
    · simp only [pyK, PyData.weight]
      split <;> omega
  · refine ⟨rfl, rfl, by simp [pyK, PyData.depth], ?_, ?_⟩
    · simp only [texts, List.mem_cons, List.not_mem_nil, or_false] at hx
      rcases hx with rfl | rfl | rfl | rfl | rfl | rfl | rfl <;> decide +kernel
    · have : x.cps.size ≤ 60 := by
        simp only [texts, List.mem_cons, List.not_mem_nil, or_false] at hx
        rcases hx with rfl | rfl | rfl | rfl | rfl | rfl | rfl <;> decide +kernel
      simp only [pyK, PyData.weight]
      omega
  · exact ⟨rfl, rfl, by simp [pyK, pysK, PyData.depth, PyData.depthAll], rfl, by simp [pyK, pysK, PyData.weight, PyData.weightAll]⟩
theorem g_list {m : Nat} : ∀ l : List Dt, (∀ x ∈ l, G m x) → plainsK l = true ∧ PyData.showableAll (pysK l) = true ∧ PyData.depthAll (pysK l) ≤ 2 * m + 1 ∧ PyData.leavesShortAll 100 (pysK l) = true ∧ PyData.weightAll (pysK l) ≤ l.length * (WM m + 1)
  | [], _ => ⟨rfl, rfl, Nat.zero_le _, rfl, Nat.zero_le _⟩
  | x :: r, h => by
    obtain ⟨a1, a2, a3, a4, a5⟩ := g_list r fun y hy => h y (by simp [hy])
    have g := h x (by simp)
    refine ⟨by show (plainK x && plainsK r) = true; rw [g.pl, a1]; rfl, by show (PyData.showable (pyK x) && PyData.showableAll (pysK r)) = true; rw [g.sh, a2]; rfl, ?_,
      by show (PyData.leavesShort 100 (pyK x) && PyData.leavesShortAll 100 (pysK r)) = true; rw [g.ls, a4]; rfl, ?_⟩
    · show max (PyData.depth (pyK x)) (PyData.depthAll (pysK r)) ≤ 2 * m + 1
      exact Nat.max_le.mpr ⟨g.dp, a3⟩
    · show PyData.weight (pyK x) + 1 + PyData.weightAll (pysK r) ≤ (r.length + 1) * (WM m + 1)
      have := g.wt
      rw [Nat.add_mul]
      omega
theorem two_le {n w : Nat} (h : n ≤ 2) : n * w ≤ 2 * w := Nat.mul_le_mul_right _ h
theorem val_good : ∀ {m : Nat} {d : Dt}, Val m d → G m d
  | m, d, .plain h => g_plain h
  | _, _, .tup (m := m) (l := l) h n => by
    obtain ⟨a1, a2, a3, a4, a5⟩ := g_list l fun x hx => val_good (h x hx)
    have := wm_succ m
    have := two_le (w := WM m + 1) n
    exact ⟨a1, a2, by show PyData.depthAll (pysK l) + 1 ≤ _; omega, a4, by show PyData.weightAll (pysK l) ≤ _; omega⟩
  | _, _, .lst (m := m) (l := l) h n => by
    obtain ⟨a1, a2, a3, a4, a5⟩ := g_list l fun x hx => val_good (h x hx)
    have := wm_succ m
    have := two_le (w := WM m + 1) n
    exact ⟨a1, a2, by show PyData.depthAll (pysK l) + 1 ≤ _; omega, a4, by show PyData.weightAll (pysK l) ≤ _; omega⟩
  | _, _, .dct (m := m) (l := l) (q := q) h n hq => by
    obtain ⟨a1, a2, a3, a4, a5⟩ := g_list l fun x hx => val_good (h x hx)
    have g : G 0 q := g_plain hq
    have := wm_succ m
    have := two_le (w := WM m + 1) n
    have w0 : WM 0 = 200 := rfl
    refine ⟨?_, ?_, ?_, ?_, ?_⟩
    · show (plainsK l && (plainK q && true)) = true
      rw [a1, g.pl]; rfl
    · show (PyData.showable (.str "a") && PyData.showableAll (pysK l) && (PyData.showable (.int 1) && PyData.showable (pyK q) && true)) = true
      rw [a2, g.sh]; decide
    · have e : (pyK (.dct [(.inr "a", .lst l), (.inl 1, q)])).depth = max (max 0 (PyData.depthAll (pysK l) + 1)) (max (max 0 (PyData.depth (pyK q))) 0) + 1 := rfl
      rw [e]
      have := g.dp
      exact Nat.succ_le_succ (Nat.max_le.mpr ⟨Nat.max_le.mpr ⟨Nat.zero_le _, by omega⟩, Nat.max_le.mpr ⟨Nat.max_le.mpr ⟨Nat.zero_le _, by omega⟩, Nat.zero_le _⟩⟩)
    · show (PyData.leavesShort 100 (.str "a") && PyData.leavesShortAll 100 (pysK l) && (PyData.leavesShort 100 (.int 1) && PyData.leavesShort 100 (pyK q) && true)) = true
      rw [a4, g.ls]; decide +kernel
    · have e : (pyK (.dct [(.inr "a", .lst l), (.inl 1, q)])).weight = 1 + PyData.weightAll (pysK l) + 2 + (1 + PyData.weight (pyK q) + 2 + 0) := rfl
      rw [e]
      have := g.wt
      omega
theorem val_show {d : Dt} (h : Val 3 d) : ShowOk d := by
  have g := val_good h
  refine ⟨g.pl, g.sh, Nat.le_trans g.dp (by decide), ?_⟩
  have h1 := PyData.shown_le 100 (by decide) (pyK d) g.ls
  have h2 : (pyK d).weight ≤ 3056 := g.wt
  have h3 : (100 + 2) * (pyK d).weight ≤ (100 + 2) * 3056 := Nat.mul_le_mul_left _ h2
  rw [sizeLine_eq]
  omega
end K1

set_option Elab.async false
set_option linter.all false
set_option maxRecDepth 100000
set_option maxHeartbeats 4000000
/-! K1G: k01: the law. -/
namespace K1
open PySem L2 DL PySem.DEX
open PySem.W (Frag)
/-- a loop by an invariant; k: how many turns are left -/
theorem forL_inv {stay : Wd → Prop} {g : TXG} {tb : TXS} {D : DEnds} (I : Nat → Sl → Wd → Prop) (hs : ∀ k Γ W, I k Γ W → stay W) (he : ∀ Γ W, I 0 Γ W → D.nx Γ W) : ∀ ds : List Dt,
    (∀ x ∈ ds, ∀ (k : Nat) (Γ : Sl) (W : Wd) (D' : DEnds), I (k + 1) Γ W → (∀ Γ W, I k Γ W → D'.nx Γ W) → g x Γ W (fun Γ' W' => tb D' Γ' W')) → ∀ Γ W, I ds.length Γ W → forL stay g tb D ds Γ W
  | [], _, Γ, W, h => ⟨hs _ _ _ h, he _ _ h⟩
  | x :: r, hb, Γ, W, h => ⟨hs _ _ _ h, hb x (by simp) r.length Γ W { nx := forL stay g tb D r, rt := D.rt, bk := D.nx, ct := forL stay g tb D r, ex := D.ex } h fun Γ' W' h' => forL_inv I hs he r (fun y hy => hb y (by simp [hy])) Γ' W' h'⟩
theorem marks_ok (i : Nat) (hi : i < 18) : okD (marks i) ∧ PyData.eqv (py (marks i)) (py (marks i)) = true := by
  match i, hi with
  | 0, _ => exact ⟨okD_dec (by decide +kernel), by decide +kernel⟩
  | 1, _ => exact ⟨okD_dec (by decide +kernel), by decide +kernel⟩
  | 2, _ => exact ⟨okD_dec (by decide +kernel), by decide +kernel⟩
  | 3, _ => exact ⟨okD_dec (by decide +kernel), by decide +kernel⟩
  | 4, _ => exact ⟨okD_dec (by decide +kernel), by decide +kernel⟩
  | 5, _ => exact ⟨okD_dec (by decide +kernel), by decide +kernel⟩
  | 6, _ => exact ⟨okD_dec (by decide +kernel), by decide +kernel⟩
  | 7, _ => exact ⟨okD_dec (by decide +kernel), by decide +kernel⟩
  | 8, _ => exact ⟨okD_dec (by decide +kernel), by decide +kernel⟩
  | 9, _ => exact ⟨okD_dec (by decide +kernel), by decide +kernel⟩
  | 10, _ => exact ⟨okD_dec (by decide +kernel), by decide +kernel⟩
  | 11, _ => exact ⟨okD_dec (by decide +kernel), by decide +kernel⟩
  | 12, _ => exact ⟨okD_dec (by decide +kernel), by decide +kernel⟩
  | 13, _ => exact ⟨okD_dec (by decide +kernel), by decide +kernel⟩
  | 14, _ => exact ⟨okD_dec (by decide +kernel), by decide +kernel⟩
  | 15, _ => exact ⟨okD_dec (by decide +kernel), by decide +kernel⟩
  | 16, _ => exact ⟨okD_dec (by decide +kernel), by decide +kernel⟩
  | 17, _ => exact ⟨okD_dec (by decide +kernel), by decide +kernel⟩
  | i + 18, h => omega
theorem ne_marks {i : Nat} (hi : i < 18) {W : Wd} {Q : DQ} (q : Q (.bl false) W) : dNe (marks i) (marks i) W Q := by
  obtain ⟨h1, h2⟩ := marks_ok i hi
  have h : okD (marks i) ∧ okD (marks i) ∧ Q (.bl (!PyData.eqv (py (marks i)) (py (marks i)))) W := ⟨h1, h1, by rw [h2]; exact q⟩
  exact h
theorem ne_str {x : Str} {W : Wd} {Q : DQ} (q : Q (.bl false) W) : dNe (.str x) (.str x) W Q := by
  refine ne_ss ?_
  rw [decide_eq_true rfl]; exact q
def S_law : DSp := fun ds W Q E => ∃ ns : List Int, ds = [.lst (ns.map Dt.int)] ∧ W.src = none ∧ ns.length ≤ 63 ∧ ∀ W', Q (.bl true) W'
section
variable {P : Program} {w : World} {K : Frag} {mg : Str → Option Value} {base : Heap} {a : Ad}
theorem fn_law {f : Addr} {fd : FuncData} (T : Txt P K mg a) (F : Fun K "law" "law" s_law f fd) (O1 : OkD P w K mg base 1 "_law_source" ["script"] S_source) (O2 : OkD P w K mg base 7 "_law_value" ["source", "deep"] (S_valueN 4)) (O3 : OkD P w K mg base 1 "_law_bare" ["which"] (S_bare a))
    (O4 : OkD P w K mg base 1 "_law_made" ["which", "it"] (S_made a)) (O5 : OkD P w K mg base 1 "_law_made_by_name" ["which", "it"] (S_made a)) (O6 : OkD P w K mg base 1 "_law_held" ["which", "error"] (S_held a)) (O7 : OkD P w K mg base 1 "_law_marks" ["error"] (S_marks a))
    (O8 : OkD P w K mg base 1 "_law_due" ["which"] S_due) (O9 : OkD P w K mg base 2 "_law_raised" ["which", "it", "wide"] (S_raised a)) : FnD P w K mg base 21 f fd ["script"] S_law := by
  refine fnD F sc_law (fun ds W Q E h => ?_) (fun cdv A outer s H E hr => j_law T O1 O2 O3 O4 O5 O6 O7 O8 O9 hr) fun ds W Q E h => ?_
  · obtain ⟨ns, rfl, _⟩ := h; rfl
  · obtain ⟨ns, rfl, hs, hl, hq⟩ := h
    dsimp only [xSeq, xAsg, xOp, xVar, xC, xCall, xRet, xCons, xNil, xTup, xIfS, xOr, xNot, xTru, xTest, xNext, xCB, gSet, gTupD, gsCons, gsNil, startD, List.map, List.length_cons, List.length_nil, Nat.reduceAdd, Nat.reduceSub, List.replicate_succ, List.replicate_zero, List.cons_append, List.nil_append, List.append_nil, List.getElem?_cons_zero, List.getElem?_cons_succ, List.set_cons_zero, List.set_cons_succ]
    refine ⟨ns, rfl, hs, hl, fun p c => ?_⟩
    have h2 : (2 : Nat) ≤ sizeLine := by rw [sizeLine_eq]; decide
    have h7 : (7 : Nat) ≤ sizeLine := by rw [sizeLine_eq]; decide
    refine ⟨⟨by decide, by decide⟩, ?_⟩
    refine forL_inv (fun _ Γ W' => (∃ x, Γ = [some (.lst (ns.map Dt.int)), some (.at p), x, none, none, none, none, none]) ∧ W' = { W with src := some (p, c, 0) }) (fun _ _ _ _ => True.intro) (fun Γ W' h => ?_) _ (fun x hx k Γ W' D' h hn => ?_) _ _ ⟨⟨none, rfl⟩, rfl⟩
    · obtain ⟨⟨x, rfl⟩, rfl⟩ := h
      refine ⟨⟨by decide, by decide⟩, ?_⟩
      refine forL_inv (fun k Γ W' => (∃ x2 x3 x4 x5 x6 x7, Γ = [some (.lst (ns.map Dt.int)), some (.at p), x2, x3, x4, x5, x6, x7]) ∧ ∃ n, W'.src = some (p, c, n) ∧ n + k * 135 ≤ 1620) (fun _ _ _ _ => True.intro) (fun Γ W' h => ?_) _ (fun x hx k Γ W' D' h hn => ?_) _ _ ⟨⟨_, _, _, _, _, _, rfl⟩, 0, rfl, by decide⟩
      · obtain ⟨⟨_, _, _, _, _, _, rfl⟩, _⟩ := h
        exact hq _
      · obtain ⟨⟨x2, x3, x4, x5, x6, x7, rfl⟩, n, hsrc, hb⟩ := h
        dsimp only [xSeq, xAsg, xOp, xVar, xC, xCall, xRet, xCons, xNil, xTup, xIfS, xOr, xNot, xTru, xTest, xNext, xCB, gSet, gTupD, gsCons, gsNil, startD, List.map, List.length_cons, List.length_nil, Nat.reduceAdd, Nat.reduceSub, List.replicate_succ, List.replicate_zero, List.cons_append, List.nil_append, List.append_nil, List.getElem?_cons_zero, List.getElem?_cons_succ, List.set_cons_zero, List.set_cons_succ]
        refine ⟨p, n, 3, by decide, rfl, ⟨c, hsrc⟩, by omega, fun d n' hv hn' => ?_⟩
        have sh := val_show hv
        have hW : ∀ W2, res d W2 = d := fun W2 => show_res sh
        refine ⟨by rw [hW]; exact sh, ?_⟩
        rw [hW]
        refine ⟨⟨by decide, by decide, by decide, by decide⟩, ?_⟩
        refine forL_inv (fun _ Γ W2 => (∃ x2 x6, Γ = [some (.lst (ns.map Dt.int)), some (.at p), x2, some x, some d, some (.str (pyK d).shown), x6, x7]) ∧ W2 = W'.drawn n') (fun _ _ _ _ => True.intro) (fun Γ W2 h => ?_) _ (fun y hy k2 Γ W2 D2 h hn2 => ?_) _ _ ⟨⟨_, _, rfl⟩, rfl⟩
        · obtain ⟨⟨y2, y6, rfl⟩, rfl⟩ := h
          dsimp only [xSeq, xAsg, xOp, xVar, xC, xCall, xRet, xCons, xNil, xTup, xIfS, xOr, xNot, xTru, xTest, xNext, xCB, gSet, gTupD, gsCons, gsNil, startD, List.map, List.length_cons, List.length_nil, Nat.reduceAdd, Nat.reduceSub, List.replicate_succ, List.replicate_zero, List.cons_append, List.nil_append, List.append_nil, List.getElem?_cons_zero, List.getElem?_cons_succ, List.set_cons_zero, List.set_cons_succ]
          refine ⟨h2, h2, h2, h2, h2, h2, h2, h7, ?_⟩
          refine forL_inv (fun _ Γ W2 => (∃ x2 x7, Γ = [some (.lst (ns.map Dt.int)), some (.at p), x2, some x, some d, some (.str (pyK d).shown), y6, x7]) ∧ W2 = W'.drawn n') (fun _ _ _ _ => True.intro) (fun Γ W2 h => ?_) _ (fun y hy k2 Γ W2 D2 h hn2 => ?_) _ _ ⟨⟨_, _, rfl⟩, rfl⟩
          · obtain ⟨⟨z2, z7, rfl⟩, rfl⟩ := h
            dsimp only [xSeq, xAsg, xOp, xVar, xC, xCall, xRet, xCons, xNil, xTup, xIfS, xOr, xNot, xTru, xTest, xNext, xCB, gSet, gTupD, gsCons, gsNil, startD, List.map, List.length_cons, List.length_nil, Nat.reduceAdd, Nat.reduceSub, List.replicate_succ, List.replicate_zero, List.cons_append, List.nil_append, List.append_nil, List.getElem?_cons_zero, List.getElem?_cons_succ, List.set_cons_zero, List.set_cons_succ]
            refine ⟨by rw [hW]; exact sh, ?_⟩
            rw [hW]
            refine ne_str ?_
            dsimp only
            rw [if_neg (by decide)]
            exact hn _ _ ⟨⟨_, _, _, _, _, _, rfl⟩, n', src_drawn hsrc, by omega⟩
          · obtain ⟨⟨z2, z7, rfl⟩, rfl⟩ := h
            have key : ∀ (i : Nat), i ∈ raised → y = .tup [.int i, .str (wide i)] → gTupD 2 (gsCons (gSet 2) (gsCons (gSet 7) gsNil)) y [some (.lst (ns.map Dt.int)), some (.at p), z2, some x, some d, some (.str (pyK d).shown), y6, z7] (W'.drawn n') (fun Γ' W' => (xIfS (xNot (xTru (xCall (S_raised a) [] (xCons (xVar 2) (xCons (xVar 4) (xCons (xVar 7) xNil)))))) (xRet (xC (.bl false))) xNext) D2 Γ' W') := fun i hi e => by
              subst e
              refine ⟨rfl, ?_⟩
              refine ⟨i, d, hi, rfl, sh, ?_⟩
              exact hn2 _ _ ⟨⟨_, _, rfl⟩, rfl⟩
            simp only [List.mem_cons, List.not_mem_nil, or_false] at hy
            rcases hy with rfl | rfl | rfl | rfl | rfl | rfl | rfl
            · exact key 8 (by decide) rfl
            · exact key 13 (by decide) rfl
            · exact key 11 (by decide) rfl
            · exact key 15 (by decide) rfl
            · exact key 16 (by decide) rfl
            · exact key 4 (by decide) rfl
            · exact key 7 (by decide) rfl
        · obtain ⟨⟨z2, z6, rfl⟩, rfl⟩ := h
          obtain ⟨j, hj, rfl⟩ := List.mem_map.mp hy
          have hj' : j < 10 := List.mem_range.mp hj
          rw [show (8 : Int) + (j : Int) = ((8 + j : Nat) : Int) by omega]
          dsimp only [xSeq, xAsg, xOp, xVar, xC, xCall, xRet, xCons, xNil, xTup, xIfS, xOr, xNot, xTru, xTest, xNext, xCB, gSet, gTupD, gsCons, gsNil, startD, List.map, List.length_cons, List.length_nil, Nat.reduceAdd, Nat.reduceSub, List.replicate_succ, List.replicate_zero, List.cons_append, List.nil_append, List.append_nil, List.getElem?_cons_zero, List.getElem?_cons_succ, List.set_cons_zero, List.set_cons_succ]
          refine ⟨8 + j, d, by omega, by omega, rfl, 8 + j, d, by omega, by omega, rfl, h2, ?_⟩
          refine forL_inv (fun _ Γ W2 => (∃ x6, Γ = [some (.lst (ns.map Dt.int)), some (.at p), some (.int ((8 + j : Nat) : Int)), some x, some d, some (.str (pyK d).shown), x6, x7]) ∧ W2 = W'.drawn n') (fun _ _ _ _ => True.intro) (fun Γ W2 h => ?_) _ (fun y hy k3 Γ W2 D3 h hn3 => ?_) _ _ ⟨⟨_, rfl⟩, rfl⟩
          · obtain ⟨⟨y6, rfl⟩, rfl⟩ := h
            exact hn2 _ _ ⟨⟨_, _, rfl⟩, rfl⟩
          · obtain ⟨⟨y6, rfl⟩, rfl⟩ := h
            have ey : y = .exc (a (8 + j)) [(fld (8 + j), d)] := by
              simp only [List.mem_cons, List.not_mem_nil, or_false] at hy
              rcases hy with rfl | rfl <;> rfl
            subst ey
            dsimp only [xSeq, xAsg, xOp, xVar, xC, xCall, xRet, xCons, xNil, xTup, xIfS, xOr, xNot, xTru, xTest, xNext, xCB, gSet, gTupD, gsCons, gsNil, startD, List.map, List.length_cons, List.length_nil, Nat.reduceAdd, Nat.reduceSub, List.replicate_succ, List.replicate_zero, List.cons_append, List.nil_append, List.append_nil, List.getElem?_cons_zero, List.getElem?_cons_succ, List.set_cons_zero, List.set_cons_succ]
            refine ⟨8 + j, _, by omega, rfl, 8 + j, by omega, rfl, ne_marks (by omega) ?_⟩
            dsimp only
            rw [if_neg (by decide)]
            refine ⟨8 + j, d, by omega, by omega, rfl, ?_⟩
            refine ⟨by rw [hW]; exact sh, ?_⟩
            rw [hW]
            refine ne_str ?_
            dsimp only
            rw [if_neg (by decide)]
            exact hn3 _ _ ⟨⟨_, rfl⟩, rfl⟩
    · obtain ⟨⟨y, rfl⟩, rfl⟩ := h
      obtain ⟨j, hj, rfl⟩ := List.mem_map.mp hx
      have hj' : j < 8 := List.mem_range.mp hj
      rw [show (0 : Int) + (j : Int) = (j : Int) by omega]
      dsimp only [xSeq, xAsg, xOp, xVar, xC, xCall, xRet, xCons, xNil, xTup, xIfS, xOr, xNot, xTru, xTest, xNext, xCB, gSet, gTupD, gsCons, gsNil, startD, List.map, List.length_cons, List.length_nil, Nat.reduceAdd, Nat.reduceSub, List.replicate_succ, List.replicate_zero, List.cons_append, List.nil_append, List.append_nil, List.getElem?_cons_zero, List.getElem?_cons_succ, List.set_cons_zero, List.set_cons_succ]
      refine ⟨j, hj', rfl, j, _, by omega, rfl, j, by omega, rfl, ne_marks (by omega) ?_⟩
      dsimp only
      rw [if_neg (by decide)]
      exact hn _ _ ⟨⟨_, rfl⟩, rfl⟩
end
end K1

set_option Elab.async false
set_option linter.all false
set_option maxRecDepth 100000
set_option maxHeartbeats 4000000
/-! K1H: k01: what the top has written, put together. -/
namespace K1
open PySem L2 DL PySem.DEX
open PySem.W (Frag)
open PySem.W (excTail excInitIn clsIn typeIn subIn mroIn findIn nsIn ks_superIn kitOne kitCls exmOne hasDictIn keepIn codeIn ksFn)
/-- what a class is -/
structure Cm (K : Frag) (mg : Str → Option Value) (x : Str) (C : Addr) (bm : List Value) : Prop where
  m : mg x = some (.ref C)
  name : (clsIn K C).map (·.name) = some x
  mro : (clsIn K C).map (·.mro) = some (.ref C :: bm)
  ty : typeIn K (.ref C) = some (.type "type")
section
variable {P : Program} {w : World} {K : Frag} {h : Heap} {mg : Str → Option Value} {C : Addr} {x nm q : Str} {N : Addr} {bs bm bmB bmN : List Value} {hdct : Bool} {sn : List Str} {sub : List Value} {ab : Bool} {col : Option Bool} {dd : Option Addr} {k0 k1 k2 k3 k5 : Option Value} {newId NB initN B initId : String}
theorem cls_of (l : K.lookup C = some (excClassObj nm q C N bs bm hdct sn sub ab col dd k0 k1 k2 k3 k5 newId)) : clsIn K C = some { name := nm, bases := bs, mro := .ref C :: bm, ns := N, qualname := q, hasDict := hdct, slotNames := sn, subclasses := sub, abstract := ab, collection := col, hasDel := false } := by
  unfold PySem.W.clsIn; rw [l]
theorem cm_of (X : K.In h) (G : h.Ns mainGlobals mg) (aC : nsIn K mainGlobals x = some (some (.ref C))) (l : K.lookup C = some (excClassObj x q C N bs bm hdct sn sub ab col dd k0 k1 k2 k3 k5 newId)) : Cm K mg x C bm :=
  ⟨PySem.W.mg_of X G aC, by rw [cls_of l]; rfl, by rw [cls_of l]; rfl, by show (K.lookup C).map (·.cls) = _; rw [l]; rfl⟩
theorem sub_of (l : K.lookup C = some (excClassObj nm q C N bs bm hdct sn sub ab col dd k0 k1 k2 k3 k5 newId)) (v : Value) : subIn K (.ref C) v = some ((Value.ref C :: bm).contains v) := by
  show mroIn K C v = _
  unfold PySem.W.mroIn
  rw [cls_of l]; rfl
theorem init_of (l : K.lookup C = some (excClassObj nm q C N bs bm hdct sn sub ab col dd k0 k1 k2 k3 k5 newId)) (ht : excTail bmB bm = true) : excInitIn K C bmB newId = true := by
  unfold PySem.W.excInitIn
  rw [l]
  simp [ht]
/-- the law's own facts of the top -/
structure Top1 (P : Program) (K : Frag) (mg : Str → Option Value) : Prop where
  opq : nsIn K cStatics "thirdparty.any" = some none
  n1 : PySem.W.specialIn K (.builtin "object.__class__") "__get__" = some (some (.builtin "getset_descriptor.__get__"))
  t1 : PySem.W.takesIn K (.builtin "object.__class__") = some true
  sup : mg "super" = none
  top : (P.main.scope.names.lookup ("super" : Str)).isSome = false
/-- an exception class as it stands; st: its __init__ -/
structure XF (P : Program) (K : Frag) (C : Addr) (bm : List Value) (newId initId : String) (qual : Str) (st : Stmt) : Prop where
  ex : ∃ (fI cc cda : Addr) (kV doc pm ct : Value) (an : Option Addr), ExK P K bm newId initId C fI cc cda qual (defScope st) (ksFn "__init__" qual (defArgs st) (defBody st) (defScope st) .none kV doc pm an (.ref cda) ct cc)
  a : ExA K C
  kp : keepIn K (.ref C) = true
  xf : XfC K C
theorem xf_of {fI cc cda par : Addr} {qual : Str} {st : Stmt} {oc kV doc pm ct cl ccl : Value} {od an cld cdd : Option Addr} {osl csl ccs : Array (Option Value)} {vs : Array Value} {file : Str} {tf : Tok} (T : Top1 P K mg) (BF : BaseF bmB NB newId initN bmN B initId) (hbe : bmB.contains (.type "BaseException") = true)
    (l : K.lookup C = some (excClassObj x q C N bs (.ref par :: bmB) true sn sub ab col dd k0 k1 k2 k3 k5 newId)) (hself : excTail bmB bmB = true)
    (init : findIn K (.ref C) "__init__" = some (some (.ref fI))) (fn : K.lookup fI = some ⟨oc, od, .func (ksFn "__init__" qual (defArgs st) (defBody st) (defScope st) .none kV doc pm an (.ref cda) ct cc), osl⟩) (hoc : oc = .type "function") (cod : codeIn K (.ref cda) qual = true)
    (cell : K.lookup cc = some ⟨cl, cld, .cell (some (.ref C)), csl⟩) (code : K.lookup cda = some ⟨ccl, cdd, .fields vs, ccs⟩) (hvs : vs[2]? = some (.str file tf)) (hfile : ((P.main.file : Str) == file) = true)
    (sup : ks_superIn K C C "__init__" = some (some (.builtin initId))) (sa : findIn K (.ref C) "__setattr__" = some (some (.builtin "object.__setattr__"))) (kp : keepIn K (.ref C) = true)
    (ga : findIn K (.ref C) "__getattribute__" = some (some (.builtin "BaseException.__getattribute__"))) (gg : findIn K (.ref C) "__getattr__" = some none) (ha : findIn K (.ref C) "__class__" = some (some (.builtin "object.__class__"))) : XF P K C bmB newId initId qual st := by
  have hT : excTail bmB (.ref par :: bmB) = true := hself
  have hty : typeIn K (.ref C) = some (.type "type") := by show (K.lookup C).map (·.cls) = _; rw [l]; rfl
  have hd : hasDictIn K C = true := by unfold PySem.W.hasDictIn; rw [cls_of l]; rfl
  have hs : subIn K (.ref C) (.type "BaseException") = some true := by
    rw [sub_of l, List.contains_cons, PySem.W.excTail_contains _ _ hT, hbe]; rfl
  have hm : mroIn K C (.type "object") = some true := by
    have := sub_of l (.type "object")
    rw [List.contains_cons, PySem.W.excTail_contains _ _ hT, BF.cO] at this
    exact this
  exact ⟨⟨fI, cc, cda, kV, doc, pm, ct, an, ⟨init_of l hT, hd, init, by show (K.lookup fI).map (·.cls) = _; rw [fn, hoc]; rfl, sup, T.opq, ⟨_, _, _, fn⟩, cod, ⟨_, _, _, cell⟩, ⟨_, _, _, _, _, _, code, hvs, hfile⟩, T.top, sa, kp⟩⟩,
    ⟨⟨ga, gg, hs, hd, ha, T.n1, T.t1, hm⟩, hty, ga⟩, kp, ⟨ga, gg, hs, hd⟩⟩
theorem xc0_of {qual : Str} {st : Stmt} (T : Top1 P K mg) (BF : BaseF bmB NB newId initN bmN B initId) (F : XF P K C bmB newId initId qual st) (S : ∃ msg j p0 p1 p2 p3 p4 p5 ar, Syn0 st msg j p0 p1 p2 p3 p4 p5 ar) : XC0 P K mg C := by
  obtain ⟨fI, cc, cda, kV, doc, pm, ct, an, E⟩ := F.ex
  obtain ⟨msg, j, p0, p1, p2, p3, p4, p5, ar, S⟩ := S
  exact ⟨⟨bmB, NB, newId, initN, bmN, B, initId, fI, cc, cda, qual, st, kV, doc, pm, an, ct, msg, j, p0, p1, p2, p3, p4, p5, ar, BF, S, E⟩, F.a, T.sup, F.kp⟩
theorem xc1_of {qual f p : Str} {st : Stmt} (T : Top1 P K mg) (BF : BaseF bmB NB newId initN bmN B initId) (F : XF P K C bmB newId initId qual st) (no : findIn K (.ref C) f = some none) (S : ∃ msg j p0 p1 p2 p3 p4 p5 q0 q1 q2 q3 ar, Syn1 st f p msg j p0 p1 p2 p3 p4 p5 q0 q1 q2 q3 ar) : XC1 P K mg C f p := by
  obtain ⟨fI, cc, cda, kV, doc, pm, ct, an, E⟩ := F.ex
  obtain ⟨msg, j, p0, p1, p2, p3, p4, p5, q0, q1, q2, q3, ar, S⟩ := S
  exact ⟨⟨bmB, NB, newId, initN, bmN, B, initId, fI, cc, cda, qual, st, kV, doc, pm, an, ct, msg, j, p0, p1, p2, p3, p4, p5, q0, q1, q2, q3, ar, BF, S, E⟩, F.a, T.sup, F.kp, no⟩
end

abbrev e0 : Stmt := inClass (top 2) 0
theorem syn0 : ∃ msg j p0 p1 p2 p3 p4 p5 ar, Syn0 e0 msg j p0 p1 p2 p3 p4 p5 ar := ⟨_, _, _, _, _, _, _, _, _, ⟨rfl, ⟨rfl, rfl, rfl, by decide +kernel, rfl, rfl, rfl⟩, rfl, rfl, rfl, fun _ _ _ _ _ => rfl, fun _ _ _ _ _ _ _ _ _ _ => .of_eq rfl⟩⟩
abbrev e1 : Stmt := inClass (top 3) 0
theorem syn1 : ∃ msg j p0 p1 p2 p3 p4 p5 ar, Syn0 e1 msg j p0 p1 p2 p3 p4 p5 ar := ⟨_, _, _, _, _, _, _, _, _, ⟨rfl, ⟨rfl, rfl, rfl, by decide +kernel, rfl, rfl, rfl⟩, rfl, rfl, rfl, fun _ _ _ _ _ => rfl, fun _ _ _ _ _ _ _ _ _ _ => .of_eq rfl⟩⟩
abbrev e2 : Stmt := inClass (top 5) 0
theorem syn2 : ∃ msg j p0 p1 p2 p3 p4 p5 ar, Syn0 e2 msg j p0 p1 p2 p3 p4 p5 ar := ⟨_, _, _, _, _, _, _, _, _, ⟨rfl, ⟨rfl, rfl, rfl, by decide +kernel, rfl, rfl, rfl⟩, rfl, rfl, rfl, fun _ _ _ _ _ => rfl, fun _ _ _ _ _ _ _ _ _ _ => .of_eq rfl⟩⟩
abbrev e3 : Stmt := inClass (top 6) 0
theorem syn3 : ∃ msg j p0 p1 p2 p3 p4 p5 ar, Syn0 e3 msg j p0 p1 p2 p3 p4 p5 ar := ⟨_, _, _, _, _, _, _, _, _, ⟨rfl, ⟨rfl, rfl, rfl, by decide +kernel, rfl, rfl, rfl⟩, rfl, rfl, rfl, fun _ _ _ _ _ => rfl, fun _ _ _ _ _ _ _ _ _ _ => .of_eq rfl⟩⟩
abbrev e4 : Stmt := inClass (top 7) 0
theorem syn4 : ∃ msg j p0 p1 p2 p3 p4 p5 ar, Syn0 e4 msg j p0 p1 p2 p3 p4 p5 ar := ⟨_, _, _, _, _, _, _, _, _, ⟨rfl, ⟨rfl, rfl, rfl, by decide +kernel, rfl, rfl, rfl⟩, rfl, rfl, rfl, fun _ _ _ _ _ => rfl, fun _ _ _ _ _ _ _ _ _ _ => .of_eq rfl⟩⟩
abbrev e5 : Stmt := inClass (top 8) 0
theorem syn5 : ∃ msg j p0 p1 p2 p3 p4 p5 ar, Syn0 e5 msg j p0 p1 p2 p3 p4 p5 ar := ⟨_, _, _, _, _, _, _, _, _, ⟨rfl, ⟨rfl, rfl, rfl, by decide +kernel, rfl, rfl, rfl⟩, rfl, rfl, rfl, fun _ _ _ _ _ => rfl, fun _ _ _ _ _ _ _ _ _ _ => .of_eq rfl⟩⟩
abbrev e6 : Stmt := inClass (top 9) 0
theorem syn6 : ∃ msg j p0 p1 p2 p3 p4 p5 ar, Syn0 e6 msg j p0 p1 p2 p3 p4 p5 ar := ⟨_, _, _, _, _, _, _, _, _, ⟨rfl, ⟨rfl, rfl, rfl, by decide +kernel, rfl, rfl, rfl⟩, rfl, rfl, rfl, fun _ _ _ _ _ => rfl, fun _ _ _ _ _ _ _ _ _ _ => .of_eq rfl⟩⟩
abbrev e7 : Stmt := inClass (top 10) 0
theorem syn7 : ∃ msg j p0 p1 p2 p3 p4 p5 ar, Syn0 e7 msg j p0 p1 p2 p3 p4 p5 ar := ⟨_, _, _, _, _, _, _, _, _, ⟨rfl, ⟨rfl, rfl, rfl, by decide +kernel, rfl, rfl, rfl⟩, rfl, rfl, rfl, fun _ _ _ _ _ => rfl, fun _ _ _ _ _ _ _ _ _ _ => .of_eq rfl⟩⟩
abbrev e8 : Stmt := inClass (top 4) 0
theorem syn8 : ∃ msg j p0 p1 p2 p3 p4 p5 q0 q1 q2 q3 ar, Syn1 e8 "change" "change" msg j p0 p1 p2 p3 p4 p5 q0 q1 q2 q3 ar := ⟨_, _, _, _, _, _, _, _, _, _, _, _, _, ⟨rfl, ⟨rfl, rfl, rfl, by decide +kernel, rfl, rfl, rfl⟩, rfl, by decide, by decide, rfl, rfl, rfl, fun _ _ _ _ _ => rfl, fun _ _ _ _ _ _ _ _ _ _ _ => .of_eq rfl, fun _ _ _ _ _ _ _ _ _ _ _ => .of_eq rfl⟩⟩
abbrev e9 : Stmt := inClass (top 11) 0
theorem syn9 : ∃ msg j p0 p1 p2 p3 p4 p5 q0 q1 q2 q3 ar, Syn1 e9 "name" "name" msg j p0 p1 p2 p3 p4 p5 q0 q1 q2 q3 ar := ⟨_, _, _, _, _, _, _, _, _, _, _, _, _, ⟨rfl, ⟨rfl, rfl, rfl, by decide +kernel, rfl, rfl, rfl⟩, rfl, by decide, by decide, rfl, rfl, rfl, fun _ _ _ _ _ => rfl, fun _ _ _ _ _ _ _ _ _ _ _ => .of_eq rfl, fun _ _ _ _ _ _ _ _ _ _ _ => .of_eq rfl⟩⟩
abbrev e10 : Stmt := inClass (top 12) 0
theorem syn10 : ∃ msg j p0 p1 p2 p3 p4 p5 q0 q1 q2 q3 ar, Syn1 e10 "number" "number" msg j p0 p1 p2 p3 p4 p5 q0 q1 q2 q3 ar := ⟨_, _, _, _, _, _, _, _, _, _, _, _, _, ⟨rfl, ⟨rfl, rfl, rfl, by decide +kernel, rfl, rfl, rfl⟩, rfl, by decide, by decide, rfl, rfl, rfl, fun _ _ _ _ _ => rfl, fun _ _ _ _ _ _ _ _ _ _ _ => .of_eq rfl, fun _ _ _ _ _ _ _ _ _ _ _ => .of_eq rfl⟩⟩
abbrev e11 : Stmt := inClass (top 13) 0
theorem syn11 : ∃ msg j p0 p1 p2 p3 p4 p5 q0 q1 q2 q3 ar, Syn1 e11 "numbers" "numbers" msg j p0 p1 p2 p3 p4 p5 q0 q1 q2 q3 ar := ⟨_, _, _, _, _, _, _, _, _, _, _, _, _, ⟨rfl, ⟨rfl, rfl, rfl, by decide +kernel, rfl, rfl, rfl⟩, rfl, by decide, by decide, rfl, rfl, rfl, fun _ _ _ _ _ => rfl, fun _ _ _ _ _ _ _ _ _ _ _ => .of_eq rfl, fun _ _ _ _ _ _ _ _ _ _ _ => .of_eq rfl⟩⟩
abbrev e12 : Stmt := inClass (top 14) 0
theorem syn12 : ∃ msg j p0 p1 p2 p3 p4 p5 q0 q1 q2 q3 ar, Syn1 e12 "tree" "tree" msg j p0 p1 p2 p3 p4 p5 q0 q1 q2 q3 ar := ⟨_, _, _, _, _, _, _, _, _, _, _, _, _, ⟨rfl, ⟨rfl, rfl, rfl, by decide +kernel, rfl, rfl, rfl⟩, rfl, by decide, by decide, rfl, rfl, rfl, fun _ _ _ _ _ => rfl, fun _ _ _ _ _ _ _ _ _ _ _ => .of_eq rfl, fun _ _ _ _ _ _ _ _ _ _ _ => .of_eq rfl⟩⟩
abbrev e13 : Stmt := inClass (top 15) 0
theorem syn13 : ∃ msg j p0 p1 p2 p3 p4 p5 q0 q1 q2 q3 ar, Syn1 e13 "mixes" "mixes" msg j p0 p1 p2 p3 p4 p5 q0 q1 q2 q3 ar := ⟨_, _, _, _, _, _, _, _, _, _, _, _, _, ⟨rfl, ⟨rfl, rfl, rfl, by decide +kernel, rfl, rfl, rfl⟩, rfl, by decide, by decide, rfl, rfl, rfl, fun _ _ _ _ _ => rfl, fun _ _ _ _ _ _ _ _ _ _ _ => .of_eq rfl, fun _ _ _ _ _ _ _ _ _ _ _ => .of_eq rfl⟩⟩
abbrev e14 : Stmt := inClass (top 17) 0
theorem syn14 : ∃ msg j p0 p1 p2 p3 p4 p5 q0 q1 q2 q3 ar, Syn1 e14 "name" "name" msg j p0 p1 p2 p3 p4 p5 q0 q1 q2 q3 ar := ⟨_, _, _, _, _, _, _, _, _, _, _, _, _, ⟨rfl, ⟨rfl, rfl, rfl, by decide +kernel, rfl, rfl, rfl⟩, rfl, by decide, by decide, rfl, rfl, rfl, fun _ _ _ _ _ => rfl, fun _ _ _ _ _ _ _ _ _ _ _ => .of_eq rfl, fun _ _ _ _ _ _ _ _ _ _ _ => .of_eq rfl⟩⟩
abbrev e15 : Stmt := inClass (top 18) 0
theorem syn15 : ∃ msg j p0 p1 p2 p3 p4 p5 q0 q1 q2 q3 ar, Syn1 e15 "row" "row" msg j p0 p1 p2 p3 p4 p5 q0 q1 q2 q3 ar := ⟨_, _, _, _, _, _, _, _, _, _, _, _, _, ⟨rfl, ⟨rfl, rfl, rfl, by decide +kernel, rfl, rfl, rfl⟩, rfl, by decide, by decide, rfl, rfl, rfl, fun _ _ _ _ _ => rfl, fun _ _ _ _ _ _ _ _ _ _ _ => .of_eq rfl, fun _ _ _ _ _ _ _ _ _ _ _ => .of_eq rfl⟩⟩
abbrev e16 : Stmt := inClass (top 19) 0
theorem syn16 : ∃ msg j p0 p1 p2 p3 p4 p5 q0 q1 q2 q3 ar, Syn1 e16 "number" "number" msg j p0 p1 p2 p3 p4 p5 q0 q1 q2 q3 ar := ⟨_, _, _, _, _, _, _, _, _, _, _, _, _, ⟨rfl, ⟨rfl, rfl, rfl, by decide +kernel, rfl, rfl, rfl⟩, rfl, by decide, by decide, rfl, rfl, rfl, fun _ _ _ _ _ => rfl, fun _ _ _ _ _ _ _ _ _ _ _ => .of_eq rfl, fun _ _ _ _ _ _ _ _ _ _ _ => .of_eq rfl⟩⟩
abbrev e17 : Stmt := inClass (top 20) 0
theorem syn17 : ∃ msg j p0 p1 p2 p3 p4 p5 q0 q1 q2 q3 ar, Syn1 e17 "name" "name" msg j p0 p1 p2 p3 p4 p5 q0 q1 q2 q3 ar := ⟨_, _, _, _, _, _, _, _, _, _, _, _, _, ⟨rfl, ⟨rfl, rfl, rfl, by decide +kernel, rfl, rfl, rfl⟩, rfl, by decide, by decide, rfl, rfl, rfl, fun _ _ _ _ _ => rfl, fun _ _ _ _ _ _ _ _ _ _ _ => .of_eq rfl, fun _ _ _ _ _ _ _ _ _ _ _ => .of_eq rfl⟩⟩
end K1

set_option Elab.async false
set_option linter.all false
set_option maxRecDepth 100000
set_option maxHeartbeats 4000000
/-! K1I: k01: the facts put together; the end. -/
namespace K1
open PySem L2 DL PySem.DEX
open PySem.W (Frag)
open PySem.W (excTail excInitIn clsIn typeIn subIn mroIn findIn nsIn ks_superIn kitOne kitCls exmOne hasDictIn keepIn codeIn ksFn)
def nmOf (i : Nat) : Str := (["InvalidTable", "InvalidStore", "InvalidQuestion", "InvalidForm", "InvalidText", "InvalidCommand", "InvalidShape", "Full", "InvalidChange", "NameTaken", "Broken", "Barred", "NoOrder", "Bound", "UnknownTable", "UnknownRow", "UnknownNumber", "UnknownReplica", "TurnError", "Unknown"] : List Str).getD i ""
def adr (l : List Addr) : Ad := fun i => l.getD i 0
theorem nm_inj : ∀ i, i < 20 → ∀ j, j < 20 → nmOf i = nmOf j → i = j := by decide +kernel
abbrev parI (i : Nat) : Nat := if i < 14 then 18 else 19
abbrev bmI (i : Nat) : List Value := if i < 14 then mroVE else mroKE
section
variable {P : Program} {K : Frag} {mg : Str → Option Value} {a : Ad}
/-- all classes -/
structure Al (K : Frag) (mg : Str → Option Value) (a : Ad) : Prop where
  c : ∀ i, i < 18 → Cm K mg (nmOf i) (a i) (.ref (a (parI i)) :: bmI i)
  t : Cm K mg (nmOf 18) (a 18) mroVE
  u : Cm K mg (nmOf 19) (a 19) mroKE
theorem Al.name (h : Al K mg a) (i : Nat) (hi : i < 20) : (clsIn K (a i)).map (·.name) = some (nmOf i) := by
  by_cases h1 : i < 18
  · exact (h.c i h1).name
  · have : i = 18 ∨ i = 19 := by omega
    rcases this with rfl | rfl
    · exact h.t.name
    · exact h.u.name
theorem Al.inj (h : Al K mg a) {i j : Nat} (hi : i < 20) (hj : j < 20) (e : a i = a j) : i = j := by
  have h1 := h.name i hi
  rw [e, h.name j hj] at h1
  exact (nm_inj j hj i hi (Option.some.inj h1)).symm
theorem Al.isC (h : Al K mg a) (i : Nat) (hi : i < 20) : (clsIn K (a i)).isSome = true := by
  have := h.name i hi
  cases q : clsIn K (a i) with
  | none => rw [q] at this; cases this
  | some _ => rfl
theorem Al.ty (h : Al K mg a) (i : Nat) (hi : i < 20) : typeIn K (.ref (a i)) = some (.type "type") := by
  by_cases h1 : i < 18
  · exact (h.c i h1).ty
  · have : i = 18 ∨ i = 19 := by omega
    rcases this with rfl | rfl
    · exact h.t.ty
    · exact h.u.ty
theorem mro_sub {C : Addr} {l : List Value} (h : (clsIn K C).map (·.mro) = some (.ref C :: l)) (v : Value) : subIn K (.ref C) v = some ((Value.ref C :: l).contains v) := by
  show mroIn K C v = _
  unfold PySem.W.mroIn
  cases q : clsIn K C with
  | none => rw [q] at h; cases h
  | some cd =>
    rw [q] at h
    have e : cd.mro = .ref C :: l := Option.some.inj h
    show (if cd.mro.isEmpty = true then none else some (cd.mro.contains v)) = _
    rw [e]; rfl
theorem bm_ref (i : Nat) (D : Addr) : (bmI i).contains (.ref D) = false := by
  unfold bmI
  split <;> rfl
theorem ref_ne {A B : Addr} (h : A ≠ B) : ((Value.ref A) == (Value.ref B)) = false := by simp [h]
/-- the own classes an exception is one of -/
theorem Al.sub (h : Al K mg a) {i j : Nat} (hi : i < 18) (hj : j < 20) : subIn K (.ref (a i)) (.ref (a j)) = some (decide (j = i) || decide (j = parI i)) := by
  rw [mro_sub (h.c i hi).mro, List.contains_cons, List.contains_cons, bm_ref, Bool.or_false]
  have hp : parI i < 20 := by unfold parI; split <;> decide
  have e1 : (Value.ref (a j) == Value.ref (a i)) = decide (j = i) := by
    by_cases z : j = i
    · subst z; simp
    · rw [ref_ne (fun q => z (h.inj hj (by omega) q)), decide_eq_false z]
  have e2 : (Value.ref (a j) == Value.ref (a (parI i))) = decide (j = parI i) := by
    by_cases z : j = parI i
    · subst z; simp
    · rw [ref_ne (fun q => z (h.inj hj hp q)), decide_eq_false z]
  rw [e1, e2]
theorem Al.kitC (h : Al K mg a) {i j : Nat} (hi : i < 18) (hj : j < 20) : kitCls K (.ref (a i)) (.ref (a j)) = some (decide (j = i) || decide (j = parI i)) := by
  show (if ((clsIn K (a j)).isSome && typeIn K (.ref (a j)) == some (.type "type")) = true then subIn K (.ref (a i)) (.ref (a j)) else none) = _
  rw [h.isC j hj, h.ty j hj, if_pos (by simp)]
  exact h.sub hi hj
theorem Al.kitO (h : Al K mg a) {i j : Nat} (hi : i < 18) (hj : j < 20) : kitOne K (.ref (a i)) (.ref (a j)) = some (decide (j = i) || decide (j = parI i)) := by
  unfold PySem.W.kitOne
  by_cases z : a i = a j
  · have e := h.inj (by omega) hj z
    rw [if_pos (by rw [z]; simp)]
    subst e; simp
  · rw [if_neg (by rw [ref_ne z]; decide)]
    exact h.kitC hi hj
theorem Al.kitT (h : Al K mg a) {i : Nat} (hi : i < 18) {T : String} (hm : PySem.W.kitMeta T = true) : kitOne K (.ref (a i)) (.type T) = some ((bmI i).contains (.type T)) := by
  unfold PySem.W.kitOne
  rw [if_neg (by simp)]
  show (if PySem.W.kitMeta T = true then subIn K (.ref (a i)) (.type T) else none) = _
  rw [if_pos hm, mro_sub (h.c i hi).mro, List.contains_cons, List.contains_cons]
  rfl
theorem Al.exmO (h : Al K mg a) {i j : Nat} (hi : i < 18) (hj : j < 20) (hb : subIn K (.ref (a j)) (.type "BaseException") = some true) : exmOne K (.ref (a i)) (.ref (a j)) = some (decide (j = i) || decide (j = parI i)) := by
  unfold PySem.W.exmOne
  rw [hb, if_pos (by simp)]
  exact h.kitC hi hj
theorem Al.base (h : Al K mg a) {j : Nat} (hj : j < 20) : subIn K (.ref (a j)) (.type "BaseException") = some true := by
  by_cases h1 : j < 18
  · rw [mro_sub (h.c j h1).mro, List.contains_cons, List.contains_cons]
    unfold bmI
    split <;> rfl
  · have : j = 18 ∨ j = 19 := by omega
    rcases this with rfl | rfl
    · rw [mro_sub h.t.mro]; rfl
    · rw [mro_sub h.u.mro]; rfl
theorem dec_par {i j : Nat} (hi : i < 18) (hj : j < 18) : (decide (j = i) || decide (j = parI i)) = decide (j = i) := by
  have : ¬ j = parI i := by unfold parI; split <;> omega
  rw [decide_eq_false this, Bool.or_false]
theorem dec_18 {i : Nat} (hi : i < 18) : (decide (18 = i) || decide (18 = parI i)) = decide (i < 14) := by
  rw [decide_eq_false (by omega), Bool.false_or]
  unfold parI
  by_cases h : i < 14
  · rw [if_pos h, decide_eq_true h]; rfl
  · rw [if_neg h, decide_eq_false h]; rfl
theorem dec_19 {i : Nat} (hi : i < 18) : (decide (19 = i) || decide (19 = parI i)) = !decide (i < 14) := by
  rw [decide_eq_false (by omega), Bool.false_or]
  unfold parI
  by_cases h : i < 14
  · rw [if_pos h, decide_eq_true h]; rfl
  · rw [if_neg h, decide_eq_false h]; rfl
theorem bm_VE (i : Nat) : (bmI i).contains (.type "ValueError") = decide (i < 14) := by
  unfold bmI
  by_cases h : i < 14
  · rw [if_pos h, decide_eq_true h]; decide +kernel
  · rw [if_neg h, decide_eq_false h]; decide +kernel
theorem bm_KE (i : Nat) : (bmI i).contains (.type "KeyError") = !decide (i < 14) := by
  unfold bmI
  by_cases h : i < 14
  · rw [if_pos h, decide_eq_true h]; decide +kernel
  · rw [if_neg h, decide_eq_false h]; decide +kernel
/-- the built-ins' names -/
structure Bl (mg : Str → Option Value) : Prop where
  b_list : mg "list" = none
  b_range : mg "range" = none
  b_isinstance : mg "isinstance" = none
  b_repr : mg "repr" = none
  b_tuple : mg "tuple" = none
  b_len : mg "len" = none
  b_ValueError : mg "ValueError" = none
  b_KeyError : mg "KeyError" = none
theorem txt_of (B : Bl mg) (h : Al K mg a) (x0 : ∀ i, i < 8 → XC0 P K mg (a i)) (x1 : ∀ i, 8 ≤ i → i < 18 → XC1 P K mg (a i) (fld i) (fld i)) (xf : ∀ i, i < 18 → XfC K (a i)) : Txt P K mg a where
  b_list := B.b_list
  b_range := B.b_range
  b_isinstance := B.b_isinstance
  b_repr := B.b_repr
  b_tuple := B.b_tuple
  b_len := B.b_len
  b_ValueError := B.b_ValueError
  b_KeyError := B.b_KeyError
  m0 := (h.c 0 (by decide)).m
  m1 := (h.c 1 (by decide)).m
  m2 := (h.c 2 (by decide)).m
  m3 := (h.c 3 (by decide)).m
  m4 := (h.c 4 (by decide)).m
  m5 := (h.c 5 (by decide)).m
  m6 := (h.c 6 (by decide)).m
  m7 := (h.c 7 (by decide)).m
  m8 := (h.c 8 (by decide)).m
  m9 := (h.c 9 (by decide)).m
  m10 := (h.c 10 (by decide)).m
  m11 := (h.c 11 (by decide)).m
  m12 := (h.c 12 (by decide)).m
  m13 := (h.c 13 (by decide)).m
  m14 := (h.c 14 (by decide)).m
  m15 := (h.c 15 (by decide)).m
  m16 := (h.c 16 (by decide)).m
  m17 := (h.c 17 (by decide)).m
  m18 := h.t.m
  m19 := h.u.m
  x0 := x0
  x1 := x1
  ok := fun C ⟨i, hi, e⟩ => by
    subst e
    by_cases h8 : i < 8
    · exact (x0 i h8).a.is
    · exact (x1 i (by omega) hi).a.is
  okf := fun f C ⟨i, h8, hi, e, e2⟩ => by
    subst e2; subst e
    exact ⟨xf i hi, (x1 i h8 hi).no⟩
  kit := fun i j hi hj => by rw [h.kitO hi (by omega), dec_par hi hj]
  kitT := fun i hi => by rw [h.kitO hi (by decide), dec_18 hi]
  kitU := fun i hi => by rw [h.kitO hi (by decide), dec_19 hi]
  kitV := fun i hi => by rw [h.kitT hi (by decide +kernel), bm_VE]
  kitK := fun i hi => by rw [h.kitT hi (by decide +kernel), bm_KE]
  exm := fun i j hi hj => by rw [h.exmO hi (by omega) (h.base (by omega)), dec_par hi hj]
  exmT := fun i hi => by rw [h.exmO hi (by decide) (h.base (by decide)), dec_18 hi]
  exmU := fun i hi => by rw [h.exmO hi (by decide) (h.base (by decide)), dec_19 hi]
end
end K1

set_option Elab.async false
set_option linter.all false
set_option maxRecDepth 100000
set_option maxHeartbeats 4000000
/-! K1J: k01: one lemma a class and a def, each with its goal behind it; the end. -/
namespace K1
open PySem L2 DL PySem.DEX
open PySem.W (Frag)
open PySem.W (excTail excInitIn clsIn typeIn subIn mroIn findIn nsIn ks_superIn kitOne kitCls exmOne hasDictIn keepIn codeIn ksFn)
section
variable {Goal : Prop} {K : Frag} {h : Heap} {mg : Str → Option Value}
theorem top_k (X : K.In h) (G : h.Ns mainGlobals mg) (opq : nsIn K cStatics "thirdparty.any" = some none) (n1 : PySem.W.specialIn K (.builtin "object.__class__") "__get__" = some (some (.builtin "getset_descriptor.__get__"))) (t1 : PySem.W.takesIn K (.builtin "object.__class__") = some true) (sup : nsIn K mainGlobals "super" = some none) (next : Top1 P0 K mg → Goal) : Goal :=
  next ⟨opq, n1, t1, PySem.W.mg_none_of X G sup, by decide +kernel⟩
theorem bl_k (X : K.In h) (G : h.Ns mainGlobals mg) (h1 : nsIn K mainGlobals "list" = some none) (h2 : nsIn K mainGlobals "range" = some none) (h3 : nsIn K mainGlobals "isinstance" = some none) (h4 : nsIn K mainGlobals "repr" = some none) (h5 : nsIn K mainGlobals "tuple" = some none) (h6 : nsIn K mainGlobals "len" = some none) (h7 : nsIn K mainGlobals "ValueError" = some none) (h8 : nsIn K mainGlobals "KeyError" = some none) (next : Bl mg → Goal) : Goal :=
  next ⟨PySem.W.mg_none_of X G h1, PySem.W.mg_none_of X G h2, PySem.W.mg_none_of X G h3, PySem.W.mg_none_of X G h4, PySem.W.mg_none_of X G h5, PySem.W.mg_none_of X G h6, PySem.W.mg_none_of X G h7, PySem.W.mg_none_of X G h8⟩
section
variable {C N : Addr} {q : Str} {bs : List Value} {hdct : Bool} {sn : List Str} {sub : List Value} {ab : Bool} {col : Option Bool} {dd : Option Addr} {k0 k1 k2 k3 k5 : Option Value}
theorem base_18 (X : K.In h) (G : h.Ns mainGlobals mg) (aC : nsIn K mainGlobals "TurnError" = some (some (.ref C))) (l : K.lookup C = some (excClassObj "TurnError" q C N bs mroVE hdct sn sub ab col dd k0 k1 k2 k3 k5 "ValueError.__new__")) (next : Cm K mg "TurnError" C mroVE → Goal) : Goal := next (cm_of X G aC l)
theorem base_19 (X : K.In h) (G : h.Ns mainGlobals mg) (aC : nsIn K mainGlobals "Unknown" = some (some (.ref C))) (l : K.lookup C = some (excClassObj "Unknown" q C N bs mroKE hdct sn sub ab col dd k0 k1 k2 k3 k5 "LookupError.__new__")) (next : Cm K mg "Unknown" C mroKE → Goal) : Goal := next (cm_of X G aC l)
variable {fI cc cda par : Addr} {oc kV doc pm ct cl ccl : Value} {od an cld cdd : Option Addr} {osl csl ccs : Array (Option Value)} {vs : Array Value} {file : Str} {tf : Tok}
theorem cls_0 (T : Top1 P0 K mg) (X : K.In h) (G : h.Ns mainGlobals mg) (aC : nsIn K mainGlobals "InvalidTable" = some (some (.ref C))) (l : K.lookup C = some (excClassObj "InvalidTable" q C N bs (.ref par :: mroVE) true sn sub ab col dd k0 k1 k2 k3 k5 "ValueError.__new__"))
    (init : findIn K (.ref C) "__init__" = some (some (.ref fI))) (fn : K.lookup fI = some ⟨oc, od, .func (ksFn "__init__" "InvalidTable.__init__" (defArgs e0) (defBody e0) (defScope e0) .none kV doc pm an (.ref cda) ct cc), osl⟩) (hoc : oc = .type "function") (cod : codeIn K (.ref cda) "InvalidTable.__init__" = true)
    (cell : K.lookup cc = some ⟨cl, cld, .cell (some (.ref C)), csl⟩) (code : K.lookup cda = some ⟨ccl, cdd, .fields vs, ccs⟩) (hvs : vs[2]? = some (.str file tf)) (hfile : ((P0.main.file : Str) == file) = true)
    (sup : ks_superIn K C C "__init__" = some (some (.builtin "ValueError.__init__"))) (sa : findIn K (.ref C) "__setattr__" = some (some (.builtin "object.__setattr__"))) (kp : keepIn K (.ref C) = true)
    (ga : findIn K (.ref C) "__getattribute__" = some (some (.builtin "BaseException.__getattribute__"))) (gg : findIn K (.ref C) "__getattr__" = some none) (ha : findIn K (.ref C) "__class__" = some (some (.builtin "object.__class__"))) (next : Cm K mg "InvalidTable" C (.ref par :: mroVE) → XC0 P0 K mg C → XfC K C → Goal) : Goal := by
  have F := xf_of (qual := "InvalidTable.__init__") (st := e0) T baseVE (by decide +kernel) l (by decide +kernel) init fn hoc cod cell code hvs hfile sup sa kp ga gg ha
  exact next (cm_of X G aC l) (xc0_of T baseVE F syn0) F.xf
theorem cls_1 (T : Top1 P0 K mg) (X : K.In h) (G : h.Ns mainGlobals mg) (aC : nsIn K mainGlobals "InvalidStore" = some (some (.ref C))) (l : K.lookup C = some (excClassObj "InvalidStore" q C N bs (.ref par :: mroVE) true sn sub ab col dd k0 k1 k2 k3 k5 "ValueError.__new__"))
    (init : findIn K (.ref C) "__init__" = some (some (.ref fI))) (fn : K.lookup fI = some ⟨oc, od, .func (ksFn "__init__" "InvalidStore.__init__" (defArgs e1) (defBody e1) (defScope e1) .none kV doc pm an (.ref cda) ct cc), osl⟩) (hoc : oc = .type "function") (cod : codeIn K (.ref cda) "InvalidStore.__init__" = true)
    (cell : K.lookup cc = some ⟨cl, cld, .cell (some (.ref C)), csl⟩) (code : K.lookup cda = some ⟨ccl, cdd, .fields vs, ccs⟩) (hvs : vs[2]? = some (.str file tf)) (hfile : ((P0.main.file : Str) == file) = true)
    (sup : ks_superIn K C C "__init__" = some (some (.builtin "ValueError.__init__"))) (sa : findIn K (.ref C) "__setattr__" = some (some (.builtin "object.__setattr__"))) (kp : keepIn K (.ref C) = true)
    (ga : findIn K (.ref C) "__getattribute__" = some (some (.builtin "BaseException.__getattribute__"))) (gg : findIn K (.ref C) "__getattr__" = some none) (ha : findIn K (.ref C) "__class__" = some (some (.builtin "object.__class__"))) (next : Cm K mg "InvalidStore" C (.ref par :: mroVE) → XC0 P0 K mg C → XfC K C → Goal) : Goal := by
  have F := xf_of (qual := "InvalidStore.__init__") (st := e1) T baseVE (by decide +kernel) l (by decide +kernel) init fn hoc cod cell code hvs hfile sup sa kp ga gg ha
  exact next (cm_of X G aC l) (xc0_of T baseVE F syn1) F.xf
theorem cls_2 (T : Top1 P0 K mg) (X : K.In h) (G : h.Ns mainGlobals mg) (aC : nsIn K mainGlobals "InvalidQuestion" = some (some (.ref C))) (l : K.lookup C = some (excClassObj "InvalidQuestion" q C N bs (.ref par :: mroVE) true sn sub ab col dd k0 k1 k2 k3 k5 "ValueError.__new__"))
    (init : findIn K (.ref C) "__init__" = some (some (.ref fI))) (fn : K.lookup fI = some ⟨oc, od, .func (ksFn "__init__" "InvalidQuestion.__init__" (defArgs e2) (defBody e2) (defScope e2) .none kV doc pm an (.ref cda) ct cc), osl⟩) (hoc : oc = .type "function") (cod : codeIn K (.ref cda) "InvalidQuestion.__init__" = true)
    (cell : K.lookup cc = some ⟨cl, cld, .cell (some (.ref C)), csl⟩) (code : K.lookup cda = some ⟨ccl, cdd, .fields vs, ccs⟩) (hvs : vs[2]? = some (.str file tf)) (hfile : ((P0.main.file : Str) == file) = true)
    (sup : ks_superIn K C C "__init__" = some (some (.builtin "ValueError.__init__"))) (sa : findIn K (.ref C) "__setattr__" = some (some (.builtin "object.__setattr__"))) (kp : keepIn K (.ref C) = true)
    (ga : findIn K (.ref C) "__getattribute__" = some (some (.builtin "BaseException.__getattribute__"))) (gg : findIn K (.ref C) "__getattr__" = some none) (ha : findIn K (.ref C) "__class__" = some (some (.builtin "object.__class__"))) (next : Cm K mg "InvalidQuestion" C (.ref par :: mroVE) → XC0 P0 K mg C → XfC K C → Goal) : Goal := by
  have F := xf_of (qual := "InvalidQuestion.__init__") (st := e2) T baseVE (by decide +kernel) l (by decide +kernel) init fn hoc cod cell code hvs hfile sup sa kp ga gg ha
  exact next (cm_of X G aC l) (xc0_of T baseVE F syn2) F.xf
theorem cls_3 (T : Top1 P0 K mg) (X : K.In h) (G : h.Ns mainGlobals mg) (aC : nsIn K mainGlobals "InvalidForm" = some (some (.ref C))) (l : K.lookup C = some (excClassObj "InvalidForm" q C N bs (.ref par :: mroVE) true sn sub ab col dd k0 k1 k2 k3 k5 "ValueError.__new__"))
    (init : findIn K (.ref C) "__init__" = some (some (.ref fI))) (fn : K.lookup fI = some ⟨oc, od, .func (ksFn "__init__" "InvalidForm.__init__" (defArgs e3) (defBody e3) (defScope e3) .none kV doc pm an (.ref cda) ct cc), osl⟩) (hoc : oc = .type "function") (cod : codeIn K (.ref cda) "InvalidForm.__init__" = true)
    (cell : K.lookup cc = some ⟨cl, cld, .cell (some (.ref C)), csl⟩) (code : K.lookup cda = some ⟨ccl, cdd, .fields vs, ccs⟩) (hvs : vs[2]? = some (.str file tf)) (hfile : ((P0.main.file : Str) == file) = true)
    (sup : ks_superIn K C C "__init__" = some (some (.builtin "ValueError.__init__"))) (sa : findIn K (.ref C) "__setattr__" = some (some (.builtin "object.__setattr__"))) (kp : keepIn K (.ref C) = true)
    (ga : findIn K (.ref C) "__getattribute__" = some (some (.builtin "BaseException.__getattribute__"))) (gg : findIn K (.ref C) "__getattr__" = some none) (ha : findIn K (.ref C) "__class__" = some (some (.builtin "object.__class__"))) (next : Cm K mg "InvalidForm" C (.ref par :: mroVE) → XC0 P0 K mg C → XfC K C → Goal) : Goal := by
  have F := xf_of (qual := "InvalidForm.__init__") (st := e3) T baseVE (by decide +kernel) l (by decide +kernel) init fn hoc cod cell code hvs hfile sup sa kp ga gg ha
  exact next (cm_of X G aC l) (xc0_of T baseVE F syn3) F.xf
theorem cls_4 (T : Top1 P0 K mg) (X : K.In h) (G : h.Ns mainGlobals mg) (aC : nsIn K mainGlobals "InvalidText" = some (some (.ref C))) (l : K.lookup C = some (excClassObj "InvalidText" q C N bs (.ref par :: mroVE) true sn sub ab col dd k0 k1 k2 k3 k5 "ValueError.__new__"))
    (init : findIn K (.ref C) "__init__" = some (some (.ref fI))) (fn : K.lookup fI = some ⟨oc, od, .func (ksFn "__init__" "InvalidText.__init__" (defArgs e4) (defBody e4) (defScope e4) .none kV doc pm an (.ref cda) ct cc), osl⟩) (hoc : oc = .type "function") (cod : codeIn K (.ref cda) "InvalidText.__init__" = true)
    (cell : K.lookup cc = some ⟨cl, cld, .cell (some (.ref C)), csl⟩) (code : K.lookup cda = some ⟨ccl, cdd, .fields vs, ccs⟩) (hvs : vs[2]? = some (.str file tf)) (hfile : ((P0.main.file : Str) == file) = true)
    (sup : ks_superIn K C C "__init__" = some (some (.builtin "ValueError.__init__"))) (sa : findIn K (.ref C) "__setattr__" = some (some (.builtin "object.__setattr__"))) (kp : keepIn K (.ref C) = true)
    (ga : findIn K (.ref C) "__getattribute__" = some (some (.builtin "BaseException.__getattribute__"))) (gg : findIn K (.ref C) "__getattr__" = some none) (ha : findIn K (.ref C) "__class__" = some (some (.builtin "object.__class__"))) (next : Cm K mg "InvalidText" C (.ref par :: mroVE) → XC0 P0 K mg C → XfC K C → Goal) : Goal := by
  have F := xf_of (qual := "InvalidText.__init__") (st := e4) T baseVE (by decide +kernel) l (by decide +kernel) init fn hoc cod cell code hvs hfile sup sa kp ga gg ha
  exact next (cm_of X G aC l) (xc0_of T baseVE F syn4) F.xf
theorem cls_5 (T : Top1 P0 K mg) (X : K.In h) (G : h.Ns mainGlobals mg) (aC : nsIn K mainGlobals "InvalidCommand" = some (some (.ref C))) (l : K.lookup C = some (excClassObj "InvalidCommand" q C N bs (.ref par :: mroVE) true sn sub ab col dd k0 k1 k2 k3 k5 "ValueError.__new__"))
    (init : findIn K (.ref C) "__init__" = some (some (.ref fI))) (fn : K.lookup fI = some ⟨oc, od, .func (ksFn "__init__" "InvalidCommand.__init__" (defArgs e5) (defBody e5) (defScope e5) .none kV doc pm an (.ref cda) ct cc), osl⟩) (hoc : oc = .type "function") (cod : codeIn K (.ref cda) "InvalidCommand.__init__" = true)
    (cell : K.lookup cc = some ⟨cl, cld, .cell (some (.ref C)), csl⟩) (code : K.lookup cda = some ⟨ccl, cdd, .fields vs, ccs⟩) (hvs : vs[2]? = some (.str file tf)) (hfile : ((P0.main.file : Str) == file) = true)
    (sup : ks_superIn K C C "__init__" = some (some (.builtin "ValueError.__init__"))) (sa : findIn K (.ref C) "__setattr__" = some (some (.builtin "object.__setattr__"))) (kp : keepIn K (.ref C) = true)
    (ga : findIn K (.ref C) "__getattribute__" = some (some (.builtin "BaseException.__getattribute__"))) (gg : findIn K (.ref C) "__getattr__" = some none) (ha : findIn K (.ref C) "__class__" = some (some (.builtin "object.__class__"))) (next : Cm K mg "InvalidCommand" C (.ref par :: mroVE) → XC0 P0 K mg C → XfC K C → Goal) : Goal := by
  have F := xf_of (qual := "InvalidCommand.__init__") (st := e5) T baseVE (by decide +kernel) l (by decide +kernel) init fn hoc cod cell code hvs hfile sup sa kp ga gg ha
  exact next (cm_of X G aC l) (xc0_of T baseVE F syn5) F.xf
theorem cls_6 (T : Top1 P0 K mg) (X : K.In h) (G : h.Ns mainGlobals mg) (aC : nsIn K mainGlobals "InvalidShape" = some (some (.ref C))) (l : K.lookup C = some (excClassObj "InvalidShape" q C N bs (.ref par :: mroVE) true sn sub ab col dd k0 k1 k2 k3 k5 "ValueError.__new__"))
    (init : findIn K (.ref C) "__init__" = some (some (.ref fI))) (fn : K.lookup fI = some ⟨oc, od, .func (ksFn "__init__" "InvalidShape.__init__" (defArgs e6) (defBody e6) (defScope e6) .none kV doc pm an (.ref cda) ct cc), osl⟩) (hoc : oc = .type "function") (cod : codeIn K (.ref cda) "InvalidShape.__init__" = true)
    (cell : K.lookup cc = some ⟨cl, cld, .cell (some (.ref C)), csl⟩) (code : K.lookup cda = some ⟨ccl, cdd, .fields vs, ccs⟩) (hvs : vs[2]? = some (.str file tf)) (hfile : ((P0.main.file : Str) == file) = true)
    (sup : ks_superIn K C C "__init__" = some (some (.builtin "ValueError.__init__"))) (sa : findIn K (.ref C) "__setattr__" = some (some (.builtin "object.__setattr__"))) (kp : keepIn K (.ref C) = true)
    (ga : findIn K (.ref C) "__getattribute__" = some (some (.builtin "BaseException.__getattribute__"))) (gg : findIn K (.ref C) "__getattr__" = some none) (ha : findIn K (.ref C) "__class__" = some (some (.builtin "object.__class__"))) (next : Cm K mg "InvalidShape" C (.ref par :: mroVE) → XC0 P0 K mg C → XfC K C → Goal) : Goal := by
  have F := xf_of (qual := "InvalidShape.__init__") (st := e6) T baseVE (by decide +kernel) l (by decide +kernel) init fn hoc cod cell code hvs hfile sup sa kp ga gg ha
  exact next (cm_of X G aC l) (xc0_of T baseVE F syn6) F.xf
theorem cls_7 (T : Top1 P0 K mg) (X : K.In h) (G : h.Ns mainGlobals mg) (aC : nsIn K mainGlobals "Full" = some (some (.ref C))) (l : K.lookup C = some (excClassObj "Full" q C N bs (.ref par :: mroVE) true sn sub ab col dd k0 k1 k2 k3 k5 "ValueError.__new__"))
    (init : findIn K (.ref C) "__init__" = some (some (.ref fI))) (fn : K.lookup fI = some ⟨oc, od, .func (ksFn "__init__" "Full.__init__" (defArgs e7) (defBody e7) (defScope e7) .none kV doc pm an (.ref cda) ct cc), osl⟩) (hoc : oc = .type "function") (cod : codeIn K (.ref cda) "Full.__init__" = true)
    (cell : K.lookup cc = some ⟨cl, cld, .cell (some (.ref C)), csl⟩) (code : K.lookup cda = some ⟨ccl, cdd, .fields vs, ccs⟩) (hvs : vs[2]? = some (.str file tf)) (hfile : ((P0.main.file : Str) == file) = true)
    (sup : ks_superIn K C C "__init__" = some (some (.builtin "ValueError.__init__"))) (sa : findIn K (.ref C) "__setattr__" = some (some (.builtin "object.__setattr__"))) (kp : keepIn K (.ref C) = true)
    (ga : findIn K (.ref C) "__getattribute__" = some (some (.builtin "BaseException.__getattribute__"))) (gg : findIn K (.ref C) "__getattr__" = some none) (ha : findIn K (.ref C) "__class__" = some (some (.builtin "object.__class__"))) (next : Cm K mg "Full" C (.ref par :: mroVE) → XC0 P0 K mg C → XfC K C → Goal) : Goal := by
  have F := xf_of (qual := "Full.__init__") (st := e7) T baseVE (by decide +kernel) l (by decide +kernel) init fn hoc cod cell code hvs hfile sup sa kp ga gg ha
  exact next (cm_of X G aC l) (xc0_of T baseVE F syn7) F.xf
theorem cls_8 (T : Top1 P0 K mg) (X : K.In h) (G : h.Ns mainGlobals mg) (aC : nsIn K mainGlobals "InvalidChange" = some (some (.ref C))) (l : K.lookup C = some (excClassObj "InvalidChange" q C N bs (.ref par :: mroVE) true sn sub ab col dd k0 k1 k2 k3 k5 "ValueError.__new__"))
    (init : findIn K (.ref C) "__init__" = some (some (.ref fI))) (fn : K.lookup fI = some ⟨oc, od, .func (ksFn "__init__" "InvalidChange.__init__" (defArgs e8) (defBody e8) (defScope e8) .none kV doc pm an (.ref cda) ct cc), osl⟩) (hoc : oc = .type "function") (cod : codeIn K (.ref cda) "InvalidChange.__init__" = true)
    (cell : K.lookup cc = some ⟨cl, cld, .cell (some (.ref C)), csl⟩) (code : K.lookup cda = some ⟨ccl, cdd, .fields vs, ccs⟩) (hvs : vs[2]? = some (.str file tf)) (hfile : ((P0.main.file : Str) == file) = true)
    (sup : ks_superIn K C C "__init__" = some (some (.builtin "ValueError.__init__"))) (sa : findIn K (.ref C) "__setattr__" = some (some (.builtin "object.__setattr__"))) (kp : keepIn K (.ref C) = true)
    (ga : findIn K (.ref C) "__getattribute__" = some (some (.builtin "BaseException.__getattribute__"))) (gg : findIn K (.ref C) "__getattr__" = some none) (ha : findIn K (.ref C) "__class__" = some (some (.builtin "object.__class__")))
    (no : findIn K (.ref C) "change" = some none) (next : Cm K mg "InvalidChange" C (.ref par :: mroVE) → XC1 P0 K mg C "change" "change" → XfC K C → Goal) : Goal := by
  have F := xf_of (qual := "InvalidChange.__init__") (st := e8) T baseVE (by decide +kernel) l (by decide +kernel) init fn hoc cod cell code hvs hfile sup sa kp ga gg ha
  exact next (cm_of X G aC l) (xc1_of T baseVE F no syn8) F.xf
theorem cls_9 (T : Top1 P0 K mg) (X : K.In h) (G : h.Ns mainGlobals mg) (aC : nsIn K mainGlobals "NameTaken" = some (some (.ref C))) (l : K.lookup C = some (excClassObj "NameTaken" q C N bs (.ref par :: mroVE) true sn sub ab col dd k0 k1 k2 k3 k5 "ValueError.__new__"))
    (init : findIn K (.ref C) "__init__" = some (some (.ref fI))) (fn : K.lookup fI = some ⟨oc, od, .func (ksFn "__init__" "NameTaken.__init__" (defArgs e9) (defBody e9) (defScope e9) .none kV doc pm an (.ref cda) ct cc), osl⟩) (hoc : oc = .type "function") (cod : codeIn K (.ref cda) "NameTaken.__init__" = true)
    (cell : K.lookup cc = some ⟨cl, cld, .cell (some (.ref C)), csl⟩) (code : K.lookup cda = some ⟨ccl, cdd, .fields vs, ccs⟩) (hvs : vs[2]? = some (.str file tf)) (hfile : ((P0.main.file : Str) == file) = true)
    (sup : ks_superIn K C C "__init__" = some (some (.builtin "ValueError.__init__"))) (sa : findIn K (.ref C) "__setattr__" = some (some (.builtin "object.__setattr__"))) (kp : keepIn K (.ref C) = true)
    (ga : findIn K (.ref C) "__getattribute__" = some (some (.builtin "BaseException.__getattribute__"))) (gg : findIn K (.ref C) "__getattr__" = some none) (ha : findIn K (.ref C) "__class__" = some (some (.builtin "object.__class__")))
    (no : findIn K (.ref C) "name" = some none) (next : Cm K mg "NameTaken" C (.ref par :: mroVE) → XC1 P0 K mg C "name" "name" → XfC K C → Goal) : Goal := by
  have F := xf_of (qual := "NameTaken.__init__") (st := e9) T baseVE (by decide +kernel) l (by decide +kernel) init fn hoc cod cell code hvs hfile sup sa kp ga gg ha
  exact next (cm_of X G aC l) (xc1_of T baseVE F no syn9) F.xf
theorem cls_10 (T : Top1 P0 K mg) (X : K.In h) (G : h.Ns mainGlobals mg) (aC : nsIn K mainGlobals "Broken" = some (some (.ref C))) (l : K.lookup C = some (excClassObj "Broken" q C N bs (.ref par :: mroVE) true sn sub ab col dd k0 k1 k2 k3 k5 "ValueError.__new__"))
    (init : findIn K (.ref C) "__init__" = some (some (.ref fI))) (fn : K.lookup fI = some ⟨oc, od, .func (ksFn "__init__" "Broken.__init__" (defArgs e10) (defBody e10) (defScope e10) .none kV doc pm an (.ref cda) ct cc), osl⟩) (hoc : oc = .type "function") (cod : codeIn K (.ref cda) "Broken.__init__" = true)
    (cell : K.lookup cc = some ⟨cl, cld, .cell (some (.ref C)), csl⟩) (code : K.lookup cda = some ⟨ccl, cdd, .fields vs, ccs⟩) (hvs : vs[2]? = some (.str file tf)) (hfile : ((P0.main.file : Str) == file) = true)
    (sup : ks_superIn K C C "__init__" = some (some (.builtin "ValueError.__init__"))) (sa : findIn K (.ref C) "__setattr__" = some (some (.builtin "object.__setattr__"))) (kp : keepIn K (.ref C) = true)
    (ga : findIn K (.ref C) "__getattribute__" = some (some (.builtin "BaseException.__getattribute__"))) (gg : findIn K (.ref C) "__getattr__" = some none) (ha : findIn K (.ref C) "__class__" = some (some (.builtin "object.__class__")))
    (no : findIn K (.ref C) "number" = some none) (next : Cm K mg "Broken" C (.ref par :: mroVE) → XC1 P0 K mg C "number" "number" → XfC K C → Goal) : Goal := by
  have F := xf_of (qual := "Broken.__init__") (st := e10) T baseVE (by decide +kernel) l (by decide +kernel) init fn hoc cod cell code hvs hfile sup sa kp ga gg ha
  exact next (cm_of X G aC l) (xc1_of T baseVE F no syn10) F.xf
theorem cls_11 (T : Top1 P0 K mg) (X : K.In h) (G : h.Ns mainGlobals mg) (aC : nsIn K mainGlobals "Barred" = some (some (.ref C))) (l : K.lookup C = some (excClassObj "Barred" q C N bs (.ref par :: mroVE) true sn sub ab col dd k0 k1 k2 k3 k5 "ValueError.__new__"))
    (init : findIn K (.ref C) "__init__" = some (some (.ref fI))) (fn : K.lookup fI = some ⟨oc, od, .func (ksFn "__init__" "Barred.__init__" (defArgs e11) (defBody e11) (defScope e11) .none kV doc pm an (.ref cda) ct cc), osl⟩) (hoc : oc = .type "function") (cod : codeIn K (.ref cda) "Barred.__init__" = true)
    (cell : K.lookup cc = some ⟨cl, cld, .cell (some (.ref C)), csl⟩) (code : K.lookup cda = some ⟨ccl, cdd, .fields vs, ccs⟩) (hvs : vs[2]? = some (.str file tf)) (hfile : ((P0.main.file : Str) == file) = true)
    (sup : ks_superIn K C C "__init__" = some (some (.builtin "ValueError.__init__"))) (sa : findIn K (.ref C) "__setattr__" = some (some (.builtin "object.__setattr__"))) (kp : keepIn K (.ref C) = true)
    (ga : findIn K (.ref C) "__getattribute__" = some (some (.builtin "BaseException.__getattribute__"))) (gg : findIn K (.ref C) "__getattr__" = some none) (ha : findIn K (.ref C) "__class__" = some (some (.builtin "object.__class__")))
    (no : findIn K (.ref C) "numbers" = some none) (next : Cm K mg "Barred" C (.ref par :: mroVE) → XC1 P0 K mg C "numbers" "numbers" → XfC K C → Goal) : Goal := by
  have F := xf_of (qual := "Barred.__init__") (st := e11) T baseVE (by decide +kernel) l (by decide +kernel) init fn hoc cod cell code hvs hfile sup sa kp ga gg ha
  exact next (cm_of X G aC l) (xc1_of T baseVE F no syn11) F.xf
theorem cls_12 (T : Top1 P0 K mg) (X : K.In h) (G : h.Ns mainGlobals mg) (aC : nsIn K mainGlobals "NoOrder" = some (some (.ref C))) (l : K.lookup C = some (excClassObj "NoOrder" q C N bs (.ref par :: mroVE) true sn sub ab col dd k0 k1 k2 k3 k5 "ValueError.__new__"))
    (init : findIn K (.ref C) "__init__" = some (some (.ref fI))) (fn : K.lookup fI = some ⟨oc, od, .func (ksFn "__init__" "NoOrder.__init__" (defArgs e12) (defBody e12) (defScope e12) .none kV doc pm an (.ref cda) ct cc), osl⟩) (hoc : oc = .type "function") (cod : codeIn K (.ref cda) "NoOrder.__init__" = true)
    (cell : K.lookup cc = some ⟨cl, cld, .cell (some (.ref C)), csl⟩) (code : K.lookup cda = some ⟨ccl, cdd, .fields vs, ccs⟩) (hvs : vs[2]? = some (.str file tf)) (hfile : ((P0.main.file : Str) == file) = true)
    (sup : ks_superIn K C C "__init__" = some (some (.builtin "ValueError.__init__"))) (sa : findIn K (.ref C) "__setattr__" = some (some (.builtin "object.__setattr__"))) (kp : keepIn K (.ref C) = true)
    (ga : findIn K (.ref C) "__getattribute__" = some (some (.builtin "BaseException.__getattribute__"))) (gg : findIn K (.ref C) "__getattr__" = some none) (ha : findIn K (.ref C) "__class__" = some (some (.builtin "object.__class__")))
    (no : findIn K (.ref C) "tree" = some none) (next : Cm K mg "NoOrder" C (.ref par :: mroVE) → XC1 P0 K mg C "tree" "tree" → XfC K C → Goal) : Goal := by
  have F := xf_of (qual := "NoOrder.__init__") (st := e12) T baseVE (by decide +kernel) l (by decide +kernel) init fn hoc cod cell code hvs hfile sup sa kp ga gg ha
  exact next (cm_of X G aC l) (xc1_of T baseVE F no syn12) F.xf
theorem cls_13 (T : Top1 P0 K mg) (X : K.In h) (G : h.Ns mainGlobals mg) (aC : nsIn K mainGlobals "Bound" = some (some (.ref C))) (l : K.lookup C = some (excClassObj "Bound" q C N bs (.ref par :: mroVE) true sn sub ab col dd k0 k1 k2 k3 k5 "ValueError.__new__"))
    (init : findIn K (.ref C) "__init__" = some (some (.ref fI))) (fn : K.lookup fI = some ⟨oc, od, .func (ksFn "__init__" "Bound.__init__" (defArgs e13) (defBody e13) (defScope e13) .none kV doc pm an (.ref cda) ct cc), osl⟩) (hoc : oc = .type "function") (cod : codeIn K (.ref cda) "Bound.__init__" = true)
    (cell : K.lookup cc = some ⟨cl, cld, .cell (some (.ref C)), csl⟩) (code : K.lookup cda = some ⟨ccl, cdd, .fields vs, ccs⟩) (hvs : vs[2]? = some (.str file tf)) (hfile : ((P0.main.file : Str) == file) = true)
    (sup : ks_superIn K C C "__init__" = some (some (.builtin "ValueError.__init__"))) (sa : findIn K (.ref C) "__setattr__" = some (some (.builtin "object.__setattr__"))) (kp : keepIn K (.ref C) = true)
    (ga : findIn K (.ref C) "__getattribute__" = some (some (.builtin "BaseException.__getattribute__"))) (gg : findIn K (.ref C) "__getattr__" = some none) (ha : findIn K (.ref C) "__class__" = some (some (.builtin "object.__class__")))
    (no : findIn K (.ref C) "mixes" = some none) (next : Cm K mg "Bound" C (.ref par :: mroVE) → XC1 P0 K mg C "mixes" "mixes" → XfC K C → Goal) : Goal := by
  have F := xf_of (qual := "Bound.__init__") (st := e13) T baseVE (by decide +kernel) l (by decide +kernel) init fn hoc cod cell code hvs hfile sup sa kp ga gg ha
  exact next (cm_of X G aC l) (xc1_of T baseVE F no syn13) F.xf
theorem cls_14 (T : Top1 P0 K mg) (X : K.In h) (G : h.Ns mainGlobals mg) (aC : nsIn K mainGlobals "UnknownTable" = some (some (.ref C))) (l : K.lookup C = some (excClassObj "UnknownTable" q C N bs (.ref par :: mroKE) true sn sub ab col dd k0 k1 k2 k3 k5 "LookupError.__new__"))
    (init : findIn K (.ref C) "__init__" = some (some (.ref fI))) (fn : K.lookup fI = some ⟨oc, od, .func (ksFn "__init__" "UnknownTable.__init__" (defArgs e14) (defBody e14) (defScope e14) .none kV doc pm an (.ref cda) ct cc), osl⟩) (hoc : oc = .type "function") (cod : codeIn K (.ref cda) "UnknownTable.__init__" = true)
    (cell : K.lookup cc = some ⟨cl, cld, .cell (some (.ref C)), csl⟩) (code : K.lookup cda = some ⟨ccl, cdd, .fields vs, ccs⟩) (hvs : vs[2]? = some (.str file tf)) (hfile : ((P0.main.file : Str) == file) = true)
    (sup : ks_superIn K C C "__init__" = some (some (.builtin "KeyError.__init__"))) (sa : findIn K (.ref C) "__setattr__" = some (some (.builtin "object.__setattr__"))) (kp : keepIn K (.ref C) = true)
    (ga : findIn K (.ref C) "__getattribute__" = some (some (.builtin "BaseException.__getattribute__"))) (gg : findIn K (.ref C) "__getattr__" = some none) (ha : findIn K (.ref C) "__class__" = some (some (.builtin "object.__class__")))
    (no : findIn K (.ref C) "name" = some none) (next : Cm K mg "UnknownTable" C (.ref par :: mroKE) → XC1 P0 K mg C "name" "name" → XfC K C → Goal) : Goal := by
  have F := xf_of (qual := "UnknownTable.__init__") (st := e14) T baseKE (by decide +kernel) l (by decide +kernel) init fn hoc cod cell code hvs hfile sup sa kp ga gg ha
  exact next (cm_of X G aC l) (xc1_of T baseKE F no syn14) F.xf
theorem cls_15 (T : Top1 P0 K mg) (X : K.In h) (G : h.Ns mainGlobals mg) (aC : nsIn K mainGlobals "UnknownRow" = some (some (.ref C))) (l : K.lookup C = some (excClassObj "UnknownRow" q C N bs (.ref par :: mroKE) true sn sub ab col dd k0 k1 k2 k3 k5 "LookupError.__new__"))
    (init : findIn K (.ref C) "__init__" = some (some (.ref fI))) (fn : K.lookup fI = some ⟨oc, od, .func (ksFn "__init__" "UnknownRow.__init__" (defArgs e15) (defBody e15) (defScope e15) .none kV doc pm an (.ref cda) ct cc), osl⟩) (hoc : oc = .type "function") (cod : codeIn K (.ref cda) "UnknownRow.__init__" = true)
    (cell : K.lookup cc = some ⟨cl, cld, .cell (some (.ref C)), csl⟩) (code : K.lookup cda = some ⟨ccl, cdd, .fields vs, ccs⟩) (hvs : vs[2]? = some (.str file tf)) (hfile : ((P0.main.file : Str) == file) = true)
    (sup : ks_superIn K C C "__init__" = some (some (.builtin "KeyError.__init__"))) (sa : findIn K (.ref C) "__setattr__" = some (some (.builtin "object.__setattr__"))) (kp : keepIn K (.ref C) = true)
    (ga : findIn K (.ref C) "__getattribute__" = some (some (.builtin "BaseException.__getattribute__"))) (gg : findIn K (.ref C) "__getattr__" = some none) (ha : findIn K (.ref C) "__class__" = some (some (.builtin "object.__class__")))
    (no : findIn K (.ref C) "row" = some none) (next : Cm K mg "UnknownRow" C (.ref par :: mroKE) → XC1 P0 K mg C "row" "row" → XfC K C → Goal) : Goal := by
  have F := xf_of (qual := "UnknownRow.__init__") (st := e15) T baseKE (by decide +kernel) l (by decide +kernel) init fn hoc cod cell code hvs hfile sup sa kp ga gg ha
  exact next (cm_of X G aC l) (xc1_of T baseKE F no syn15) F.xf
theorem cls_16 (T : Top1 P0 K mg) (X : K.In h) (G : h.Ns mainGlobals mg) (aC : nsIn K mainGlobals "UnknownNumber" = some (some (.ref C))) (l : K.lookup C = some (excClassObj "UnknownNumber" q C N bs (.ref par :: mroKE) true sn sub ab col dd k0 k1 k2 k3 k5 "LookupError.__new__"))
    (init : findIn K (.ref C) "__init__" = some (some (.ref fI))) (fn : K.lookup fI = some ⟨oc, od, .func (ksFn "__init__" "UnknownNumber.__init__" (defArgs e16) (defBody e16) (defScope e16) .none kV doc pm an (.ref cda) ct cc), osl⟩) (hoc : oc = .type "function") (cod : codeIn K (.ref cda) "UnknownNumber.__init__" = true)
    (cell : K.lookup cc = some ⟨cl, cld, .cell (some (.ref C)), csl⟩) (code : K.lookup cda = some ⟨ccl, cdd, .fields vs, ccs⟩) (hvs : vs[2]? = some (.str file tf)) (hfile : ((P0.main.file : Str) == file) = true)
    (sup : ks_superIn K C C "__init__" = some (some (.builtin "KeyError.__init__"))) (sa : findIn K (.ref C) "__setattr__" = some (some (.builtin "object.__setattr__"))) (kp : keepIn K (.ref C) = true)
    (ga : findIn K (.ref C) "__getattribute__" = some (some (.builtin "BaseException.__getattribute__"))) (gg : findIn K (.ref C) "__getattr__" = some none) (ha : findIn K (.ref C) "__class__" = some (some (.builtin "object.__class__")))
    (no : findIn K (.ref C) "number" = some none) (next : Cm K mg "UnknownNumber" C (.ref par :: mroKE) → XC1 P0 K mg C "number" "number" → XfC K C → Goal) : Goal := by
  have F := xf_of (qual := "UnknownNumber.__init__") (st := e16) T baseKE (by decide +kernel) l (by decide +kernel) init fn hoc cod cell code hvs hfile sup sa kp ga gg ha
  exact next (cm_of X G aC l) (xc1_of T baseKE F no syn16) F.xf
theorem cls_17 (T : Top1 P0 K mg) (X : K.In h) (G : h.Ns mainGlobals mg) (aC : nsIn K mainGlobals "UnknownReplica" = some (some (.ref C))) (l : K.lookup C = some (excClassObj "UnknownReplica" q C N bs (.ref par :: mroKE) true sn sub ab col dd k0 k1 k2 k3 k5 "LookupError.__new__"))
    (init : findIn K (.ref C) "__init__" = some (some (.ref fI))) (fn : K.lookup fI = some ⟨oc, od, .func (ksFn "__init__" "UnknownReplica.__init__" (defArgs e17) (defBody e17) (defScope e17) .none kV doc pm an (.ref cda) ct cc), osl⟩) (hoc : oc = .type "function") (cod : codeIn K (.ref cda) "UnknownReplica.__init__" = true)
    (cell : K.lookup cc = some ⟨cl, cld, .cell (some (.ref C)), csl⟩) (code : K.lookup cda = some ⟨ccl, cdd, .fields vs, ccs⟩) (hvs : vs[2]? = some (.str file tf)) (hfile : ((P0.main.file : Str) == file) = true)
    (sup : ks_superIn K C C "__init__" = some (some (.builtin "KeyError.__init__"))) (sa : findIn K (.ref C) "__setattr__" = some (some (.builtin "object.__setattr__"))) (kp : keepIn K (.ref C) = true)
    (ga : findIn K (.ref C) "__getattribute__" = some (some (.builtin "BaseException.__getattribute__"))) (gg : findIn K (.ref C) "__getattr__" = some none) (ha : findIn K (.ref C) "__class__" = some (some (.builtin "object.__class__")))
    (no : findIn K (.ref C) "name" = some none) (next : Cm K mg "UnknownReplica" C (.ref par :: mroKE) → XC1 P0 K mg C "name" "name" → XfC K C → Goal) : Goal := by
  have F := xf_of (qual := "UnknownReplica.__init__") (st := e17) T baseKE (by decide +kernel) l (by decide +kernel) init fn hoc cod cell code hvs hfile sup sa kp ga gg ha
  exact next (cm_of X G aC l) (xc1_of T baseKE F no syn17) F.xf
end
section
variable {f : Addr} {oc kV doc pm cdv ct : Value} {od an : Option Addr} {osl : Array (Option Value)}
theorem def_source (X : K.In h) (G : h.Ns mainGlobals mg) (aC : nsIn K mainGlobals "_law_source" = some (some (.ref f))) (l : K.lookup f = some ⟨oc, od, .func (PySem.W.fnOf "_law_source" "_law_source" (defArgs s__law_source) (defBody s__law_source) (defScope s__law_source) .none kV doc pm an cdv ct), osl⟩) (c : codeIn K cdv "_law_source" = true) (k : keepIn K (.ref f) = true) (next : DefD K mg "_law_source" ["script"] s__law_source → Goal) : Goal := by
  have F := fun_mk (st := s__law_source) l c k
  exact next ⟨_, _, F, PySem.W.mg_of X G aC, F.binds fun _ _ _ _ _ _ us hl => match us, hl with | [_], _ => rfl⟩
theorem def_draw (X : K.In h) (G : h.Ns mainGlobals mg) (aC : nsIn K mainGlobals "_law_draw" = some (some (.ref f))) (l : K.lookup f = some ⟨oc, od, .func (PySem.W.fnOf "_law_draw" "_law_draw" (defArgs s__law_draw) (defBody s__law_draw) (defScope s__law_draw) .none kV doc pm an cdv ct), osl⟩) (c : codeIn K cdv "_law_draw" = true) (k : keepIn K (.ref f) = true) (next : DefD K mg "_law_draw" ["source", "many"] s__law_draw → Goal) : Goal := by
  have F := fun_mk (st := s__law_draw) l c k
  exact next ⟨_, _, F, PySem.W.mg_of X G aC, F.binds fun _ _ _ _ _ _ us hl => match us, hl with | [_, _], _ => rfl⟩
theorem def_pick (X : K.In h) (G : h.Ns mainGlobals mg) (aC : nsIn K mainGlobals "_law_pick" = some (some (.ref f))) (l : K.lookup f = some ⟨oc, od, .func (PySem.W.fnOf "_law_pick" "_law_pick" (defArgs s__law_pick) (defBody s__law_pick) (defScope s__law_pick) .none kV doc pm an cdv ct), osl⟩) (c : codeIn K cdv "_law_pick" = true) (k : keepIn K (.ref f) = true) (next : DefD K mg "_law_pick" ["source", "items"] s__law_pick → Goal) : Goal := by
  have F := fun_mk (st := s__law_pick) l c k
  exact next ⟨_, _, F, PySem.W.mg_of X G aC, F.binds fun _ _ _ _ _ _ us hl => match us, hl with | [_, _], _ => rfl⟩
theorem def_plain (X : K.In h) (G : h.Ns mainGlobals mg) (aC : nsIn K mainGlobals "_law_plain" = some (some (.ref f))) (l : K.lookup f = some ⟨oc, od, .func (PySem.W.fnOf "_law_plain" "_law_plain" (defArgs s__law_plain) (defBody s__law_plain) (defScope s__law_plain) .none kV doc pm an cdv ct), osl⟩) (c : codeIn K cdv "_law_plain" = true) (k : keepIn K (.ref f) = true) (next : DefD K mg "_law_plain" ["source"] s__law_plain → Goal) : Goal := by
  have F := fun_mk (st := s__law_plain) l c k
  exact next ⟨_, _, F, PySem.W.mg_of X G aC, F.binds fun _ _ _ _ _ _ us hl => match us, hl with | [_], _ => rfl⟩
theorem def_value (X : K.In h) (G : h.Ns mainGlobals mg) (aC : nsIn K mainGlobals "_law_value" = some (some (.ref f))) (l : K.lookup f = some ⟨oc, od, .func (PySem.W.fnOf "_law_value" "_law_value" (defArgs s__law_value) (defBody s__law_value) (defScope s__law_value) .none kV doc pm an cdv ct), osl⟩) (c : codeIn K cdv "_law_value" = true) (k : keepIn K (.ref f) = true) (next : DefD K mg "_law_value" ["source", "deep"] s__law_value → Goal) : Goal := by
  have F := fun_mk (st := s__law_value) l c k
  exact next ⟨_, _, F, PySem.W.mg_of X G aC, F.binds fun _ _ _ _ _ _ us hl => match us, hl with | [_, _], _ => rfl⟩
theorem def_bare (X : K.In h) (G : h.Ns mainGlobals mg) (aC : nsIn K mainGlobals "_law_bare" = some (some (.ref f))) (l : K.lookup f = some ⟨oc, od, .func (PySem.W.fnOf "_law_bare" "_law_bare" (defArgs s__law_bare) (defBody s__law_bare) (defScope s__law_bare) .none kV doc pm an cdv ct), osl⟩) (c : codeIn K cdv "_law_bare" = true) (k : keepIn K (.ref f) = true) (next : DefD K mg "_law_bare" ["which"] s__law_bare → Goal) : Goal := by
  have F := fun_mk (st := s__law_bare) l c k
  exact next ⟨_, _, F, PySem.W.mg_of X G aC, F.binds fun _ _ _ _ _ _ us hl => match us, hl with | [_], _ => rfl⟩
theorem def_made (X : K.In h) (G : h.Ns mainGlobals mg) (aC : nsIn K mainGlobals "_law_made" = some (some (.ref f))) (l : K.lookup f = some ⟨oc, od, .func (PySem.W.fnOf "_law_made" "_law_made" (defArgs s__law_made) (defBody s__law_made) (defScope s__law_made) .none kV doc pm an cdv ct), osl⟩) (c : codeIn K cdv "_law_made" = true) (k : keepIn K (.ref f) = true) (next : DefD K mg "_law_made" ["which", "it"] s__law_made → Goal) : Goal := by
  have F := fun_mk (st := s__law_made) l c k
  exact next ⟨_, _, F, PySem.W.mg_of X G aC, F.binds fun _ _ _ _ _ _ us hl => match us, hl with | [_, _], _ => rfl⟩
theorem def_made_by_name (X : K.In h) (G : h.Ns mainGlobals mg) (aC : nsIn K mainGlobals "_law_made_by_name" = some (some (.ref f))) (l : K.lookup f = some ⟨oc, od, .func (PySem.W.fnOf "_law_made_by_name" "_law_made_by_name" (defArgs s__law_made_by_name) (defBody s__law_made_by_name) (defScope s__law_made_by_name) .none kV doc pm an cdv ct), osl⟩) (c : codeIn K cdv "_law_made_by_name" = true) (k : keepIn K (.ref f) = true) (next : DefD K mg "_law_made_by_name" ["which", "it"] s__law_made_by_name → Goal) : Goal := by
  have F := fun_mk (st := s__law_made_by_name) l c k
  exact next ⟨_, _, F, PySem.W.mg_of X G aC, F.binds fun _ _ _ _ _ _ us hl => match us, hl with | [_, _], _ => rfl⟩
theorem def_held (X : K.In h) (G : h.Ns mainGlobals mg) (aC : nsIn K mainGlobals "_law_held" = some (some (.ref f))) (l : K.lookup f = some ⟨oc, od, .func (PySem.W.fnOf "_law_held" "_law_held" (defArgs s__law_held) (defBody s__law_held) (defScope s__law_held) .none kV doc pm an cdv ct), osl⟩) (c : codeIn K cdv "_law_held" = true) (k : keepIn K (.ref f) = true) (next : DefD K mg "_law_held" ["which", "error"] s__law_held → Goal) : Goal := by
  have F := fun_mk (st := s__law_held) l c k
  exact next ⟨_, _, F, PySem.W.mg_of X G aC, F.binds fun _ _ _ _ _ _ us hl => match us, hl with | [_, _], _ => rfl⟩
theorem def_marks (X : K.In h) (G : h.Ns mainGlobals mg) (aC : nsIn K mainGlobals "_law_marks" = some (some (.ref f))) (l : K.lookup f = some ⟨oc, od, .func (PySem.W.fnOf "_law_marks" "_law_marks" (defArgs s__law_marks) (defBody s__law_marks) (defScope s__law_marks) .none kV doc pm an cdv ct), osl⟩) (c : codeIn K cdv "_law_marks" = true) (k : keepIn K (.ref f) = true) (next : DefD K mg "_law_marks" ["error"] s__law_marks → Goal) : Goal := by
  have F := fun_mk (st := s__law_marks) l c k
  exact next ⟨_, _, F, PySem.W.mg_of X G aC, F.binds fun _ _ _ _ _ _ us hl => match us, hl with | [_], _ => rfl⟩
theorem def_due (X : K.In h) (G : h.Ns mainGlobals mg) (aC : nsIn K mainGlobals "_law_due" = some (some (.ref f))) (l : K.lookup f = some ⟨oc, od, .func (PySem.W.fnOf "_law_due" "_law_due" (defArgs s__law_due) (defBody s__law_due) (defScope s__law_due) .none kV doc pm an cdv ct), osl⟩) (c : codeIn K cdv "_law_due" = true) (k : keepIn K (.ref f) = true) (next : DefD K mg "_law_due" ["which"] s__law_due → Goal) : Goal := by
  have F := fun_mk (st := s__law_due) l c k
  exact next ⟨_, _, F, PySem.W.mg_of X G aC, F.binds fun _ _ _ _ _ _ us hl => match us, hl with | [_], _ => rfl⟩
theorem def_raised (X : K.In h) (G : h.Ns mainGlobals mg) (aC : nsIn K mainGlobals "_law_raised" = some (some (.ref f))) (l : K.lookup f = some ⟨oc, od, .func (PySem.W.fnOf "_law_raised" "_law_raised" (defArgs s__law_raised) (defBody s__law_raised) (defScope s__law_raised) .none kV doc pm an cdv ct), osl⟩) (c : codeIn K cdv "_law_raised" = true) (k : keepIn K (.ref f) = true) (next : DefD K mg "_law_raised" ["which", "it", "wide"] s__law_raised → Goal) : Goal := by
  have F := fun_mk (st := s__law_raised) l c k
  exact next ⟨_, _, F, PySem.W.mg_of X G aC, F.binds fun _ _ _ _ _ _ us hl => match us, hl with | [_, _, _], _ => rfl⟩
theorem def_raise (X : K.In h) (G : h.Ns mainGlobals mg) (aC : nsIn K mainGlobals "_law_raise" = some (some (.ref f))) (l : K.lookup f = some ⟨oc, od, .func (PySem.W.fnOf "_law_raise" "_law_raise" (defArgs s__law_raise) (defBody s__law_raise) (defScope s__law_raise) .none kV doc pm an cdv ct), osl⟩) (c : codeIn K cdv "_law_raise" = true) (k : keepIn K (.ref f) = true) (next : DefD K mg "_law_raise" ["which", "it"] s__law_raise → Goal) : Goal := by
  have F := fun_mk (st := s__law_raise) l c k
  exact next ⟨_, _, F, PySem.W.mg_of X G aC, F.binds fun _ _ _ _ _ _ us hl => match us, hl with | [_, _], _ => rfl⟩
theorem def_law {fa : Addr} (X : K.In h) (G : h.Ns mainGlobals mg) (hmg : mg "law" = some (.ref fa)) (aC : nsIn K mainGlobals "law" = some (some (.ref f))) (l : K.lookup f = some ⟨oc, od, .func (PySem.W.fnOf "law" "law" (defArgs s_law) (defBody s_law) (defScope s_law) .none kV doc pm an cdv ct), osl⟩) (c : codeIn K cdv "law" = true) (k : keepIn K (.ref f) = true) (next : (∃ fd : FuncData, (∀ (s : Shared) (v : Value), BindsTo s fd ⟨[v], []⟩ [("script", v)]) ∧ Fun K "law" "law" s_law fa fd) → Goal) : Goal := by
  have e : f = fa := by
    have := (PySem.W.mg_of X G aC).symm.trans hmg
    exact Value.ref.inj (Option.some.inj this)
  subst e
  exact next ⟨_, fun s v => .of_eq rfl, fun_mk (st := s_law) l c k⟩
end
end
theorem fin {w : World} {K : Frag} {mg : Str → Option Value} {C0 C1 C2 C3 C4 C5 C6 C7 C8 C9 C10 C11 C12 C13 C14 C15 C16 C17 C18 C19 fa : Addr} (B : Bl mg) (c18 : Cm K mg "TurnError" C18 mroVE) (c19 : Cm K mg "Unknown" C19 mroKE)
    (c0 : Cm K mg "InvalidTable" C0 (.ref C18 :: mroVE)) (x0 : XC0 P0 K mg C0) (f0 : XfC K C0)
    (c1 : Cm K mg "InvalidStore" C1 (.ref C18 :: mroVE)) (x1 : XC0 P0 K mg C1) (f1 : XfC K C1)
    (c2 : Cm K mg "InvalidQuestion" C2 (.ref C18 :: mroVE)) (x2 : XC0 P0 K mg C2) (f2 : XfC K C2)
    (c3 : Cm K mg "InvalidForm" C3 (.ref C18 :: mroVE)) (x3 : XC0 P0 K mg C3) (f3 : XfC K C3)
    (c4 : Cm K mg "InvalidText" C4 (.ref C18 :: mroVE)) (x4 : XC0 P0 K mg C4) (f4 : XfC K C4)
    (c5 : Cm K mg "InvalidCommand" C5 (.ref C18 :: mroVE)) (x5 : XC0 P0 K mg C5) (f5 : XfC K C5)
    (c6 : Cm K mg "InvalidShape" C6 (.ref C18 :: mroVE)) (x6 : XC0 P0 K mg C6) (f6 : XfC K C6)
    (c7 : Cm K mg "Full" C7 (.ref C18 :: mroVE)) (x7 : XC0 P0 K mg C7) (f7 : XfC K C7)
    (c8 : Cm K mg "InvalidChange" C8 (.ref C18 :: mroVE)) (x8 : XC1 P0 K mg C8 "change" "change") (f8 : XfC K C8)
    (c9 : Cm K mg "NameTaken" C9 (.ref C18 :: mroVE)) (x9 : XC1 P0 K mg C9 "name" "name") (f9 : XfC K C9)
    (c10 : Cm K mg "Broken" C10 (.ref C18 :: mroVE)) (x10 : XC1 P0 K mg C10 "number" "number") (f10 : XfC K C10)
    (c11 : Cm K mg "Barred" C11 (.ref C18 :: mroVE)) (x11 : XC1 P0 K mg C11 "numbers" "numbers") (f11 : XfC K C11)
    (c12 : Cm K mg "NoOrder" C12 (.ref C18 :: mroVE)) (x12 : XC1 P0 K mg C12 "tree" "tree") (f12 : XfC K C12)
    (c13 : Cm K mg "Bound" C13 (.ref C18 :: mroVE)) (x13 : XC1 P0 K mg C13 "mixes" "mixes") (f13 : XfC K C13)
    (c14 : Cm K mg "UnknownTable" C14 (.ref C19 :: mroKE)) (x14 : XC1 P0 K mg C14 "name" "name") (f14 : XfC K C14)
    (c15 : Cm K mg "UnknownRow" C15 (.ref C19 :: mroKE)) (x15 : XC1 P0 K mg C15 "row" "row") (f15 : XfC K C15)
    (c16 : Cm K mg "UnknownNumber" C16 (.ref C19 :: mroKE)) (x16 : XC1 P0 K mg C16 "number" "number") (f16 : XfC K C16)
    (c17 : Cm K mg "UnknownReplica" C17 (.ref C19 :: mroKE)) (x17 : XC1 P0 K mg C17 "name" "name") (f17 : XfC K C17)
    (d_source : DefD K mg "_law_source" ["script"] s__law_source)
    (d_draw : DefD K mg "_law_draw" ["source", "many"] s__law_draw)
    (d_pick : DefD K mg "_law_pick" ["source", "items"] s__law_pick)
    (d_plain : DefD K mg "_law_plain" ["source"] s__law_plain)
    (d_value : DefD K mg "_law_value" ["source", "deep"] s__law_value)
    (d_bare : DefD K mg "_law_bare" ["which"] s__law_bare)
    (d_made : DefD K mg "_law_made" ["which", "it"] s__law_made)
    (d_made_by_name : DefD K mg "_law_made_by_name" ["which", "it"] s__law_made_by_name)
    (d_held : DefD K mg "_law_held" ["which", "error"] s__law_held)
    (d_marks : DefD K mg "_law_marks" ["error"] s__law_marks)
    (d_due : DefD K mg "_law_due" ["which"] s__law_due)
    (d_raised : DefD K mg "_law_raised" ["which", "it", "wide"] s__law_raised)
    (d_raise : DefD K mg "_law_raise" ["which", "it"] s__law_raise)
    (L : ∃ fd : FuncData, (∀ (s : Shared) (v : Value), BindsTo s fd ⟨[v], []⟩ [("script", v)]) ∧ Fun K "law" "law" s_law fa fd) :
    ∃ fd : FuncData, (∀ (s : Shared) (v : Value), BindsTo s fd ⟨[v], []⟩ [("script", v)]) ∧ ∀ base : Heap, K.In base → base.Ns mainGlobals mg → FnG P0 w K mg base (L2.CX P0 w) 21 fa fd ["script"] (spD K S_law) := by
  have A : Al K mg (adr [C0, C1, C2, C3, C4, C5, C6, C7, C8, C9, C10, C11, C12, C13, C14, C15, C16, C17, C18, C19]) := ⟨fun i hi => match i, hi with | 0, _ => c0 | 1, _ => c1 | 2, _ => c2 | 3, _ => c3 | 4, _ => c4 | 5, _ => c5 | 6, _ => c6 | 7, _ => c7 | 8, _ => c8 | 9, _ => c9 | 10, _ => c10 | 11, _ => c11 | 12, _ => c12 | 13, _ => c13 | 14, _ => c14 | 15, _ => c15 | 16, _ => c16 | 17, _ => c17 | n + 18, h => absurd h (by omega), c18, c19⟩
  have T : Txt P0 K mg (adr [C0, C1, C2, C3, C4, C5, C6, C7, C8, C9, C10, C11, C12, C13, C14, C15, C16, C17, C18, C19]) := txt_of B A (fun i hi => match i, hi with | 0, _ => x0 | 1, _ => x1 | 2, _ => x2 | 3, _ => x3 | 4, _ => x4 | 5, _ => x5 | 6, _ => x6 | 7, _ => x7 | n + 8, h => absurd h (by omega)) (fun i h8 hi => match i, h8, hi with | 0, h, _ => absurd h (by decide) | 1, h, _ => absurd h (by decide) | 2, h, _ => absurd h (by decide) | 3, h, _ => absurd h (by decide) | 4, h, _ => absurd h (by decide) | 5, h, _ => absurd h (by decide) | 6, h, _ => absurd h (by decide) | 7, h, _ => absurd h (by decide) | 8, _, _ => x8 | 9, _, _ => x9 | 10, _, _ => x10 | 11, _, _ => x11 | 12, _, _ => x12 | 13, _, _ => x13 | 14, _, _ => x14 | 15, _, _ => x15 | 16, _, _ => x16 | 17, _, _ => x17 | n + 18, _, h => absurd h (by omega)) (fun i hi => match i, hi with | 0, _ => f0 | 1, _ => f1 | 2, _ => f2 | 3, _ => f3 | 4, _ => f4 | 5, _ => f5 | 6, _ => f6 | 7, _ => f7 | 8, _ => f8 | 9, _ => f9 | 10, _ => f10 | 11, _ => f11 | 12, _ => f12 | 13, _ => f13 | 14, _ => f14 | 15, _ => f15 | 16, _ => f16 | 17, _ => f17 | n + 18, h => absurd h (by omega))
  obtain ⟨fd, hb, F⟩ := L
  refine ⟨fd, hb, fun base _ _ => ?_⟩
  have o1 := ok_source (w := w) (base := base) T d_source
  have o2 := ok_draw (w := w) (base := base) T d_draw
  have o3 := ok_pick T d_pick o2
  have o4 := ok_plain T d_plain o2 o3
  have o5 := ok_value T d_value o2 o4 4
  have o6 := ok_raise (w := w) (base := base) T d_raise
  exact fn_law T F o1 o5 (ok_bare T d_bare) (ok_made T d_made) (ok_made_by_name T d_made_by_name) (ok_held T d_held) (ok_marks T d_marks) (ok_due T d_due) (ok_raised T d_raised o6)
end K1

set_option Elab.async false
set_option linter.all false
/-! K1L: k01: the law's promise at the heap behind the top. -/
namespace K1
open PySem L2 DL PySem.DEX
theorem off_nil (H : Hp) : off (fun _ => false) ⟨fun _ => none, none⟩ H = H := by
  funext b
  show (if ((none : Option MO).isSome || false || false) = true then none else H b) = H b
  exact if_neg (by decide)
theorem dvs_ints {K : PySem.W.Frag} {G : Hp} : ∀ ns : List Int, Dvs K G (ns.map V.int) (ns.map Dt.int)
  | [] => .nil
  | n :: ns => .cons (.int n) (dvs_ints ns)
theorem sp_law {K : PySem.W.Frag} {H : Hp} {a : Addr} {ns : List Int} (hl : ns.length ≤ 63) (hS : SqL K H a (ns.map V.int)) : spD K S_law [.ref a] H (fun v _ => v = .bl true) fun _ _ _ => False := by
  refine ⟨fun _ => false, [.lst (ns.map Dt.int)], ⟨fun _ => none, none⟩, fun d _ => d = .bl true, fun _ _ _ => False, ⟨fun _ h => absurd h (by decide), fun _ _ h => (by cases h), fun _ _ _ h => (by cases h)⟩, ?_, ?_, ?_, fun _ _ _ _ _ _ _ h => h⟩
  · rw [off_nil]
    exact .cons (.lst hS (dvs_ints ns)) .nil
  · exact ⟨ns, rfl, rfl, hl, fun _ => rfl⟩
  · rintro v H' ⟨d, W', _, r, rfl⟩
    cases r; rfl
theorem walk_law {n : Nat} {q : Program} {loose : List Str} {XP : (Str → Option Value) → Heap → Prop} {YP : World → Heap → Prop} {d : DefRec} {K : Params → PySem.W.Frag}
    (hn : PySem.Challenge.rw_wouldturn_k01_errors.most = some n) (hn63 : n ≤ 63) (hdf : d.params.defaults = []) (hr : Room 21 callerA)
    (hY : ∀ (w : World) (h : Heap), YP w h → (K w.params).In h)
    (F : ∀ (w : World) (mg : Str → Option Value) (fa : Addr) (h : Heap), (K w.params).In h → h.Ns mainGlobals mg → mg d.name = some (.ref fa) →
      ∃ fd : FuncData, (∀ (s : Shared) (u : Value), BindsTo s fd ⟨[u], []⟩ [("script", u)]) ∧
        ∀ base : Heap, (K w.params).In base → base.Ns mainGlobals mg → FnG P0 w (K w.params) mg base (L2.CX P0 w) 21 fa fd ["script"] (spD (K w.params) S_law)) :
    PySem.W.WalkO q loose XP YP PySem.Challenge.rw_wouldturn_k01_errors.row.toRowW d [] (fun f vs => PySem.call f vs) := by
  refine L2.walk_ofG (l := PySem.Challenge.rw_wouldturn_k01_errors) (n := n) (k := 21) (x := "script") (K := K) (CX := fun w => L2.CX P0 w) (sp := fun w => spD (K w.params) S_law) hn (Nat.le_trans hn63 (by rw [sizeLine_eq]; decide)) hdf hr hY F (fun w H a ns hl hO hS => sp_law (Nat.le_trans hl hn63) hS) fun w H s e s' hc => ?_
  obtain ⟨_, _, _, _, _, _, _, _, _, _, _, _, hE⟩ := hc
  exact hE
end K1

set_option Elab.async false
set_option linter.all false
set_option maxRecDepth 100000
set_option maxHeartbeats 4000000
open PySem PySem.W PyProof.Rows in
set_option maxRecDepth 100000 in
set_option maxHeartbeats 0 in
theorem PySem.Challenge.cw_wouldturn_k01_errors_holds : PySem.Challenge.rw_wouldturn_k01_errors.Holds := by
  w_on; o_law; k_head; (case hw => w_witness2)
  k_fill
  refine K1.walk_law (n := 63) rfl (by decide) rfl ⟨rfl, by decide, by decide⟩ (fun w h Y => PySem.W.kIn_of Y) ?F
  case F =>
    intro w mg fa h KX G hmg
    refine' K1.top_k KX G ?g1 ?g2 ?g3 ?g4 ?_
    (case g1 => first | k_is | rfl | decide +kernel); (case g2 => first | k_is | rfl | decide +kernel); (case g3 => first | k_is | rfl | decide +kernel); (case g4 => first | k_is | rfl | decide +kernel)
    intro T
    refine' K1.bl_k KX G ?g1 ?g2 ?g3 ?g4 ?g5 ?g6 ?g7 ?g8 ?_
    (case g1 => first | k_is | rfl | decide +kernel); (case g2 => first | k_is | rfl | decide +kernel); (case g3 => first | k_is | rfl | decide +kernel); (case g4 => first | k_is | rfl | decide +kernel); (case g5 => first | k_is | rfl | decide +kernel); (case g6 => first | k_is | rfl | decide +kernel); (case g7 => first | k_is | rfl | decide +kernel); (case g8 => first | k_is | rfl | decide +kernel)
    intro B
    refine' K1.base_18 KX G ?g1 ?g2 ?_
    (case g1 => first | k_is | rfl | decide +kernel); (case g2 => first | k_is | rfl | decide +kernel)
    intro c18
    refine' K1.base_19 KX G ?g1 ?g2 ?_
    (case g1 => first | k_is | rfl | decide +kernel); (case g2 => first | k_is | rfl | decide +kernel)
    intro c19
    refine' K1.cls_0 T KX G ?aC ?l ?init ?fn ?hoc ?cod ?cell ?code ?hvs ?hfile ?sup ?sa ?kp ?ga ?gg ?ha ?_
    (case aC => first | k_is | rfl | decide +kernel); (case l => first | k_is | rfl | decide +kernel); (case init => first | k_is | rfl | decide +kernel); (case fn => first | k_is | rfl | decide +kernel); (case hoc => rfl); (case cod => first | k_is | rfl | decide +kernel); (case cell => first | k_is | rfl | decide +kernel); (case code => first | k_is | rfl | decide +kernel); (case hvs => first | k_is | rfl | decide +kernel); (case hfile => first | k_is | rfl | decide +kernel); (case sup => first | k_is | rfl | decide +kernel); (case sa => first | k_is | rfl | decide +kernel); (case kp => first | k_is | rfl | decide +kernel); (case ga => first | k_is | rfl | decide +kernel); (case gg => first | k_is | rfl | decide +kernel); (case ha => first | k_is | rfl | decide +kernel)
    intro c0 x0 f0
    refine' K1.cls_1 T KX G ?aC ?l ?init ?fn ?hoc ?cod ?cell ?code ?hvs ?hfile ?sup ?sa ?kp ?ga ?gg ?ha ?_
    (case aC => first | k_is | rfl | decide +kernel); (case l => first | k_is | rfl | decide +kernel); (case init => first | k_is | rfl | decide +kernel); (case fn => first | k_is | rfl | decide +kernel); (case hoc => rfl); (case cod => first | k_is | rfl | decide +kernel); (case cell => first | k_is | rfl | decide +kernel); (case code => first | k_is | rfl | decide +kernel); (case hvs => first | k_is | rfl | decide +kernel); (case hfile => first | k_is | rfl | decide +kernel); (case sup => first | k_is | rfl | decide +kernel); (case sa => first | k_is | rfl | decide +kernel); (case kp => first | k_is | rfl | decide +kernel); (case ga => first | k_is | rfl | decide +kernel); (case gg => first | k_is | rfl | decide +kernel); (case ha => first | k_is | rfl | decide +kernel)
    intro c1 x1 f1
    refine' K1.cls_2 T KX G ?aC ?l ?init ?fn ?hoc ?cod ?cell ?code ?hvs ?hfile ?sup ?sa ?kp ?ga ?gg ?ha ?_
    (case aC => first | k_is | rfl | decide +kernel); (case l => first | k_is | rfl | decide +kernel); (case init => first | k_is | rfl | decide +kernel); (case fn => first | k_is | rfl | decide +kernel); (case hoc => rfl); (case cod => first | k_is | rfl | decide +kernel); (case cell => first | k_is | rfl | decide +kernel); (case code => first | k_is | rfl | decide +kernel); (case hvs => first | k_is | rfl | decide +kernel); (case hfile => first | k_is | rfl | decide +kernel); (case sup => first | k_is | rfl | decide +kernel); (case sa => first | k_is | rfl | decide +kernel); (case kp => first | k_is | rfl | decide +kernel); (case ga => first | k_is | rfl | decide +kernel); (case gg => first | k_is | rfl | decide +kernel); (case ha => first | k_is | rfl | decide +kernel)
    intro c2 x2 f2
    refine' K1.cls_3 T KX G ?aC ?l ?init ?fn ?hoc ?cod ?cell ?code ?hvs ?hfile ?sup ?sa ?kp ?ga ?gg ?ha ?_
    (case aC => first | k_is | rfl | decide +kernel); (case l => first | k_is | rfl | decide +kernel); (case init => first | k_is | rfl | decide +kernel); (case fn => first | k_is | rfl | decide +kernel); (case hoc => rfl); (case cod => first | k_is | rfl | decide +kernel); (case cell => first | k_is | rfl | decide +kernel); (case code => first | k_is | rfl | decide +kernel); (case hvs => first | k_is | rfl | decide +kernel); (case hfile => first | k_is | rfl | decide +kernel); (case sup => first | k_is | rfl | decide +kernel); (case sa => first | k_is | rfl | decide +kernel); (case kp => first | k_is | rfl | decide +kernel); (case ga => first | k_is | rfl | decide +kernel); (case gg => first | k_is | rfl | decide +kernel); (case ha => first | k_is | rfl | decide +kernel)
    intro c3 x3 f3
    refine' K1.cls_4 T KX G ?aC ?l ?init ?fn ?hoc ?cod ?cell ?code ?hvs ?hfile ?sup ?sa ?kp ?ga ?gg ?ha ?_
    (case aC => first | k_is | rfl | decide +kernel); (case l => first | k_is | rfl | decide +kernel); (case init => first | k_is | rfl | decide +kernel); (case fn => first | k_is | rfl | decide +kernel); (case hoc => rfl); (case cod => first | k_is | rfl | decide +kernel); (case cell => first | k_is | rfl | decide +kernel); (case code => first | k_is | rfl | decide +kernel); (case hvs => first | k_is | rfl | decide +kernel); (case hfile => first | k_is | rfl | decide +kernel); (case sup => first | k_is | rfl | decide +kernel); (case sa => first | k_is | rfl | decide +kernel); (case kp => first | k_is | rfl | decide +kernel); (case ga => first | k_is | rfl | decide +kernel); (case gg => first | k_is | rfl | decide +kernel); (case ha => first | k_is | rfl | decide +kernel)
    intro c4 x4 f4
    refine' K1.cls_5 T KX G ?aC ?l ?init ?fn ?hoc ?cod ?cell ?code ?hvs ?hfile ?sup ?sa ?kp ?ga ?gg ?ha ?_
    (case aC => first | k_is | rfl | decide +kernel); (case l => first | k_is | rfl | decide +kernel); (case init => first | k_is | rfl | decide +kernel); (case fn => first | k_is | rfl | decide +kernel); (case hoc => rfl); (case cod => first | k_is | rfl | decide +kernel); (case cell => first | k_is | rfl | decide +kernel); (case code => first | k_is | rfl | decide +kernel); (case hvs => first | k_is | rfl | decide +kernel); (case hfile => first | k_is | rfl | decide +kernel); (case sup => first | k_is | rfl | decide +kernel); (case sa => first | k_is | rfl | decide +kernel); (case kp => first | k_is | rfl | decide +kernel); (case ga => first | k_is | rfl | decide +kernel); (case gg => first | k_is | rfl | decide +kernel); (case ha => first | k_is | rfl | decide +kernel)
    intro c5 x5 f5
    refine' K1.cls_6 T KX G ?aC ?l ?init ?fn ?hoc ?cod ?cell ?code ?hvs ?hfile ?sup ?sa ?kp ?ga ?gg ?ha ?_
    (case aC => first | k_is | rfl | decide +kernel); (case l => first | k_is | rfl | decide +kernel); (case init => first | k_is | rfl | decide +kernel); (case fn => first | k_is | rfl | decide +kernel); (case hoc => rfl); (case cod => first | k_is | rfl | decide +kernel); (case cell => first | k_is | rfl | decide +kernel); (case code => first | k_is | rfl | decide +kernel); (case hvs => first | k_is | rfl | decide +kernel); (case hfile => first | k_is | rfl | decide +kernel); (case sup => first | k_is | rfl | decide +kernel); (case sa => first | k_is | rfl | decide +kernel); (case kp => first | k_is | rfl | decide +kernel); (case ga => first | k_is | rfl | decide +kernel); (case gg => first | k_is | rfl | decide +kernel); (case ha => first | k_is | rfl | decide +kernel)
    intro c6 x6 f6
    refine' K1.cls_7 T KX G ?aC ?l ?init ?fn ?hoc ?cod ?cell ?code ?hvs ?hfile ?sup ?sa ?kp ?ga ?gg ?ha ?_
    (case aC => first | k_is | rfl | decide +kernel); (case l => first | k_is | rfl | decide +kernel); (case init => first | k_is | rfl | decide +kernel); (case fn => first | k_is | rfl | decide +kernel); (case hoc => rfl); (case cod => first | k_is | rfl | decide +kernel); (case cell => first | k_is | rfl | decide +kernel); (case code => first | k_is | rfl | decide +kernel); (case hvs => first | k_is | rfl | decide +kernel); (case hfile => first | k_is | rfl | decide +kernel); (case sup => first | k_is | rfl | decide +kernel); (case sa => first | k_is | rfl | decide +kernel); (case kp => first | k_is | rfl | decide +kernel); (case ga => first | k_is | rfl | decide +kernel); (case gg => first | k_is | rfl | decide +kernel); (case ha => first | k_is | rfl | decide +kernel)
    intro c7 x7 f7
    refine' K1.cls_8 T KX G ?aC ?l ?init ?fn ?hoc ?cod ?cell ?code ?hvs ?hfile ?sup ?sa ?kp ?ga ?gg ?ha ?no ?_
    (case aC => first | k_is | rfl | decide +kernel); (case l => first | k_is | rfl | decide +kernel); (case init => first | k_is | rfl | decide +kernel); (case fn => first | k_is | rfl | decide +kernel); (case hoc => rfl); (case cod => first | k_is | rfl | decide +kernel); (case cell => first | k_is | rfl | decide +kernel); (case code => first | k_is | rfl | decide +kernel); (case hvs => first | k_is | rfl | decide +kernel); (case hfile => first | k_is | rfl | decide +kernel); (case sup => first | k_is | rfl | decide +kernel); (case sa => first | k_is | rfl | decide +kernel); (case kp => first | k_is | rfl | decide +kernel); (case ga => first | k_is | rfl | decide +kernel); (case gg => first | k_is | rfl | decide +kernel); (case ha => first | k_is | rfl | decide +kernel); (case no => first | k_is | rfl | decide +kernel)
    intro c8 x8 f8
    refine' K1.cls_9 T KX G ?aC ?l ?init ?fn ?hoc ?cod ?cell ?code ?hvs ?hfile ?sup ?sa ?kp ?ga ?gg ?ha ?no ?_
    (case aC => first | k_is | rfl | decide +kernel); (case l => first | k_is | rfl | decide +kernel); (case init => first | k_is | rfl | decide +kernel); (case fn => first | k_is | rfl | decide +kernel); (case hoc => rfl); (case cod => first | k_is | rfl | decide +kernel); (case cell => first | k_is | rfl | decide +kernel); (case code => first | k_is | rfl | decide +kernel); (case hvs => first | k_is | rfl | decide +kernel); (case hfile => first | k_is | rfl | decide +kernel); (case sup => first | k_is | rfl | decide +kernel); (case sa => first | k_is | rfl | decide +kernel); (case kp => first | k_is | rfl | decide +kernel); (case ga => first | k_is | rfl | decide +kernel); (case gg => first | k_is | rfl | decide +kernel); (case ha => first | k_is | rfl | decide +kernel); (case no => first | k_is | rfl | decide +kernel)
    intro c9 x9 f9
    refine' K1.cls_10 T KX G ?aC ?l ?init ?fn ?hoc ?cod ?cell ?code ?hvs ?hfile ?sup ?sa ?kp ?ga ?gg ?ha ?no ?_
    (case aC => first | k_is | rfl | decide +kernel); (case l => first | k_is | rfl | decide +kernel); (case init => first | k_is | rfl | decide +kernel); (case fn => first | k_is | rfl | decide +kernel); (case hoc => rfl); (case cod => first | k_is | rfl | decide +kernel); (case cell => first | k_is | rfl | decide +kernel); (case code => first | k_is | rfl | decide +kernel); (case hvs => first | k_is | rfl | decide +kernel); (case hfile => first | k_is | rfl | decide +kernel); (case sup => first | k_is | rfl | decide +kernel); (case sa => first | k_is | rfl | decide +kernel); (case kp => first | k_is | rfl | decide +kernel); (case ga => first | k_is | rfl | decide +kernel); (case gg => first | k_is | rfl | decide +kernel); (case ha => first | k_is | rfl | decide +kernel); (case no => first | k_is | rfl | decide +kernel)
    intro c10 x10 f10
    refine' K1.cls_11 T KX G ?aC ?l ?init ?fn ?hoc ?cod ?cell ?code ?hvs ?hfile ?sup ?sa ?kp ?ga ?gg ?ha ?no ?_
    (case aC => first | k_is | rfl | decide +kernel); (case l => first | k_is | rfl | decide +kernel); (case init => first | k_is | rfl | decide +kernel); (case fn => first | k_is | rfl | decide +kernel); (case hoc => rfl); (case cod => first | k_is | rfl | decide +kernel); (case cell => first | k_is | rfl | decide +kernel); (case code => first | k_is | rfl | decide +kernel); (case hvs => first | k_is | rfl | decide +kernel); (case hfile => first | k_is | rfl | decide +kernel); (case sup => first | k_is | rfl | decide +kernel); (case sa => first | k_is | rfl | decide +kernel); (case kp => first | k_is | rfl | decide +kernel); (case ga => first | k_is | rfl | decide +kernel); (case gg => first | k_is | rfl | decide +kernel); (case ha => first | k_is | rfl | decide +kernel); (case no => first | k_is | rfl | decide +kernel)
    intro c11 x11 f11
    refine' K1.cls_12 T KX G ?aC ?l ?init ?fn ?hoc ?cod ?cell ?code ?hvs ?hfile ?sup ?sa ?kp ?ga ?gg ?ha ?no ?_
    (case aC => first | k_is | rfl | decide +kernel); (case l => first | k_is | rfl | decide +kernel); (case init => first | k_is | rfl | decide +kernel); (case fn => first | k_is | rfl | decide +kernel); (case hoc => rfl); (case cod => first | k_is | rfl | decide +kernel); (case cell => first | k_is | rfl | decide +kernel); (case code => first | k_is | rfl | decide +kernel); (case hvs => first | k_is | rfl | decide +kernel); (case hfile => first | k_is | rfl | decide +kernel); (case sup => first | k_is | rfl | decide +kernel); (case sa => first | k_is | rfl | decide +kernel); (case kp => first | k_is | rfl | decide +kernel); (case ga => first | k_is | rfl | decide +kernel); (case gg => first | k_is | rfl | decide +kernel); (case ha => first | k_is | rfl | decide +kernel); (case no => first | k_is | rfl | decide +kernel)
    intro c12 x12 f12
    refine' K1.cls_13 T KX G ?aC ?l ?init ?fn ?hoc ?cod ?cell ?code ?hvs ?hfile ?sup ?sa ?kp ?ga ?gg ?ha ?no ?_
    (case aC => first | k_is | rfl | decide +kernel); (case l => first | k_is | rfl | decide +kernel); (case init => first | k_is | rfl | decide +kernel); (case fn => first | k_is | rfl | decide +kernel); (case hoc => rfl); (case cod => first | k_is | rfl | decide +kernel); (case cell => first | k_is | rfl | decide +kernel); (case code => first | k_is | rfl | decide +kernel); (case hvs => first | k_is | rfl | decide +kernel); (case hfile => first | k_is | rfl | decide +kernel); (case sup => first | k_is | rfl | decide +kernel); (case sa => first | k_is | rfl | decide +kernel); (case kp => first | k_is | rfl | decide +kernel); (case ga => first | k_is | rfl | decide +kernel); (case gg => first | k_is | rfl | decide +kernel); (case ha => first | k_is | rfl | decide +kernel); (case no => first | k_is | rfl | decide +kernel)
    intro c13 x13 f13
    refine' K1.cls_14 T KX G ?aC ?l ?init ?fn ?hoc ?cod ?cell ?code ?hvs ?hfile ?sup ?sa ?kp ?ga ?gg ?ha ?no ?_
    (case aC => first | k_is | rfl | decide +kernel); (case l => first | k_is | rfl | decide +kernel); (case init => first | k_is | rfl | decide +kernel); (case fn => first | k_is | rfl | decide +kernel); (case hoc => rfl); (case cod => first | k_is | rfl | decide +kernel); (case cell => first | k_is | rfl | decide +kernel); (case code => first | k_is | rfl | decide +kernel); (case hvs => first | k_is | rfl | decide +kernel); (case hfile => first | k_is | rfl | decide +kernel); (case sup => first | k_is | rfl | decide +kernel); (case sa => first | k_is | rfl | decide +kernel); (case kp => first | k_is | rfl | decide +kernel); (case ga => first | k_is | rfl | decide +kernel); (case gg => first | k_is | rfl | decide +kernel); (case ha => first | k_is | rfl | decide +kernel); (case no => first | k_is | rfl | decide +kernel)
    intro c14 x14 f14
    refine' K1.cls_15 T KX G ?aC ?l ?init ?fn ?hoc ?cod ?cell ?code ?hvs ?hfile ?sup ?sa ?kp ?ga ?gg ?ha ?no ?_
    (case aC => first | k_is | rfl | decide +kernel); (case l => first | k_is | rfl | decide +kernel); (case init => first | k_is | rfl | decide +kernel); (case fn => first | k_is | rfl | decide +kernel); (case hoc => rfl); (case cod => first | k_is | rfl | decide +kernel); (case cell => first | k_is | rfl | decide +kernel); (case code => first | k_is | rfl | decide +kernel); (case hvs => first | k_is | rfl | decide +kernel); (case hfile => first | k_is | rfl | decide +kernel); (case sup => first | k_is | rfl | decide +kernel); (case sa => first | k_is | rfl | decide +kernel); (case kp => first | k_is | rfl | decide +kernel); (case ga => first | k_is | rfl | decide +kernel); (case gg => first | k_is | rfl | decide +kernel); (case ha => first | k_is | rfl | decide +kernel); (case no => first | k_is | rfl | decide +kernel)
    intro c15 x15 f15
    refine' K1.cls_16 T KX G ?aC ?l ?init ?fn ?hoc ?cod ?cell ?code ?hvs ?hfile ?sup ?sa ?kp ?ga ?gg ?ha ?no ?_
    (case aC => first | k_is | rfl | decide +kernel); (case l => first | k_is | rfl | decide +kernel); (case init => first | k_is | rfl | decide +kernel); (case fn => first | k_is | rfl | decide +kernel); (case hoc => rfl); (case cod => first | k_is | rfl | decide +kernel); (case cell => first | k_is | rfl | decide +kernel); (case code => first | k_is | rfl | decide +kernel); (case hvs => first | k_is | rfl | decide +kernel); (case hfile => first | k_is | rfl | decide +kernel); (case sup => first | k_is | rfl | decide +kernel); (case sa => first | k_is | rfl | decide +kernel); (case kp => first | k_is | rfl | decide +kernel); (case ga => first | k_is | rfl | decide +kernel); (case gg => first | k_is | rfl | decide +kernel); (case ha => first | k_is | rfl | decide +kernel); (case no => first | k_is | rfl | decide +kernel)
    intro c16 x16 f16
    refine' K1.cls_17 T KX G ?aC ?l ?init ?fn ?hoc ?cod ?cell ?code ?hvs ?hfile ?sup ?sa ?kp ?ga ?gg ?ha ?no ?_
    (case aC => first | k_is | rfl | decide +kernel); (case l => first | k_is | rfl | decide +kernel); (case init => first | k_is | rfl | decide +kernel); (case fn => first | k_is | rfl | decide +kernel); (case hoc => rfl); (case cod => first | k_is | rfl | decide +kernel); (case cell => first | k_is | rfl | decide +kernel); (case code => first | k_is | rfl | decide +kernel); (case hvs => first | k_is | rfl | decide +kernel); (case hfile => first | k_is | rfl | decide +kernel); (case sup => first | k_is | rfl | decide +kernel); (case sa => first | k_is | rfl | decide +kernel); (case kp => first | k_is | rfl | decide +kernel); (case ga => first | k_is | rfl | decide +kernel); (case gg => first | k_is | rfl | decide +kernel); (case ha => first | k_is | rfl | decide +kernel); (case no => first | k_is | rfl | decide +kernel)
    intro c17 x17 f17
    refine' K1.def_source KX G ?aC ?l ?c ?k ?_
    (case aC => first | k_is | rfl | decide +kernel); (case l => first | k_is | rfl | decide +kernel); (case c => first | k_is | rfl | decide +kernel); (case k => first | k_is | rfl | decide +kernel)
    intro d_source
    refine' K1.def_draw KX G ?aC ?l ?c ?k ?_
    (case aC => first | k_is | rfl | decide +kernel); (case l => first | k_is | rfl | decide +kernel); (case c => first | k_is | rfl | decide +kernel); (case k => first | k_is | rfl | decide +kernel)
    intro d_draw
    refine' K1.def_pick KX G ?aC ?l ?c ?k ?_
    (case aC => first | k_is | rfl | decide +kernel); (case l => first | k_is | rfl | decide +kernel); (case c => first | k_is | rfl | decide +kernel); (case k => first | k_is | rfl | decide +kernel)
    intro d_pick
    refine' K1.def_plain KX G ?aC ?l ?c ?k ?_
    (case aC => first | k_is | rfl | decide +kernel); (case l => first | k_is | rfl | decide +kernel); (case c => first | k_is | rfl | decide +kernel); (case k => first | k_is | rfl | decide +kernel)
    intro d_plain
    refine' K1.def_value KX G ?aC ?l ?c ?k ?_
    (case aC => first | k_is | rfl | decide +kernel); (case l => first | k_is | rfl | decide +kernel); (case c => first | k_is | rfl | decide +kernel); (case k => first | k_is | rfl | decide +kernel)
    intro d_value
    refine' K1.def_bare KX G ?aC ?l ?c ?k ?_
    (case aC => first | k_is | rfl | decide +kernel); (case l => first | k_is | rfl | decide +kernel); (case c => first | k_is | rfl | decide +kernel); (case k => first | k_is | rfl | decide +kernel)
    intro d_bare
    refine' K1.def_made KX G ?aC ?l ?c ?k ?_
    (case aC => first | k_is | rfl | decide +kernel); (case l => first | k_is | rfl | decide +kernel); (case c => first | k_is | rfl | decide +kernel); (case k => first | k_is | rfl | decide +kernel)
    intro d_made
    refine' K1.def_made_by_name KX G ?aC ?l ?c ?k ?_
    (case aC => first | k_is | rfl | decide +kernel); (case l => first | k_is | rfl | decide +kernel); (case c => first | k_is | rfl | decide +kernel); (case k => first | k_is | rfl | decide +kernel)
    intro d_made_by_name
    refine' K1.def_held KX G ?aC ?l ?c ?k ?_
    (case aC => first | k_is | rfl | decide +kernel); (case l => first | k_is | rfl | decide +kernel); (case c => first | k_is | rfl | decide +kernel); (case k => first | k_is | rfl | decide +kernel)
    intro d_held
    refine' K1.def_marks KX G ?aC ?l ?c ?k ?_
    (case aC => first | k_is | rfl | decide +kernel); (case l => first | k_is | rfl | decide +kernel); (case c => first | k_is | rfl | decide +kernel); (case k => first | k_is | rfl | decide +kernel)
    intro d_marks
    refine' K1.def_due KX G ?aC ?l ?c ?k ?_
    (case aC => first | k_is | rfl | decide +kernel); (case l => first | k_is | rfl | decide +kernel); (case c => first | k_is | rfl | decide +kernel); (case k => first | k_is | rfl | decide +kernel)
    intro d_due
    refine' K1.def_raised KX G ?aC ?l ?c ?k ?_
    (case aC => first | k_is | rfl | decide +kernel); (case l => first | k_is | rfl | decide +kernel); (case c => first | k_is | rfl | decide +kernel); (case k => first | k_is | rfl | decide +kernel)
    intro d_raised
    refine' K1.def_raise KX G ?aC ?l ?c ?k ?_
    (case aC => first | k_is | rfl | decide +kernel); (case l => first | k_is | rfl | decide +kernel); (case c => first | k_is | rfl | decide +kernel); (case k => first | k_is | rfl | decide +kernel)
    intro d_raise
    refine' K1.def_law KX G hmg ?aC ?l ?c ?k ?_
    (case aC => first | k_is | rfl | decide +kernel); (case l => first | k_is | rfl | decide +kernel); (case c => first | k_is | rfl | decide +kernel); (case k => first | k_is | rfl | decide +kernel)
    intro L
    exact K1.fin B c18 c19 c0 x0 f0 c1 x1 f1 c2 x2 f2 c3 x3 f3 c4 x4 f4 c5 x5 f5 c6 x6 f6 c7 x7 f7 c8 x8 f8 c9 x9 f9 c10 x10 f10 c11 x11 f11 c12 x12 f12 c13 x13 f13 c14 x14 f14 c15 x15 f15 c16 x16 f16 c17 x17 f17 d_source d_draw d_pick d_plain d_value d_bare d_made d_made_by_name d_held d_marks d_due d_raised d_raise L

