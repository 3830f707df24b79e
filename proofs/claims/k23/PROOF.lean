import PyProof.Rows.All
import Wide.All
import OpenK.AllK
import Wide.FinOn
import HandS.ForMost
import HandS.Property
import HandS.TupAny
import HandS.TupMul
import HandS.IsInst
import HandS.WideBits
import HandS.Flow
import KE.GoesEnum
import KE.GoesMore
import HandS.Star
import HandS.FStr
import HandS.RaiseMore
import HandS.Exc
import KE.KCallOwn
import KE.KStateDown
import HandS.Ends
import HandS.HeadEnd
import HandS.Words
import HandS.Head0
import HandS.Head1
import HandS.Head2
import HandS.HeadHook1
import HandS.HeadHook2
import PySem.Challenge.RW_belowneeds_k23_whole_fills
set_option Elab.async false
set_option linter.all false
set_option maxRecDepth 100000
set_option maxHeartbeats 4000000
/-! The data level: what an expression, a statement of a def comes to, told of plain data. -/
namespace DL
open PySem PySem.Spec PyProof.Rows L2

/-! ### data -/
inductive D where
  | non | bl (b : Bool) | int (i : Int) | str (x : Str) | cst (v : V)
  | lst (xs : List D) | tup (xs : List D) | frl (xs : List D)
  | dct (kvs : List (Key × D))
  | ins (C : Addr) (fs : List (Str × D))

mutual
inductive Rep (K : PySem.W.Frag) (G : Hp) : V → D → Prop
  | non : Rep K G .non .non
  | bl (b : Bool) : Rep K G (.bl b) (.bl b)
  | int (i : Int) : Rep K G (.int i) (.int i)
  | str (x : Str) : Rep K G (.str x) (.str x)
  | cst (v : V) : Rep K G v (.cst v)
  | lst {a : Addr} {xs : List V} {ds : List D} : G a = some (.lst xs) → RepA K G xs ds → Rep K G (.ref a) (.lst ds)
  | frl {a : Addr} {xs : List V} {ds : List D} : SqL K G a xs → RepA K G xs ds → Rep K G (.ref a) (.frl ds)
  | tup {a : Addr} {xs : List V} {ds : List D} : SqT K G a xs → RepA K G xs ds → Rep K G (.ref a) (.tup ds)
  | dct {a : Addr} {xs : List (Key × V)} {ds : List (Key × D)} : G a = some (.dK xs) → RepK K G xs ds → Rep K G (.ref a) (.dct ds)
  | ins {a C dx : Addr} {fs : List (Str × V)} {ds : List (Str × D)} : G a = some (.ins C dx fs) → RepF K G fs ds → Rep K G (.ref a) (.ins C ds)
inductive RepA (K : PySem.W.Frag) (G : Hp) : List V → List D → Prop
  | nil : RepA K G [] []
  | cons {v : V} {vs : List V} {d : D} {ds : List D} : Rep K G v d → RepA K G vs ds → RepA K G (v :: vs) (d :: ds)
inductive RepK (K : PySem.W.Frag) (G : Hp) : List (Key × V) → List (Key × D) → Prop
  | nil : RepK K G [] []
  | cons {k : Key} {v : V} {vs : List (Key × V)} {d : D} {ds : List (Key × D)} : Rep K G v d → RepK K G vs ds → RepK K G ((k, v) :: vs) ((k, d) :: ds)
inductive RepF (K : PySem.W.Frag) (G : Hp) : List (Str × V) → List (Str × D) → Prop
  | nil : RepF K G [] []
  | cons {k : Str} {v : V} {vs : List (Str × V)} {d : D} {ds : List (Str × D)} : Rep K G v d → RepF K G vs ds → RepF K G ((k, v) :: vs) ((k, d) :: ds)
end

theorem same_l {K : PySem.W.Frag} {G G' : Hp} {a : Addr} {xs : List V} (e : Same G G') (h : SqL K G a xs) : SqL K G' a xs := e.seq h
theorem same_rd {G G' : Hp} {a : Addr} {u : HO} (e : Same G G') (h : Rd G a u) : Rd G' a u := by
  rcases h with h | ⟨o, h⟩
  · exact .inl (e _ _ h)
  · exact .inr ⟨o, e _ _ h⟩
theorem same_t {K : PySem.W.Frag} {G G' : Hp} {a : Addr} {xs : List V} (e : Same G G') (h : SqT K G a xs) : SqT K G' a xs := by
  rcases h with h | h
  · exact .inl (same_rd e h)
  · exact .inr h

mutual
theorem Rep.mono {K : PySem.W.Frag} {G G' : Hp} (e : Same G G') : ∀ {v : V} {d : D}, Rep K G v d → Rep K G' v d
  | _, _, .non => .non
  | _, _, .bl b => .bl b
  | _, _, .int i => .int i
  | _, _, .str x => .str x
  | _, _, .cst v => .cst v
  | _, _, .lst h r => .lst (e _ _ h) (RepA.mono e r)
  | _, _, .frl h r => .frl (same_l e h) (RepA.mono e r)
  | _, _, .tup h r => .tup (same_t e h) (RepA.mono e r)
  | _, _, .dct h r => .dct (e _ _ h) (RepK.mono e r)
  | _, _, .ins h r => .ins (e _ _ h) (RepF.mono e r)
theorem RepA.mono {K : PySem.W.Frag} {G G' : Hp} (e : Same G G') : ∀ {v : List V} {d : List D}, RepA K G v d → RepA K G' v d
  | _, _, .nil => .nil
  | _, _, .cons r t => .cons (Rep.mono e r) (RepA.mono e t)
theorem RepK.mono {K : PySem.W.Frag} {G G' : Hp} (e : Same G G') : ∀ {v : List (Key × V)} {d : List (Key × D)}, RepK K G v d → RepK K G' v d
  | _, _, .nil => .nil
  | _, _, .cons r t => .cons (Rep.mono e r) (RepK.mono e t)
theorem RepF.mono {K : PySem.W.Frag} {G G' : Hp} (e : Same G G') : ∀ {v : List (Str × V)} {d : List (Str × D)}, RepF K G v d → RepF K G' v d
  | _, _, .nil => .nil
  | _, _, .cons r t => .cons (Rep.mono e r) (RepF.mono e t)
end

section
variable {K : PySem.W.Frag} {G : Hp}
theorem RepA.length : ∀ {v : List V} {d : List D}, RepA K G v d → v.length = d.length
  | _, _, .nil => rfl
  | _, _, .cons _ t => congrArg (· + 1) (RepA.length t)
theorem RepA.get : ∀ {v : List V} {d : List D} {i : Nat} {e : D}, RepA K G v d → d[i]? = some e → ∃ x, v[i]? = some x ∧ Rep K G x e
  | _, _, _, _, .nil, h => by simp at h
  | _, _, 0, _, .cons r _, h => by simp at h; subst h; exact ⟨_, rfl, r⟩
  | _, _, i + 1, e, .cons _ t, h => by
    obtain ⟨x, h1, h2⟩ := RepA.get (i := i) (e := e) t (by simpa using h)
    exact ⟨x, by simpa using h1, h2⟩
theorem RepA.getV : ∀ {v : List V} {d : List D} {i : Nat} {x : V}, RepA K G v d → v[i]? = some x → ∃ e, d[i]? = some e ∧ Rep K G x e
  | _, _, _, _, .nil, h => by simp at h
  | _, _, 0, _, .cons r _, h => by simp at h; subst h; exact ⟨_, rfl, r⟩
  | _, _, i + 1, e, .cons _ t, h => by
    obtain ⟨x, h1, h2⟩ := RepA.getV (i := i) t (by simpa using h)
    exact ⟨x, by simpa using h1, h2⟩
theorem RepA.append : ∀ {v v' : List V} {d d' : List D}, RepA K G v d → RepA K G v' d' → RepA K G (v ++ v') (d ++ d')
  | _, _, _, _, .nil, s => s
  | _, _, _, _, .cons r t, s => .cons r (RepA.append t s)
theorem RepA.take : ∀ {v : List V} {d : List D} (n : Nat), RepA K G v d → RepA K G (v.take n) (d.take n)
  | _, _, 0, _ => .nil
  | _, _, _ + 1, .nil => .nil
  | _, _, n + 1, .cons r t => .cons r (RepA.take n t)
theorem RepA.drop : ∀ {v : List V} {d : List D} (n : Nat), RepA K G v d → RepA K G (v.drop n) (d.drop n)
  | _, _, 0, r => r
  | _, _, _ + 1, .nil => .nil
  | _, _, n + 1, .cons _ t => RepA.drop n t
theorem RepA.set {x : V} {e : D} (r : Rep K G x e) : ∀ {v : List V} {d : List D} (i : Nat), RepA K G v d → RepA K G (v.set i x) (d.set i e)
  | _, _, _, .nil => .nil
  | _, _, 0, .cons _ t => .cons r t
  | _, _, i + 1, .cons q t => .cons q (RepA.set r i t)
theorem RepA.one {x : V} {e : D} (r : Rep K G x e) : RepA K G [x] [e] := .cons r .nil
theorem RepA.eraseIdx : ∀ {v : List V} {d : List D} (i : Nat), RepA K G v d → RepA K G (v.eraseIdx i) (d.eraseIdx i)
  | _, _, _, .nil => .nil
  | _, _, 0, .cons _ t => t
  | _, _, i + 1, .cons r t => .cons r (RepA.eraseIdx i t)
theorem Rep.int_inv {v : V} {i : Int} (r : Rep K G v (.int i)) : v = .int i := by cases r; rfl
theorem Rep.str_inv {v : V} {x : Str} (r : Rep K G v (.str x)) : v = .str x := by cases r; rfl
theorem Rep.bl_inv {v : V} {b : Bool} (r : Rep K G v (.bl b)) : v = .bl b := by cases r; rfl
theorem Rep.non_inv {v : V} (r : Rep K G v .non) : v = .non := by cases r; rfl
theorem Rep.cst_inv {v x : V} (r : Rep K G v (.cst x)) : v = x := by cases r; rfl
theorem Rep.lst_inv {v : V} {ds : List D} (r : Rep K G v (.lst ds)) : ∃ a xs, v = .ref a ∧ G a = some (.lst xs) ∧ RepA K G xs ds := by
  cases r with
  | lst h t => exact ⟨_, _, rfl, h, t⟩
theorem Rep.frl_inv {v : V} {ds : List D} (r : Rep K G v (.frl ds)) : ∃ a xs, v = .ref a ∧ SqL K G a xs ∧ RepA K G xs ds := by
  cases r with
  | frl h t => exact ⟨_, _, rfl, h, t⟩
theorem Rep.dct_inv {v : V} {ds : List (Key × D)} (r : Rep K G v (.dct ds)) : ∃ a xs, v = .ref a ∧ G a = some (.dK xs) ∧ RepK K G xs ds := by
  cases r with
  | dct h t => exact ⟨_, _, rfl, h, t⟩
theorem Rep.tup_inv {v : V} {ds : List D} (r : Rep K G v (.tup ds)) : ∃ a xs, v = .ref a ∧ SqT K G a xs ∧ RepA K G xs ds := by
  cases r with
  | tup h t => exact ⟨_, _, rfl, h, t⟩
theorem Rep.ins_inv {v : V} {C : Addr} {ds : List (Str × D)} (r : Rep K G v (.ins C ds)) : ∃ a dx fs, v = .ref a ∧ G a = some (.ins C dx fs) ∧ RepF K G fs ds := by
  cases r with
  | ins h t => exact ⟨_, _, _, rfl, h, t⟩
theorem RepF.lookup {f : Str} : ∀ {v : List (Str × V)} {d : List (Str × D)} {e : D}, RepF K G v d → d.lookup f = some e → ∃ x, v.lookup f = some x ∧ Rep K G x e
  | _, _, _, .nil, h => by cases h
  | _, _, e, .cons (k := k) (v := v) (vs := vs) (d := d) (ds := ds) r t, h => by
    rw [List.lookup_cons] at h ⊢
    cases q : (f == k) with
    | true => rw [q] at h; cases h; exact ⟨_, rfl, r⟩
    | false => rw [q] at h; exact RepF.lookup t h
theorem RepF.lookupN {f : Str} : ∀ {v : List (Str × V)} {d : List (Str × D)}, RepF K G v d → d.lookup f = none → v.lookup f = none
  | _, _, .nil, h => rfl
  | _, _, .cons (k := k) (v := v) (vs := vs) (d := d) (ds := ds) r t, h => by
    rw [List.lookup_cons] at h ⊢
    cases q : (f == k) with
    | true => rw [q] at h; cases h
    | false => rw [q] at h; exact RepF.lookupN t h
theorem RepF.length : ∀ {v : List (Str × V)} {d : List (Str × D)}, RepF K G v d → v.length = d.length
  | _, _, .nil => rfl
  | _, _, .cons _ t => congrArg (· + 1) (RepF.length t)
def putD (f : Str) (x : D) : List (Str × D) → List (Str × D)
  | [] => [(f, x)]
  | (k, v) :: r => if k = f then (k, x) :: r else (k, v) :: putD f x r
end
end DL

set_option maxRecDepth 100000
set_option maxHeartbeats 4000000
namespace DL
open PySem PySem.Spec PyProof.Rows L2

/-! ### a name's slot: not told; data; a thing that the def alone holds and may change -/
inductive Slot where
  | un | dat (d : D) | own (d : D)
abbrev Ro := List Slot

/-- how the own thing at a stands -/
def OwnOk (K : PySem.W.Frag) (G H : Hp) (a : Addr) : D → Prop
  | .lst ds => ∃ xs, H a = some (.lst xs) ∧ RepA K G xs ds
  | .dct ds => ∃ xs, H a = some (.dK xs) ∧ RepK K G xs ds
  | .ins C ds => ∃ dx fs, H a = some (.ins C dx fs) ∧ RepF K G fs ds
  | _ => False

/-- the entry of a def: the data's heap, the heap, the things (slot, address) that its caller lets it change -/
structure Bs where
  G : Hp
  H : Hp
  io : List (Nat × Addr)

structure EnvA (K : PySem.W.Frag) (B : Bs) (α : Nat → Addr) (ρ : Ro) (σ : L2.St) (G H : Hp) : Prop where
  len : σ.length = ρ.length
  sub : Same G H
  grow : Same B.G G
  keep : ∀ a o, B.H a = some o → B.G a = none → (∀ p ∈ B.io, p.2 ≠ a) → H a = some o ∧ G a = none
  dat : ∀ (i : Nat) d, ρ[i]? = some (.dat d) → ∃ v, σ[i]? = some (some v) ∧ Rep K G v d
  own : ∀ (i : Nat) d, ρ[i]? = some (.own d) → σ[i]? = some (some (.ref (α i))) ∧ G (α i) = none ∧ OwnOk K G H (α i) d ∧ (B.H (α i) = none ∨ ∃ p ∈ B.io, p.2 = α i)
  inj : ∀ (i j : Nat) d e, ρ[i]? = some (.own d) → ρ[j]? = some (.own e) → α i = α j → i = j
  io : ∀ p ∈ B.io, (∃ d, ρ[p.1]? = some (.own d)) ∧ α p.1 = p.2

/-- a step that makes new things alone -/
structure Al (G H G' H' : Hp) : Prop where
  g : Same G G'
  h : Same H H'
  s : Same G' H'
  n : ∀ a o, H a = some o → G a = none → G' a = none
theorem Al.refl {G H : Hp} (s : Same G H) : Al G H G H := ⟨Same.refl _, Same.refl _, s, fun _ _ _ n => n⟩
theorem Al.trans {G H G1 H1 G2 H2 : Hp} (x : Al G H G1 H1) (y : Al G1 H1 G2 H2) : Al G H G2 H2 :=
  ⟨x.g.trans y.g, x.h.trans y.h, y.s, fun a o e n => y.n a o (x.h a o e) (x.n a o e n)⟩
theorem same_upd {H : Hp} {p : Addr} {o : HO} (h : H p = none) : Same H (upd H p o) := fun a u e => by
  rw [upd_ne (ne_of_none e h)]; exact e
theorem same_upd2 {G H : Hp} {p : Addr} {o : HO} (s : Same G H) : Same (upd G p o) (upd H p o) := fun a u e => by
  by_cases q : a = p
  · subst q; rw [upd_same] at e ⊢; exact e
  · rw [upd_ne q] at e ⊢; exact s _ _ e
/-- a new datum -/
theorem Al.new {G H : Hp} {p : Addr} {o : HO} (s : Same G H) (h : H p = none) : Al G H (upd G p o) (upd H p o) :=
  ⟨same_upd (s.free h), same_upd h, same_upd2 s, fun a u e n => by rw [upd_ne (ne_of_none e h)]; exact n⟩
/-- a new thing that is no datum (garbage, an own thing) -/
theorem Al.new0 {G H : Hp} {p : Addr} {o : HO} (s : Same G H) (h : H p = none) : Al G H G (upd H p o) :=
  ⟨Same.refl _, same_upd h, s.trans (same_upd h), fun _ _ _ n => n⟩

theorem OwnOk.mono {K : PySem.W.Frag} {G H G' H' : Hp} {a : Addr} {d : D} (g : Same G G') (h : ∀ o, H a = some o → H' a = some o) (x : OwnOk K G H a d) : OwnOk K G' H' a d := by
  cases d with
  | lst ds => obtain ⟨xs, e, r⟩ := x; exact ⟨xs, h _ e, r.mono g⟩
  | dct ds => obtain ⟨xs, e, r⟩ := x; exact ⟨xs, h _ e, r.mono g⟩
  | ins C ds => obtain ⟨dx, fs, e, r⟩ := x; exact ⟨dx, fs, h _ e, r.mono g⟩
  | _ => exact x.elim
theorem OwnOk.at {K : PySem.W.Frag} {G H : Hp} {a : Addr} {d : D} (x : OwnOk K G H a d) : ∃ o, H a = some o := by
  cases d with
  | lst ds => obtain ⟨xs, e, r⟩ := x; exact ⟨_, e⟩
  | dct ds => obtain ⟨xs, e, r⟩ := x; exact ⟨_, e⟩
  | ins C ds => obtain ⟨dx, fs, e, r⟩ := x; exact ⟨_, e⟩
  | _ => exact x.elim
/-- an own thing laid among the data -/
theorem OwnOk.rep {K : PySem.W.Frag} {G H : Hp} {a : Addr} {d : D} {o : HO} (x : OwnOk K G H a d) (e : H a = some o) (n : G a = none) : Rep K (upd G a o) (.ref a) d := by
  have g : Same G (upd G a o) := same_upd n
  cases d with
  | lst ds => obtain ⟨xs, e', r⟩ := x; rw [e] at e'; cases e'; exact .lst upd_same (r.mono g)
  | dct ds => obtain ⟨xs, e', r⟩ := x; rw [e] at e'; cases e'; exact .dct upd_same (r.mono g)
  | ins C ds => obtain ⟨dx, fs, e', r⟩ := x; rw [e] at e'; cases e'; exact .ins upd_same (r.mono g)
  | _ => exact x.elim

section
variable {K : PySem.W.Frag} {B : Bs} {α : Nat → Addr} {ρ : Ro} {σ : L2.St} {G H G' H' : Hp}
theorem EnvA.al (E : EnvA K B α ρ σ G H) (x : Al G H G' H') : EnvA K B α ρ σ G' H' where
  len := E.len
  sub := x.s
  grow := E.grow.trans x.g
  keep := fun a o e n q => let ⟨h1, h2⟩ := E.keep a o e n q; ⟨x.h _ _ h1, x.n _ _ h1 h2⟩
  dat := fun i d e => let ⟨v, h1, h2⟩ := E.dat i d e; ⟨v, h1, h2.mono x.g⟩
  own := fun i d e => by
    obtain ⟨h1, h2, h3, h4⟩ := E.own i d e
    obtain ⟨o, ho⟩ := h3.at
    exact ⟨h1, x.n _ _ ho h2, h3.mono x.g (fun o e => x.h _ _ e), h4⟩
  inj := E.inj
  io := E.io
theorem EnvA.fresh (E : EnvA K B α ρ σ G H) {p : Addr} (h : H p = none) : B.H p = none := by
  cases e : B.H p with
  | none => rfl
  | some o =>
    exfalso
    cases q : B.G p with
    | some u => have := E.sub _ _ (E.grow _ _ q); rw [h] at this; cases this
    | none =>
      by_cases z : ∀ r ∈ B.io, r.2 ≠ p
      · have := (E.keep p o e q z).1; rw [h] at this; cases this
      · have ⟨r, hr, hp⟩ : ∃ r, r ∈ B.io ∧ r.2 = p := by
          apply Classical.byContradiction; intro y; exact z fun r hr hp => y ⟨r, hr, hp⟩
        obtain ⟨⟨d, hd⟩, hα⟩ := E.io r hr
        obtain ⟨_, _, h3, _⟩ := E.own _ _ hd
        obtain ⟨o, ho⟩ := h3.at
        rw [hα, hp, h] at ho; cases ho
/-- no own thing stands at a new place -/
theorem EnvA.ownNe (E : EnvA K B α ρ σ G H) {p : Addr} (h : H p = none) {i : Nat} {d : D} (e : ρ[i]? = some (.own d)) : α i ≠ p := fun z => by
  obtain ⟨_, _, h3, _⟩ := E.own _ _ e
  obtain ⟨o, ho⟩ := h3.at
  rw [z, h] at ho; cases ho
theorem set_get {ρ : Ro} {i j : Nat} {s t : Slot} (h : (ρ.set i s)[j]? = some t) : (j = i ∧ t = s) ∨ (j ≠ i ∧ ρ[j]? = some t) := by
  by_cases q : j = i
  · subst q
    rw [List.getElem?_set_self'] at h
    cases e : ρ[j]? with
    | none => rw [e] at h; cases h
    | some u => rw [e] at h; left; exact ⟨rfl, by simpa using h.symm⟩
  · rw [List.getElem?_set_ne (Ne.symm q)] at h; exact .inr ⟨q, h⟩
/-- a name is given a datum -/
theorem EnvA.set (E : EnvA K B α ρ σ G H) {i : Nat} {v : V} {d : D} (hi : ∀ p ∈ B.io, p.1 ≠ i) (r : Rep K G v d) : EnvA K B α (ρ.set i (.dat d)) (σ.set i (some v)) G H where
  len := by simpa using E.len
  sub := E.sub
  grow := E.grow
  keep := E.keep
  dat := fun j e h => by
    rcases set_get h with ⟨rfl, z⟩ | ⟨hj, h⟩
    · cases z
      have hl : j < (ρ.set j (.dat d)).length := (List.getElem?_eq_some_iff.mp h).1
      rw [List.length_set, ← E.len] at hl
      exact ⟨v, List.getElem?_set_self hl, r⟩
    · rw [List.getElem?_set_ne (Ne.symm hj)]; exact E.dat j e h
  own := fun j e h => by
    rcases set_get h with ⟨rfl, z⟩ | ⟨hj, h⟩
    · cases z
    · rw [List.getElem?_set_ne (Ne.symm hj)]; exact E.own j e h
  inj := fun j k e f h1 h2 => by
    rcases set_get h1 with ⟨rfl, z⟩ | ⟨hj, h1⟩
    · cases z
    rcases set_get h2 with ⟨rfl, z⟩ | ⟨hk, h2⟩
    · cases z
    exact E.inj j k e f h1 h2
  io := fun p hp => by
    obtain ⟨⟨d', h⟩, q⟩ := E.io p hp
    exact ⟨⟨d', by rw [List.getElem?_set_ne (Ne.symm (hi p hp))]; exact h⟩, q⟩
/-- a name is given a new own thing -/
theorem EnvA.setOwn (E : EnvA K B α ρ σ G H) {i : Nat} {a : Addr} {d : D} (hi : ∀ p ∈ B.io, p.1 ≠ i) (n : G a = none) (o : OwnOk K G H a d) (b : B.H a = none) (ne : ∀ (j : Nat) e, ρ[j]? = some (.own e) → α j ≠ a) :
    EnvA K B (fun j => if j = i then a else α j) (ρ.set i (.own d)) (σ.set i (some (.ref a))) G H where
  len := by simpa using E.len
  sub := E.sub
  grow := E.grow
  keep := E.keep
  dat := fun j e h => by
    rcases set_get h with ⟨rfl, z⟩ | ⟨hj, h⟩
    · cases z
    · rw [List.getElem?_set_ne (Ne.symm hj)]; exact E.dat j e h
  own := fun j e h => by
    rcases set_get h with ⟨rfl, z⟩ | ⟨hj, h⟩
    · cases z
      have hl : j < (ρ.set j (.own d)).length := (List.getElem?_eq_some_iff.mp h).1
      rw [List.length_set, ← E.len] at hl
      simp only [if_pos rfl]
      exact ⟨List.getElem?_set_self hl, n, o, .inl b⟩
    · rw [List.getElem?_set_ne (Ne.symm hj)]
      simp only [if_neg hj]
      exact E.own j e h
  inj := fun j k e f h1 h2 z => by
    rcases set_get h1 with ⟨rfl, z1⟩ | ⟨hj, h1'⟩
    · rcases set_get h2 with ⟨rfl, z2⟩ | ⟨hk, h2⟩
      · rfl
      · simp only [if_pos rfl, if_neg hk] at z; exact absurd z.symm (ne k f h2)
    · rcases set_get h2 with ⟨rfl, z2⟩ | ⟨hk, h2⟩
      · simp only [if_pos rfl, if_neg hj] at z; exact absurd z (ne j e h1')
      · simp only [if_neg hj, if_neg hk] at z; exact E.inj j k e f h1' h2 z
  io := fun p hp => by
    obtain ⟨⟨d', h⟩, q⟩ := E.io p hp
    refine ⟨⟨d', by rw [List.getElem?_set_ne (Ne.symm (hi p hp))]; exact h⟩, ?_⟩
    simp only [if_neg (hi p hp)]
    exact q
/-- the own thing of slot i is changed -/
theorem EnvA.write (E : EnvA K B α ρ σ G H) {i : Nat} {d e : D} {o : HO} (h : ρ[i]? = some (.own d)) (w : OwnOk K G (upd H (α i) o) (α i) e) : EnvA K B α (ρ.set i (.own e)) σ G (upd H (α i) o) where
  len := by simpa using E.len
  sub := fun a u q => by
    have z := E.sub a u q
    have ne : a ≠ α i := fun y => by rw [y, (E.own i d h).2.1] at q; cases q
    rw [upd_ne ne]; exact z
  grow := E.grow
  keep := fun a u q n k => by
    obtain ⟨h1, h2⟩ := E.keep a u q n k
    have ne : a ≠ α i := fun y => by
      rcases (E.own i d h).2.2.2 with z | ⟨p, hp, z⟩
      · rw [y, z] at q; cases q
      · exact k p hp (z.trans y.symm)
    rw [upd_ne ne]; exact ⟨h1, h2⟩
  dat := fun j f q => by
    rcases set_get q with ⟨rfl, z⟩ | ⟨hj, q⟩
    · cases z
    · exact E.dat j f q
  own := fun j f q => by
    rcases set_get q with ⟨rfl, z⟩ | ⟨hj, q⟩
    · cases z
      obtain ⟨h1, h2, h3, h4⟩ := E.own _ _ h
      exact ⟨h1, h2, w, h4⟩
    · obtain ⟨h1, h2, h3, h4⟩ := E.own _ _ q
      have ne : α j ≠ α i := fun z => hj (E.inj j i f d q h z)
      exact ⟨h1, h2, h3.mono (Same.refl _) (fun u y => by rw [upd_ne ne]; exact y), h4⟩
  inj := fun j k e' f h1 h2 z => by
    have g : ∀ (m : Nat) (y : D), (ρ.set i (.own e))[m]? = some (.own y) → ∃ y', ρ[m]? = some (.own y') := fun m y q => by
      rcases set_get q with ⟨rfl, _⟩ | ⟨_, q⟩
      · exact ⟨_, h⟩
      · exact ⟨_, q⟩
    obtain ⟨y1, q1⟩ := g j e' h1
    obtain ⟨y2, q2⟩ := g k f h2
    exact E.inj j k y1 y2 q1 q2 z
  io := fun p hp => by
    obtain ⟨⟨d', q⟩, z⟩ := E.io p hp
    by_cases y : p.1 = i
    · refine ⟨⟨e, ?_⟩, z⟩
      have hl : i < ρ.length := (List.getElem?_eq_some_iff.mp h).1
      rw [y]; exact List.getElem?_set_self hl
    · exact ⟨⟨d', by rw [List.getElem?_set_ne (Ne.symm y)]; exact q⟩, z⟩
/-- an own thing becomes a datum -/
theorem EnvA.freeze (E : EnvA K B α ρ σ G H) {i : Nat} {d : D} (h : ρ[i]? = some (.own d)) (hi : ∀ p ∈ B.io, p.1 ≠ i) : ∃ G', Same G G' ∧ EnvA K B α (ρ.set i (.dat d)) σ G' H ∧ Rep K G' (.ref (α i)) d := by
  obtain ⟨h1, h2, h3, h4⟩ := E.own i d h
  obtain ⟨o, ho⟩ := h3.at
  have g : Same G (upd G (α i) o) := same_upd h2
  have r := h3.rep ho h2
  have nio : B.H (α i) = none := by
    rcases h4 with z | ⟨p, hp, z⟩
    · exact z
    · obtain ⟨⟨d', q⟩, y⟩ := E.io p hp
      exact absurd (E.inj _ _ _ _ q h (y.trans z)) (hi p hp)
  have s : Same (upd G (α i) o) H := fun a u q => by
    by_cases y : a = α i
    · subst y; rw [upd_same] at q; cases q; exact ho
    · rw [upd_ne y] at q; exact E.sub _ _ q
  refine ⟨upd G (α i) o, g, ⟨by simpa using E.len, s, E.grow.trans g, fun a u q n k => ?_, fun j e q => ?_, fun j e q => ?_, fun j k e f q1 q2 => ?_, fun p hp => ?_⟩, r⟩
  · obtain ⟨z1, z2⟩ := E.keep a u q n k
    refine ⟨z1, ?_⟩
    rw [upd_ne (fun y => by rw [y, nio] at q; cases q)]; exact z2
  · rcases set_get q with ⟨rfl, z⟩ | ⟨hj, q⟩
    · cases z; exact ⟨_, h1, r⟩
    · obtain ⟨v, z1, z2⟩ := E.dat j e q
      exact ⟨v, z1, z2.mono g⟩
  · rcases set_get q with ⟨rfl, z⟩ | ⟨hj, q⟩
    · cases z
    · obtain ⟨z1, z2, z3, z4⟩ := E.own j e q
      have ne : α j ≠ α i := fun z => hj (E.inj j i e d q h z)
      exact ⟨z1, by rw [upd_ne ne]; exact z2, z3.mono g fun _ y => y, z4⟩
  · rcases set_get q1 with ⟨rfl, z⟩ | ⟨hj, q1⟩
    · cases z
    rcases set_get q2 with ⟨rfl, z⟩ | ⟨hk, q2⟩
    · cases z
    exact E.inj j k e f q1 q2
  · obtain ⟨⟨d', q⟩, z⟩ := E.io p hp
    exact ⟨⟨d', by rw [List.getElem?_set_ne (Ne.symm (hi p hp))]; exact q⟩, z⟩
/-- a slot may be forgotten -/
theorem EnvA.forget (E : EnvA K B α ρ σ G H) {i : Nat} (hi : ∀ p ∈ B.io, p.1 ≠ i) {x : Option V} : EnvA K B α (ρ.set i .un) (σ.set i x) G H where
  len := by simpa using E.len
  sub := E.sub
  grow := E.grow
  keep := E.keep
  dat := fun j e h => by
    rcases set_get h with ⟨rfl, z⟩ | ⟨hj, h⟩
    · cases z
    · rw [List.getElem?_set_ne (Ne.symm hj)]; exact E.dat j e h
  own := fun j e h => by
    rcases set_get h with ⟨rfl, z⟩ | ⟨hj, h⟩
    · cases z
    · rw [List.getElem?_set_ne (Ne.symm hj)]; exact E.own j e h
  inj := fun j k e f h1 h2 => by
    rcases set_get h1 with ⟨rfl, z⟩ | ⟨hj, h1⟩
    · cases z
    rcases set_get h2 with ⟨rfl, z⟩ | ⟨hk, h2⟩
    · cases z
    exact E.inj j k e f h1 h2
  io := fun p hp => by
    obtain ⟨⟨d', h⟩, q⟩ := E.io p hp
    exact ⟨⟨d', by rw [List.getElem?_set_ne (Ne.symm (hi p hp))]; exact h⟩, q⟩
end
end DL

set_option maxRecDepth 100000
set_option maxHeartbeats 4000000
namespace DL
open PySem PySem.Spec PyProof.Rows L2

/-! ### consequence; the strongest reading -/
theorem PE.imp {X : Cx} {e : Expr} {t t' : TE} (h : PE X e t) (i : ∀ σ H Q, t' σ H Q → t σ H Q) : PE X e t' := ⟨fun pins s σ H Q I q => h.run pins s σ H Q I (i σ H Q q)⟩
theorem PT.imp {X : Cx} {e : Expr} {t t' : TT} (h : PT X e t) (i : ∀ σ H Q, t' σ H Q → t σ H Q) : PT X e t' := ⟨fun pins s σ H Q I q => h.run pins s σ H Q I (i σ H Q q)⟩
theorem PW.imp {X : Cx} {e : Expr} {t t' : TT} (h : PW X e t) (i : ∀ σ H Q, t' σ H Q → t σ H Q) : PW X e t' := ⟨fun wh pins s σ H Q I q => h.run wh pins s σ H Q I (i σ H Q q)⟩
theorem PA.imp {X : Cx} {e : List Expr} {t t' : TA} (h : PA X e t) (i : ∀ σ H Q, t' σ H Q → t σ H Q) : PA X e t' := ⟨fun pos pins s σ H Q I q => h.run pos pins s σ H Q I (i σ H Q q)⟩
theorem PO.imp {X : Cx} {e : Option Expr} {t t' : TO} (h : PO X e t) (i : ∀ σ H Q, t' σ H Q → t σ H Q) : PO X e t' := ⟨fun pins s σ H Q I q => h.run pins s σ H Q I (i σ H Q q)⟩
theorem PI.imp {X : Cx} {tg e : Expr} {t t' : TI} (h : PI X tg e t) (i : ∀ σ H Q, t' σ H Q → t σ H Q) : PI X tg e t' := ⟨fun pins s σ H Q I q => h.run pins s σ H Q I (i σ H Q q)⟩
theorem PS.imp {X : Cx} {e : Stmt} {t t' : TS} (h : PS X e t) (i : ∀ D σ H, t' D σ H → t D σ H) : PS X e t' := ⟨fun pins s σ H D I q => h.run pins s σ H D I (i D σ H q)⟩
theorem PSs.imp {X : Cx} {e : List Stmt} {t t' : TS} (h : PSs X e t) (i : ∀ D σ H, t' D σ H → t D σ H) : PSs X e t' := ⟨fun pins s σ H D I q => h.run pins s σ H D I (i D σ H q)⟩
def aE (X : Cx) (e : Expr) : TE := fun σ H Q => ∃ t, PE X e t ∧ t σ H Q
def aT (X : Cx) (e : Expr) : TT := fun σ H Q => ∃ t, PT X e t ∧ t σ H Q
def aW (X : Cx) (e : Expr) : TT := fun σ H Q => ∃ t, PW X e t ∧ t σ H Q
def aA (X : Cx) (e : List Expr) : TA := fun σ H Q => ∃ t, PA X e t ∧ t σ H Q
def aS (X : Cx) (e : Stmt) : TS := fun D σ H => ∃ t, PS X e t ∧ t D σ H
def aSs (X : Cx) (e : List Stmt) : TS := fun D σ H => ∃ t, PSs X e t ∧ t D σ H
theorem pe_a {X : Cx} {e : Expr} : PE X e (aE X e) := ⟨fun pins s σ H Q I ⟨_, h, q⟩ => h.run pins s σ H Q I q⟩
theorem pt_a {X : Cx} {e : Expr} : PT X e (aT X e) := ⟨fun pins s σ H Q I ⟨_, h, q⟩ => h.run pins s σ H Q I q⟩
theorem pw_a {X : Cx} {e : Expr} : PW X e (aW X e) := ⟨fun wh pins s σ H Q I ⟨_, h, q⟩ => h.run wh pins s σ H Q I q⟩
theorem pa_a {X : Cx} {e : List Expr} : PA X e (aA X e) := ⟨fun pos pins s σ H Q I ⟨_, h, q⟩ => h.run pos pins s σ H Q I q⟩
theorem ps_a {X : Cx} {e : Stmt} : PS X e (aS X e) := ⟨fun pins s σ H D I ⟨_, h, q⟩ => h.run pins s σ H D I q⟩
theorem pss_a {X : Cx} {e : List Stmt} : PSs X e (aSs X e) := ⟨fun pins s σ H D I ⟨_, h, q⟩ => h.run pins s σ H D I q⟩

/-! ### the judgements -/
def tE (K : PySem.W.Frag) (B : Bs) (ρ : Ro) (d : D) (ρ' : Ro) : TE := fun σ H Q => ∃ α G, EnvA K B α ρ σ G H ∧ ∀ v G' H', Same G G' → EnvA K B α ρ' σ G' H' → Rep K G' v d → Q v H'
def tO (K : PySem.W.Frag) (B : Bs) (ρ : Ro) (d : D) (ρ' : Ro) : TE := fun σ H Q => ∃ α G, EnvA K B α ρ σ G H ∧ ∀ a G' H', Same G G' → EnvA K B α ρ' σ G' H' → G' a = none → OwnOk K G' H' a d → B.H a = none →
  (∀ (j : Nat) e, ρ'[j]? = some (.own e) → α j ≠ a) → Q (.ref a) H'
def tT (K : PySem.W.Frag) (B : Bs) (ρ : Ro) (b : Bool) (ρ' : Ro) : TT := fun σ H Q => ∃ α G, EnvA K B α ρ σ G H ∧ ∀ G' H', Same G G' → EnvA K B α ρ' σ G' H' → Q b H'
def tAs (K : PySem.W.Frag) (B : Bs) (ρ : Ro) (ds : List D) (ρ' : Ro) : TA := fun σ H Q => ∃ α G, EnvA K B α ρ σ G H ∧ ∀ vs G' H', Same G G' → EnvA K B α ρ' σ G' H' → RepA K G' vs ds → Q vs H'
def tP (K : PySem.W.Frag) (B : Bs) (ρ : Ro) (o : Option Int) (ρ' : Ro) : TO := fun σ H Q => ∃ α G, EnvA K B α ρ σ G H ∧ ∀ G' H', Same G G' → EnvA K B α ρ' σ G' H' → Q o H'
/-- an expression comes to the datum d -/
abbrev DE (X : Cx) (B : Bs) (ρ : Ro) (e : Expr) (d : D) (ρ' : Ro) : Prop := PE X e (tE X.K B ρ d ρ')
/-- an expression comes to a new own thing -/
abbrev DO (X : Cx) (B : Bs) (ρ : Ro) (e : Expr) (d : D) (ρ' : Ro) : Prop := PE X e (tO X.K B ρ d ρ')
abbrev DT (X : Cx) (B : Bs) (ρ : Ro) (e : Expr) (b : Bool) (ρ' : Ro) : Prop := PT X e (tT X.K B ρ b ρ')
abbrev DW (X : Cx) (B : Bs) (ρ : Ro) (e : Expr) (b : Bool) (ρ' : Ro) : Prop := PW X e (tT X.K B ρ b ρ')
abbrev DA (X : Cx) (B : Bs) (ρ : Ro) (es : List Expr) (ds : List D) (ρ' : Ro) : Prop := PA X es (tAs X.K B ρ ds ρ')
abbrev DPa (X : Cx) (B : Bs) (ρ : Ro) (e : Option Expr) (o : Option Int) (ρ' : Ro) : Prop := PO X e (tP X.K B ρ o ρ')

structure Post where
  nx : Ro → Prop := fun _ => False
  rt : D → Ro → Prop := fun _ _ => False
  ro : D → Ro → Prop := fun _ _ => False
  bk : Ro → Prop := fun _ => False
  ct : Ro → Prop := fun _ => False
structure Meets (K : PySem.W.Frag) (B : Bs) (P : Post) (D : Ends) : Prop where
  nx : ∀ ρ α σ G H, P.nx ρ → EnvA K B α ρ σ G H → D.nx σ H
  rt : ∀ d ρ α σ G H v, P.rt d ρ → EnvA K B α ρ σ G H → Rep K G v d → D.rt v H
  ro : ∀ d ρ α σ G H a, P.ro d ρ → EnvA K B α ρ σ G H → G a = none → OwnOk K G H a d → B.H a = none → (∀ (j : Nat) e, ρ[j]? = some (.own e) → α j ≠ a) → D.rt (.ref a) H
  bk : ∀ ρ α σ G H, P.bk ρ → EnvA K B α ρ σ G H → D.bk σ H
  ct : ∀ ρ α σ G H, P.ct ρ → EnvA K B α ρ σ G H → D.ct σ H
def tS (K : PySem.W.Frag) (B : Bs) (ρ : Ro) (P : Post) : TS := fun D σ H => (∃ α G, EnvA K B α ρ σ G H) ∧ Meets K B P D
abbrev DS (X : Cx) (B : Bs) (ρ : Ro) (st : Stmt) (P : Post) : Prop := PS X st (tS X.K B ρ P)
abbrev DSs (X : Cx) (B : Bs) (ρ : Ro) (st : List Stmt) (P : Post) : Prop := PSs X st (tS X.K B ρ P)

section
variable {X : Cx} {B : Bs} {ρ ρ1 ρ2 ρ3 ρ' : Ro} {e a b c : Expr} {d d1 d2 d3 : D} {pos : Pos}

/-! ### own things and data -/
/-- an own thing that no slot holds goes among the data -/
theorem EnvA.take {K : PySem.W.Frag} {α : Nat → Addr} {σ : L2.St} {G H : Hp} {a : Addr} (E : EnvA K B α ρ σ G H) (n : G a = none) (w : OwnOk K G H a d) (b : B.H a = none) (ne : ∀ (j : Nat) e, ρ[j]? = some (.own e) → α j ≠ a) :
    ∃ G', Same G G' ∧ EnvA K B α ρ σ G' H ∧ Rep K G' (.ref a) d := by
  obtain ⟨o, ho⟩ := w.at
  have g : Same G (upd G a o) := same_upd n
  refine ⟨upd G a o, g, ⟨E.len, fun x u q => ?_, E.grow.trans g, fun x u q n k => ?_, fun j e q => ?_, fun j e q => ?_, E.inj, E.io⟩, w.rep ho n⟩
  · by_cases y : x = a
    · subst y; rw [upd_same] at q; cases q; exact ho
    · rw [upd_ne y] at q; exact E.sub _ _ q
  · obtain ⟨z1, z2⟩ := E.keep x u q n k
    refine ⟨z1, ?_⟩
    rw [upd_ne (fun y => by rw [y, b] at q; cases q)]; exact z2
  · obtain ⟨v, z1, z2⟩ := E.dat j e q
    exact ⟨v, z1, z2.mono g⟩
  · obtain ⟨z1, z2, z3, z4⟩ := E.own j e q
    exact ⟨z1, by rw [upd_ne (ne j e q)]; exact z2, z3.mono g fun _ y => y, z4⟩
theorem DO.de (h : DO X B ρ e d ρ') : DE X B ρ e d ρ' := by
  refine PE.imp h fun σ H Q ⟨α, G, E, k⟩ => ⟨α, G, E, fun a G1 H1 g E1 n w b ne => ?_⟩
  obtain ⟨G2, g2, E2, r⟩ := E1.take n w b ne
  exact k _ G2 H1 (g.trans g2) E2 r

/-! ### names, constants -/
theorem de_var (i : Nat) {x : Str} (hρ : ρ[i]? = some (.dat d)) (hN : X.N[i]? = some x := by rfl) (hv : Vis X.env.scope x := by first | exact Or.inl rfl | exact Or.inr (Or.inl rfl) | exact Or.inr (Or.inr rfl)) (hd : (x == ("__debug__" : Str)) = false := by decide)
    (hcd : (x == ("__classdict__" : Str)) = false := by decide) : DE X B ρ (.Name x pos) d ρ :=
  PE.imp (pe_var hN hv hd hcd) fun σ H Q ⟨α, G, E, k⟩ => let ⟨v, h1, h2⟩ := E.dat i d hρ; ⟨v, h1, k v G H (Same.refl _) E h2⟩
/-- an own name is given away: from here on it is a datum -/
theorem de_varF (i : Nat) {x : Str} (hρ : ρ[i]? = some (.own d)) (hi : ∀ p ∈ B.io, p.1 ≠ i) (hN : X.N[i]? = some x := by rfl) (hv : Vis X.env.scope x := by first | exact Or.inl rfl | exact Or.inr (Or.inl rfl) | exact Or.inr (Or.inr rfl)) (hd : (x == ("__debug__" : Str)) = false := by decide)
    (hcd : (x == ("__classdict__" : Str)) = false := by decide) : DE X B ρ (.Name x pos) d (ρ.set i (.dat d)) :=
  PE.imp (pe_var hN hv hd hcd) fun σ H Q ⟨α, G, E, k⟩ => by
    obtain ⟨G', g, E', r⟩ := E.freeze hρ hi
    exact ⟨_, (E.own i d hρ).1, k _ G' H g E' r⟩
theorem de_int {i j} : DE X B ρ (.Constant (.int i) j pos) (.int i) ρ := PE.imp pe_int fun σ H Q ⟨α, G, E, k⟩ => k _ G H (Same.refl _) E (.int i)
theorem de_bl {b j} : DE X B ρ (.Constant (.bool b) j pos) (.bl b) ρ := PE.imp pe_bl fun σ H Q ⟨α, G, E, k⟩ => k _ G H (Same.refl _) E (.bl b)
theorem de_non {j} : DE X B ρ (.Constant .none j pos) .non ρ := PE.imp pe_non fun σ H Q ⟨α, G, E, k⟩ => k _ G H (Same.refl _) E .non
theorem de_str {x j} : DE X B ρ (.Constant (.str x) j pos) (.str x) ρ := PE.imp pe_str fun σ H Q ⟨α, G, E, k⟩ => k _ G H (Same.refl _) E (.str x)
/-- a module's name -/
theorem de_glob {x : Str} {v : V} {u : Value} (hg : Gl X x) (hm : X.mg x = some u) (r : RelV v u) (hr : ∀ G, Rep X.K G v d) (hd : (x == ("__debug__" : Str)) = false := by decide) : DE X B ρ (.Name x pos) d ρ :=
  PE.imp (pe_glob hg hm r hd) fun σ H Q ⟨α, G, E, k⟩ => k _ G H (Same.refl _) E (hr G)
theorem de_bltn {x : Str} {v : V} {u : Value} (hg : Gl X x) (hm : X.mg x = none) (hv : bootBuiltins x = some u) (r : RelV v u) (hn : x ≠ "__name__" := by decide) (hd : (x == ("__debug__" : Str)) = false := by decide) : DE X B ρ (.Name x pos) (.cst v) ρ :=
  PE.imp (pe_bltn hg hm hv r hn hd) fun σ H Q ⟨α, G, E, k⟩ => k _ G H (Same.refl _) E (.cst v)

/-! ### operators by values -/
def RD (K : PySem.W.Frag) (r : R2) (d1 d2 d : D) : Prop := ∀ x y G H, Same G H → Rep K G x d1 → Rep K G y d2 → ∀ Q : VK, (∀ v G' H', Al G H G' H' → Rep K G' v d → Q v H') → r x y H Q
/-- .. that hand back a new own thing -/
def RO (K : PySem.W.Frag) (r : R2) (d1 d2 d : D) : Prop := ∀ x y G H, Same G H → Rep K G x d1 → Rep K G y d2 → ∀ Q : VK, (∀ b G' H', Al G H G' H' → H b = none → G' b = none → OwnOk K G' H' b d → Q (.ref b) H') → r x y H Q
theorem de_bin {r : R2} (hp : PE X e (tOp r (tE X.K B ρ d1 ρ1) (tE X.K B ρ1 d2 ρ2))) (hr : RD X.K r d1 d2 d) : DE X B ρ e d ρ2 :=
  PE.imp hp fun σ H Q ⟨α, G, E, k⟩ => ⟨α, G, E, fun v G1 H1 g1 E1 r1 => ⟨α, G1, E1, fun u G2 H2 g2 E2 r2 => hr v u G2 H2 E2.sub (r1.mono g2) r2 Q fun z G3 H3 x r3 =>
    k z G3 H3 ((g1.trans g2).trans x.g) (E2.al x) r3⟩⟩
theorem do_bin {r : R2} (hp : PE X e (tOp r (tE X.K B ρ d1 ρ1) (tE X.K B ρ1 d2 ρ2))) (hr : RO X.K r d1 d2 d) : DO X B ρ e d ρ2 :=
  PE.imp hp fun σ H Q ⟨α, G, E, k⟩ => ⟨α, G, E, fun v G1 H1 g1 E1 r1 => ⟨α, G1, E1, fun u G2 H2 g2 E2 r2 => hr v u G2 H2 E2.sub (r1.mono g2) r2 Q fun b G3 H3 x hb nb w =>
    k b G3 H3 ((g1.trans g2).trans x.g) (E2.al x) nb w (E2.fresh hb) fun j e he => E2.ownNe hb he⟩⟩
theorem de_op {op : Operator} {r : R2} (ho : OpR X (binaryOp op) r) (ha : DE X B ρ a d1 ρ1) (hb : DE X B ρ1 b d2 ρ2) (hr : RD X.K r d1 d2 d) : DE X B ρ (.BinOp a op b pos) d ρ2 := de_bin (pe_op ho ha hb) hr
theorem do_op {op : Operator} {r : R2} (ho : OpR X (binaryOp op) r) (ha : DE X B ρ a d1 ρ1) (hb : DE X B ρ1 b d2 ρ2) (hr : RO X.K r d1 d2 d) : DO X B ρ (.BinOp a op b pos) d ρ2 := do_bin (pe_op ho ha hb) hr
theorem de_cmp {op : CmpOp} {r : R2} (ho : OpR X (compareOp op) r) (ha : DE X B ρ a d1 ρ1) (hb : DE X B ρ1 b d2 ρ2) (hm : behindInMarks op b = false) (hr : RD X.K r d1 d2 d) : DE X B ρ (.Compare a [op] [b] pos) d ρ2 := de_bin (pe_cmpR ho ha hb hm) hr
theorem dt_bin {r : R2} (hp : PT X e (tTest (tOp r (tE X.K B ρ d1 ρ1) (tE X.K B ρ1 d2 ρ2)))) {k : Bool} (hr : RD X.K r d1 d2 (.bl k)) : DT X B ρ e k ρ2 :=
  PT.imp hp fun σ H Q ⟨α, G, E, q⟩ => ⟨α, G, E, fun v G1 H1 g1 E1 r1 => ⟨α, G1, E1, fun u G2 H2 g2 E2 r2 => hr v u G2 H2 E2.sub (r1.mono g2) r2 _ fun z G3 H3 x r3 =>
    ⟨k, r3.bl_inv, q G3 H3 ((g1.trans g2).trans x.g) (E2.al x)⟩⟩⟩
theorem dt_cmp {op : CmpOp} {r : R2} {k : Bool} (ho : OpR X (compareOp op) r) (ha : DE X B ρ a d1 ρ1) (hb : DE X B ρ1 b d2 ρ2) (hm : behindInMarks op b = false) (hr : RD X.K r d1 d2 (.bl k)) : DT X B ρ (.Compare a [op] [b] pos) k ρ2 := dt_bin (pt_cmpR ho ha hb hm) hr
theorem de_ix {r : R2} (hi : IxR X r) (ha : DE X B ρ a d1 ρ1) (hb : DE X B ρ1 b d2 ρ2) (hs : PlainIx b) (hr : RD X.K r d1 d2 d) : DE X B ρ (.Subscript a b pos) d ρ2 := de_bin (pe_ix hi ha hb hs) hr
/-- a chain of two comparisons of whole numbers -/
theorem dt_chain {op op' : CmpOp} {r r' : R2} {k k' : Bool} (ho : OpR X (compareOp op) r) (ho' : OpR X (compareOp op') r') (ha : DE X B ρ a d1 ρ1) (hb : DE X B ρ1 b d2 ρ2) (hc : DE X B ρ2 c d3 ρ2) (hr : RD X.K r d1 d2 (.bl k)) (hr' : RD X.K r' d2 d3 (.bl k')) (hm : lastMarks [op, op'] [b, c] = false := by with_unfolding_all rfl) :
    DT X B ρ (.Compare a [op, op'] [b, c] pos) (k && k') ρ2 :=
  PT.imp (pt_chain ho ho' ha hb hc hm) fun σ H Q ⟨α, G, E, q⟩ => ⟨α, G, E, fun v G1 H1 g1 E1 r1 => ⟨α, G1, E1, fun u G2 H2 g2 E2 r2 => hr v u G2 H2 E2.sub (r1.mono g2) r2 _ fun z G3 H3 x r3 =>
    ⟨k, r3.bl_inv, by
      cases k with
      | true =>
        rw [if_pos rfl]
        exact ⟨α, G3, E2.al x, fun w' G4 H4 g4 E4 r4 => hr' u w' G4 H4 E4.sub (r2.mono (x.g.trans g4)) r4 _ fun z' G5 H5 x5 r5 => ⟨k', r5.bl_inv, q G5 H5 ((g1.trans g2).trans (x.g.trans (g4.trans x5.g))) (E4.al x5)⟩⟩
      | false =>
        rw [if_neg (by decide)]
        exact ⟨false, rfl, q G3 H3 ((g1.trans g2).trans x.g) (E2.al x)⟩⟩⟩⟩

/-! ### tests -/
theorem dt_val {k : Bool} (h : DE X B ρ e (.bl k) ρ') (he : ∀ whole, isTrue e X.env whole = (do let v ← whole; standAt e.pos; holding [v] (truthy v)) := by intro _; rfl) : DT X B ρ e k ρ' :=
  PT.imp (pt_val h he) fun σ H Q ⟨α, G, E, q⟩ => ⟨α, G, E, fun v G1 H1 g1 E1 r1 => ⟨k, r1.bl_inv, q G1 H1 g1 E1⟩⟩
theorem dt_not {k : Bool} (h : DT X B ρ e k ρ') : DT X B ρ (.UnaryOp .Not e pos) (!k) ρ' := PT.imp (pt_not h) fun σ H Q ⟨α, G, E, q⟩ => ⟨α, G, E, q⟩
theorem dw_and1 {k : Bool} (h : DT X B ρ a k ρ') : DW X B ρ (.BoolOp .And [a] pos) k ρ' := pw_and1 h
theorem dw_or1 {k : Bool} (h : DT X B ρ a k ρ') : DW X B ρ (.BoolOp .Or [a] pos) k ρ' := pw_or1 h
theorem dw_and {rest : List Expr} {k k' : Bool} (h : DT X B ρ a k ρ1) (h' : k = true → DW X B ρ1 (.BoolOp .And (b :: rest) pos) k' ρ1) : DW X B ρ (.BoolOp .And (a :: b :: rest) pos) (k && k') ρ1 :=
  PW.imp (pw_and h pw_a) fun σ H Q ⟨α, G, E, q⟩ => ⟨α, G, E, fun G1 H1 g1 E1 => by
    cases k with
    | true => rw [if_pos rfl]; exact ⟨_, h' rfl, α, G1, E1, fun G2 H2 g2 E2 => q G2 H2 (g1.trans g2) E2⟩
    | false => rw [if_neg (by decide)]; exact q G1 H1 g1 E1⟩
theorem dw_or {rest : List Expr} {k k' : Bool} (h : DT X B ρ a k ρ1) (h' : k = false → DW X B ρ1 (.BoolOp .Or (b :: rest) pos) k' ρ1) : DW X B ρ (.BoolOp .Or (a :: b :: rest) pos) (k || k') ρ1 :=
  PW.imp (pw_or h pw_a) fun σ H Q ⟨α, G, E, q⟩ => ⟨α, G, E, fun G1 H1 g1 E1 => by
    cases k with
    | false => rw [if_neg (by decide)]; exact ⟨_, h' rfl, α, G1, E1, fun G2 H2 g2 E2 => q G2 H2 (g1.trans g2) E2⟩
    | true => rw [if_pos rfl]; exact q G1 H1 g1 E1⟩
theorem DW.dt {k : Bool} (h : DW X B ρ e k ρ') : DT X B ρ e k ρ' := h.pt
theorem dt_is {k k' : Bool} (h : DT X B ρ e k ρ') (z : k = k') : DT X B ρ e k' ρ' := z ▸ h
theorem de_is (h : DE X B ρ e d ρ') (z : d = d1) : DE X B ρ e d1 ρ' := z ▸ h
/-- a and b, a or b as values -/
theorem de_and {k : Bool} {rest : List Expr} (h : DE X B ρ a (.bl k) ρ1) (h' : k = true → DE X B ρ1 (.BoolOp .And (b :: rest) pos) d ρ1) (hf : k = false → d = .bl false) : DE X B ρ (.BoolOp .And (a :: b :: rest) pos) d ρ1 :=
  PE.imp (pe_and h pe_a) fun σ H Q ⟨α, G, E, q⟩ => ⟨α, G, E, fun v G1 H1 g1 E1 r1 => ⟨k, r1.bl_inv, by
    cases k with
    | true => rw [if_pos rfl]; exact ⟨_, h' rfl, α, G1, E1, fun v2 G2 H2 g2 E2 r2 => q v2 G2 H2 (g1.trans g2) E2 r2⟩
    | false => rw [if_neg (by decide)]; exact q _ G1 H1 g1 E1 (by rw [hf rfl]; exact .bl false)⟩⟩
theorem de_or {k : Bool} {rest : List Expr} (h : DE X B ρ a (.bl k) ρ1) (h' : k = false → DE X B ρ1 (.BoolOp .Or (b :: rest) pos) d ρ1) (hf : k = true → d = .bl true) : DE X B ρ (.BoolOp .Or (a :: b :: rest) pos) d ρ1 :=
  PE.imp (pe_or h pe_a) fun σ H Q ⟨α, G, E, q⟩ => ⟨α, G, E, fun v G1 H1 g1 E1 r1 => ⟨k, r1.bl_inv, by
    cases k with
    | false => rw [if_neg (by decide)]; exact ⟨_, h' rfl, α, G1, E1, fun v2 G2 H2 g2 E2 r2 => q v2 G2 H2 (g1.trans g2) E2 r2⟩
    | true => rw [if_pos rfl]; exact q _ G1 H1 g1 E1 (by rw [hf rfl]; exact .bl true)⟩⟩
theorem de_and1 (h : DE X B ρ a d ρ') : DE X B ρ (.BoolOp .And [a] pos) d ρ' := pe_one h
theorem de_or1 (h : DE X B ρ a d ρ') : DE X B ρ (.BoolOp .Or [a] pos) d ρ' := pe_one h
theorem de_not {k : Bool} (h : DE X B ρ a (.bl k) ρ') : DE X B ρ (.UnaryOp .Not a pos) (.bl (!k)) ρ' :=
  PE.imp (pe_not h) fun σ H Q ⟨α, G, E, q⟩ => ⟨α, G, E, fun v G1 H1 g1 E1 r1 => ⟨k, r1.bl_inv, q _ G1 H1 g1 E1 (.bl _)⟩⟩
theorem de_if {k : Bool} (h : DT X B ρ c k ρ1) (h1 : k = true → DE X B ρ1 a d ρ2) (h2 : k = false → DE X B ρ1 b d ρ2) : DE X B ρ (.IfExp c a b pos) d ρ2 :=
  PE.imp (pe_ifExp h pe_a pe_a) fun σ H Q ⟨α, G, E, q⟩ => ⟨α, G, E, fun G1 H1 g1 E1 => by
    cases k with
    | true => rw [if_pos rfl]; exact ⟨_, h1 rfl, α, G1, E1, fun v2 G2 H2 g2 E2 r2 => q v2 G2 H2 (g1.trans g2) E2 r2⟩
    | false => rw [if_neg (by decide)]; exact ⟨_, h2 rfl, α, G1, E1, fun v2 G2 H2 g2 E2 r2 => q v2 G2 H2 (g1.trans g2) E2 r2⟩⟩
theorem do_if {k : Bool} (h : DT X B ρ c k ρ1) (h1 : k = true → DO X B ρ1 a d ρ2) (h2 : k = false → DO X B ρ1 b d ρ2) : DO X B ρ (.IfExp c a b pos) d ρ2 :=
  PE.imp (pe_ifExp h pe_a pe_a) fun σ H Q ⟨α, G, E, q⟩ => ⟨α, G, E, fun G1 H1 g1 E1 => by
    cases k with
    | true => rw [if_pos rfl]; exact ⟨_, h1 rfl, α, G1, E1, fun v2 G2 H2 g2 E2 => q v2 G2 H2 (g1.trans g2) E2⟩
    | false => rw [if_neg (by decide)]; exact ⟨_, h2 rfl, α, G1, E1, fun v2 G2 H2 g2 E2 => q v2 G2 H2 (g1.trans g2) E2⟩⟩

/-! ### arguments, displays -/
variable {es : List Expr} {ds : List D}
theorem da_nil : DA X B ρ [] [] ρ := PA.imp pa_nil fun σ H Q ⟨α, G, E, q⟩ => q [] G H (Same.refl _) E .nil
theorem da_cons (h : DE X B ρ e d ρ1) (hr : DA X B ρ1 es ds ρ2) (hs : starEach (e :: es) X.env = (false, eval e X.env) :: starEach es X.env := by rfl) : DA X B ρ (e :: es) (d :: ds) ρ2 :=
  PA.imp (pa_cons h hr hs) fun σ H Q ⟨α, G, E, q⟩ => ⟨α, G, E, fun v G1 H1 g1 E1 r1 => ⟨α, G1, E1, fun vs G2 H2 g2 E2 r2 => q _ G2 H2 (g1.trans g2) E2 (.cons (r1.mono g2) r2)⟩⟩
theorem de_tup {x1} (h : DA X B ρ es ds ρ') (hz : ds.length ≤ sizeLine := by first | decide | (simp; decide)) : DE X B ρ (.Tuple es x1 pos) (.tup ds) ρ' :=
  PE.imp (pe_tup h) fun σ H Q ⟨α, G, E, q⟩ => ⟨α, G, E, fun vs G1 H1 g1 E1 r1 => ⟨by rw [r1.length]; exact hz, fun p hp => q _ (upd G1 p (.tup vs)) _ (g1.trans (same_upd (E1.sub.free hp))) (E1.al (Al.new E1.sub hp)) (.tup (.inl (.inl upd_same)) (r1.mono (same_upd (E1.sub.free hp))))⟩⟩
theorem do_lst (h : DA X B ρ es ds ρ') (hz : ds.length ≤ sizeLine := by first | decide | (simp; decide)) : DO X B ρ (.List es pos) (.lst ds) ρ' :=
  PE.imp (pe_lst h) fun σ H Q ⟨α, G, E, q⟩ => ⟨α, G, E, fun vs G1 H1 g1 E1 r1 => ⟨by rw [r1.length]; exact hz, fun p hp => q p G1 _ g1 (E1.al (Al.new0 E1.sub hp)) (E1.sub.free hp) ⟨vs, upd_same, r1⟩ (E1.fresh hp) fun j e he => E1.ownNe hp he⟩⟩
theorem de_lst (h : DA X B ρ es ds ρ') (hz : ds.length ≤ sizeLine := by first | decide | (simp; decide)) : DE X B ρ (.List es pos) (.lst ds) ρ' := (do_lst h hz).de

/-! ### calls of what is built in -/
def RC (K : PySem.W.Frag) (r : List V → Hp → VK → Prop) (ds : List D) (d : D) : Prop := ∀ xs G H, Same G H → RepA K G xs ds → ∀ Q : VK, (∀ v G' H', Al G H G' H' → Rep K G' v d → Q v H') → r xs H Q
def RCO (K : PySem.W.Frag) (r : List V → Hp → VK → Prop) (ds : List D) (d : D) : Prop := ∀ xs G H, Same G H → RepA K G xs ds → ∀ Q : VK, (∀ b G' H', Al G H G' H' → H b = none → G' b = none → OwnOk K G' H' b d → Q (.ref b) H') → r xs H Q
theorem de_cb {r : List V → Hp → VK → Prop} (hp : PE X e (tCB r (tAs X.K B ρ ds ρ'))) (hr : RC X.K r ds d) : DE X B ρ e d ρ' :=
  PE.imp hp fun σ H Q ⟨α, G, E, q⟩ => ⟨α, G, E, fun vs G1 H1 g1 E1 r1 => hr vs G1 H1 E1.sub r1 Q fun v G2 H2 x r2 => q v G2 H2 (g1.trans x.g) (E1.al x) r2⟩
theorem do_cb {r : List V → Hp → VK → Prop} (hp : PE X e (tCB r (tAs X.K B ρ ds ρ'))) (hr : RCO X.K r ds d) : DO X B ρ e d ρ' :=
  PE.imp hp fun σ H Q ⟨α, G, E, q⟩ => ⟨α, G, E, fun vs G1 H1 g1 E1 r1 => hr vs G1 H1 E1.sub r1 Q fun b G2 H2 x hb nb w => q b G2 H2 (g1.trans x.g) (E1.al x) nb w (E1.fresh hb) fun j e he => E1.ownNe hb he⟩

/-! ### slices -/
theorem dp_no : DPa X B ρ none none ρ := PO.imp po_none fun σ H Q ⟨α, G, E, q⟩ => q G H (Same.refl _) E
theorem dp_some {i : Int} (h : DE X B ρ e (.int i) ρ') : DPa X B ρ (some e) (some i) ρ' := PO.imp (po_some h) fun σ H Q ⟨α, G, E, q⟩ => ⟨α, G, E, fun v G1 H1 g1 E1 r1 => ⟨i, r1.int_inv, q G1 H1 g1 E1⟩⟩
def RS (K : PySem.W.Frag) (r : V → Option Int → Option Int → Hp → VK → Prop) (d1 : D) (lo hi : Option Int) (d : D) : Prop := ∀ x G H, Same G H → Rep K G x d1 → ∀ Q : VK, (∀ v G' H', Al G H G' H' → Rep K G' v d → Q v H') → r x lo hi H Q
def RSO (K : PySem.W.Frag) (r : V → Option Int → Option Int → Hp → VK → Prop) (d1 : D) (lo hi : Option Int) (d : D) : Prop := ∀ x G H, Same G H → Rep K G x d1 → ∀ Q : VK, (∀ b G' H', Al G H G' H' → H b = none → G' b = none → OwnOk K G' H' b d → Q (.ref b) H') → r x lo hi H Q
variable {lo hi : Option Expr} {l u : Option Int} {p2 : Pos}
theorem de_slice {r : V → Option Int → Option Int → Hp → VK → Prop} (hs : SlR X r) (he : DE X B ρ e d1 ρ1) (hl : DPa X B ρ1 lo l ρ2) (hu : DPa X B ρ2 hi u ρ3) (hr : RS X.K r d1 l u d) : DE X B ρ (.Subscript e (.Slice lo hi none p2) pos) d ρ3 :=
  PE.imp (pe_slice hs he hl hu) fun σ H Q ⟨α, G, E, q⟩ => ⟨α, G, E, fun v G1 H1 g1 E1 r1 => ⟨α, G1, E1, fun G2 H2 g2 E2 => ⟨α, G2, E2, fun G3 H3 g3 E3 => hr v G3 H3 E3.sub (r1.mono (g2.trans g3)) Q fun z G4 H4 x r4 =>
    q z G4 H4 (g1.trans (g2.trans (g3.trans x.g))) (E3.al x) r4⟩⟩⟩
theorem do_slice {r : V → Option Int → Option Int → Hp → VK → Prop} (hs : SlR X r) (he : DE X B ρ e d1 ρ1) (hl : DPa X B ρ1 lo l ρ2) (hu : DPa X B ρ2 hi u ρ3) (hr : RSO X.K r d1 l u d) : DO X B ρ (.Subscript e (.Slice lo hi none p2) pos) d ρ3 :=
  PE.imp (pe_slice hs he hl hu) fun σ H Q ⟨α, G, E, q⟩ => ⟨α, G, E, fun v G1 H1 g1 E1 r1 => ⟨α, G1, E1, fun G2 H2 g2 E2 => ⟨α, G2, E2, fun G3 H3 g3 E3 => hr v G3 H3 E3.sub (r1.mono (g2.trans g3)) Q fun z G4 H4 x hb nb w =>
    q z G4 H4 (g1.trans (g2.trans (g3.trans x.g))) (E3.al x) nb w (E3.fresh hb) fun j e he => E3.ownNe hb he⟩⟩⟩

/-! ### methods of what is built in -/
def RM (K : PySem.W.Frag) (T : String) (r : V → List V → Hp → VK → Prop) (d1 : D) (ds : List D) (d : D) : Prop := (∀ x G H, Same G H → Rep K G x d1 → tyV K T x H) ∧ ∀ x xs G H, Same G H → Rep K G x d1 → RepA K G xs ds → ∀ Q : VK, (∀ v G' H', Al G H G' H' → Rep K G' v d → Q v H') → r x xs H Q
def RMO (K : PySem.W.Frag) (T : String) (r : V → List V → Hp → VK → Prop) (d1 : D) (ds : List D) (d : D) : Prop := (∀ x G H, Same G H → Rep K G x d1 → tyV K T x H) ∧ ∀ x xs G H, Same G H → Rep K G x d1 → RepA K G xs ds → ∀ Q : VK, (∀ b G' H', Al G H G' H' → H b = none → G' b = none → OwnOk K G' H' b d → Q (.ref b) H') → r x xs H Q
theorem de_bm {T : String} {r : V → List V → Hp → VK → Prop} (hp : PE X e (tBM X.K T r (tE X.K B ρ d1 ρ1) (tAs X.K B ρ1 ds ρ2))) (hr : RM X.K T r d1 ds d) : DE X B ρ e d ρ2 :=
  PE.imp hp fun σ H Q ⟨α, G, E, q⟩ => ⟨α, G, E, fun v G1 H1 g1 E1 r1 => ⟨hr.1 v G1 H1 E1.sub r1, α, G1, E1, fun vs G2 H2 g2 E2 r2 => hr.2 v vs G2 H2 E2.sub (r1.mono g2) r2 Q fun z G3 H3 x r3 => q z G3 H3 (g1.trans (g2.trans x.g)) (E2.al x) r3⟩⟩
theorem do_bm {T : String} {r : V → List V → Hp → VK → Prop} (hp : PE X e (tBM X.K T r (tE X.K B ρ d1 ρ1) (tAs X.K B ρ1 ds ρ2))) (hr : RMO X.K T r d1 ds d) : DO X B ρ e d ρ2 :=
  PE.imp hp fun σ H Q ⟨α, G, E, q⟩ => ⟨α, G, E, fun v G1 H1 g1 E1 r1 => ⟨hr.1 v G1 H1 E1.sub r1, α, G1, E1, fun vs G2 H2 g2 E2 r2 => hr.2 v vs G2 H2 E2.sub (r1.mono g2) r2 Q fun b G3 H3 x hb nb w => q b G3 H3 (g1.trans (g2.trans x.g)) (E2.al x) nb w (E2.fresh hb) fun j e he => E2.ownNe hb he⟩⟩
theorem de_bm0 {T : String} {r : V → List V → Hp → VK → Prop} (hp : PE X e (tBM0 X.K T r (tE X.K B ρ d1 ρ1))) (hr : RM X.K T r d1 [] d) : DE X B ρ e d ρ1 :=
  PE.imp hp fun σ H Q ⟨α, G, E, q⟩ => ⟨α, G, E, fun v G1 H1 g1 E1 r1 => ⟨hr.1 v G1 H1 E1.sub r1, hr.2 v [] G1 H1 E1.sub r1 .nil Q fun z G3 H3 x r3 => q z G3 H3 (g1.trans x.g) (E1.al x) r3⟩⟩

/-! ### statements -/
variable {st : Stmt} {sts rest : List Stmt} {P P' : Post} {M : Ro → Prop}
theorem dss_nil (h : P.nx ρ) : DSs X B ρ [] P := PSs.imp pss_nil fun D σ H ⟨⟨α, G, E⟩, m⟩ => m.nx _ _ _ _ _ h E
theorem dss_cons (h : DS X B ρ st { P with nx := M }) (hr : ∀ r, M r → DSs X B r rest P) : DSs X B ρ (st :: rest) P :=
  PSs.imp (pss_cons h pss_a) fun D σ H ⟨z, m⟩ => ⟨z, ⟨fun r α σ' G H' q E => ⟨_, hr r q, ⟨α, G, E⟩, m⟩, m.rt, m.ro, m.bk, m.ct⟩⟩
/-- one way goes on -/
theorem dss_seq (h : DS X B ρ st { P with nx := fun r => r = ρ1 }) (hr : DSs X B ρ1 rest P) : DSs X B ρ (st :: rest) P := dss_cons h fun r q => by subst q; exact hr
theorem dss_one (h : DS X B ρ st P) : DSs X B ρ [st] P := PSs.imp (pss_one h) fun D σ H z => z
theorem ds_mono (h : DS X B ρ st P) (i1 : ∀ r, P.nx r → P'.nx r) (i2 : ∀ d r, P.rt d r → P'.rt d r) (i3 : ∀ d r, P.ro d r → P'.ro d r) (i4 : ∀ r, P.bk r → P'.bk r) (i5 : ∀ r, P.ct r → P'.ct r) : DS X B ρ st P' :=
  PS.imp h fun D σ H ⟨z, m⟩ => ⟨z, ⟨fun r α σ G H q => m.nx r α σ G H (i1 r q), fun d r α σ G H v q => m.rt d r α σ G H v (i2 d r q), fun d r α σ G H a q => m.ro d r α σ G H a (i3 d r q), fun r α σ G H q => m.bk r α σ G H (i4 r q), fun r α σ G H q => m.ct r α σ G H (i5 r q)⟩⟩
theorem ds_expr (h : DE X B ρ e d ρ') (k : P.nx ρ') (hs : swapsWith e none pos.line X.env = pure false := by rfl) : DS X B ρ (.Expr e pos) P :=
  PS.imp (ps_expr h hs) fun D σ H ⟨⟨α, G, E⟩, m⟩ => ⟨α, G, E, fun v G1 H1 g1 E1 r1 => m.nx _ _ _ _ _ k E1⟩
theorem ds_ret (h : DE X B ρ e d ρ') (k : P.rt d ρ') : DS X B ρ (.Return (some e) pos) P :=
  PS.imp (ps_ret h) fun D σ H ⟨⟨α, G, E⟩, m⟩ => ⟨α, G, E, fun v G1 H1 g1 E1 r1 => m.rt _ _ _ _ _ _ _ k E1 r1⟩
theorem ds_retO (h : DO X B ρ e d ρ') (k : P.ro d ρ') : DS X B ρ (.Return (some e) pos) P :=
  PS.imp (ps_ret h) fun D σ H ⟨⟨α, G, E⟩, m⟩ => ⟨α, G, E, fun b G1 H1 g1 E1 n w bb ne => m.ro _ _ _ _ _ _ _ k E1 n w bb ne⟩
theorem ds_retN (k : P.rt .non ρ) : DS X B ρ (.Return none pos) P := PS.imp ps_retN fun D σ H ⟨⟨α, G, E⟩, m⟩ => m.rt _ _ _ _ _ _ _ k E .non
theorem ds_pass (k : P.nx ρ) : DS X B ρ (.Pass pos) P := PS.imp ps_pass fun D σ H ⟨⟨α, G, E⟩, m⟩ => m.nx _ _ _ _ _ k E
theorem ds_break (k : P.bk ρ) : DS X B ρ (.Break pos) P := PS.imp ps_break fun D σ H ⟨⟨α, G, E⟩, m⟩ => m.bk _ _ _ _ _ k E
theorem ds_if {k : Bool} (h : DT X B ρ c k ρ1) (h1 : k = true → DSs X B ρ1 sts P) (h2 : k = false → DSs X B ρ1 rest P) : DS X B ρ (.If c sts rest pos) P :=
  PS.imp (ps_if h pss_a pss_a) fun D σ H ⟨⟨α, G, E⟩, m⟩ => ⟨α, G, E, fun G1 H1 g1 E1 => by
    cases k with
    | true => rw [if_pos rfl]; exact ⟨_, h1 rfl, ⟨α, G1, E1⟩, m⟩
    | false => rw [if_neg (by decide)]; exact ⟨_, h2 rfl, ⟨α, G1, E1⟩, m⟩⟩
theorem dss_mono (h : DSs X B ρ sts P) (i1 : ∀ r, P.nx r → P'.nx r) (i2 : ∀ d r, P.rt d r → P'.rt d r) (i3 : ∀ d r, P.ro d r → P'.ro d r) (i4 : ∀ r, P.bk r → P'.bk r) (i5 : ∀ r, P.ct r → P'.ct r) : DSs X B ρ sts P' :=
  PSs.imp h fun D σ H ⟨z, m⟩ => ⟨z, ⟨fun r α σ G H q => m.nx r α σ G H (i1 r q), fun d r α σ G H v q => m.rt d r α σ G H v (i2 d r q), fun d r α σ G H a q => m.ro d r α σ G H a (i3 d r q), fun r α σ G H q => m.bk r α σ G H (i4 r q), fun r α σ G H q => m.ct r α σ G H (i5 r q)⟩⟩
/-- if c: a suite that does not run on; then the rest -/
theorem dss_ifx {k : Bool} (h : DT X B ρ c k ρ1) (h1 : k = true → DSs X B ρ1 sts { P with nx := fun _ => False }) (h2 : k = false → DSs X B ρ1 rest P) : DSs X B ρ (.If c sts [] pos :: rest) P :=
  dss_cons (M := fun r => r = ρ1 ∧ k = false) (ds_if h (fun z => dss_mono (h1 z) (fun _ q => q.elim) (fun _ _ q => q) (fun _ _ q => q) (fun _ q => q) (fun _ q => q)) (fun z => dss_nil ⟨rfl, z⟩)) fun r ⟨e, z⟩ => by subst e; exact h2 z
theorem ds_never (st : Stmt) (h : False) : DS X B ρ st P := h.elim
/-- x = e -/
theorem ds_set {i : Nat} {x : Str} {pos' : Pos} (hN : X.N.Nodup) (h : DE X B ρ e d ρ1) (k : P.nx (ρ1.set i (.dat d))) (hio : ∀ p ∈ B.io, p.1 ≠ i) (hi : X.N[i]? = some x := by rfl) (hx : Loc X.env.scope x := by first | exact Or.inl rfl | exact Or.inr rfl)
    (hs : swapsWith e (some (.Name x pos')) pos.line X.env = pure false := by rfl) (hf : X.fn x = true ∨ X.env.scope.names.lookup x = some .local := by first | exact .inl rfl | exact .inr rfl | assumption) : DS X B ρ (.Assign [.Name x pos'] e pos) P :=
  PS.imp (ps_set hN hi hx h hs hf) fun D σ H ⟨⟨α, G, E⟩, m⟩ => ⟨α, G, E, fun v G1 H1 g1 E1 r1 => m.nx _ _ _ _ _ k (E1.set hio r1)⟩
theorem ds_setO {i : Nat} {x : Str} {pos' : Pos} (hN : X.N.Nodup) (h : DO X B ρ e d ρ1) (k : P.nx (ρ1.set i (.own d))) (hio : ∀ p ∈ B.io, p.1 ≠ i) (hi : X.N[i]? = some x := by rfl) (hx : Loc X.env.scope x := by first | exact Or.inl rfl | exact Or.inr rfl)
    (hs : swapsWith e (some (.Name x pos')) pos.line X.env = pure false := by rfl) (hf : X.fn x = true ∨ X.env.scope.names.lookup x = some .local := by first | exact .inl rfl | exact .inr rfl | assumption) : DS X B ρ (.Assign [.Name x pos'] e pos) P :=
  PS.imp (ps_set hN hi hx h hs hf) fun D σ H ⟨⟨α, G, E⟩, m⟩ => ⟨α, G, E, fun a G1 H1 g1 E1 n w b ne => m.nx _ _ _ _ _ k (E1.setOwn hio n w b ne)⟩
/-- a while loop: W is the invariant with its measure -/
theorem ds_while {body : List Stmt} (W : Nat → Ro → Prop) (hp : PassesOwn (model X.prog X.w) X.A X.env X.xe) (m0 : Nat) (h0 : W m0 ρ)
    (turn : ∀ m r, W m r → ∃ k r1, DT X B r c k r1 ∧ (k = true → DSs X B r1 body { P with nx := fun r' => ∃ m', m' < m ∧ W m' r', ct := fun r' => ∃ m', m' < m ∧ W m' r', bk := P.nx }) ∧ (k = false → P.nx r1)) : DS X B ρ (.While c body [] pos) P :=
  PS.imp (ps_while hp pt_a pss_a) fun D σ H ⟨⟨α, G, E⟩, mt⟩ => by
    refine ⟨fun m σ H => ∃ r α G, W m r ∧ EnvA X.K B α r σ G H, ⟨m0, ρ, α, G, h0, E⟩, ?_⟩
    rintro m σ1 H1 ⟨r, α1, G1, w1, E1⟩
    obtain ⟨k, r1, ht, hb, hd⟩ := turn m r w1
    refine ⟨_, ht, α1, G1, E1, fun G2 H2 g2 E2 => ?_⟩
    cases k with
    | true =>
      rw [if_pos rfl]
      refine ⟨fun σ' H' => ∃ m', m' < m ∧ ∃ r α G, W m' r ∧ EnvA X.K B α r σ' G H', fun σ' H' z => z, _, hb rfl, ⟨α1, G2, E2⟩, ⟨?_, mt.rt, mt.ro, mt.nx, ?_⟩⟩
      · rintro r' α' σ' G' H' ⟨m', hm, w'⟩ E'
        exact ⟨m', hm, r', α', G', w', E'⟩
      · rintro r' α' σ' G' H' ⟨m', hm, w'⟩ E'
        exact ⟨m', hm, r', α', G', w', E'⟩
    | false => rw [if_neg (by decide)]; exact mt.nx _ _ _ _ _ (hd rfl) E2
end
end DL

set_option maxRecDepth 100000
set_option maxHeartbeats 4000000
/-! A def's promise where it is known that no repr is under way around the call (A.guards = some []). -/
namespace DL
open PySem PySem.Spec PyProof.Rows L2

/-- room for k calls, and no repr under way -/
structure Rm (k : Nat) (A : Around) : Prop where
  r : Room k A
  g : A.guards = some []
theorem Rm.mono {j k : Nat} {A : Around} (x : Rm k A) (h : j ≤ k) : Rm j A := ⟨x.r.mono h, x.g⟩
theorem Rm.down {k : Nat} {A : Around} (x : Rm (k + 1) A) (env : Env) : Rm k (A.deeper env) := ⟨x.r.deeper env, x.g⟩
theorem Rm.one {k : Nat} {A : Around} (x : Rm (k + 1) A) : Rm k A.in1 := ⟨x.r.in1, x.g⟩
theorem Rm.mk' {k : Nat} {A : Around} (x : Rm (k + 1) A) (C : Addr) (us : List Value) (kw : List (Str × Value)) : Rm k (A.under (.builtin "type.__call__" ⟨.ref C :: us, kw⟩)) := by
  refine ⟨x.r.make C us kw, ?_⟩
  have e : (A.under (.builtin "type.__call__" ⟨.ref C :: us, kw⟩)).guards = A.guards := by
    obtain ⟨hd, d, fr, gs, u⟩ := A
    cases gs with
    | none => rfl
    | some l => simp [Around.under, pushGuards, Code.guards, Code.isGuard, guardIds]
  rw [e]; exact x.g
structure FnG (P : Program) (w : World) (K : PySem.W.Frag) (mg : Str → Option Value) (base : Heap) (CX : CXT) (k : Nat) (f : Addr) (fd : FuncData) (ps : List Str) (sp : Sp) : Prop where
  len : ∀ vs H Q E, sp vs H Q E → vs.length = ps.length
  go : ∀ (A : Around) (outer : List Env) (s : Shared) (H : Hp) (args : Args) (us : List Value) (vs : List V) (Q : VK) (E : XK), Rm k A → Env0 P w K mg base A outer s H → BindsTo s fd args (ps.zip us) → Vals vs us → sp vs H Q E →
    codeAny (model P w) A (.call (.ref f) args) (CR CX outer P w H s Q E) s
theorem FnG.mono {P : Program} {w : World} {K : PySem.W.Frag} {mg : Str → Option Value} {base : Heap} {CX : CXT} {j k : Nat} {f : Addr} {fd : FuncData} {ps : List Str} {sp : Sp} (F : FnG P w K mg base CX j f fd ps sp) (h : j ≤ k) : FnG P w K mg base CX k f fd ps sp :=
  ⟨F.len, fun A o s H a us vs Q E hr => F.go A o s H a us vs Q E (hr.mono h)⟩
theorem FnG.imp {P : Program} {w : World} {K : PySem.W.Frag} {mg : Str → Option Value} {base : Heap} {CX : CXT} {k : Nat} {f : Addr} {fd : FuncData} {ps : List Str} {sp sp' : Sp} (F : FnG P w K mg base CX k f fd ps sp) (h : ∀ vs H Q E, sp' vs H Q E → sp vs H Q E) : FnG P w K mg base CX k f fd ps sp' :=
  ⟨fun vs H Q E q => F.len vs H Q E (h _ _ _ _ q), fun A o s H a us vs Q E hr he hb hv hs => F.go A o s H a us vs Q E hr he hb hv (h _ _ _ _ hs)⟩
/-- what a call's end is to a caller -/
theorem cr_end {X : Cx} {CX : CXT} {E : XK} {pins : List (Addr × Obj)} {σ : L2.St} {H : Hp} {s s' : Shared} {Q : VK} {r : Result} (hx : Passes CX X E) (I : Inv X pins σ H s) (h : CR CX X.stack X.prog X.w H s Q E r s') :
    match r with
    | .ok (.ret u) => EP X pins σ Q u s'
    | .ok _ => False
    | .error e => X.xe e s' := by
  cases r with
  | error e => exact hx pins σ H s e s' I h
  | ok fl => cases fl with
    | ret u => exact I.after h
    | next => exact h
    | brk => exact h
    | cont => exact h
section
variable {X : Cx} {CX : CXT} {k : Nat} {f C : Addr} {fd : FuncData} {ps : List Str} {sp : Sp} {dvs : List V} {ds : List Value} {E : XK} {x m : Str} {p pos apos : Pos} {e o : Expr} {es : List Expr} {ta : TE} {t : TA}
theorem call_g {pins : List (Addr × Obj)} {σ : L2.St} {H : Hp} {s : Shared} {Q : VK} {us : List Value} {vs : List V} (F : FnG X.prog X.w X.K X.mg X.base CX k f fd ps sp) (hr : Rm k X.A) (hb : Binds X.K fd ps ds) (hd : Vals dvs ds) (hx : Passes CX X E)
    (I : Inv X pins σ H s) (r : Vals vs us) (h : sp (vs ++ dvs) H Q E) : wpAny (model X.prog X.w) X.A (call (.ref f) us) (EP X pins σ Q) X.xe s := by
  have rr : Vals (vs ++ dvs) (us ++ ds) := r.append hd
  have ll : (us ++ ds).length = ps.length := rr.length ▸ F.len _ _ _ _ h
  refine wpAny_call (codeAny_mono (F.go X.A X.stack s H ⟨us, []⟩ _ _ Q E hr I.env0 (hb s us I.kIn ll) rr h) fun r s' q => ?_)
  have z := cr_end hx I q
  cases r with
  | error e => exact z
  | ok fl => cases fl with
    | ret u => exact z
    | next => exact z.elim
    | brk => exact z.elim
    | cont => exact z.elim
theorem pe_callG (F : FnG X.prog X.w X.K X.mg X.base CX k f fd ps sp) (hr : Rm k X.A) (hg : Gl X x) (hm : X.mg x = some (.ref f)) (hk : PySem.W.keepIn X.K (.ref f) = true) (hb : Binds X.K fd ps ds) (hd : Vals dvs ds) (hx : Passes CX X E) (ha : PA X (e :: es) t)
    (hdb : (x == ("__debug__" : Str)) = false := by decide) (he : starEach (e :: es) X.env = (false, eval e X.env) :: starEach es X.env := by rfl) (hpl : (backTo pos (starEach es X.env)).any (·.1) = false := by rfl) : PE X (.Call (.Name x p) (e :: es) [] pos) (tCall sp dvs E t) :=
  ⟨fun pins s σ H Q I h => wpAny_Call_Name_kw (ld_glob I hg hm (PySem.W.callWith_K (h₀ := X.base) I.ok.mod.kin hk (thn (ha.run pos pins s σ H _ I h) fun us s1 ⟨vs, H1, I1, r, q⟩ => ⟨I1.kIn, call_g F hr hb hd hx I1 r q⟩) he hpl) hdb)⟩
theorem pe_call0G (F : FnG X.prog X.w X.K X.mg X.base CX k f fd ps sp) (hr : Rm k X.A) (hg : Gl X x) (hm : X.mg x = some (.ref f)) (hk : PySem.W.keepIn X.K (.ref f) = true) (hb : Binds X.K fd ps ds) (hd : Vals dvs ds) (hx : Passes CX X E)
    (hdb : (x == ("__debug__" : Str)) = false := by decide) : PE X (.Call (.Name x p) [] [] pos) (tCall sp dvs E tNil) :=
  ⟨fun pins s σ H Q I h => wpAny_Call_Name_kw (ld_glob I hg hm (PySem.W.callWith_K0 I.kIn hk (call_g (us := []) F hr hb hd hx I .nil h)) hdb)⟩
theorem pe_methG {pl : Sem Bool} (he : PE X o ta) (c : Cls X.K C) (hm : Meth X.K C m f) (F : FnG X.prog X.w X.K X.mg X.base CX k f fd ps sp) (hr : Rm k X.A) (hb : Binds X.K fd ps ds) (hd : Vals dvs ds) (hx : Passes CX X E) (ha : PA X (e :: es) t)
    (hst : starEach (e :: es) X.env = (false, eval e X.env) :: starEach es X.env := by rfl) (hpl : (backTo pos (starEach es X.env)).any (·.1) = false := by rfl)
    (ht : eval (.Call (.Attribute o m apos) (e :: es) [] pos) X.env = (do
      let ov ← eval o X.env
      standAt apos.atName
      let (f, first) ← holding [ov] (getMethod ov m pl)
      callWith pos f first (backTo pos (starEach (e :: es) X.env)) (backToKw pos (keywordEach [] X.env))) := by rfl) : PE X (.Call (.Attribute o m apos) (e :: es) [] pos) (tMeth C m sp dvs E ta t) := by
  refine ⟨fun pins s σ H Q I h => PySem.W.methodCall_KW (pl := pl) (thn (he.run pins s σ H _ I h) fun u s1 ⟨y, H1, I1, ry, a, dx, fs, ey, ea, l, q⟩ => ?_) ht⟩
  cases ey
  cases ry
  exact getmeth_ok I1 ea c hm l (PySem.W.callWith_K (first := [.ref a]) (h₀ := X.base) I.ok.mod.kin hm.kp (thn (ha.run pos pins s1 σ H1 _ I1 q) fun us s2 ⟨vs, H2, I2, r, q2⟩ => ⟨I2.kIn, call_g (us := .ref a :: us) (vs := .ref a :: vs) F hr hb hd hx I2 (.cons rfl r) q2⟩) hst hpl)
theorem pe_meth0G {pl : Sem Bool} (he : PE X o ta) (c : Cls X.K C) (hm : Meth X.K C m f) (F : FnG X.prog X.w X.K X.mg X.base CX k f fd ps sp) (hr : Rm k X.A) (hb : Binds X.K fd ps ds) (hd : Vals dvs ds) (hx : Passes CX X E)
    (ht : eval (.Call (.Attribute o m apos) [] [] pos) X.env = (do
      let ov ← eval o X.env
      standAt apos.atName
      let (f, first) ← holding [ov] (getMethod ov m pl)
      callWith pos f first (backTo pos (starEach [] X.env)) (backToKw pos (keywordEach [] X.env))) := by rfl) : PE X (.Call (.Attribute o m apos) [] [] pos) (tMeth C m sp dvs E ta tNil) := by
  refine ⟨fun pins s σ H Q I h => PySem.W.methodCall_KW (pl := pl) (thn (he.run pins s σ H _ I h) fun u s1 ⟨y, H1, I1, ry, a, dx, fs, ey, ea, l, q⟩ => ?_) ht⟩
  cases ey
  cases ry
  exact getmeth_ok I1 ea c hm l (PySem.W.callWith_K0 (first := [.ref a]) I1.kIn hm.kp (call_g (us := [.ref a]) (vs := [.ref a]) F hr hb hd hx I1 (.cons rfl .nil) q))
/-- C(..): the instance, its dict, then __init__ -/
theorem make_g {pins : List (Addr × Obj)} {σ : L2.St} {H : Hp} {s : Shared} {Q : VK} {us : List Value} {vs : List V} (M : Mk X.K C f) (F : FnG X.prog X.w X.K X.mg X.base CX k f fd ps sp) (hr : Rm (k + 1) X.A) (hb : Binds X.K fd ps ds) (hd : Vals dvs ds) (hx : Passes CX X E) (I : Inv X pins σ H s) (r : Vals vs us)
    (h : ∀ x dx, H x = none → H dx = none → dx ≠ x → sp (.ref x :: (vs ++ dvs)) (upd (upd H dx (.own x)) x (.ins C dx [])) (fun v H2 => v = .non ∧ Q (.ref x) H2) E) : wpAny (model X.prog X.w) X.A (call (.ref C) us) (EP X pins σ Q) X.xe s := by
  have n := s.heap.objs.size
  have hq := h (s.heap.objs.size + 1) s.heap.objs.size (I.hok.fresh (Nat.le_succ _)) (I.hok.fresh (Nat.le_refl _)) (Nat.ne_of_lt (Nat.lt_succ_self _))
  have J := Inv.made (C := C) I
  have rr : Vals (V.ref (s.heap.objs.size + 1) :: (vs ++ dvs)) (Value.ref (s.heap.objs.size + 1) :: (us ++ ds)) := .cons rfl (r.append hd)
  have ll : ((Value.ref (s.heap.objs.size + 1) :: us) ++ ds).length = ps.length := (rr.length.symm.trans (F.len _ _ _ _ hq))
  refine wpAny_call (make_map (f := f) I.kIn M.makes M.init (beq_iff_eq.mp M.fn) (codeAny_mono (F.go _ X.stack _ _ ⟨Value.ref (s.heap.objs.size + 1) :: us, []⟩ _ _ _ E (hr.mk' C us []) (J.env0.make C us []) (hb _ (Value.ref (s.heap.objs.size + 1) :: us) J.kIn ll) rr hq) fun r s' q => ?_))
  have z := cr_end hx J q
  cases r with
  | error e => exact z
  | ok fl => cases fl with
    | ret u =>
      obtain ⟨v, H', I3, rv, ev, q3⟩ := z
      cases ev
      exact ⟨rv, ⟨V.ref (s.heap.objs.size + 1), H', I3, rfl, q3⟩⟩
    | next => exact z.elim
    | brk => exact z.elim
    | cont => exact z.elim
theorem pe_makeG (M : Mk X.K C f) (F : FnG X.prog X.w X.K X.mg X.base CX k f fd ps sp) (hr : Rm (k + 1) X.A) (hg : Gl X x) (hm : X.mg x = some (.ref C)) (hb : Binds X.K fd ps ds) (hd : Vals dvs ds) (hx : Passes CX X E) (ha : PA X (e :: es) t)
    (hdb : (x == ("__debug__" : Str)) = false := by decide) (he : starEach (e :: es) X.env = (false, eval e X.env) :: starEach es X.env := by rfl) (hpl : (backTo pos (starEach es X.env)).any (·.1) = false := by rfl) : PE X (.Call (.Name x p) (e :: es) [] pos) (tMake C sp dvs E t) :=
  ⟨fun pins s σ H Q I h => wpAny_Call_Name_kw (ld_glob I hg hm (PySem.W.callWith_K (h₀ := X.base) I.ok.mod.kin M.kp (thn (ha.run pos pins s σ H _ I h) fun us s1 ⟨vs, H1, I1, r, q⟩ => ⟨I1.kIn, make_g M F hr hb hd hx I1 r q⟩) he hpl) hdb)⟩
/-- e.f, a property -/
theorem pe_propG {g : Addr} {q : Addr} {fl : Str} (he : PE X e ta) (c : Cls X.K C) (hp : PropOf X.K C fl q g) (F : FnG X.prog X.w X.K X.mg X.base CX k g fd ps sp) (hr : Rm (k + 1) X.A) (hb : Binds X.K fd ps ds) (hd : Vals dvs ds) (hx : Passes CX X.nox E)
    (hab : attributeBase e fl X.env (eval e X.env) = eval e X.env) : PE X (.Attribute e fl pos) (tProp C sp dvs E ta) := by
  refine ⟨fun pins s σ H Q I h => attr_of hab (thn (he.run pins s σ H _ I h) fun u s1 ⟨y, H1, I1, ry, b, dx, fs, ey, eb, z⟩ => ?_)⟩
  cases ey
  cases ry
  obtain ⟨mA, O, _, _, _, _⟩ := ins_get I1.hok eb
  obtain ⟨od, J, _⟩ := O.look
  obtain ⟨rest, hrec⟩ := hp.rec_
  have I2 := I1.tok (s1.toks + 1)
  have hl : ([Value.ref b] ++ ds).length = ps.length := by
    have := F.len _ _ _ _ z
    simp at this ⊢
    rw [← hd.length]; exact this
  have hc : (PySem.W.clsIn X.K C).isSome = true := by
    obtain ⟨cd, hc, _⟩ := PySem.W.any_some c.hd
    rw [hc]; rfl
  have gp := PySem.W.plainGet_of (c.get fl)
  refine PySem.W.get_bind I1.kIn J gp.1 (PySem.W.findObj_data hc hp.at_ hp.get hp.tak) gp.2 (wpAny_call (PySem.W.prop_get (s := { s1 with toks := s1.toks + 1 }) I1.kIn hrec ?_))
  refine codeAny_mono (F.go X.A.in1 X.stack { s1 with toks := s1.toks + 1 } H1 ⟨[.ref b], []⟩ (.ref b :: ds) (.ref b :: dvs) Q E hr.one I2.env0.in1 (hb _ [.ref b] I2.kIn hl) (.cons rfl hd) z) fun r s' w => ?_
  cases r with
  | error er => exact (hx pins σ H1 _ er s' (I2.wish _) w).elim
  | ok fl => cases fl with
    | ret u =>
      obtain ⟨v, H', I3, rv, q3⟩ := I2.after w
      show wpAny _ _ (handedOut u) _ _ _
      rw [PySem.W.handedOut_of (handed_of rv)]
      exact wpAny_pure ⟨v, H', I3, rv, q3⟩
    | next => exact w.elim
    | brk => exact w.elim
    | cont => exact w.elim
end
/-- a def keeps its promise by its body -/
theorem fn_ofG {CX : CXT} {P : Program} {w : World} {K : PySem.W.Frag} {mg : Str → Option Value} {base : Heap} {k : Nat} {x qual : Str} {st : Stmt} {f : Addr} {fd : FuncData} {N ps : List Str} {sp : Sp} (F : Fun K x qual st f fd) (S : FnScope N ps (defScope st)) (len : ∀ vs H Q E, sp vs H Q E → vs.length = ps.length)
    (body : ∀ (cdv : Value) (A : Around) (outer : List Env) (s : Shared) (H : Hp) (vs : List V) (Q : VK) (E : XK), Rm k (A.deeper (envOfC qual (defScope st) s.heap.objs.size f cdv)) → sp vs H Q E →
      ∃ t, PSs (cxOf CX P w K mg base N qual (defScope st) f cdv A outer s H E) (defBody st) t ∧ t { nx := fun _ H' => Q .non H', rt := Q } (L2.start N vs) H) : FnG P w K mg base CX (k + 1) f fd ps sp := by
  obtain ⟨oc, od, kV, doc, pm, an, cdv, ct, osl, rfl, lk, hcd⟩ := F.ex
  refine ⟨len, fun A outer s H args us vs Q E hr e0 hb r hsp => ?_⟩
  have kp : ∀ b o, base.get? b = some o → s.heap.get? b = some o := fun b o e => (e0.bs b o e).1
  have KX : K.In s.heap := e0.mod.kin.keeps kp
  have hkind : ∀ y ∈ ps.zip us, (defScope st).names.lookup y.1 = some .local ∨ ((defScope st).names.lookup y.1 = some .cell ∧ ((cellsFrom (s.heap.objs.size + 1) (defScope st).names []).lookup y.1).isSome = true) := fun y hy =>
    (S.par y.1 (List.of_mem_zip (show (y.1, y.2) ∈ ps.zip us from hy)).1).elim .inl fun q => .inr ⟨q, PySem.W.cellsFrom_some _ _ _ (.inl q)⟩
  refine codeAny_call_function hr.r.depth (KX _ _ lk) rfl S.co S.gen rfl (PySem.W.codeRec_of KX hcd) (hb _ _ _ _ (wpAny_newFunctionEnv_cells S.kind hkind fun env he s1 y => ?_))
  cases he
  obtain ⟨t, ht, hq⟩ := body cdv A outer s H vs Q E (hr.down _) hsp
  refine ⟨(e0.mod.nolimit.keeps kp).keeps y.toInCall.keep, codeAny_func ?_⟩
  refine wpAny_mono (ht.run [] s1 _ H _ (inv_start S hr.r.hd e0 (len _ _ _ _ hsp) r y) hq) (fun fl s' z => ?_) fun _ _ z => z
  cases fl with
  | ret u => obtain ⟨v, _, H', J, rv, q⟩ := z; exact ⟨v, H', J.os, J.bare, J.base, J.hok, rv, q⟩
  | next => obtain ⟨_, H', J, q⟩ := z; exact ⟨.non, H', J.os, J.bare, J.base, J.hok, rfl, q⟩
  | brk => obtain ⟨_, _, _, q⟩ := z; exact q.elim
  | cont => obtain ⟨_, _, _, q⟩ := z; exact q.elim
/-- .. where nothing is raised -/
theorem fn_ofG0 {P : Program} {w : World} {K : PySem.W.Frag} {mg : Str → Option Value} {base : Heap} {k : Nat} {x qual : Str} {st : Stmt} {f : Addr} {fd : FuncData} {N ps : List Str} {sp : Sp} (F : Fun K x qual st f fd) (S : FnScope N ps (defScope st)) (len : ∀ vs H Q E, sp vs H Q E → vs.length = ps.length)
    (body : ∀ (cdv : Value) (A : Around) (outer : List Env) (s : Shared) (H : Hp) (vs : List V) (Q : VK) (E : XK), Rm k (A.deeper (envOfC qual (defScope st) s.heap.objs.size f cdv)) → sp vs H Q E →
      ∃ t, PSs (cxOf CX0 P w K mg base N qual (defScope st) f cdv A outer s H E).nox (defBody st) t ∧ t { nx := fun _ H' => Q .non H', rt := Q } (L2.start N vs) H) : FnG P w K mg base CX0 (k + 1) f fd ps sp :=
  fn_ofG F S len fun cdv A outer s H vs Q E hr h => let ⟨t, ht, q⟩ := body cdv A outer s H vs Q E hr h; ⟨t, ht.nox, q⟩
end DL

set_option maxRecDepth 100000
set_option maxHeartbeats 4000000
namespace DL
open PySem PySem.Spec PyProof.Rows L2

/-! ### what a def promises, told of data -/
/-- C ds d: called with the data ds it hands back the datum d -/
def spP (K : PySem.W.Frag) (C : List D → D → Prop) : Sp := fun vs H Q _ => ∃ G ds d, Same G H ∧ RepA K G vs ds ∧ C ds d ∧ ∀ v G' H', Al G H G' H' → Rep K G' v d → Q v H'
/-- .. a new own thing -/
def spO (K : PySem.W.Frag) (C : List D → D → Prop) : Sp := fun vs H Q _ => ∃ G ds d, Same G H ∧ RepA K G vs ds ∧ C ds d ∧ ∀ b G' H', Al G H G' H' → H b = none → G' b = none → OwnOk K G' H' b d → Q (.ref b) H'
/-- all but a is kept -/
structure AlX (a : Addr) (G H G' H' : Hp) : Prop where
  g : Same G G'
  s : Same G' H'
  h : ∀ b o, b ≠ a → H b = some o → H' b = some o
  n : ∀ b o, H b = some o → G b = none → G' b = none
/-- C p ds d p': its first argument is a thing p that it may change, into p' -/
def spI (K : PySem.W.Frag) (C : D → List D → D → D → Prop) : Sp := fun vs H Q _ => ∃ G a vs' p ds d p', vs = .ref a :: vs' ∧ Same G H ∧ G a = none ∧ OwnOk K G H a p ∧ RepA K G vs' ds ∧ C p ds d p' ∧
  ∀ v G' H', AlX a G H G' H' → OwnOk K G' H' a p' → Rep K G' v d → Q v H'
def spIO (K : PySem.W.Frag) (C : D → List D → D → D → Prop) : Sp := fun vs H Q _ => ∃ G a vs' p ds d p', vs = .ref a :: vs' ∧ Same G H ∧ G a = none ∧ OwnOk K G H a p ∧ RepA K G vs' ds ∧ C p ds d p' ∧
  ∀ b G' H', AlX a G H G' H' → OwnOk K G' H' a p' → H b = none → G' b = none → OwnOk K G' H' b d → Q (.ref b) H'

section
variable {K : PySem.W.Frag} {B : Bs} {α : Nat → Addr} {ρ : Ro} {σ : L2.St} {G H G' H' : Hp}
theorem EnvA.alx (E : EnvA K B α ρ σ G H) {i : Nat} {p p' : D} (hi : ρ[i]? = some (.own p)) (x : AlX (α i) G H G' H') (w : OwnOk K G' H' (α i) p') : EnvA K B α (ρ.set i (.own p')) σ G' H' where
  len := by simpa using E.len
  sub := x.s
  grow := E.grow.trans x.g
  keep := fun a o e n k => by
    obtain ⟨h1, h2⟩ := E.keep a o e n k
    have ne : a ≠ α i := fun y => by
      rcases (E.own i p hi).2.2.2 with z | ⟨r, hr, z⟩
      · rw [y, z] at e; cases e
      · exact k r hr (z.trans y.symm)
    exact ⟨x.h _ _ ne h1, x.n _ _ h1 h2⟩
  dat := fun j d q => by
    rcases set_get q with ⟨rfl, z⟩ | ⟨hj, q⟩
    · cases z
    · obtain ⟨v, h1, h2⟩ := E.dat j d q; exact ⟨v, h1, h2.mono x.g⟩
  own := fun j d q => by
    rcases set_get q with ⟨rfl, z⟩ | ⟨hj, q⟩
    · cases z
      obtain ⟨h1, h2, h3, h4⟩ := E.own _ _ hi
      obtain ⟨o, ho⟩ := h3.at
      exact ⟨h1, x.n _ _ ho h2, w, h4⟩
    · obtain ⟨h1, h2, h3, h4⟩ := E.own _ _ q
      obtain ⟨o, ho⟩ := h3.at
      have ne : α j ≠ α i := fun z => hj (E.inj j i d p q hi z)
      exact ⟨h1, x.n _ _ ho h2, h3.mono x.g (fun u y => x.h _ _ ne y), h4⟩
  inj := fun j k e f h1 h2 z => by
    have g : ∀ (m : Nat) (y : D), (ρ.set i (.own p'))[m]? = some (.own y) → ∃ y', ρ[m]? = some (.own y') := fun m y q => by
      rcases set_get q with ⟨rfl, _⟩ | ⟨_, q⟩
      · exact ⟨_, hi⟩
      · exact ⟨_, q⟩
    obtain ⟨y1, q1⟩ := g j e h1
    obtain ⟨y2, q2⟩ := g k f h2
    exact E.inj j k y1 y2 q1 q2 z
  io := fun r hr => by
    obtain ⟨⟨d', q⟩, z⟩ := E.io r hr
    by_cases y : r.1 = i
    · refine ⟨⟨p', ?_⟩, z⟩
      have hl : i < ρ.length := (List.getElem?_eq_some_iff.mp hi).1
      rw [y]; exact List.getElem?_set_self hl
    · exact ⟨⟨d', by rw [List.getElem?_set_ne (Ne.symm y)]; exact q⟩, z⟩
theorem ownNeX (E : EnvA K B α ρ σ G H) {i : Nat} {p p' : D} (hi : ρ[i]? = some (.own p)) {b : Addr} (hb : H b = none) : ∀ (j : Nat) e, (ρ.set i (.own p'))[j]? = some (.own e) → α j ≠ b := fun j e q => by
  rcases set_get q with ⟨rfl, _⟩ | ⟨_, q⟩
  · exact E.ownNe hb hi
  · exact E.ownNe hb q
end

/-! ### a def by its name -/
structure GFn (P : Program) (w : World) (K : PySem.W.Frag) (mg : Str → Option Value) (base : Heap) (k : Nat) (x : Str) (sp : Sp) : Prop where
  ex : ∃ f fd ps, FnG P w K mg base CX0 k f fd ps sp ∧ mg x = some (.ref f) ∧ PySem.W.keepIn K (.ref f) = true ∧ Binds K fd ps []
/-- a method of the class at C -/
structure MFn (P : Program) (w : World) (K : PySem.W.Frag) (mg : Str → Option Value) (base : Heap) (k : Nat) (C : Addr) (m : Str) (sp : Sp) : Prop where
  ex : ∃ f fd ps, FnG P w K mg base CX0 k f fd ps sp ∧ Meth K C m f ∧ Binds K fd ps []
/-- a property -/
structure PFn (P : Program) (w : World) (K : PySem.W.Frag) (mg : Str → Option Value) (base : Heap) (k : Nat) (C : Addr) (m : Str) (sp : Sp) : Prop where
  ex : ∃ p f fd ps, FnG P w K mg base CX0 k f fd ps sp ∧ PropOf K C m p f ∧ Binds K fd ps []
/-- a class that is made by its __init__ -/
structure CFn (P : Program) (w : World) (K : PySem.W.Frag) (mg : Str → Option Value) (base : Heap) (k : Nat) (x : Str) (C : Addr) (sp : Sp) : Prop where
  ex : ∃ f fd ps, FnG P w K mg base CX0 k f fd ps sp ∧ Mk K C f ∧ mg x = some (.ref C) ∧ Binds K fd ps []

section
variable {X : Cx} {B : Bs} {ρ ρ1 ρ2 ρ3 ρ' : Ro} {e a b c o : Expr} {d d1 d2 d3 p p' : D} {pos apos : Pos} {es : List Expr} {ds : List D} {k : Nat} {x m : Str} {C : List D → D → Prop} {CI : D → List D → D → D → Prop} {px : Pos} {A : Addr}

theorem Al.alx {a : Addr} {G H G' H' : Hp} (x : Al G H G' H') : AlX a G H G' H' := ⟨x.g, x.s, fun b o _ e => x.h b o e, x.n⟩

/-- f(e, ..), told of data -/
theorem de_call (F : GFn X.prog X.w X.K X.mg X.base k x (spP X.K C)) (hr : Rm k X.A) (ha : DA X B ρ (e :: es) ds ρ1) (hC : C ds d) (hg : Gl X x := by rfl) (hdb : (x == ("__debug__" : Str)) = false := by decide) (he : starEach (e :: es) X.env = (false, eval e X.env) :: starEach es X.env := by rfl) (hpl : (backTo pos (starEach es X.env)).any (·.1) = false := by rfl) :
    DE X B ρ (.Call (.Name x px) (e :: es) [] pos) d ρ1 := by
  obtain ⟨f, fd, ps, F, hm, hk, hb⟩ := F.ex
  refine PE.imp (pe_callG F hr hg hm hk hb .nil pass0 ha hdb he hpl) fun σ H Q ⟨α, G, E, q⟩ => ⟨α, G, E, fun vs G1 H1 g1 E1 r1 => ?_⟩
  exact ⟨G1, ds, d, E1.sub, by simpa using r1, hC, fun v G2 H2 x r2 => q v G2 H2 (g1.trans x.g) (E1.al x) r2⟩
theorem do_call (F : GFn X.prog X.w X.K X.mg X.base k x (spO X.K C)) (hr : Rm k X.A) (ha : DA X B ρ (e :: es) ds ρ1) (hC : C ds d) (hg : Gl X x := by rfl) (hdb : (x == ("__debug__" : Str)) = false := by decide) (he : starEach (e :: es) X.env = (false, eval e X.env) :: starEach es X.env := by rfl) (hpl : (backTo pos (starEach es X.env)).any (·.1) = false := by rfl) :
    DO X B ρ (.Call (.Name x px) (e :: es) [] pos) d ρ1 := by
  obtain ⟨f, fd, ps, F, hm, hk, hb⟩ := F.ex
  refine PE.imp (pe_callG F hr hg hm hk hb .nil pass0 ha hdb he hpl) fun σ H Q ⟨α, G, E, q⟩ => ⟨α, G, E, fun vs G1 H1 g1 E1 r1 => ?_⟩
  exact ⟨G1, ds, d, E1.sub, by simpa using r1, hC, fun b G2 H2 x hb nb w => q b G2 H2 (g1.trans x.g) (E1.al x) nb w (E1.fresh hb) fun j e he => E1.ownNe hb he⟩
/-- arguments: the own thing of slot i, then data -/
def tAI (K : PySem.W.Frag) (B : Bs) (ρ : Ro) (i : Nat) (ds : List D) (ρ' : Ro) : TA := fun σ H Q => ∃ α G, EnvA K B α ρ σ G H ∧ ∀ vs G' H', Same G G' → EnvA K B α ρ' σ G' H' → RepA K G' vs ds → Q (.ref (α i) :: vs) H'
abbrev DAI (X : Cx) (B : Bs) (ρ : Ro) (i : Nat) (es : List Expr) (ds : List D) (ρ' : Ro) : Prop := PA X es (tAI X.K B ρ i ds ρ')
theorem dai_cons (i : Nat) {x : Str} (hρ : ρ[i]? = some (.own p)) (hr : DA X B ρ es ds ρ') (hN : X.N[i]? = some x := by rfl) (hv : Vis X.env.scope x := by first | exact Or.inl rfl | exact Or.inr (Or.inl rfl) | exact Or.inr (Or.inr rfl)) (hd : (x == ("__debug__" : Str)) = false := by decide)
    (hcd : (x == ("__classdict__" : Str)) = false := by decide) (hs : starEach (.Name x px :: es) X.env = (false, eval (.Name x px) X.env) :: starEach es X.env := by rfl) : DAI X B ρ i (.Name x px :: es) ds ρ' :=
  PA.imp (pa_cons (pe_var hN hv hd hcd) hr hs) fun σ H Q ⟨α, G, E, q⟩ => ⟨_, (E.own i p hρ).1, α, G, E, fun vs G1 H1 g1 E1 r1 => q vs G1 H1 g1 E1 r1⟩
theorem de_callI {i : Nat} (F : GFn X.prog X.w X.K X.mg X.base k x (spI X.K CI)) (hr : Rm k X.A) (ha : DAI X B ρ i (e :: es) ds ρ1) (hi : ρ1[i]? = some (.own p)) (hC : CI p ds d p') (hg : Gl X x := by rfl) (hdb : (x == ("__debug__" : Str)) = false := by decide) (he : starEach (e :: es) X.env = (false, eval e X.env) :: starEach es X.env := by rfl) (hpl : (backTo pos (starEach es X.env)).any (·.1) = false := by rfl) :
    DE X B ρ (.Call (.Name x px) (e :: es) [] pos) d (ρ1.set i (.own p')) := by
  obtain ⟨f, fd, ps, F, hm, hk, hb⟩ := F.ex
  refine PE.imp (pe_callG F hr hg hm hk hb .nil pass0 ha hdb he hpl) fun σ H Q ⟨α, G, E, q⟩ => ⟨α, G, E, fun vs G1 H1 g1 E1 r1 => ?_⟩
  obtain ⟨h1, h2, h3, h4⟩ := E1.own i p hi
  exact ⟨G1, α i, vs, p, ds, d, p', by simp, E1.sub, h2, h3, r1, hC, fun v G2 H2 x w r2 => q v G2 H2 (g1.trans x.g) (E1.alx hi x w) r2⟩
theorem do_callI {i : Nat} (F : GFn X.prog X.w X.K X.mg X.base k x (spIO X.K CI)) (hr : Rm k X.A) (ha : DAI X B ρ i (e :: es) ds ρ1) (hi : ρ1[i]? = some (.own p)) (hC : CI p ds d p') (hg : Gl X x := by rfl) (hdb : (x == ("__debug__" : Str)) = false := by decide) (he : starEach (e :: es) X.env = (false, eval e X.env) :: starEach es X.env := by rfl) (hpl : (backTo pos (starEach es X.env)).any (·.1) = false := by rfl) :
    DO X B ρ (.Call (.Name x px) (e :: es) [] pos) d (ρ1.set i (.own p')) := by
  obtain ⟨f, fd, ps, F, hm, hk, hb⟩ := F.ex
  refine PE.imp (pe_callG F hr hg hm hk hb .nil pass0 ha hdb he hpl) fun σ H Q ⟨α, G, E, q⟩ => ⟨α, G, E, fun vs G1 H1 g1 E1 r1 => ?_⟩
  obtain ⟨h1, h2, h3, h4⟩ := E1.own i p hi
  exact ⟨G1, α i, vs, p, ds, d, p', by simp, E1.sub, h2, h3, r1, hC, fun b G2 H2 x w hb nb w2 => q b G2 H2 (g1.trans x.g) (E1.alx hi x w) nb w2 (E1.fresh hb) (ownNeX E1 hi hb)⟩

/-! ### instances -/
theorem de_fld {f : Str} {fs : List (Str × D)} (c : Cls X.K A) (n : NoAttr X.K A f) (h : DE X B ρ e (.ins A fs) ρ') (hl : fs.lookup f = some d) (hb : attributeBase e f X.env (eval e X.env) = eval e X.env := by rfl) : DE X B ρ (.Attribute e f pos) d ρ' :=
  PE.imp (pe_fld h hb) fun σ H Q ⟨α, G, E, q⟩ => ⟨α, G, E, fun v G1 H1 g1 E1 r1 => by
    obtain ⟨a, dx, vs, rfl, h1, h2⟩ := r1.ins_inv
    obtain ⟨y, hy, ry⟩ := h2.lookup hl
    exact ⟨a, A, dx, vs, y, rfl, E1.sub _ _ h1, c, n, hy, q y G1 H1 g1 E1 ry⟩⟩
theorem de_prop {f : Str} {fs : List (Str × D)} (c : Cls X.K A) (F : PFn X.prog X.w X.K X.mg X.base k A f (spP X.K C)) (hr : Rm (k + 1) X.A) (h : DE X B ρ e (.ins A fs) ρ') (hC : C [.ins A fs] d) (hb : attributeBase e f X.env (eval e X.env) = eval e X.env := by rfl) : DE X B ρ (.Attribute e f pos) d ρ' := by
  obtain ⟨p, g, fd, ps, F, hp, hbn⟩ := F.ex
  refine PE.imp (pe_propG h c hp F hr hbn .nil pass0 hb) fun σ H Q ⟨α, G, E, q⟩ => ⟨α, G, E, fun v G1 H1 g1 E1 r1 => ?_⟩
  obtain ⟨a, dx, vs, rfl, h1, h2⟩ := r1.ins_inv
  exact ⟨a, dx, vs, rfl, E1.sub _ _ h1, G1, [.ins A fs], d, E1.sub, .cons r1 .nil, hC, fun v G2 H2 x r2 => q v G2 H2 (g1.trans x.g) (E1.al x) r2⟩
theorem de_meth {fs : List (Str × D)} (c : Cls X.K A) (F : MFn X.prog X.w X.K X.mg X.base k A m (spP X.K C)) (hr : Rm k X.A) (h : DE X B ρ o (.ins A fs) ρ1) (hl : fs.lookup m = none) (ha : DA X B ρ1 (e :: es) ds ρ2) (hC : C (.ins A fs :: ds) d)
    (hst : starEach (e :: es) X.env = (false, eval e X.env) :: starEach es X.env := by rfl) (hpl : (backTo pos (starEach es X.env)).any (·.1) = false := by rfl) {pl : Sem Bool}
    (ht : eval (.Call (.Attribute o m apos) (e :: es) [] pos) X.env = (do
      let ov ← eval o X.env
      standAt apos.atName
      let (f, first) ← holding [ov] (getMethod ov m pl)
      callWith pos f first (backTo pos (starEach (e :: es) X.env)) (backToKw pos (keywordEach [] X.env))) := by rfl) :
    DE X B ρ (.Call (.Attribute o m apos) (e :: es) [] pos) d ρ2 := by
  obtain ⟨f, fd, ps, F, hm, hbn⟩ := F.ex
  refine PE.imp (pe_methG h c hm F hr hbn .nil pass0 ha hst hpl ht) fun σ H Q ⟨α, G, E, q⟩ => ⟨α, G, E, fun v G1 H1 g1 E1 r1 => ?_⟩
  obtain ⟨a, dx, vs, rfl, h1, h2⟩ := r1.ins_inv
  refine ⟨a, dx, vs, rfl, E1.sub _ _ h1, h2.lookupN hl, α, G1, E1, fun us G2 H2 g2 E2 r2 => ?_⟩
  exact ⟨G2, .ins A fs :: ds, d, E2.sub, .cons (r1.mono g2) (by simpa using r2), hC, fun v G3 H3 x r3 => q v G3 H3 (g1.trans (g2.trans x.g)) (E2.al x) r3⟩
theorem do_meth {fs : List (Str × D)} (c : Cls X.K A) (F : MFn X.prog X.w X.K X.mg X.base k A m (spO X.K C)) (hr : Rm k X.A) (h : DE X B ρ o (.ins A fs) ρ1) (hl : fs.lookup m = none) (ha : DA X B ρ1 (e :: es) ds ρ2) (hC : C (.ins A fs :: ds) d)
    (hst : starEach (e :: es) X.env = (false, eval e X.env) :: starEach es X.env := by rfl) (hpl : (backTo pos (starEach es X.env)).any (·.1) = false := by rfl) {pl : Sem Bool}
    (ht : eval (.Call (.Attribute o m apos) (e :: es) [] pos) X.env = (do
      let ov ← eval o X.env
      standAt apos.atName
      let (f, first) ← holding [ov] (getMethod ov m pl)
      callWith pos f first (backTo pos (starEach (e :: es) X.env)) (backToKw pos (keywordEach [] X.env))) := by rfl) :
    DO X B ρ (.Call (.Attribute o m apos) (e :: es) [] pos) d ρ2 := by
  obtain ⟨f, fd, ps, F, hm, hbn⟩ := F.ex
  refine PE.imp (pe_methG h c hm F hr hbn .nil pass0 ha hst hpl ht) fun σ H Q ⟨α, G, E, q⟩ => ⟨α, G, E, fun v G1 H1 g1 E1 r1 => ?_⟩
  obtain ⟨a, dx, vs, rfl, h1, h2⟩ := r1.ins_inv
  refine ⟨a, dx, vs, rfl, E1.sub _ _ h1, h2.lookupN hl, α, G1, E1, fun us G2 H2 g2 E2 r2 => ?_⟩
  exact ⟨G2, .ins A fs :: ds, d, E2.sub, .cons (r1.mono g2) (by simpa using r2), hC, fun b G3 H3 x hb nb w => q b G3 H3 (g1.trans (g2.trans x.g)) (E2.al x) nb w (E2.fresh hb) fun j e he => E2.ownNe hb he⟩
/-- C(e, ..): the new instance is the thing that __init__ changes -/
theorem do_make (F : CFn X.prog X.w X.K X.mg X.base k x A (spI X.K CI)) (hr : Rm (k + 1) X.A) (ha : DA X B ρ (e :: es) ds ρ1) (hC : CI (.ins A []) ds .non d) (hg : Gl X x := by rfl) (hdb : (x == ("__debug__" : Str)) = false := by decide) (he : starEach (e :: es) X.env = (false, eval e X.env) :: starEach es X.env := by rfl) (hpl : (backTo pos (starEach es X.env)).any (·.1) = false := by rfl) :
    DO X B ρ (.Call (.Name x px) (e :: es) [] pos) d ρ1 := by
  obtain ⟨f, fd, ps, F, hmk, hm, hb⟩ := F.ex
  refine PE.imp (pe_makeG hmk F hr hg hm hb .nil pass0 ha hdb he hpl) fun σ H Q ⟨α, G, E, q⟩ => ⟨α, G, E, fun vs G1 H1 g1 E1 r1 => fun x dx hx hdx nex => ?_⟩
  have sub1 : Same G1 (upd (upd H1 dx (.own x)) x (.ins A dx [])) := fun b o z => by
    have zz := E1.sub b o z
    rw [upd_ne (ne_of_none zz hx), upd_ne (ne_of_none zz hdx)]; exact zz
  refine ⟨G1, x, vs, .ins A [], ds, .non, d, by simp, sub1, E1.sub.free hx, ⟨dx, [], upd_same, .nil⟩, r1, hC, fun v G2 H2 xx w r2 => ⟨r2.non_inv, ?_⟩⟩
  have kp : Al G1 H1 G2 H2 := by
    refine ⟨xx.g, fun b o z => ?_, xx.s, fun b o z n => ?_⟩
    · have n1 := ne_of_none z hx
      refine xx.h b o n1 ?_
      rw [upd_ne n1, upd_ne (ne_of_none z hdx)]; exact z
    · refine xx.n b o ?_ n
      rw [upd_ne (ne_of_none z hx), upd_ne (ne_of_none z hdx)]; exact z
  have nx : G2 x = none := xx.n x _ upd_same (E1.sub.free hx)
  exact q x G2 H2 (g1.trans xx.g) (E1.al kp) nx w (E1.fresh hx) fun j e he => E1.ownNe hx he

/-! ### a def keeps its promise -/
end
section
variable {P : Program} {w : World} {K : PySem.W.Frag} {mg : Str → Option Value} {base : Heap} {x qual : Str} {st : Stmt} {f : Addr} {fd : FuncData} {N ps : List Str} {k : Nat} {C : List D → D → Prop} {CI : D → List D → D → D → Prop}
theorem start_len {N : List Str} {vs : List V} (h : vs.length ≤ N.length) : (L2.start N vs).length = N.length := by
  unfold L2.start; simp; omega
theorem start_get {N : List Str} {vs : List V} {i : Nat} {v : V} (h : vs[i]? = some v) : (L2.start N vs)[i]? = some (some v) := by
  unfold L2.start
  have hi : i < vs.length := (List.getElem?_eq_some_iff.mp h).1
  rw [List.getElem?_append_left (by simpa using hi), List.getElem?_map, h]; rfl
def start0 (n : Nat) (ds : List D) : Ro := ds.map .dat ++ List.replicate (n - ds.length) .un
theorem start0_get {n : Nat} {ds : List D} {i : Nat} {s : Slot} (h : (start0 n ds)[i]? = some s) : (∃ d, ds[i]? = some d ∧ s = .dat d) ∨ s = .un := by
  unfold start0 at h
  by_cases hi : i < ds.length
  · rw [List.getElem?_append_left (by simpa using hi), List.getElem?_map] at h
    cases e : ds[i]? with
    | none => rw [e] at h; cases h
    | some d => rw [e] at h; exact .inl ⟨d, rfl, by simpa using h.symm⟩
  · rw [List.getElem?_append_right (by simpa using hi), List.getElem?_replicate] at h
    split at h
    · exact .inr (by simpa using h.symm)
    · cases h
theorem env_start {G H : Hp} {vs : List V} {ds : List D} (s : Same G H) (r : RepA K G vs ds) (hl : vs.length ≤ N.length) : EnvA K ⟨G, H, []⟩ (fun _ => 0) (start0 N.length ds) (L2.start N vs) G H where
  len := by rw [start_len hl]; unfold start0; simp; rw [r.length] at hl; omega
  sub := s
  grow := Same.refl _
  keep := fun a o e n _ => ⟨e, n⟩
  dat := fun i d h => by
    rcases start0_get h with ⟨d', h1, h2⟩ | h
    · cases h2
      obtain ⟨v, h3, h4⟩ := r.get h1
      exact ⟨v, start_get h3, h4⟩
    · cases h
  own := fun i d h => by
    rcases start0_get h with ⟨d', h1, h2⟩ | h
    · cases h2
    · cases h
  inj := fun i j d e h => by
    rcases start0_get h with ⟨d', h1, h2⟩ | h
    · cases h2
    · cases h
  io := fun p hp => by cases hp
theorem al_of {B : Bs} {α : Nat → Addr} {ρ : Ro} {σ : L2.St} {G H : Hp} (E : EnvA K B α ρ σ G H) (hb : Same B.G B.H) (hi : B.io = []) : Al B.G B.H G H where
  g := E.grow
  h := fun a o e => by
    cases q : B.G a with
    | some u => have z := hb _ _ q; rw [e] at z; cases z; exact E.sub _ _ (E.grow _ _ q)
    | none => exact (E.keep a o e q (by rw [hi]; intro p hp; cases hp)).1
  s := E.sub
  n := fun a o e n => (E.keep a o e n (by rw [hi]; intro p hp; cases hp)).2
/-- THE RULE for a def: pure, a datum handed back -/
theorem fn_P (F : Fun K x qual st f fd) (S : FnScope N ps (defScope st)) (hl : ∀ ds d, C ds d → ds.length = ps.length) (hN : ps.length ≤ N.length)
    (body : ∀ (cdv : Value) (A : Around) (outer : List Env) (s : Shared) (H : Hp) (E : XK) (B : Bs) (ds : List D) (d : D), Rm k (A.deeper (envOfC qual (defScope st) s.heap.objs.size f cdv)) → (∀ (i : Nat), ∀ p ∈ B.io, p.1 ≠ i) → C ds d →
      DSs (cxOf CX0 P w K mg base N qual (defScope st) f cdv A outer s H E).nox B (start0 N.length ds) (defBody st) { nx := fun _ => d = .non, rt := fun d' _ => d' = d }) : FnG P w K mg base CX0 (k + 1) f fd ps (spP K C) := by
  refine fn_ofG0 F S (fun vs H Q E h => ?_) (fun cdv A outer s H vs Q E hr h => ?_)
  · obtain ⟨G, ds, d, _, r, c, _⟩ := h
    rw [r.length]; exact hl ds d c
  · obtain ⟨G, ds, d, sm, r, c, q⟩ := h
    have hlv : vs.length ≤ N.length := by rw [r.length, hl ds d c]; exact hN
    refine ⟨_, body cdv A outer s H E ⟨G, H, []⟩ ds d hr (fun i p hp => by cases hp) c, ⟨_, G, env_start sm r hlv⟩, ⟨?_, ?_, ?_, ?_, ?_⟩⟩
    · intro ρ α σ G' H' z E'
      have z : d = .non := z
      subst z
      exact q _ G' H' (al_of E' sm rfl) .non
    · intro d' ρ α σ G' H' v z E' r'
      have z : d' = d := z
      subst z
      exact q _ G' H' (al_of E' sm rfl) r'
    · intro d' ρ α σ G' H' a z; exact z.elim
    · intro ρ α σ G' H' z; exact z.elim
    · intro ρ α σ G' H' z; exact z.elim
/-- .. a new own thing handed back -/
theorem fn_O (F : Fun K x qual st f fd) (S : FnScope N ps (defScope st)) (hl : ∀ ds d, C ds d → ds.length = ps.length) (hN : ps.length ≤ N.length)
    (body : ∀ (cdv : Value) (A : Around) (outer : List Env) (s : Shared) (H : Hp) (E : XK) (B : Bs) (ds : List D) (d : D), Rm k (A.deeper (envOfC qual (defScope st) s.heap.objs.size f cdv)) → (∀ (i : Nat), ∀ p ∈ B.io, p.1 ≠ i) → C ds d →
      DSs (cxOf CX0 P w K mg base N qual (defScope st) f cdv A outer s H E).nox B (start0 N.length ds) (defBody st) { ro := fun d' _ => d' = d }) : FnG P w K mg base CX0 (k + 1) f fd ps (spO K C) := by
  refine fn_ofG0 F S (fun vs H Q E h => ?_) (fun cdv A outer s H vs Q E hr h => ?_)
  · obtain ⟨G, ds, d, _, r, c, _⟩ := h
    rw [r.length]; exact hl ds d c
  · obtain ⟨G, ds, d, sm, r, c, q⟩ := h
    have hlv : vs.length ≤ N.length := by rw [r.length, hl ds d c]; exact hN
    refine ⟨_, body cdv A outer s H E ⟨G, H, []⟩ ds d hr (fun i p hp => by cases hp) c, ⟨_, G, env_start sm r hlv⟩, ⟨?_, ?_, ?_, ?_, ?_⟩⟩
    · intro ρ α σ G' H' z; exact z.elim
    · intro d' ρ α σ G' H' v z; exact z.elim
    · intro d' ρ α σ G' H' a z E' n ow b ne
      have z : d' = d := z
      subst z
      exact q a G' H' (al_of E' sm rfl) b n ow
    · intro ρ α σ G' H' z; exact z.elim
    · intro ρ α σ G' H' z; exact z.elim
def startI (n : Nat) (p : D) (ds : List D) : Ro := .own p :: start0 (n - 1) ds
theorem env_startI {G H : Hp} {a : Addr} {vs : List V} {p : D} {ds : List D} (s : Same G H) (n : G a = none) (o : OwnOk K G H a p) (r : RepA K G vs ds) (hl : vs.length + 1 ≤ N.length) : EnvA K ⟨G, H, [(0, a)]⟩ (fun _ => a) (startI N.length p ds) (L2.start N (.ref a :: vs)) G H where
  len := by rw [start_len (by simpa using hl)]; unfold startI start0; simp; rw [r.length] at hl; omega
  sub := s
  grow := Same.refl _
  keep := fun b u e n _ => ⟨e, n⟩
  dat := fun i d h => by
    cases i with
    | zero => simp [startI] at h
    | succ i =>
      have h : (start0 (N.length - 1) ds)[i]? = some (.dat d) := by simpa [startI] using h
      rcases start0_get h with ⟨d', h1, h2⟩ | h
      · cases h2
        obtain ⟨v, h3, h4⟩ := r.get h1
        exact ⟨v, start_get (by simpa using h3), h4⟩
      · cases h
  own := fun i d h => by
    cases i with
    | zero =>
      have e : d = p := by
        have h : some (Slot.own p) = some (Slot.own d) := h
        cases h; rfl
      subst e
      exact ⟨start_get rfl, n, o, .inr ⟨_, List.mem_singleton.mpr rfl, rfl⟩⟩
    | succ i =>
      have h : (start0 (N.length - 1) ds)[i]? = some (.own d) := by simpa [startI] using h
      rcases start0_get h with ⟨d', h1, h2⟩ | h
      · cases h2
      · cases h
  inj := fun i j d e h1 h2 _ => by
    have g : ∀ (m : Nat) (y : D), (startI N.length p ds)[m]? = some (.own y) → m = 0 := fun m y h => by
      cases m with
      | zero => rfl
      | succ m =>
        have h : (start0 (N.length - 1) ds)[m]? = some (.own y) := by simpa [startI] using h
        rcases start0_get h with ⟨d', h1, h2⟩ | h
        · cases h2
        · cases h
    rw [g i d h1, g j e h2]
  io := fun q hq => by
    have hq : q = (0, a) := by simpa using hq
    subst hq
    exact ⟨⟨p, rfl⟩, rfl⟩
theorem alx_of {G0 H0 : Hp} {a : Addr} {α : Nat → Addr} {ρ : Ro} {σ : L2.St} {G H : Hp} {p' : D} (E : EnvA K ⟨G0, H0, [(0, a)]⟩ α ρ σ G H) (hb : Same G0 H0) (n : G0 a = none) (h0 : ρ[0]? = some (.own p')) : AlX a G0 H0 G H ∧ OwnOk K G H a p' := by
  have ha : α 0 = a := (E.io (0, a) (by simp)).2
  obtain ⟨h1, h2, h3, h4⟩ := E.own 0 p' h0
  rw [ha] at h2 h3
  refine ⟨⟨E.grow, E.sub, fun b o ne e => ?_, fun b o e nb => ?_⟩, h3⟩
  · cases q : G0 b with
    | some u => have z := hb _ _ q; rw [e] at z; cases z; exact E.sub _ _ (E.grow _ _ q)
    | none => exact (E.keep b o e q (by intro p hp; simp at hp; subst hp; exact Ne.symm ne)).1
  · by_cases y : b = a
    · rw [y]; exact h2
    · exact (E.keep b o e nb (by intro p hp; simp at hp; subst hp; exact Ne.symm y)).2
/-- .. its first parameter may be changed -/
theorem fn_I (F : Fun K x qual st f fd) (S : FnScope N ps (defScope st)) (hl : ∀ p ds d p', CI p ds d p' → ds.length + 1 = ps.length) (hN : ps.length ≤ N.length)
    (body : ∀ (cdv : Value) (A : Around) (outer : List Env) (s : Shared) (H : Hp) (E : XK) (B : Bs) (p : D) (ds : List D) (d p' : D), Rm k (A.deeper (envOfC qual (defScope st) s.heap.objs.size f cdv)) → (∀ (i : Nat), i ≠ 0 → ∀ p ∈ B.io, p.1 ≠ i) → CI p ds d p' →
      DSs (cxOf CX0 P w K mg base N qual (defScope st) f cdv A outer s H E).nox B (startI N.length p ds) (defBody st) { nx := fun r => d = .non ∧ r[0]? = some (.own p'), rt := fun d' r => d' = d ∧ r[0]? = some (.own p') }) : FnG P w K mg base CX0 (k + 1) f fd ps (spI K CI) := by
  refine fn_ofG0 F S (fun vs H Q E h => ?_) (fun cdv A outer s H vs Q E hr h => ?_)
  · obtain ⟨G, a, vs', p, ds, d, p', rfl, _, _, _, r, c, _⟩ := h
    show vs'.length + 1 = ps.length
    rw [r.length]; exact hl p ds d p' c
  · obtain ⟨G, a, vs', p, ds, d, p', rfl, sm, na, oa, r, c, q⟩ := h
    have hlv : vs'.length + 1 ≤ N.length := by rw [r.length, hl p ds d p' c]; exact hN
    refine ⟨_, body cdv A outer s H E ⟨G, H, [(0, a)]⟩ p ds d p' hr (by intro i hi q hq; simp at hq; subst hq; exact Ne.symm hi) c, ⟨_, G, env_startI sm na oa r hlv⟩, ⟨?_, ?_, ?_, ?_, ?_⟩⟩
    · intro ρ α σ G' H' z E'
      obtain ⟨z, z0⟩ := z
      subst z
      obtain ⟨x1, x2⟩ := alx_of E' sm na z0
      exact q _ G' H' x1 x2 .non
    · intro d' ρ α σ G' H' v z E' r'
      obtain ⟨z, z0⟩ := z
      subst z
      obtain ⟨x1, x2⟩ := alx_of E' sm na z0
      exact q _ G' H' x1 x2 r'
    · intro d' ρ α σ G' H' a z; exact z.elim
    · intro ρ α σ G' H' z; exact z.elim
    · intro ρ α σ G' H' z; exact z.elim
theorem fn_IO (F : Fun K x qual st f fd) (S : FnScope N ps (defScope st)) (hl : ∀ p ds d p', CI p ds d p' → ds.length + 1 = ps.length) (hN : ps.length ≤ N.length)
    (body : ∀ (cdv : Value) (A : Around) (outer : List Env) (s : Shared) (H : Hp) (E : XK) (B : Bs) (p : D) (ds : List D) (d p' : D), Rm k (A.deeper (envOfC qual (defScope st) s.heap.objs.size f cdv)) → (∀ (i : Nat), i ≠ 0 → ∀ p ∈ B.io, p.1 ≠ i) → CI p ds d p' →
      DSs (cxOf CX0 P w K mg base N qual (defScope st) f cdv A outer s H E).nox B (startI N.length p ds) (defBody st) { ro := fun d' r => d' = d ∧ r[0]? = some (.own p') }) : FnG P w K mg base CX0 (k + 1) f fd ps (spIO K CI) := by
  refine fn_ofG0 F S (fun vs H Q E h => ?_) (fun cdv A outer s H vs Q E hr h => ?_)
  · obtain ⟨G, a, vs', p, ds, d, p', rfl, _, _, _, r, c, _⟩ := h
    show vs'.length + 1 = ps.length
    rw [r.length]; exact hl p ds d p' c
  · obtain ⟨G, a, vs', p, ds, d, p', rfl, sm, na, oa, r, c, q⟩ := h
    have hlv : vs'.length + 1 ≤ N.length := by rw [r.length, hl p ds d p' c]; exact hN
    refine ⟨_, body cdv A outer s H E ⟨G, H, [(0, a)]⟩ p ds d p' hr (by intro i hi q hq; simp at hq; subst hq; exact Ne.symm hi) c, ⟨_, G, env_startI sm na oa r hlv⟩, ⟨?_, ?_, ?_, ?_, ?_⟩⟩
    · intro ρ α σ G' H' z; exact z.elim
    · intro d' ρ α σ G' H' v z; exact z.elim
    · intro d' ρ α σ G' H' b z E' n ow bb ne
      obtain ⟨z, z0⟩ := z
      subst z
      obtain ⟨x1, x2⟩ := alx_of E' sm na z0
      exact q b G' H' x1 x2 bb n ow
    · intro ρ α σ G' H' z; exact z.elim
    · intro ρ α σ G' H' z; exact z.elim
end
end DL

set_option maxRecDepth 100000
set_option maxHeartbeats 4000000
namespace DL
open PySem PySem.Spec PyProof.Rows L2

/-! ### the strongest rule of an operator -/
def opA (X : Cx) (f : Value → Value → Sem Value) : R2 := fun x y H Q => ∃ r, OpR X f r ∧ r x y H Q
theorem opr_a {X : Cx} {f : Value → Value → Sem Value} : OpR X f (opA X f) := fun pins s σ H x y v u Q I rx ry ⟨_, h, q⟩ => h pins s σ H x y v u Q I rx ry q
def ixA (X : Cx) : R2 := fun x y H Q => ∃ r, IxR X r ∧ r x y H Q
theorem ixr_a {X : Cx} : IxR X (ixA X) := fun e1 e2 pins s σ H x y v u Q I rx ry ⟨_, h, q⟩ => h e1 e2 pins s σ H x y v u Q I rx ry q
def caA (X : Cx) (f : Value) : List V → Hp → VK → Prop := fun xs H Q => ∃ r, CallR X f r ∧ r xs H Q
theorem car_a {X : Cx} {f : Value} : CallR X f (caA X f) := fun pins s σ H xs us Q I rx ⟨_, h, q⟩ => h pins s σ H xs us Q I rx q
def slA (X : Cx) : V → Option Int → Option Int → Hp → VK → Prop := fun x lo hi H Q => ∃ r, SlR X r ∧ r x lo hi H Q
theorem slr_a {X : Cx} : SlR X (slA X) := fun pins s σ H x v vl vu lo hi sl Q I rx hs pl pu ⟨_, h, q⟩ => h pins s σ H x v vl vu lo hi sl Q I rx hs pl pu q
def mtA (X : Cx) (id : String) : V → List V → Hp → VK → Prop := fun x xs H Q => ∃ r, MtR X id r ∧ r x xs H Q
theorem mtr_a {X : Cx} {id : String} : MtR X id (mtA X id) := fun pins s σ H x xs v us Q I rx ry ⟨_, h, q⟩ => h pins s σ H x xs v us Q I rx ry q

abbrev BinD (X : Cx) (op : Operator) (d1 d2 d : D) : Prop := RD X.K (opA X (binaryOp op)) d1 d2 d
abbrev BinO (X : Cx) (op : Operator) (d1 d2 d : D) : Prop := RO X.K (opA X (binaryOp op)) d1 d2 d
abbrev CmpD (X : Cx) (op : CmpOp) (d1 d2 d : D) : Prop := RD X.K (opA X (compareOp op)) d1 d2 d
abbrev IxD (X : Cx) (d1 d2 d : D) : Prop := RD X.K (ixA X) d1 d2 d
abbrev SlD (X : Cx) (d1 : D) (lo hi : Option Int) (d : D) : Prop := RS X.K (slA X) d1 lo hi d
abbrev SlO (X : Cx) (d1 : D) (lo hi : Option Int) (d : D) : Prop := RSO X.K (slA X) d1 lo hi d
abbrev CaD (X : Cx) (f : Value) (ds : List D) (d : D) : Prop := RC X.K (caA X f) ds d
abbrev CaO (X : Cx) (f : Value) (ds : List D) (d : D) : Prop := RCO X.K (caA X f) ds d
abbrev MtD (X : Cx) (T id : String) (d1 : D) (ds : List D) (d : D) : Prop := RM X.K T (mtA X id) d1 ds d
abbrev MtO (X : Cx) (T id : String) (d1 : D) (ds : List D) (d : D) : Prop := RMO X.K T (mtA X id) d1 ds d

section
variable {X : Cx} {B : Bs} {ρ ρ1 ρ2 ρ3 ρ' : Ro} {e a b c o : Expr} {d d1 d2 d3 : D} {pos apos px : Pos} {es : List Expr} {ds : List D} {x : Str}
theorem RO.rd {K : PySem.W.Frag} {r : R2} (h : RO K r d1 d2 d) : RD K r d1 d2 d := fun x y G H s r1 r2 Q q => h x y G H s r1 r2 Q fun b G1 H1 al hb nb w => by
  obtain ⟨o, ho⟩ := w.at
  have g : Same G1 (upd G1 b o) := same_upd nb
  refine q _ (upd G1 b o) H1 ⟨al.g.trans g, al.h, fun z u e => ?_, fun z u e n => ?_⟩ (w.rep ho nb)
  · by_cases y : z = b
    · subst y; rw [upd_same] at e; cases e; exact ho
    · rw [upd_ne y] at e; exact al.s _ _ e
  · rw [upd_ne (ne_of_none e hb)]; exact al.n _ _ e n
theorem RCO.rc {K : PySem.W.Frag} {r : List V → Hp → VK → Prop} (h : RCO K r ds d) : RC K r ds d := fun xs G H s r1 Q q => h xs G H s r1 Q fun b G1 H1 al hb nb w => by
  obtain ⟨o, ho⟩ := w.at
  have g : Same G1 (upd G1 b o) := same_upd nb
  refine q _ (upd G1 b o) H1 ⟨al.g.trans g, al.h, fun z u e => ?_, fun z u e n => ?_⟩ (w.rep ho nb)
  · by_cases y : z = b
    · subst y; rw [upd_same] at e; cases e; exact ho
    · rw [upd_ne y] at e; exact al.s _ _ e
  · rw [upd_ne (ne_of_none e hb)]; exact al.n _ _ e n
theorem RSO.rs {K : PySem.W.Frag} {r : V → Option Int → Option Int → Hp → VK → Prop} {l u : Option Int} (h : RSO K r d1 l u d) : RS K r d1 l u d := fun xs G H s r1 Q q => h xs G H s r1 Q fun b G1 H1 al hb nb w => by
  obtain ⟨o, ho⟩ := w.at
  have g : Same G1 (upd G1 b o) := same_upd nb
  refine q _ (upd G1 b o) H1 ⟨al.g.trans g, al.h, fun z u e => ?_, fun z u e n => ?_⟩ (w.rep ho nb)
  · by_cases y : z = b
    · subst y; rw [upd_same] at e; cases e; exact ho
    · rw [upd_ne y] at e; exact al.s _ _ e
  · rw [upd_ne (ne_of_none e hb)]; exact al.n _ _ e n

/-! ### the forms that the texts use -/
theorem e_bin {op : Operator} (ha : DE X B ρ a d1 ρ1) (hb : DE X B ρ1 b d2 ρ2) (hr : BinD X op d1 d2 d) : DE X B ρ (.BinOp a op b pos) d ρ2 := de_op opr_a ha hb hr
theorem o_bin {op : Operator} (ha : DE X B ρ a d1 ρ1) (hb : DE X B ρ1 b d2 ρ2) (hr : BinO X op d1 d2 d) : DO X B ρ (.BinOp a op b pos) d ρ2 := do_op opr_a ha hb hr
theorem e_cmp {op : CmpOp} (ha : DE X B ρ a d1 ρ1) (hb : DE X B ρ1 b d2 ρ2) (hr : CmpD X op d1 d2 d) (hm : behindInMarks op b = false := by first | exact nobehind _ (by decide) (by decide) | rfl) : DE X B ρ (.Compare a [op] [b] pos) d ρ2 := de_cmp opr_a ha hb hm hr
theorem t_cmp {op : CmpOp} {k : Bool} (ha : DE X B ρ a d1 ρ1) (hb : DE X B ρ1 b d2 ρ2) (hr : CmpD X op d1 d2 (.bl k)) (hm : behindInMarks op b = false := by first | exact nobehind _ (by decide) (by decide) | rfl) : DT X B ρ (.Compare a [op] [b] pos) k ρ2 := dt_cmp opr_a ha hb hm hr
theorem e_ix (ha : DE X B ρ a d1 ρ1) (hb : DE X B ρ1 b d2 ρ2) (hr : IxD X d1 d2 d) (hs : PlainIx b := by intro _ _; rfl) : DE X B ρ (.Subscript a b pos) d ρ2 := de_ix ixr_a ha hb hs hr
theorem t_chain {op op' : CmpOp} {k k' : Bool} (ha : DE X B ρ a d1 ρ1) (hb : DE X B ρ1 b d2 ρ2) (hc : DE X B ρ2 c d3 ρ2) (hr : CmpD X op d1 d2 (.bl k)) (hr' : CmpD X op' d2 d3 (.bl k')) (hm : lastMarks [op, op'] [b, c] = false := by with_unfolding_all rfl) :
    DT X B ρ (.Compare a [op, op'] [b, c] pos) (k && k') ρ2 := dt_chain opr_a opr_a ha hb hc hr hr' hm
variable {lo hi : Option Expr} {l u : Option Int} {p2 : Pos}
theorem e_sl (he : DE X B ρ e d1 ρ1) (hl : DPa X B ρ1 lo l ρ2) (hu : DPa X B ρ2 hi u ρ3) (hr : SlD X d1 l u d) : DE X B ρ (.Subscript e (.Slice lo hi none p2) pos) d ρ3 := de_slice slr_a he hl hu hr
theorem o_sl (he : DE X B ρ e d1 ρ1) (hl : DPa X B ρ1 lo l ρ2) (hu : DPa X B ρ2 hi u ρ3) (hr : SlO X d1 l u d) : DO X B ρ (.Subscript e (.Slice lo hi none p2) pos) d ρ3 := do_slice slr_a he hl hu hr
theorem e_blt {id : String} (hm : X.mg x = none) (hv : bootBuiltins x = some (.builtin id)) (ha : DA X B ρ (e :: es) ds ρ1) (hr : CaD X (.builtin id) ds d) (hg : Gl X x := by rfl) (hn : x ≠ "__name__" := by decide) (hdb : (x == ("__debug__" : Str)) = false := by decide)
    (he : starEach (e :: es) X.env = (false, eval e X.env) :: starEach es X.env := by rfl) (hpl : (backTo pos (starEach es X.env)).any (·.1) = false := by rfl) : DE X B ρ (.Call (.Name x px) (e :: es) [] pos) d ρ1 := de_cb (pe_callB car_a hg hm hv ha hn hdb he hpl) hr
theorem e_bty {T : String} (hm : X.mg x = none) (hv : bootBuiltins x = some (.type T)) (ha : DA X B ρ (e :: es) ds ρ1) (hr : CaD X (.type T) ds d) (hg : Gl X x := by rfl) (hn : x ≠ "__name__" := by decide) (hdb : (x == ("__debug__" : Str)) = false := by decide)
    (he : starEach (e :: es) X.env = (false, eval e X.env) :: starEach es X.env := by rfl) (hpl : (backTo pos (starEach es X.env)).any (·.1) = false := by rfl) : DE X B ρ (.Call (.Name x px) (e :: es) [] pos) d ρ1 := de_cb (pe_callTy car_a hg hm hv ha hn hdb he hpl) hr
theorem o_bty {T : String} (hm : X.mg x = none) (hv : bootBuiltins x = some (.type T)) (ha : DA X B ρ (e :: es) ds ρ1) (hr : CaO X (.type T) ds d) (hg : Gl X x := by rfl) (hn : x ≠ "__name__" := by decide) (hdb : (x == ("__debug__" : Str)) = false := by decide)
    (he : starEach (e :: es) X.env = (false, eval e X.env) :: starEach es X.env := by rfl) (hpl : (backTo pos (starEach es X.env)).any (·.1) = false := by rfl) : DO X B ρ (.Call (.Name x px) (e :: es) [] pos) d ρ1 := do_cb (pe_callTy car_a hg hm hv ha hn hdb he hpl) hr

theorem e_neg {i : Int} (h : DE X B ρ e (.int i) ρ') : DE X B ρ (.UnaryOp .USub e pos) (.int (-i)) ρ' :=
  PE.imp (pe_un un_neg h) fun σ H Q ⟨α, G, E, q⟩ => ⟨α, G, E, fun v G1 H1 g1 E1 r1 => ⟨i, r1.int_inv, q _ G1 H1 g1 E1 (.int _)⟩⟩
/-! ### facts: whole numbers -/
theorem rd_I0 {r : R2} {f : Value → Value → Sem Value} {g : Int → Int → V} {i j : Int} (h : OpR X f (rI0 g)) (hd : ∀ G, Rep X.K G (g i j) d) : RD X.K (opA X f) (.int i) (.int j) d := fun x y G H s r1 r2 Q q =>
  ⟨_, h, i, j, r1.int_inv, r2.int_inv, q _ G H (Al.refl s) (hd G)⟩
theorem rd_I {f : Value → Value → Sem Value} {C : Int → Int → Prop} {g : Int → Int → V} {i j : Int} (h : OpR X f (rI C g)) (hc : C i j) (hd : ∀ G, Rep X.K G (g i j) d) : RD X.K (opA X f) (.int i) (.int j) d := fun x y G H s r1 r2 Q q =>
  ⟨_, h, i, j, r1.int_inv, r2.int_inv, hc, q _ G H (Al.refl s) (hd G)⟩
variable {i j : Int}
theorem b_add : BinD X .Add (.int i) (.int j) (.int (i + j)) := rd_I0 (r := opA X (binaryOp .Add)) op_add fun _ => .int _
theorem b_sub : BinD X .Sub (.int i) (.int j) (.int (i - j)) := rd_I0 (r := opA X (binaryOp .Add)) op_sub fun _ => .int _
theorem b_mul (h : CMul i j) : BinD X .Mult (.int i) (.int j) (.int (i * j)) := rd_I op_mul h fun _ => .int _
theorem b_fdiv (h : 0 < j ∧ j < 1073741824) : BinD X .FloorDiv (.int i) (.int j) (.int (i / j)) := rd_I op_fdiv h fun _ => .int _
theorem b_mod (h : 0 < j) : BinD X .Mod (.int i) (.int j) (.int (i % j)) := rd_I op_mod h fun _ => .int _
theorem b_pow (h : CPow i j) : BinD X .Pow (.int i) (.int j) (.int (i ^ j.toNat)) := rd_I op_pow h fun _ => .int _
theorem c_lt : CmpD X .Lt (.int i) (.int j) (.bl (decide (i < j))) := rd_I0 (r := opA X (binaryOp .Add)) op_lt fun _ => .bl _
theorem c_le : CmpD X .LtE (.int i) (.int j) (.bl (decide (i ≤ j))) := rd_I0 (r := opA X (binaryOp .Add)) op_le fun _ => .bl _
theorem c_gt : CmpD X .Gt (.int i) (.int j) (.bl (decide (j < i))) := rd_I0 (r := opA X (binaryOp .Add)) op_gt fun _ => .bl _
theorem c_ge : CmpD X .GtE (.int i) (.int j) (.bl (decide (j ≤ i))) := rd_I0 (r := opA X (binaryOp .Add)) op_ge fun _ => .bl _
theorem c_eqI : CmpD X .Eq (.int i) (.int j) (.bl (decide (i = j))) := fun x y G H s r1 r2 Q q => by
  cases r1.int_inv; cases r2.int_inv
  exact ⟨_, op_eq, rfl, q _ G H (Al.refl s) (by rw [show decide (V.int i = V.int j) = decide (i = j) from by simp]; exact .bl _)⟩
theorem c_neI : CmpD X .NotEq (.int i) (.int j) (.bl (!decide (i = j))) := fun x y G H s r1 r2 Q q => by
  cases r1.int_inv; cases r2.int_inv
  exact ⟨_, op_ne, rfl, q _ G H (Al.refl s) (by rw [show decide (V.int i = V.int j) = decide (i = j) from by simp]; exact .bl _)⟩
variable {w z : Str}
theorem c_eqS : CmpD X .Eq (.str w) (.str z) (.bl (decide (w = z))) := fun x y G H s r1 r2 Q q => by
  cases r1.str_inv; cases r2.str_inv
  exact ⟨_, op_eq, rfl, q _ G H (Al.refl s) (by rw [show decide (V.str w = V.str z) = decide (w = z) from by simp]; exact .bl _)⟩
theorem c_neS : CmpD X .NotEq (.str w) (.str z) (.bl (!decide (w = z))) := fun x y G H s r1 r2 Q q => by
  cases r1.str_inv; cases r2.str_inv
  exact ⟨_, op_ne, rfl, q _ G H (Al.refl s) (by rw [show decide (V.str w = V.str z) = decide (w = z) from by simp]; exact .bl _)⟩
theorem b_addS (h : w.length + z.length ≤ sizeLine) : BinD X .Add (.str w) (.str z) (.str (w ++ z)) := fun x y G H s r1 r2 Q q => by
  cases r1.str_inv; cases r2.str_inv
  exact ⟨_, op_add_str, w, z, rfl, rfl, h, q _ G H (Al.refl s) (.str _)⟩
/-! ### facts: lists, tuples -/
variable {xs ys : List D}
theorem o_cat (h : xs.length + ys.length ≤ sizeLine) : BinO X .Add (.lst xs) (.lst ys) (.lst (xs ++ ys)) := fun x y G H s r1 r2 Q q => by
  obtain ⟨a1, v1, rfl, h1, p1⟩ := r1.lst_inv
  obtain ⟨a2, v2, rfl, h2, p2⟩ := r2.lst_inv
  exact ⟨_, op_cat, a1, a2, v1, v2, rfl, rfl, s _ _ h1, s _ _ h2, by rw [p1.length, p2.length]; exact h, fun p hp => q p G _ (Al.new0 s hp) hp (s.free hp) ⟨_, upd_same, p1.append p2⟩⟩
theorem b_cat (h : xs.length + ys.length ≤ sizeLine) : BinD X .Add (.lst xs) (.lst ys) (.lst (xs ++ ys)) := (o_cat h).rd
theorem RepA.rep {K : PySem.W.Frag} {G : Hp} {vs : List V} {ds : List D} (r : RepA K G vs ds) : ∀ k : Nat, RepA K G (List.replicate k vs).flatten (List.replicate k ds).flatten
  | 0 => .nil
  | k + 1 => by rw [List.replicate_succ, List.replicate_succ, List.flatten_cons, List.flatten_cons]; exact r.append (RepA.rep r k)
theorem o_rep {k : Int} (h1 : -(2 ^ 63) ≤ k) (h2 : k < 2 ^ 63) (h : xs.length * k.toNat ≤ sizeLine) : BinO X .Mult (.lst xs) (.int k) (.lst (List.replicate k.toNat xs).flatten) := fun x y G H s r1 r2 Q q => by
  obtain ⟨a1, v1, rfl, e1, p1⟩ := r1.lst_inv
  exact ⟨_, op_rep, a1, k, v1, rfl, r2.int_inv, s _ _ e1, h1, h2, by rw [p1.length]; exact h, fun p hp => q p G _ (Al.new0 s hp) hp (s.free hp) ⟨_, upd_same, p1.rep _⟩⟩
theorem b_rep {k : Int} (h1 : -(2 ^ 63) ≤ k) (h2 : k < 2 ^ 63) (h : xs.length * k.toNat ≤ sizeLine) : BinD X .Mult (.lst xs) (.int k) (.lst (List.replicate k.toNat xs).flatten) := (o_rep h1 h2 h).rd
theorem b_catT (h : xs.length + ys.length ≤ sizeLine) : BinD X .Add (.tup xs) (.tup ys) (.tup (xs ++ ys)) := fun x y G H s r1 r2 Q q => by
  obtain ⟨a1, v1, rfl, h1, p1⟩ := r1.tup_inv
  obtain ⟨a2, v2, rfl, h2, p2⟩ := r2.tup_inv
  refine ⟨_, op_catA, a1, a2, v1, v2, rfl, rfl, same_t s h1, same_t s h2, by rw [p1.length, p2.length]; exact h, fun z => ?_, fun _ z => ?_, fun _ _ p hp => ?_⟩
  · subst z; cases p1; exact q _ G H (Al.refl s) (.tup h2 p2)
  · subst z; cases p2; rw [List.append_nil] at q; exact q _ G H (Al.refl s) (.tup h1 p1)
  · exact q _ _ _ (Al.new s hp) (.tup (.inl (.inl upd_same)) ((p1.append p2).mono (same_upd (s.free hp))))
theorem b_repT {k : Int} (hx : xs ≠ []) (h1 : 2 ≤ k) (h2 : k ≤ 1000) (h : xs.length ≤ 1000) : BinD X .Mult (.tup xs) (.int k) (.tup (List.replicate k.toNat xs).flatten) := fun x y G H s r1 r2 Q q => by
  obtain ⟨a1, v1, rfl, e1, p1⟩ := r1.tup_inv
  refine ⟨_, op_repT, a1, k, v1, rfl, r2.int_inv, same_t s e1, ?_, h1, h2, by rw [p1.length]; exact h, fun p hp => q _ _ _ (Al.new s hp) (.tup (.inl (.inl upd_same)) ((p1.rep _).mono (same_upd (s.free hp))))⟩
  rintro rfl; cases p1; exact hx rfl
theorem atI_rep {K : PySem.W.Frag} {G : Hp} {vs : List V} {ds : List D} (r : RepA K G vs ds) {i : Int} (h : atI ds i = some d) : ∃ v, atI vs i = some v ∧ Rep K G v d := by
  unfold atI at h ⊢
  rw [r.length]
  cases e : ixN ds.length i with
  | none => rw [e] at h; cases h
  | some j => rw [e] at h; exact r.get h
theorem i_lst {k : Int} (h : atI xs k = some d) : IxD X (.lst xs) (.int k) d := fun x y G H s r1 r2 Q q => by
  obtain ⟨a1, v1, rfl, e1, p1⟩ := r1.lst_inv
  obtain ⟨v, hv, rv⟩ := atI_rep p1 h
  exact ⟨_, ix_list, a1, v1, k, v, rfl, r2.int_inv, SqL.of (s _ _ e1), hv, q v G H (Al.refl s) rv⟩
theorem i_frl {k : Int} (h : atI xs k = some d) : IxD X (.frl xs) (.int k) d := fun x y G H s r1 r2 Q q => by
  obtain ⟨a1, v1, rfl, e1, p1⟩ := r1.frl_inv
  obtain ⟨v, hv, rv⟩ := atI_rep p1 h
  exact ⟨_, ix_list, a1, v1, k, v, rfl, r2.int_inv, same_l s e1, hv, q v G H (Al.refl s) rv⟩
theorem i_tup {k : Int} (h : atI xs k = some d) : IxD X (.tup xs) (.int k) d := fun x y G H s r1 r2 Q q => by
  obtain ⟨a1, v1, rfl, e1, p1⟩ := r1.tup_inv
  obtain ⟨v, hv, rv⟩ := atI_rep p1 h
  exact ⟨_, ix_tup, a1, v1, k, v, rfl, r2.int_inv, same_t s e1, hv, q v G H (Al.refl s) rv⟩
def cutD (xs : List D) (lo hi : Option Int) : List D := (xs.drop (HT.sIx xs.length 0 lo)).take (HT.sIx xs.length xs.length hi - HT.sIx xs.length 0 lo)
theorem RepA.cut {K : PySem.W.Frag} {G : Hp} {vs : List V} {ds : List D} (r : RepA K G vs ds) (lo hi : Option Int) : RepA K G (cutV vs lo hi) (cutD ds lo hi) := by
  unfold cutV cutD
  rw [r.length]
  exact (r.drop _).take _
theorem s_lstO : SlO X (.lst xs) l u (.lst (cutD xs l u)) := fun x G H s r1 Q q => by
  obtain ⟨a1, v1, rfl, e1, p1⟩ := r1.lst_inv
  exact ⟨_, sl_list, a1, v1, rfl, SqL.of (s _ _ e1), fun p hp => q p G _ (Al.new0 s hp) hp (s.free hp) ⟨_, upd_same, p1.cut l u⟩⟩
theorem s_lst : SlD X (.lst xs) l u (.lst (cutD xs l u)) := s_lstO.rs
theorem s_tup : SlD X (.tup xs) l u (.tup (cutD xs l u)) := fun x G H s r1 Q q => by
  obtain ⟨a1, v1, rfl, e1, p1⟩ := r1.tup_inv
  refine ⟨_, sl_tupA, a1, v1, rfl, same_t s e1, fun z => ?_, fun z p hp => ?_⟩
  · have : cutD xs l u = xs := by
      unfold cutD; rw [← p1.length, z.1, z.2]; simp [p1.length]
    rw [this] at q
    exact q _ G H (Al.refl s) (.tup e1 p1)
  · exact q _ _ _ (Al.new s hp) (.tup (.inl (.inl upd_same)) ((p1.cut l u).mono (same_upd (s.free hp))))
theorem s_str (h : w.length ≤ sizeLine) : SlD X (.str w) l u (.str (cutS w l u)) := fun x G H s r1 Q q => by
  cases r1.str_inv
  exact ⟨_, sl_str, w, rfl, h, q _ G H (Al.refl s) (.str _)⟩
/-! ### facts: built-in functions -/
theorem RepA.one_inv {K : PySem.W.Frag} {G : Hp} {vs : List V} (r : RepA K G vs [d]) : ∃ v, vs = [v] ∧ Rep K G v d := by
  cases r with
  | cons r t => cases t; exact ⟨_, rfl, r⟩
theorem RepA.two_inv {K : PySem.W.Frag} {G : Hp} {vs : List V} (r : RepA K G vs [d1, d2]) : ∃ v w, vs = [v, w] ∧ Rep K G v d1 ∧ Rep K G w d2 := by
  cases r with
  | cons r t => obtain ⟨w, rfl, q⟩ := t.one_inv; exact ⟨_, w, rfl, r, q⟩
theorem f_len_lst : CaD X (.builtin "len") [.lst xs] (.int xs.length) := fun vs G H s r Q q => by
  obtain ⟨v, rfl, r1⟩ := r.one_inv
  obtain ⟨a1, v1, rfl, e1, p1⟩ := r1.lst_inv
  exact ⟨_, call_len_seq, a1, v1, rfl, .inl (SqL.of (s _ _ e1)), q _ G H (Al.refl s) (by rw [p1.length]; exact .int _)⟩
theorem f_len_frl : CaD X (.builtin "len") [.frl xs] (.int xs.length) := fun vs G H s r Q q => by
  obtain ⟨v, rfl, r1⟩ := r.one_inv
  obtain ⟨a1, v1, rfl, e1, p1⟩ := r1.frl_inv
  exact ⟨_, call_len_seq, a1, v1, rfl, .inl (same_l s e1), q _ G H (Al.refl s) (by rw [p1.length]; exact .int _)⟩
theorem f_len_tup : CaD X (.builtin "len") [.tup xs] (.int xs.length) := fun vs G H s r Q q => by
  obtain ⟨v, rfl, r1⟩ := r.one_inv
  obtain ⟨a1, v1, rfl, e1, p1⟩ := r1.tup_inv
  exact ⟨_, call_len_seq, a1, v1, rfl, .inr (same_t s e1), q _ G H (Al.refl s) (by rw [p1.length]; exact .int _)⟩
theorem f_len_str (h : w.length ≤ sizeLine) : CaD X (.builtin "len") [.str w] (.int w.length) := fun vs G H s r Q q => by
  obtain ⟨v, rfl, r1⟩ := r.one_inv
  cases r1.str_inv
  exact ⟨_, call_len_str, w, rfl, h, q _ G H (Al.refl s) (.int _)⟩
theorem f_abs : CaD X (.builtin "abs") [.int i] (.int (if i < 0 then -i else i)) := fun vs G H s r Q q => by
  obtain ⟨v, rfl, r1⟩ := r.one_inv
  cases r1.int_inv
  exact ⟨_, call_abs, i, rfl, q _ G H (Al.refl s) (.int _)⟩
theorem f_max2 (hc : X.calm = true) : CaD X (.builtin "max") [.int i, .int j] (.int (if j > i then j else i)) := fun vs G H s r Q q => by
  obtain ⟨v, w, rfl, r, r'⟩ := r.two_inv
  cases r.int_inv; cases r'.int_inv
  exact ⟨_, call_max2 hc, i, j, rfl, q _ G H (Al.refl s) (.int _)⟩
theorem f_min2 (hc : X.calm = true) : CaD X (.builtin "min") [.int i, .int j] (.int (if j < i then j else i)) := fun vs G H s r Q q => by
  obtain ⟨v, w, rfl, r, r'⟩ := r.two_inv
  cases r.int_inv; cases r'.int_inv
  exact ⟨_, call_min2 hc, i, j, rfl, q _ G H (Al.refl s) (.int _)⟩
theorem f_int : CaD X (.type "int") [.int i] (.int i) := fun vs G H s r Q q => by
  obtain ⟨v, rfl, r1⟩ := r.one_inv
  cases r1.int_inv
  exact ⟨_, call_int1, .inl ⟨i, rfl, q _ G H (Al.refl s) (.int _)⟩⟩
theorem f_divmod (h : CDivP i j) : CaD X (.builtin "divmod") [.int i, .int j] (.tup [.int (i / j), .int (i % j)]) := fun vs G H s r Q q => by
  obtain ⟨v, w, rfl, r, r'⟩ := r.two_inv
  cases r.int_inv; cases r'.int_inv
  exact ⟨_, call_divmodW, i, j, rfl, h, fun p hp => q _ _ _ (Al.new s hp) (.tup (.inl (.inl upd_same)) (.cons (.int _) (.cons (.int _) .nil)))⟩
theorem f_list_lst : CaO X (.type "list") [.lst xs] (.lst xs) := fun vs G H s r Q q => by
  obtain ⟨v, rfl, r1⟩ := r.one_inv
  obtain ⟨a1, v1, rfl, e1, p1⟩ := r1.lst_inv
  exact ⟨_, call_list_of, a1, v1, rfl, .inl (SqL.of (s _ _ e1)), fun p hp => q p G _ (Al.new0 s hp) hp (s.free hp) ⟨_, upd_same, p1⟩⟩
theorem f_list_tup : CaO X (.type "list") [.tup xs] (.lst xs) := fun vs G H s r Q q => by
  obtain ⟨v, rfl, r1⟩ := r.one_inv
  obtain ⟨a1, v1, rfl, e1, p1⟩ := r1.tup_inv
  exact ⟨_, call_list_of, a1, v1, rfl, .inr (same_t s e1), fun p hp => q p G _ (Al.new0 s hp) hp (s.free hp) ⟨_, upd_same, p1⟩⟩
theorem f_tuple_lst : CaD X (.type "tuple") [.lst xs] (.tup xs) := fun vs G H s r Q q => by
  obtain ⟨v, rfl, r1⟩ := r.one_inv
  obtain ⟨a1, v1, rfl, e1, p1⟩ := r1.lst_inv
  exact ⟨_, call_tuple_of, a1, v1, rfl, .inl ⟨SqL.of (s _ _ e1), fun p hp => q _ _ _ (Al.new s hp) (.tup (.inl (.inl upd_same)) (p1.mono (same_upd (s.free hp))))⟩⟩
theorem f_tuple_tup : CaD X (.type "tuple") [.tup xs] (.tup xs) := fun vs G H s r Q q => by
  obtain ⟨v, rfl, r1⟩ := r.one_inv
  obtain ⟨a1, v1, rfl, e1, p1⟩ := r1.tup_inv
  exact ⟨_, call_tuple_of, a1, v1, rfl, .inr ⟨same_t s e1, q _ G H (Al.refl s) (.tup e1 p1)⟩⟩
theorem RepA.bls {K : PySem.W.Frag} {G : Hp} : ∀ {bs : List Bool} {vs : List V}, RepA K G vs (bs.map .bl) → vs = bs.map V.bl
  | [], _, .nil => rfl
  | b :: bs, _, .cons r t => by rw [r.bl_inv, RepA.bls t]; rfl
theorem RepA.strs {K : PySem.W.Frag} {G : Hp} : ∀ {bs : List Str} {vs : List V}, RepA K G vs (bs.map .str) → vs = bs.map V.str
  | [], _, .nil => rfl
  | b :: bs, _, .cons r t => by rw [r.str_inv, RepA.strs t]; rfl
theorem RepA.ints {K : PySem.W.Frag} {G : Hp} : ∀ {bs : List Int} {vs : List V}, RepA K G vs (bs.map .int) → vs = bs.map V.int
  | [], _, .nil => rfl
  | b :: bs, _, .cons r t => by rw [r.int_inv, RepA.ints t]; rfl
theorem RepA.ofStrs {K : PySem.W.Frag} {G : Hp} : ∀ bs : List Str, RepA K G (bs.map V.str) (bs.map .str)
  | [] => .nil
  | b :: bs => .cons (.str b) (RepA.ofStrs bs)
theorem RepA.ofInts {K : PySem.W.Frag} {G : Hp} : ∀ bs : List Int, RepA K G (bs.map V.int) (bs.map .int)
  | [] => .nil
  | b :: bs => .cons (.int b) (RepA.ofInts bs)
theorem f_all {bs : List Bool} (hc : X.calm = true) : CaD X (.builtin "all") [.lst (bs.map .bl)] (.bl (bs.all id)) := fun vs G H s r Q q => by
  obtain ⟨v, rfl, r1⟩ := r.one_inv
  obtain ⟨a1, v1, rfl, e1, p1⟩ := r1.lst_inv
  have := p1.bls; subst this
  exact ⟨_, cr_all hc, a1, bs, rfl, SqL.of (s _ _ e1), q _ G H (Al.refl s) (.bl _)⟩
/-! ### facts: methods of texts -/
theorem ty_str {K : PySem.W.Frag} : ∀ x G H, Same G H → Rep K G x (.str w) → tyV K "str" x H := fun x G H s r => by cases r.str_inv; exact rfl
variable {ss : List Str}
theorem m_join_lst (h : (ss.map (·.length)).sum + ss.length * w.length ≤ 16777216) : MtD X "str" "str.join" (.str w) [.lst (ss.map .str)] (.str (Txt.join w ss)) := ⟨ty_str, fun x xs G H s r1 r2 Q q => by
  cases r1.str_inv
  obtain ⟨v, rfl, r⟩ := r2.one_inv
  obtain ⟨a1, v1, rfl, e1, p1⟩ := r.lst_inv
  have := p1.strs; subst this
  exact ⟨_, mt_join, w, a1, ss, rfl, rfl, .inl (SqL.of (s _ _ e1)), h, q _ G H (Al.refl s) (.str _)⟩⟩
theorem m_join_tup (h : (ss.map (·.length)).sum + ss.length * w.length ≤ 16777216) : MtD X "str" "str.join" (.str w) [.tup (ss.map .str)] (.str (Txt.join w ss)) := ⟨ty_str, fun x xs G H s r1 r2 Q q => by
  cases r1.str_inv
  obtain ⟨v, rfl, r⟩ := r2.one_inv
  obtain ⟨a1, v1, rfl, e1, p1⟩ := r.tup_inv
  have := p1.strs; subst this
  exact ⟨_, mt_join, w, a1, ss, rfl, rfl, .inr (same_t s e1), h, q _ G H (Al.refl s) (.str _)⟩⟩
theorem m_split (h : (z.length == 0) = false) (hl : w.length + 2 ≤ sizeLine) : MtO X "str" "str.split" (.str w) [.str z] (.lst ((Txt.split w z).map .str)) := ⟨ty_str, fun x xs G H s r1 r2 Q q => by
  cases r1.str_inv
  obtain ⟨v, rfl, r⟩ := r2.one_inv
  cases r.str_inv
  exact ⟨_, mt_split, w, z, rfl, rfl, h, hl, fun p hp => q p G _ (Al.new0 s hp) hp (s.free hp) ⟨_, upd_same, RepA.ofStrs _⟩⟩⟩
theorem m_partition (h : (z.length == 0) = false) (hl : w.length ≤ sizeLine) : MtD X "str" "str.partition" (.str w) [.str z] (.tup [.str (Txt.partition w z).1, .str (Txt.partition w z).2.1, .str (Txt.partition w z).2.2]) := ⟨ty_str, fun x xs G H s r1 r2 Q q => by
  cases r1.str_inv
  obtain ⟨v, rfl, r⟩ := r2.one_inv
  cases r.str_inv
  exact ⟨_, mt_partition, w, z, rfl, rfl, h, hl, fun p hp => q _ _ _ (Al.new s hp) (.tup (.inl (.inl upd_same)) (.cons (.str _) (.cons (.str _) (.cons (.str _) .nil))))⟩⟩
end
end DL

set_option maxRecDepth 100000
set_option maxHeartbeats 4000000
namespace DL
open PySem PySem.Spec PyProof.Rows L2

/-! ### what is walked -/
def JOk (K : PySem.W.Frag) (J : It) (G : Hp) (ds : List D) : Prop := ∀ (i : Nat) H', Same G H' → (i = ds.length → J.stop i H') ∧ ∀ d, ds[i]? = some d → J.go i H' ∧ ∀ x H'', J.yld i H' x H'' → ∀ G', Same G G' → Same G' H' → ∃ G'', Al G' H' G'' H'' ∧ Rep K G'' x d
def tI (K : PySem.W.Frag) (B : Bs) (ρ : Ro) (ds : List D) (ρ' : Ro) : TI := fun σ H R => ∃ α G, EnvA K B α ρ σ G H ∧ ∀ J G' H', Same G G' → EnvA K B α ρ' σ G' H' → JOk K J G' ds → R J H'
abbrev DI (X : Cx) (B : Bs) (ρ : Ro) (tg it : Expr) (ds : List D) (ρ' : Ro) : Prop := PI X tg it (tI X.K B ρ ds ρ')
inductive Items : D → List D → Prop
  | lst (ds : List D) : Items (.lst ds) ds
  | frl (ds : List D) : Items (.frl ds) ds
  | tup (ds : List D) : Items (.tup ds) ds
  | str (w : Str) : Items (.str w) (w.cps.toList.map fun c => .str ⟨#[c]⟩)
section
variable {X : Cx} {B : Bs} {ρ ρ1 ρ2 ρ' : Ro} {e a b tg it : Expr} {d d1 d2 : D} {ds : List D} {pos px : Pos} {es : List Expr}
theorem j_list {K : PySem.W.Frag} {G : Hp} {a : Addr} {xs : List V} (h : SqL K G a xs) (r : RepA K G xs ds) (inj : ∀ H' ys, Same G H' → SqL K H' a ys → ys = xs) : JOk K (Itl K a) G ds := fun i H' s =>
  ⟨fun hi => ⟨xs, same_l s h, by rw [r.length]; exact Nat.le_of_eq hi.symm⟩, fun d hd => by
    obtain ⟨x, hx, rx⟩ := r.get hd
    refine ⟨⟨xs, x, same_l s h, hx⟩, fun y H'' ⟨e, z⟩ G' g s' => ⟨G', by rw [e]; exact Al.refl s', ?_⟩⟩
    have := z xs (same_l s h)
    rw [hx] at this; cases this; exact rx.mono g⟩
theorem j_tup {K : PySem.W.Frag} {G : Hp} {a : Addr} {xs : List V} (h : SqT K G a xs) (r : RepA K G xs ds) : JOk K (Itt K a) G ds := fun i H' s =>
  ⟨fun hi => ⟨xs, same_t s h, by rw [r.length]; exact Nat.le_of_eq hi.symm⟩, fun d hd => by
    obtain ⟨x, hx, rx⟩ := r.get hd
    refine ⟨⟨xs, x, same_t s h, hx⟩, fun y H'' ⟨e, z⟩ G' g s' => ⟨G', by rw [e]; exact Al.refl s', ?_⟩⟩
    have := z xs (same_t s h)
    rw [hx] at this; cases this; exact rx.mono g⟩
theorem j_lst {K : PySem.W.Frag} {G : Hp} {a : Addr} {xs : List V} (h : SqL K G a xs) (r : RepA K G xs ds) : JOk K (Itl K a) G ds := fun i H' s =>
  ⟨fun hi => ⟨xs, same_l s h, by rw [r.length]; exact Nat.le_of_eq hi.symm⟩, fun d hd => by
    obtain ⟨x, hx, rx⟩ := r.get hd
    refine ⟨⟨xs, x, same_l s h, hx⟩, fun y H'' ⟨e, z⟩ G' g s' => ⟨G', by rw [e]; exact Al.refl s', ?_⟩⟩
    have := z xs (same_l s h)
    rw [hx] at this; cases this; exact rx.mono g⟩
theorem j_range {K : PySem.W.Frag} {G : Hp} {lo : Int} {n : Nat} : JOk K (Itr lo n) G ((List.range n).map fun (k : Nat) => .int (lo + (k : Nat))) := fun i H' s =>
  ⟨fun hi => by show n ≤ i; simp at hi; omega, fun d hd => by
    rw [List.getElem?_map] at hd
    cases q : (List.range n)[i]? with
    | none => rw [q] at hd; cases hd
    | some j =>
      have hl : i < n := by simpa using (List.getElem?_eq_some_iff.mp q).1
      have hj : j = i := by rw [List.getElem?_range hl] at q; exact (Option.some.inj q).symm
      subst hj
      rw [q] at hd
      cases hd
      refine ⟨hl, fun y H'' ⟨e, z⟩ G' g s' => ⟨G', by rw [e]; exact Al.refl s', ?_⟩⟩
      rw [z]; exact .int _⟩
theorem j_str {K : PySem.W.Frag} {G : Hp} {w : Str} : JOk K (Its w) G (w.cps.toList.map fun c => .str ⟨#[c]⟩) := fun i H' s =>
  ⟨fun hi => by show w.cps.size ≤ i; simp at hi; omega, fun d hd => by
    rw [List.getElem?_map] at hd
    cases q : w.cps.toList[i]? with
    | none => rw [q] at hd; cases hd
    | some j =>
      rw [q] at hd
      cases hd
      have q' : w.cps[i]? = some j := by simpa using q
      refine ⟨(Array.getElem?_eq_some_iff.mp q').1, fun y H'' ⟨e, c, z1, z2⟩ G' g s' => ⟨G', by rw [e]; exact Al.refl s', ?_⟩⟩
      rw [q'] at z1; cases z1
      rw [z2]; exact .str _⟩
theorem di_any (h : DE X B ρ it d ρ') (hd : Items d ds) : DI X B ρ tg it ds ρ' := by
  cases hd with
  | lst => exact PI.imp (pi_list h) fun σ H R ⟨α, G, E, q⟩ => ⟨α, G, E, fun v G1 H1 g1 E1 r1 => by
      obtain ⟨a, xs, rfl, h1, h2⟩ := r1.lst_inv
      exact ⟨a, rfl, ⟨xs, SqL.of (E1.sub _ _ h1)⟩, q _ G1 H1 g1 E1 (j_lst (SqL.of h1) h2)⟩⟩
  | frl => exact PI.imp (pi_list h) fun σ H R ⟨α, G, E, q⟩ => ⟨α, G, E, fun v G1 H1 g1 E1 r1 => by
      obtain ⟨a, xs, rfl, h1, h2⟩ := r1.frl_inv
      exact ⟨a, rfl, ⟨xs, same_l E1.sub h1⟩, q _ G1 H1 g1 E1 (j_lst h1 h2)⟩⟩
  | tup => exact PI.imp (pi_tup h) fun σ H R ⟨α, G, E, q⟩ => ⟨α, G, E, fun v G1 H1 g1 E1 r1 => by
      obtain ⟨a, xs, rfl, h1, h2⟩ := r1.tup_inv
      exact ⟨a, rfl, ⟨xs, same_t E1.sub h1⟩, q _ G1 H1 g1 E1 (j_tup h1 h2)⟩⟩
  | str w => exact PI.imp (pi_str h) fun σ H R ⟨α, G, E, q⟩ => ⟨α, G, E, fun v G1 H1 g1 E1 r1 => ⟨w, r1.str_inv, q _ G1 H1 g1 E1 j_str⟩⟩
def rangeD (lo hi : Int) : List D := (List.range (hi - lo).toNat).map fun (k : Nat) => .int (lo + (k : Nat))
theorem di_range1 {j : Int} (hm : X.mg "range" = none) (ha : DA X B ρ [a] [.int j] ρ') (h1 : -(2 ^ 62) ≤ j) (h2 : j < 2 ^ 62) (hg : Gl X "range" := by rfl) (hs : starEach [a] X.env = [(false, eval a X.env)] := by rfl) : DI X B ρ tg (.Call (.Name "range" px) [a] [] pos) (rangeD 0 j) ρ' :=
  PI.imp (pi_range1 hg hm ha hs) fun σ H R ⟨α, G, E, q⟩ => ⟨α, G, E, fun vs G1 H1 g1 E1 r1 => by
    obtain ⟨v, rfl, r⟩ := r1.one_inv
    refine ⟨j, by rw [r.int_inv], h1, h2, q _ G1 H1 g1 E1 ?_⟩
    unfold rangeD
    rw [Int.sub_zero]
    exact j_range⟩
theorem di_range2 {i j : Int} (hm : X.mg "range" = none) (ha : DA X B ρ [a, b] [.int i, .int j] ρ') (h : -(2 ^ 62) ≤ i ∧ i < 2 ^ 62 ∧ -(2 ^ 62) ≤ j ∧ j < 2 ^ 62) (hg : Gl X "range" := by rfl) (hs : starEach [a, b] X.env = [(false, eval a X.env), (false, eval b X.env)] := by rfl) (hs2 : starEach [b] X.env = [(false, eval b X.env)] := by rfl) : DI X B ρ tg (.Call (.Name "range" px) [a, b] [] pos) (rangeD i j) ρ' :=
  PI.imp (pi_range2 hg hm ha hs hs2) fun σ H R ⟨α, G, E, q⟩ => ⟨α, G, E, fun vs G1 H1 g1 E1 r1 => by
    obtain ⟨v, w, rfl, r, r'⟩ := r1.two_inv
    exact ⟨i, j, by rw [r.int_inv, r'.int_inv], h, q _ G1 H1 g1 E1 j_range⟩⟩

/-! ### targets -/
/-- the target g, given the datum d, leads from r to r', by the slots vs alone -/
def GD (K : PySem.W.Frag) (B : Bs) (g : TG) (d : D) (r r' : Ro) (vs : List Nat) : Prop := ∀ α σ G H v (Q : L2.St → Hp → Prop), EnvA K B α r σ G H → Rep K G v d → (∀ σ', EnvA K B α r' σ' G H → σ'.length = σ.length → (∀ j, j ∉ vs → σ'[j]? = σ[j]?) → Q σ' H) → g v σ H Q
variable {K : PySem.W.Frag} {r r1 r2 : Ro} {vs ws : List Nat} {g : TG} {gs : TGs}
theorem gd_name {i : Nat} (hio : ∀ p ∈ B.io, p.1 ≠ i) : GD K B (gName i) d r (r.set i (.dat d)) [i] := fun α σ G H v Q E rp q =>
  q _ (E.set hio rp) (by simp) fun j hj => List.getElem?_set_ne (fun z => hj (by simp [z]))
/-- several targets, one behind the other -/
def GDs (K : PySem.W.Frag) (B : Bs) (g : TGs) (ds : List D) (r r' : Ro) (vs : List Nat) : Prop := ∀ α σ G H us (Q : L2.St → Hp → Prop), EnvA K B α r σ G H → RepA K G us ds → (∀ σ', EnvA K B α r' σ' G H → σ'.length = σ.length → (∀ j, j ∉ vs → σ'[j]? = σ[j]?) → Q σ' H) → g us σ H Q
theorem gds_nil : GDs K B gNil [] r r [] := fun α σ G H us Q E rp q => by
  cases rp; exact ⟨rfl, q σ E rfl fun _ _ => rfl⟩
theorem gds_cons (h : GD K B g d r r1 vs) (hs : GDs K B gs ds r1 r2 ws) : GDs K B (gCons g gs) (d :: ds) r r2 (vs ++ ws) := fun α σ G H us Q E rp q => by
  cases rp with
  | cons r0 rr => exact ⟨_, _, rfl, h α σ G H _ _ E r0 fun σ1 E1 l1 k1 => hs α σ1 G H _ _ E1 rr fun σ2 E2 l2 k2 => q σ2 E2 (l2.trans l1) fun j hj => (k2 j fun z => hj (List.mem_append_right _ z)).trans (k1 j fun z => hj (List.mem_append_left _ z))⟩
theorem gd_tup {n : Nat} (hn : ds.length = n) (h : GDs K B gs ds r r1 vs) : GD K B (gTup K n gs) (.tup ds) r r1 vs := fun α σ G H v Q E rp q => by
  obtain ⟨a, xs, rfl, h1, h2⟩ := rp.tup_inv
  exact ⟨a, xs, rfl, same_t E.sub h1, by rw [h2.length]; exact hn, h α σ G H xs Q E h2 q⟩

/-! ### another base -/
/-- the base's data grown -/
theorem EnvA.regrow {α : Nat → Addr} {σ : L2.St} {G H G1 : Hp} (E : EnvA K B α r σ G H) (g : Same B.G G1) (h : Same G1 G) : EnvA K ⟨G1, B.H, B.io⟩ α r σ G H :=
  ⟨E.len, E.sub, h, fun a o e n k => E.keep a o e (g.free n) k, E.dat, E.own, E.inj, E.io⟩
theorem EnvA.ungrow {α α0 : Nat → Addr} {σ σ0 : L2.St} {G H G1 H1 : Hp} {ρ0 : Ro} (E0 : EnvA K B α0 ρ0 σ0 G1 H1) (E : EnvA K ⟨G1, B.H, B.io⟩ α r σ G H) : EnvA K B α r σ G H :=
  ⟨E.len, E.sub, E0.grow.trans E.grow, fun a o e n k => E.keep a o e (E0.keep a o e n k).2 k, E.dat, E.own, E.inj, E.io⟩
theorem Meets.regrow {P : Post} {D : Ends} {α0 : Nat → Addr} {σ0 : L2.St} {G1 H1 : Hp} {ρ0 : Ro} (E0 : EnvA K B α0 ρ0 σ0 G1 H1) (m : Meets K B P D) : Meets K ⟨G1, B.H, B.io⟩ P D where
  nx := fun ρ α σ G H p E => m.nx ρ α σ G H p (E0.ungrow E)
  rt := fun d ρ α σ G H v p E => m.rt d ρ α σ G H v p (E0.ungrow E)
  ro := fun d ρ α σ G H v p E => m.ro d ρ α σ G H v p (E0.ungrow E)
  bk := fun ρ α σ G H p E => m.bk ρ α σ G H p (E0.ungrow E)
  ct := fun ρ α σ G H p E => m.ct ρ α σ G H p (E0.ungrow E)

/-! ### for -/
theorem ds_for {body : List Stmt} {P : Post} (hp : PassesOwn (model X.prog X.w) X.A X.env X.xe) (hc : X.calm = true) (hi : DI X B ρ tg it ds ρ1) (hg : PG X tg g) (Pv : Nat → Ro → Prop) (h0 : Pv 0 ρ1)
    (turn : ∀ (B1 : Bs), B1.io = B.io → ∀ (k : Nat) d r, ds[k]? = some d → Pv k r → ∃ r' vs, GD X.K B1 g d r r' vs ∧ DSs X B1 r' body { P with nx := Pv (k + 1), ct := Pv (k + 1), bk := P.nx }) (done : ∀ r, Pv ds.length r → P.nx r)
    (hs : ∀ x, foldedSetIterable it X.env x = pure x := by intro _; rfl) : DS X B ρ (.For tg it body [] pos) P :=
  PS.imp (ps_for hp hc hi hg pss_a hs) fun D σ H ⟨⟨α, G, E⟩, m⟩ => ⟨α, G, E, fun J G1 H1 g1 E1 j => by
    have m1 : Meets X.K ⟨G1, B.H, B.io⟩ P D := m.regrow E1
    refine ⟨fun i n σ' H' => n = ds.length - i ∧ i ≤ ds.length ∧ ∃ r α' G', Pv i r ∧ EnvA X.K ⟨G1, B.H, B.io⟩ α' r σ' G' H', ⟨ds.length, by simp, Nat.zero_le _, ρ1, α, G1, h0, E1.regrow E1.grow (Same.refl _)⟩, ?_⟩
    rintro i n σ2 H2 ⟨rfl, hi, r, α2, G2, p2, E2⟩
    by_cases hlt : i < ds.length
    · have hd : ds[i]? = some ds[i] := by simp [hlt]
      have sm : Same G1 H2 := E2.grow.trans E2.sub
      obtain ⟨go, yl⟩ := (j i H2 sm).2 _ hd
      refine .inr ⟨go, fun σ' H' => ∃ r α' G', Pv (i + 1) r ∧ EnvA X.K ⟨G1, B.H, B.io⟩ α' r σ' G' H', fun σ' H' z => ⟨ds.length - (i + 1), by omega, rfl, hlt, z⟩, fun x H3 hy => ?_⟩
      obtain ⟨G3, al, rx⟩ := yl x H3 hy G2 E2.grow E2.sub
      obtain ⟨r', vs, gd, bd⟩ := turn ⟨G1, B.H, B.io⟩ rfl i _ r hd p2
      refine gd α2 σ2 G3 H3 x _ (E2.al al) rx fun σ4 E4 _ _ => ?_
      refine ⟨_, bd, ⟨α2, G3, E4⟩, ⟨fun ρ α σ G H p E => ⟨ρ, α, G, p, E⟩, m1.rt, m1.ro, m1.nx, fun ρ α σ G H p E => ⟨ρ, α, G, p, E⟩⟩⟩
    · have e : i = ds.length := by omega
      subst e
      exact .inl ⟨(j _ H2 (E2.grow.trans E2.sub)).1 rfl, m1.nx _ _ _ _ _ (done r p2) E2⟩⟩

/-! ### list comprehensions -/
def wipeR (ρ : Ro) : List Nat → Ro
  | [] => ρ
  | v :: vs => (wipeR ρ vs).set v .un
theorem wipeR_get {ρ : Ro} {j : Nat} : ∀ (vs : List Nat), (wipeR ρ vs)[j]? = if j ∈ vs then (ρ[j]?).map fun _ => Slot.un else ρ[j]?
  | [] => by simp [wipeR]
  | v :: vs => by
    unfold wipeR
    by_cases h : j = v
    · subst h
      rw [List.getElem?_set_self', wipeR_get vs]
      simp
      split <;> cases ρ[j]? <;> rfl
    · rw [List.getElem?_set_ne (Ne.symm h), wipeR_get vs]
      simp [h]
theorem wipe_get {σ : L2.St} {j : Nat} : ∀ (vs : List Nat), (wipe σ vs)[j]? = if j ∈ vs then (σ[j]?).map fun _ => none else σ[j]?
  | [] => by simp [wipe]
  | v :: vs => by
    unfold wipe
    by_cases h : j = v
    · subst h
      rw [List.getElem?_set_self', wipe_get vs]
      simp
      split <;> cases σ[j]? <;> rfl
    · rw [List.getElem?_set_ne (Ne.symm h), wipe_get vs]
      simp [h]
theorem wipe_same {σ τ : L2.St} {vs : List Nat} (hl : τ.length = σ.length) (h : ∀ j, j ∉ vs → τ[j]? = σ[j]?) : wipe τ vs = wipe σ vs := by
  apply List.ext_getElem?
  intro j
  rw [wipe_get, wipe_get]
  split
  · by_cases q : j < σ.length
    · rw [List.getElem?_eq_getElem q, List.getElem?_eq_getElem (by omega)]; rfl
    · rw [List.getElem?_eq_none (by omega), List.getElem?_eq_none (by omega)]
  · exact h j (by assumption)
theorem wipeR_len (ρ : Ro) : ∀ vs : List Nat, (wipeR ρ vs).length = ρ.length
  | [] => rfl
  | v :: vs => by unfold wipeR; rw [List.length_set, wipeR_len ρ vs]
theorem wipeR_idem (ρ : Ro) (vs : List Nat) : wipeR (wipeR ρ vs) vs = wipeR ρ vs := by
  apply List.ext_getElem?
  intro j
  rw [wipeR_get, wipeR_get]
  split
  · cases ρ[j]? <;> rfl
  · rfl
/-- the block's own slots forgotten, or given back -/
theorem EnvA.wipes {α : Nat → Addr} {σ τ : L2.St} {G H : Hp} (E : EnvA K B α r σ G H) (hv : ∀ v ∈ vs, ∀ p ∈ B.io, p.1 ≠ v) (hl : τ.length = σ.length) (h : ∀ j, j ∉ vs → τ[j]? = σ[j]?) : EnvA K B α (wipeR r vs) τ G H where
  len := by rw [wipeR_len, hl, E.len]
  sub := E.sub
  grow := E.grow
  keep := E.keep
  dat := fun i d e => by
    rw [wipeR_get] at e
    split at e
    · cases q : r[i]? with
      | none => rw [q] at e; cases e
      | some s => rw [q] at e; cases e
    · rw [h i (by assumption)]; exact E.dat i d e
  own := fun i d e => by
    rw [wipeR_get] at e
    split at e
    · cases q : r[i]? with
      | none => rw [q] at e; cases e
      | some s => rw [q] at e; cases e
    · rw [h i (by assumption)]; exact E.own i d e
  inj := fun i j d e h1 h2 => by
    rw [wipeR_get] at h1 h2
    split at h1
    · cases q : r[i]? with
      | none => rw [q] at h1; cases h1
      | some s => rw [q] at h1; cases h1
    split at h2
    · cases q : r[j]? with
      | none => rw [q] at h2; cases h2
      | some s => rw [q] at h2; cases h2
    exact E.inj i j d e h1 h2
  io := fun p hp => by
    obtain ⟨⟨d, e⟩, z⟩ := E.io p hp
    refine ⟨⟨d, ?_⟩, z⟩
    rw [wipeR_get, if_neg (fun q => hv _ q p hp rfl)]
    exact e
/-- a further thing is watched -/
theorem EnvA.guard {α : Nat → Addr} {σ : L2.St} {G H : Hp} {q : Addr} {o : HO} (E : EnvA K B α r σ G H) (hq : H q = some o) (gq : G q = none) (bq : B.H q = none) (ne : ∀ (j : Nat) e, r[j]? = some (.own e) → α j ≠ q) : EnvA K ⟨G, upd B.H q o, B.io⟩ α r σ G H where
  len := E.len
  sub := E.sub
  grow := Same.refl _
  keep := fun a u e n k => by
    by_cases z : a = q
    · subst z
      have e : upd B.H a o a = some u := e
      rw [upd_same] at e; cases e; exact ⟨hq, gq⟩
    · have e : upd B.H q o a = some u := e
      rw [upd_ne z] at e
      exact E.keep a u e (E.grow.free n) k
  dat := E.dat
  own := fun i d e => by
    obtain ⟨h1, h2, h3, h4⟩ := E.own i d e
    refine ⟨h1, h2, h3, ?_⟩
    rcases h4 with h4 | h4
    · left; show upd B.H q o (α i) = none; rw [upd_ne (ne i d e)]; exact h4
    · exact .inr h4
  inj := E.inj
  io := E.io
theorem EnvA.unguard {α α0 : Nat → Addr} {σ σ0 : L2.St} {G H G1 H1 : Hp} {ρ0 : Ro} {q : Addr} {o : HO} (E0 : EnvA K B α0 ρ0 σ0 G1 H1) (bq : B.H q = none) (gq : G1 q = none) (nio : ∀ p ∈ B.io, p.2 ≠ q) (E : EnvA K ⟨G1, upd B.H q o, B.io⟩ α r σ G H) :
    EnvA K B α r σ G H ∧ H q = some o ∧ G q = none ∧ ∀ (j : Nat) e, r[j]? = some (.own e) → α j ≠ q := by
  have own : ∀ (i : Nat) d, r[i]? = some (.own d) → (B.H (α i) = none ∨ ∃ p ∈ B.io, p.2 = α i) ∧ α i ≠ q := fun i d e => by
    obtain ⟨h1, h2, h3, h4⟩ := E.own i d e
    rcases h4 with h4 | ⟨p, hp, hz⟩
    · have h4 : upd B.H q o (α i) = none := h4
      have ne : α i ≠ q := fun z => by rw [z, upd_same] at h4; cases h4
      rw [upd_ne ne] at h4
      exact ⟨.inl h4, ne⟩
    · exact ⟨.inr ⟨p, hp, hz⟩, by rw [← hz]; exact nio p hp⟩
  have kq := E.keep q o upd_same gq nio
  refine ⟨⟨E.len, E.sub, E0.grow.trans E.grow, fun a u e n k => ?_, E.dat, fun i d e => ?_, E.inj, E.io⟩, kq.1, kq.2, fun j e h => (own j e h).2⟩
  · have ne : a ≠ q := fun z => by rw [z, bq] at e; cases e
    refine E.keep a u ?_ (E0.keep a u e n k).2 k
    show upd B.H q o a = some u
    rw [upd_ne ne]; exact e
  · obtain ⟨h1, h2, h3, _⟩ := E.own i d e
    exact ⟨h1, h2, h3, (own i d e).1⟩
end
/-- an expression, whatever the block -/
def InBlk (X : Cx) (scope : Scope) (p : Cx → Prop) : Prop := ∀ (s : Shared) (H : Hp) (C : Addr) (cl : List (Str × Addr)) (fp : List Addr), p (X.blk s H scope (compEnvC scope cl C X.env) fp)
abbrev DTs (X : Cx) (B : Bs) (ρ : Ro) (ifs : List Expr) (b : Bool) (ρ' : Ro) : Prop := PTs X ifs (tT X.K B ρ b ρ')
theorem dts_nil {X : Cx} {B : Bs} {ρ : Ro} : DTs X B ρ [] true ρ := ⟨fun pins s σ H Q I ⟨α, G, E, q⟩ => (pts_nil (X := X)).run pins s σ H Q I (q G H (Same.refl _) E)⟩
theorem dts_one {X : Cx} {B : Bs} {ρ ρ' : Ro} {c : Expr} {b : Bool} (h : DT X B ρ c b ρ') : DTs X B ρ [c] b ρ' := pts_one h
section
variable {X : Cx} {B : Bs} {ρ ρ1 : Ro} {elt tg it : Expr} {ifs : List Expr} {scope : Scope} {own : List (Str × Nat)} {pos : Pos} {ds : List D} {g : TG}
def tU (X : Cx) (scope : Scope) (e : Expr) : TE := fun σ H Q => ∃ t, InBlk X scope (fun Y => PE Y e t) ∧ t σ H Q
def tUT (X : Cx) (scope : Scope) (e : List Expr) : TT := fun σ H Q => ∃ t, InBlk X scope (fun Y => PTs Y e t) ∧ t σ H Q
theorem pe_u : InBlk X scope (fun Y => PE Y elt (tU X scope elt)) := fun s H C cl fp => ⟨fun pins s' σ H' Q I ⟨t, h, q⟩ => (h s H C cl fp).run pins s' σ H' Q I q⟩
theorem pt_u : InBlk X scope (fun Y => PTs Y ifs (tUT X scope ifs)) := fun s H C cl fp => ⟨fun pins s' σ H' Q I ⟨t, h, q⟩ => (h s H C cl fp).run pins s' σ H' Q I q⟩
/-- R k: the names behind k turns; out k: the list so far -/
theorem lc_read {vs : List Nat} (R : Nat → Ro) (out : Nat → List D) (h0 : wipeR ρ1 vs = R 0) (o0 : out 0 = []) (hv : ∀ v ∈ vs, ∀ p ∈ B.io, p.1 ≠ v) (hz : ∀ k, (out k).length < sizeLine)
    (turn : ∀ (B1 : Bs), B1.io = B.io → ∀ (k : Nat) d, ds[k]? = some d → ∃ r' ws, GD X.K B1 g d (R k) r' ws ∧ (∀ i ∈ ws, i ∈ vs) ∧ ∃ b r3, InBlk X scope (fun Y => DTs Y B1 r' ifs b r3) ∧
      (b = true → ∃ y r4, InBlk X scope (fun Y => DE Y B1 r3 elt y r4) ∧ out (k + 1) = out k ++ [y] ∧ wipeR r4 vs = R (k + 1)) ∧ (b = false → out (k + 1) = out k ∧ wipeR r3 vs = R (k + 1)))
    {σ : L2.St} {H : Hp} {Q : VK} (h : tO X.K B ρ (.lst (out ds.length)) (R ds.length) σ H Q) : tLc (tI X.K B ρ ds ρ1) g (tUT X scope ifs) (tU X scope elt) vs σ H Q := by
  obtain ⟨α, G, E, q⟩ := h
  refine ⟨α, G, E, fun J G1 H1 g1 E1 j => fun L hL => ?_⟩
  have gL : G1 L = none := E1.sub.free hL
  have bL : B.H L = none := E1.fresh hL
  have nio : ∀ p ∈ B.io, p.2 ≠ L := fun p hp => by
    obtain ⟨⟨d, e⟩, z⟩ := E1.io p hp
    rw [← z]; exact E1.ownNe hL e
  refine ⟨fun i n H' => n = ds.length - i ∧ i ≤ ds.length ∧ ∃ α' G' acc, EnvA X.K ⟨G1, upd B.H L (.lst acc), B.io⟩ α' (R i) (wipe σ vs) G' H' ∧ RepA X.K G' acc (out i) ∧ α' = α, ⟨ds.length, by simp, Nat.zero_le _, α, G1, [], ?_, by rw [o0]; exact .nil, rfl⟩, ?_⟩
  · have E2 := (E1.al (Al.new0 (o := .lst []) E1.sub hL)).guard (q := L) (o := .lst []) upd_same gL bL (fun j e he => E1.ownNe hL he)
    rw [← h0]
    refine E2.wipes hv (wipe_length _ _) fun j hj => ?_
    rw [wipe_get, if_neg hj]
  · rintro i n H2 ⟨rfl, hi, α2, G2, acc, E2, ra, rfl⟩
    obtain ⟨E2', k1, k2, k3⟩ := EnvA.unguard (r := R i) (σ := wipe σ vs) E1 bL gL nio E2
    by_cases hlt : i < ds.length
    · have hd : ds[i]? = some ds[i] := by simp [hlt]
      obtain ⟨go, yl⟩ := (j i H2 (E2.grow.trans E2.sub)).2 _ hd
      refine .inr ⟨go, fun H' => ∃ α' G' acc, EnvA X.K ⟨G1, upd B.H L (.lst acc), B.io⟩ α' (R (i + 1)) (wipe σ vs) G' H' ∧ RepA X.K G' acc (out (i + 1)) ∧ α' = α2, fun H' z => ⟨ds.length - (i + 1), by omega, rfl, hlt, z⟩, fun x H3 hy => ?_⟩
      obtain ⟨G3, al, rx⟩ := yl x H3 hy G2 E2.grow E2.sub
      obtain ⟨r', ws, gd, hws, b, r3, ht, hT, hF⟩ := turn ⟨G1, upd B.H L (.lst acc), B.io⟩ rfl i _ hd
      refine gd α2 _ G3 H3 x _ (E2.al al) rx fun σ4 E4 l4 c4 => ⟨?_, tT X.K _ _ _ _, ht, α2, G3, E4, fun G5 H5 g5 E5 => ?_⟩
      · rw [wipe_same (σ := wipe σ vs) l4 (fun j hj => c4 j fun z => hj (hws j z))]
        refine wipe_same (wipe_length _ _) fun j hj => ?_
        rw [wipe_get, if_neg hj]
      · have hwp : ∀ j, j ∉ vs → (wipe σ vs)[j]? = σ4[j]? := fun j hj => (c4 j fun z => hj (hws j z)).symm
        cases b with
        | true =>
          refine iteT ?_
          obtain ⟨y, r4, he, ho, hR⟩ := hT rfl
          refine ⟨tE X.K _ _ _ _, he, α2, G5, E5, fun v G6 H6 g6 E6 r6 => ?_⟩
          obtain ⟨E6', z1, z2, z3⟩ := EnvA.unguard (r := r4) (σ := σ4) E1 bL gL nio E6
          have hacc : RepA X.K G6 acc (out i) := ra.mono (al.g.trans (g5.trans g6))
          refine ⟨acc, z1, by rw [hacc.length]; exact hz i, α2, G6, acc ++ [v], ?_, by rw [ho]; exact hacc.append (.cons r6 .nil), rfl⟩
          rw [← hR]
          have E7 : EnvA X.K B α2 r4 σ4 G6 (upd H6 L (.lst (acc ++ [v]))) := by
            refine ⟨E6'.len, fun a u e => ?_, E6'.grow, fun a u e n k => ?_, E6'.dat, fun m d e => ?_, E6'.inj, E6'.io⟩
            · have := E6'.sub a u e
              rw [upd_ne (fun z => by rw [z, z2] at e; cases e)]; exact this
            · obtain ⟨y1, y2⟩ := E6'.keep a u e n k
              exact ⟨by rw [upd_ne (fun z => by rw [z, bL] at e; cases e)]; exact y1, y2⟩
            · obtain ⟨y1, y2, y3, y4⟩ := E6'.own m d e
              exact ⟨y1, y2, y3.mono (Same.refl _) (fun o ho => by rw [upd_ne (z3 m d e)]; exact ho), y4⟩
          have E8 := EnvA.guard (q := L) (o := .lst (acc ++ [v])) E7 upd_same z2 bL z3
          have E9 : EnvA X.K ⟨G1, upd B.H L (.lst (acc ++ [v])), B.io⟩ α2 r4 σ4 G6 (upd H6 L (.lst (acc ++ [v]))) :=
            ⟨E8.len, E8.sub, E6.grow, fun a u e n k => by
              by_cases z : a = L
              · subst z
                have e : upd B.H a (.lst (acc ++ [v])) a = some u := e
                rw [upd_same] at e; cases e; exact ⟨upd_same, z2⟩
              · have e : upd B.H L (.lst (acc ++ [v])) a = some u := e
                rw [upd_ne z] at e
                exact E7.keep a u e (E1.grow.free n) k, E8.dat, E8.own, E8.inj, E8.io⟩
          exact E9.wipes hv (by rw [wipe_length]; rw [l4, wipe_length]) hwp
        | false =>
          refine iteF ?_
          obtain ⟨ho, hR⟩ := hF rfl
          refine ⟨α2, G5, acc, ?_, by rw [ho]; exact ra.mono (al.g.trans g5), rfl⟩
          rw [← hR]
          exact E5.wipes hv (by rw [wipe_length]; rw [l4, wipe_length]) hwp
    · have e : i = ds.length := by omega
      subst e
      refine .inl ⟨(j _ H2 (E2.grow.trans E2.sub)).1 rfl, ?_⟩
      have E3 : EnvA X.K B α2 (R ds.length) σ G2 H2 := by
        have hR : wipeR (R ds.length) vs = R ds.length := by
          cases hn : ds.length with
          | zero => rw [← h0, wipeR_idem]
          | succ k =>
            obtain ⟨r', ws, _, _, b, r3, _, hT, hF⟩ := turn B rfl k ds[k] (by simp [hn])
            cases b with
            | true => obtain ⟨y, r4, _, _, z⟩ := hT rfl; rw [← z, wipeR_idem]
            | false => obtain ⟨_, z⟩ := hF rfl; rw [← z, wipeR_idem]
        rw [← hR]
        exact E2'.wipes hv (wipe_length _ _).symm fun j hj => by rw [wipe_get, if_neg hj]
      exact q L G2 H2 (g1.trans E2.grow) E3 k2 ⟨acc, k1, ra⟩ bL k3
/-- [elt for target in iter if ..], the general form -/
theorem do_lc (hc : X.calm = true) (hN : X.N.Nodup) (hi : DI X B ρ tg it ds ρ1) (ok : BlkOk X.N X.env.scope scope own) (hg : InBlk X scope (fun Y => PG Y tg g)) (R : Nat → Ro) (out : Nat → List D) (h0 : wipeR ρ1 (own.map (·.2)) = R 0) (o0 : out 0 = [])
    (hv : ∀ v ∈ own.map (·.2), ∀ p ∈ B.io, p.1 ≠ v) (hz : ∀ k, (out k).length < sizeLine)
    (turn : ∀ (B1 : Bs), B1.io = B.io → ∀ (k : Nat) d, ds[k]? = some d → ∃ r' ws, GD X.K B1 g d (R k) r' ws ∧ (∀ i ∈ ws, i ∈ own.map (·.2)) ∧ ∃ b r3, InBlk X scope (fun Y => DTs Y B1 r' ifs b r3) ∧
      (b = true → ∃ y r4, InBlk X scope (fun Y => DE Y B1 r3 elt y r4) ∧ out (k + 1) = out k ++ [y] ∧ wipeR r4 (own.map (·.2)) = R (k + 1)) ∧ (b = false → out (k + 1) = out k ∧ wipeR r3 (own.map (·.2)) = R (k + 1)))
    (hs : ∀ x, foldedSetIterable it X.env x = pure x := by intro _; rfl) : DO X B ρ (.ListComp elt [⟨tg, it, ifs, 0⟩] scope pos) (.lst (out ds.length)) (R ds.length) :=
  PE.imp (pe_lc hc hN hi ok hg pt_u pe_u hs) fun σ H Q h => lc_read R out h0 o0 hv hz turn h
/-- [elt for x in iter]: a map -/
theorem do_map {i : Nat} {x : Str} {px : Pos} (f : D → D) (hc : X.calm = true) (hN : X.N.Nodup) (hi : DI X B ρ (.Name x px) it ds ρ1) (ok : BlkOk X.N X.env.scope scope [(x, i)]) (hg : InBlk X scope (fun Y => PG Y (.Name x px) (gName i))) (hv : ∀ p ∈ B.io, p.1 ≠ i) (hz : ds.length < sizeLine)
    (he : ∀ (B1 : Bs), B1.io = B.io → ∀ d, d ∈ ds → InBlk X scope (fun Y => DE Y B1 (ρ1.set i (.dat d)) elt (f d) (ρ1.set i (.dat d))))
    (hs : ∀ x, foldedSetIterable it X.env x = pure x := by intro _; rfl) : DO X B ρ (.ListComp elt [⟨.Name x px, it, [], 0⟩] scope pos) (.lst (ds.map f)) (ρ1.set i .un) := by
  have h := do_lc (X := X) (B := B) (ρ := ρ) (elt := elt) (ifs := []) (pos := pos) hc hN hi ok hg (fun _ => ρ1.set i .un) (fun k => (ds.take k).map f) rfl (by simp) (by intro v hv' p hp; simp at hv'; subst hv'; exact hv p hp) (fun k => by
    rw [List.length_map, List.length_take]; exact Nat.lt_of_le_of_lt (Nat.min_le_right _ _) hz) (fun B1 hB k d hd => by
    refine ⟨ρ1.set i (.dat d), [i], ?_, by simp, true, _, fun _ _ _ _ _ => dts_nil, fun _ => ⟨f d, _, he B1 hB d (List.mem_of_getElem? hd), ?_, ?_⟩, fun z => by cases z⟩
    · have := gd_name (K := X.K) (B := B1) (d := d) (r := ρ1.set i .un) (i := i) (by rw [hB]; exact hv)
      rw [List.set_set] at this; exact this
    · show (ds.take (k + 1)).map f = (ds.take k).map f ++ [f d]
      rw [List.take_succ, hd, List.map_append]; rfl
    · show (ρ1.set i (.dat d)).set i .un = ρ1.set i .un
      rw [List.set_set]) hs
  simpa using h
end
end DL

set_option maxRecDepth 100000
set_option maxHeartbeats 4000000
/-! enumerate(t), t a tuple -/
namespace PySem
open Sem (wp)
open Builtin Builtin.Str PyProof.Rows
set_option maxHeartbeats 4000000 in
theorem meets_enumerate_new1 {v : Value} {o : Obj} {H : Heap → Prop} (B : Begins v o H) :
    Meets (Builtin.«enumerate.__new__» ⟨[.type "enumerate", v], []⟩) (fun _ R s => H s.heap ∧
      R (.ok (.ret (.ref (s.heap.push o).objs.size))) { s with heap := (s.heap.push o).push { cls := .type "enumerate", data := .fields #[.none, .bool false, .ref s.heap.objs.size, rawInt 0, .none, .none] } }) :=
  .of_wp fun prog w A R s h => by
    obtain ⟨hp, g, d, tk, os⟩ := s; obtain ⟨h1, h⟩ := h
    have hsub := sub_enumerate
    have q1 : ∀ {A' : Around} {E : Value → Shared → Prop} {Q : Value → Shared → Prop}, Q (.ref hp.objs.size) ⟨hp.push o, g, d, tk, os⟩ → wpAny (model prog w) A' (pyIter v) Q E ⟨hp, g, d, tk, os⟩ :=
      fun q => B.iter prog w _ _ ⟨hp, g, d, tk, os⟩ _ h1 q
    wp_walk using q1
    refine wpAny_stack_any fun st => wpAny_pure ?_
    split
    · rename_i c _ _ _ _ _
      cases (c == Value.type "enumerate")
      · wp_walk using q1
        exact ⟨_, rfl, h⟩
      · wp_walk using q1
        exact ⟨_, rfl, h⟩
    · wp_walk using q1
      exact ⟨_, rfl, h⟩
section
variable {prog : Program} {w : World} {A : Around} {E : Value → Shared → Prop} {s : Shared}
theorem enum_begins1 {v : Value} {o : Obj} {H : Heap → Prop} {Q : Value → Shared → Prop} (B : Begins v o H) (h1 : H s.heap)
    (h : ∀ h', IsEnum h' (s.heap.objs.size + 1) s.heap.objs.size 0 .none → h'.get? s.heap.objs.size = some o → h'.objs.size = s.heap.objs.size + 2 →
      (∀ b o, s.heap.get? b = some o → h'.get? b = some o) → Q (.ref (s.heap.objs.size + 1)) { s with heap := h' }) :
    wpAny (model prog w) A (call (.type "enumerate") [v]) Q E s := by
  refine callType_new F.called_enumerate (by decide) (F.typeCall_enumerate_1 _) (F.newCall_enumerate_1 _) (fun obj => F.args_object_init_2 obj _) F.entry_enumerate_new
    (meets_enumerate_new1 B) ⟨h1, ?_⟩
  have hz : (s.heap.push o).objs.size = s.heap.objs.size + 1 := Heap.size_push ..
  show _ ∧ _
  rw [hz]
  have he : IsEnum ((s.heap.push o).push { cls := .type "enumerate", data := .fields #[.none, .bool false, .ref s.heap.objs.size, rawInt 0, .none, .none] }) (s.heap.objs.size + 1) s.heap.objs.size 0 .none := by
    have := Heap.get?_push_size (s.heap.push o) (o := { cls := .type "enumerate", data := .fields #[.none, .bool false, .ref s.heap.objs.size, rawInt 0, .none, .none] }) rfl
    rw [hz] at this; exact this
  refine ⟨⟨_, he, rfl⟩, h _ he (Heap.get?_push_of_some _ (Heap.get?_push_size _ B.free)) (by rw [Heap.size_push, hz]) fun b o x => Heap.get?_push_of_some _ (Heap.get?_push_of_some _ x)⟩
end
end PySem
namespace DL
open PySem PySem.Spec PyProof.Rows L2
/-- the tuple at a, its items in new pairs with their numbers -/
def IteT (K : PySem.W.Frag) (a : Addr) : It :=
  ⟨fun i H => ∃ (xs : List V) (x : V), SqT K H a xs ∧ xs[i]? = some x, fun i H v H' => ∃ T x, v = .ref T ∧ H T = none ∧ H' = upd H T (.tup [.int (i : Nat), x]) ∧ ∀ xs, SqT K H a xs → xs[i]? = some x, fun i H => ∃ xs : List V, SqT K H a xs ∧ xs.length = i⟩
theorem turn_enumT {P : Program} {w : World} {K : PySem.W.Frag} {elts : List Expr} {kk : Nat} {tpos : Pos} (a e it : Addr) :
    Turn P w K (.Tuple elts kk tpos) (IteT K a) [e, it] e (fun i h => (∃ old, IsEnum h e it ((i : Nat) : Int) old) ∧ h.IsTupleIter it a i ∧ e ≠ it ∧ a ≠ it ∧ a ≠ e) where
  mem := by simp
  obj := fun i h st b hb => by
    obtain ⟨⟨old, he⟩, ⟨o, ho, hc, hd⟩, _⟩ := st
    have e' : b = e ∨ b = it := by simpa using hb
    rcases e' with z | z
    · rw [z]; exact ⟨_, he, fun v q => nomatch q⟩
    · rw [z]; exact ⟨o, ho, fun v q => by rw [hd] at q; cases q⟩
  keep := fun i h h' st k => let ⟨⟨old, he⟩, hi, hne⟩ := st; ⟨⟨old, k e (by simp) _ he⟩, hi.at fun o q => k it (by simp) o q, hne⟩
  item := by
    intro X hP hw hK hc i pins s σ H E I hf st hg
    subst hP hw hK
    obtain ⟨⟨old, he⟩, hit, hne, hna, hnb⟩ := st
    obtain ⟨xs, x, hq, hx⟩ := hg
    obtain ⟨its, rv, p, hz⟩ := I.tuple hq
    obtain ⟨u, hu, ru⟩ := rv.get hx
    have hel : e < s.heap.objs.size := Heap.lt_size he
    have hil : it < s.heap.objs.size := by obtain ⟨_, q, _⟩ := hit; exact Heap.lt_size q
    have hlt : i < its.toArray.size := by simpa using (List.getElem?_eq_some_iff.mp hu).1
    have pp : s.heap.IsTuple a its.toArray := p
    refine wpAny_pyNext_enum_itemD (Draws.tuple (A := X.A.in1) (I.ok.hd hc) it a hna its.toArray) he ⟨hit, pp⟩ hlt hne (by simp; exact ⟨hne, Ne.symm hnb⟩) fun x' h' tk hx' ho hst' hT hsz hk => ?_
    have hxu : x' = u := by
      have hx' : its.toArray[i]? = some x' := hx'
      rw [show its.toArray[i]? = some u by simpa using hu] at hx'
      exact (Option.some.inj hx').symm
    subst hxu
    obtain ⟨hit', _⟩ := hst'
    refine ⟨_, rfl, wpAny_letOwnedTupleGo_enum (s := { s with heap := h', toks := tk + 1 }) ho fun h'' he' sb => ?_⟩
    have hT2 : h''.get? s.heap.objs.size = some { cls := .type "tuple", data := .seq #[.int i tk, x'] } := (sb.2 _ (Nat.ne_of_gt hel)).trans hT
    have new : ObjOk X.prog X.w (upd H s.heap.objs.size (.tup [.int (i : Nat), x])) h'' s.heap.objs.size (.tup [.int (i : Nat), x]) :=
      ⟨by show 2 ≤ sizeLine; decide, [.int i tk, x'], .cons ⟨_, rfl⟩ (.cons ru .nil), ⟨_, hT2, rfl, _, rfl⟩⟩
    have I1 : Inv X pins σ (upd H s.heap.objs.size (.tup [.int (i : Nat), x])) { s with heap := h'', toks := tk + 1 } :=
      I.turnedNew (ch := [e, it]) (fun b ob hb q => (sb.2 b (fun z => hb (by simp [z]))).trans (hk b ob (fun z => hb (by simp [z])) (fun z => hb (by simp [z])) q)) hf (Nat.le_refl _) new
    refine ⟨.ref s.heap.objs.size, _, I1, rfl, ⟨_, x, rfl, I.hok.fresh (Nat.le_refl _), rfl, fun ys hy => by rw [I.tuple_inj hy hq]; exact hx⟩, ⟨⟨x', ?_⟩, hit'.at fun o q => (sb.2 it (Ne.symm hne)).trans q, hne, hna, hnb⟩, fun b hb => ?_⟩
    · have e1 : ((i + 1 : Nat) : Int) = (i : Int) + 1 := by omega
      rw [e1]; exact he'
    · have hb' : b < s.heap.objs.size := by
        have e' : b = e ∨ b = it := by simpa using hb
        rcases e' with z | z
        · rw [z]; exact hel
        · rw [z]; exact hil
      rw [upd_ne (Nat.ne_of_lt hb')]
      exact (hf b hb).1
  done := by
    intro X hP hw hK hc i pins s σ H E I hf st hg
    subst hP hw hK
    obtain ⟨⟨old, he⟩, hit, hne, hna, hnb⟩ := st
    obtain ⟨xs, hq, hx⟩ := hg
    obtain ⟨its, rv, p, hz⟩ := I.tuple hq
    obtain ⟨f0, f1, f2, f3, f4, f5⟩ := hf it (by simp)
    have hl := rv.length
    have pp : s.heap.IsTuple a its.toArray := p
    have hn : its.toArray.size = i := by simp; omega
    exact wpAny_pyNext_enum_endD (Draws.tuple (A := X.A.in1) (I.ok.hd hc) it a hna its.toArray) he (by rw [hn]; exact ⟨hit, pp⟩) fun h' eb => ⟨rfl, I.turned (t' := s.toks) (fun b o hb q => eb b o hb q) f0 f1 f3 f4 f5⟩
  self := fun A i s Q E st h => let ⟨⟨_, he⟩, _⟩ := st; wpAny_pyIter_enum he h
def iEnumT (K : PySem.W.Frag) (ta : TA) : TI := fun σ H R => ta σ H fun vs H1 => ∃ a xs, vs = [.ref a] ∧ SqT K H1 a xs ∧ R (IteT K a) H1
theorem pi_enumT {X : Cx} {e : Expr} {ta : TA} {p pos tpos : Pos} {elts : List Expr} {kk : Nat} (hg : Gl X "enumerate") (hm : X.mg "enumerate" = none) (ha : PA X [e] ta) (hs : starEach [e] X.env = [(false, eval e X.env)] := by rfl) :
    PI X (.Tuple elts kk tpos) (.Call (.Name "enumerate" p) [e] [] pos) (iEnumT X.K ta) := by
  refine ⟨fun pins s σ H R I h => ?_⟩
  refine Call_ (ld_blt I hg hm boot_enumerate (PyProof.Rows.callWith_type1 (thn (ha.run pos pins s σ H _ I h) fun us s1 ⟨vs, H1, I1, r1, q1⟩ => ?_) hs rfl))
  obtain ⟨a, xs, ex, hq, q⟩ := q1
  subst ex
  cases r1 with
  | cons r rr =>
    cases rr
    cases r
    obtain ⟨its, rv, p', hz⟩ := I1.tuple hq
    have pp : s1.heap.IsTuple a its.toArray := p'
    have hal : a < s1.heap.objs.size := p'.lt
    refine enum_begins1 (begins_tuple a its.toArray) pp fun h' he hit hsz hk => wpAny_pyIter_enum he ?_
    have I2 : Inv X pins σ H1 { s1 with heap := h' } := I1.kept (t' := s1.toks) hk
    refine ⟨s1.heap.objs.size + 1, [s1.heap.objs.size + 1, s1.heap.objs.size], _, _, H1, rfl, I2, turn_enumT a (s1.heap.objs.size + 1) s1.heap.objs.size, ⟨⟨.none, he⟩, ⟨_, hit, rfl, rfl⟩, Nat.succ_ne_self _, Nat.ne_of_lt hal, Nat.ne_of_lt (Nat.lt_succ_of_lt hal)⟩, fun b hb => ?_, q⟩
    have e' : b = s1.heap.objs.size + 1 ∨ b = s1.heap.objs.size := by simpa using hb
    have hle : s1.heap.objs.size ≤ b := by
      rcases e' with z | z
      · rw [z]; exact Nat.le_add_right _ _
      · rw [z]; exact Nat.le_refl _
    exact I1.fpOk hle (I1.hok.fresh hle)

/-! ### enumerate, told of data -/
def enumD (ds : List D) : List D := (List.range ds.length).zipWith (fun k d => .tup [.int (k : Nat), d]) ds
theorem enumD_len (ds : List D) : (enumD ds).length = ds.length := by simp [enumD]
theorem enumD_get {ds : List D} {i : Nat} {d : D} (h : (enumD ds)[i]? = some d) : ∃ x, ds[i]? = some x ∧ d = .tup [.int (i : Nat), x] := by
  unfold enumD at h
  rw [List.getElem?_zipWith] at h
  cases q : ds[i]? with
  | none => rw [q] at h; cases e : (List.range ds.length)[i]? <;> rw [e] at h <;> cases h
  | some x =>
    have hl : i < ds.length := (List.getElem?_eq_some_iff.mp q).1
    rw [q, List.getElem?_range hl] at h
    cases h; exact ⟨x, rfl, rfl⟩
theorem j_enum {K : PySem.W.Frag} {G : Hp} {a : Addr} {xs : List V} {ds : List D} (h : SqL K G a xs) (r : RepA K G xs ds) : JOk K (Ite K a) G (enumD ds) := fun i H' s =>
  ⟨fun hi => ⟨xs, same_l s h, by rw [r.length, ← enumD_len]; exact Nat.le_of_eq hi.symm⟩, fun d hd => by
    obtain ⟨y, hy, rfl⟩ := enumD_get hd
    obtain ⟨x, hx, rx⟩ := r.get hy
    refine ⟨⟨xs, x, same_l s h, hx⟩, fun v H'' ⟨T, x', e1, e2, e3, z⟩ G' g s' => ⟨upd G' T (.tup [.int (i : Nat), x']), by rw [e3]; exact Al.new s' e2, ?_⟩⟩
    have := z xs (same_l s h)
    rw [hx] at this; cases this
    rw [e1]
    exact .tup (.inl (.inl upd_same)) (.cons (.int _) (.cons (rx.mono (g.trans (same_upd (s'.free e2)))) .nil))⟩
theorem j_enumT {K : PySem.W.Frag} {G : Hp} {a : Addr} {xs : List V} {ds : List D} (h : SqT K G a xs) (r : RepA K G xs ds) : JOk K (IteT K a) G (enumD ds) := fun i H' s =>
  ⟨fun hi => ⟨xs, same_t s h, by rw [r.length, ← enumD_len]; exact hi.symm⟩, fun d hd => by
    obtain ⟨y, hy, rfl⟩ := enumD_get hd
    obtain ⟨x, hx, rx⟩ := r.get hy
    refine ⟨⟨xs, x, same_t s h, hx⟩, fun v H'' ⟨T, x', e1, e2, e3, z⟩ G' g s' => ⟨upd G' T (.tup [.int (i : Nat), x']), by rw [e3]; exact Al.new s' e2, ?_⟩⟩
    have := z xs (same_t s h)
    rw [hx] at this; cases this
    rw [e1]
    exact .tup (.inl (.inl upd_same)) (.cons (.int _) (.cons (rx.mono (g.trans (same_upd (s'.free e2)))) .nil))⟩
section
variable {X : Cx} {B : Bs} {ρ ρ' : Ro} {e : Expr} {ds : List D} {pos px tpos : Pos} {elts : List Expr} {kk : Nat}
theorem di_enum {d : D} (hm : X.mg "enumerate" = none) (h : DA X B ρ [e] [d] ρ') (hd : d = .lst ds ∨ d = .tup ds) (hg : Gl X "enumerate" := by rfl) (hs : starEach [e] X.env = [(false, eval e X.env)] := by rfl) :
    DI X B ρ (.Tuple elts kk tpos) (.Call (.Name "enumerate" px) [e] [] pos) (enumD ds) ρ' := by
  rcases hd with rfl | rfl
  · exact PI.imp (pi_enum hg hm h hs) fun σ H R ⟨α, G, E, q⟩ => ⟨α, G, E, fun vs G1 H1 g1 E1 r1 => by
      obtain ⟨v, rfl, r2⟩ := r1.one_inv
      obtain ⟨a, xs, rfl, h1, h2⟩ := r2.lst_inv
      exact ⟨a, xs, rfl, SqL.of (E1.sub _ _ h1), q _ G1 H1 g1 E1 (j_enum (SqL.of h1) h2)⟩⟩
  · exact PI.imp (pi_enumT hg hm h hs) fun σ H R ⟨α, G, E, q⟩ => ⟨α, G, E, fun vs G1 H1 g1 E1 r1 => by
      obtain ⟨v, rfl, r2⟩ := r1.one_inv
      obtain ⟨a, xs, rfl, h1, h2⟩ := r2.tup_inv
      exact ⟨a, xs, rfl, same_t E1.sub h1, q _ G1 H1 g1 E1 (j_enumT h1 h2)⟩⟩
end
end DL

set_option maxRecDepth 100000
set_option maxHeartbeats 4000000
namespace DL
open PySem PySem.Spec PyProof.Rows L2

/-! ### stores -/
def GS (K : PySem.W.Frag) (B : Bs) (g : TG) (d : D) (r r' : Ro) : Prop := ∀ α σ G H v (Q : L2.St → Hp → Prop), EnvA K B α r σ G H → Rep K G v d → (∀ σ' H', EnvA K B α r' σ' G H' → Q σ' H') → g v σ H Q
def GSs (K : PySem.W.Frag) (B : Bs) (g : TGs) (ds : List D) (r r' : Ro) : Prop := ∀ α σ G H us (Q : L2.St → Hp → Prop), EnvA K B α r σ G H → RepA K G us ds → (∀ σ' H', EnvA K B α r' σ' G H' → Q σ' H') → g us σ H Q
def gFld (K : PySem.W.Frag) (ta : TE) (f : Str) : TG := fun v σ H Q => ta σ H fun x H1 => ∃ a C dx fs, x = .ref a ∧ H1 a = some (.ins C dx fs) ∧ Cls K C ∧ NoAttr K C f ∧ fs.length < 1000 ∧ Q σ (upd H1 a (.ins C dx (putF f v fs)))
theorem pg_fld {X : Cx} {o : Expr} {f : Str} {pos : Pos} {ta : TE} (ho : PE X o ta) : PG X (.Attribute o f pos) (gFld X.K ta f) := by
  refine ⟨fun pins s σ H v u Q I r h => ?_⟩
  rw [assign_Attribute]
  refine wpAny_bind (wpAny_holding (thn (ho.run pins s σ H _ I h) fun ov s1 ⟨x, H1, I1, r1, a, C, dx, fs, ex, ea, c, n, l, q⟩ => ?_))
  subst ex
  obtain rfl : ov = Value.ref a := r1
  refine wpAny_bind (wpAny_standAt (wpAny_bind (wpAny_holding (setattr_ok I1 ea c n l r fun s3 I3 => ?_))))
  exact wpAny_release ⟨σ, _, I3, q⟩
section
variable {K : PySem.W.Frag} {B : Bs} {r r1 r2 : Ro} {d d1 d2 : D} {ds : List D} {g : TG} {gs : TGs} {vs : List Nat}
theorem GD.toGS (h : GD K B g d r r1 vs) : GS K B g d r r1 := fun α σ G H v Q E rp q => h α σ G H v Q E rp fun σ' E' _ _ => q σ' H E'
theorem gs_name {i : Nat} (hio : ∀ p ∈ B.io, p.1 ≠ i) : GS K B (gName i) d r (r.set i (.dat d)) := GD.toGS (gd_name hio)
theorem gss_nil : GSs K B gNil [] r r := fun α σ G H us Q E rp q => by
  cases rp; exact ⟨rfl, q σ H E⟩
theorem gss_cons (h : GS K B g d r r1) (hs : GSs K B gs ds r1 r2) : GSs K B (gCons g gs) (d :: ds) r r2 := fun α σ G H us Q E rp q => by
  cases rp with
  | cons r0 rr => exact ⟨_, _, rfl, h α σ G H _ _ E r0 fun σ1 H1 E1 => hs α σ1 G H1 _ _ E1 rr q⟩
theorem gs_tup {n : Nat} (hn : ds.length = n) (h : GSs K B gs ds r r1) : GS K B (gTup K n gs) (.tup ds) r r1 := fun α σ G H v Q E rp q => by
  obtain ⟨a, xs, rfl, h1, h2⟩ := rp.tup_inv
  exact ⟨a, xs, rfl, same_t E.sub h1, by rw [h2.length]; exact hn, h α σ G H xs Q E h2 q⟩
/-- x[k] = d, x an own list -/
theorem gs_sub {i : Nat} {k : Int} {j : Nat} {xs : List D} (hi : r[i]? = some (.own (.lst xs))) (hk : ixN xs.length k = some j) : GS K B (gSub (tVar i) (tC (.int k)) rSetL) d r (r.set i (.own (.lst (xs.set j d)))) := fun α σ G H v Q E rp q => by
  obtain ⟨h1, h2, ⟨vs, h3, h4⟩, h5⟩ := E.own i _ hi
  refine ⟨_, h1, α i, vs, k, j, rfl, rfl, h3, by rw [h4.length]; exact hk, q σ _ (E.write hi ⟨_, upd_same, h4.set rp j⟩)⟩
/-- self.f = d, self an own instance -/
theorem gs_fld {i : Nat} {A : Addr} {f : Str} {fs : List (Str × D)} (c : Cls K A) (n : NoAttr K A f) (hi : r[i]? = some (.own (.ins A fs))) (hl : fs.length < 1000) : GS K B (gFld K (tVar i) f) d r (r.set i (.own (.ins A (putD f d fs)))) := fun α σ G H v Q E rp q => by
  obtain ⟨h1, h2, ⟨dx, vs, h3, h4⟩, h5⟩ := E.own i _ hi
  refine ⟨_, h1, α i, A, dx, vs, rfl, h3, c, n, by rw [h4.length]; exact hl, q σ _ (E.write hi ⟨dx, _, upd_same, ?_⟩)⟩
  have put : ∀ {vs : List (Str × V)} {ds : List (Str × D)}, RepF K G vs ds → RepF K G (putF f v vs) (putD f d ds) := by
    intro vs ds h
    induction vs generalizing ds with
    | nil => cases h; exact .cons rp .nil
    | cons p vs ih =>
      cases h with
      | @cons k v' _ d' ds' ra rb =>
        show RepF K G (if k = f then (k, v) :: vs else (k, v') :: putF f v vs) (if k = f then (k, d) :: ds' else (k, d') :: putD f d ds')
        by_cases e : k = f
        · rw [if_pos e, if_pos e]; exact .cons rp rb
        · rw [if_neg e, if_neg e]; exact .cons ra (ih rb)
  exact put h4
end
section
variable {X : Cx} {B : Bs} {ρ ρ1 ρ2 ρ' : Ro} {e a b tg : Expr} {d d1 d2 : D} {pos px py pt pt2 apos : Pos} {es : List Expr} {ds xs : List D} {P : Post} {g : TG} {x : Str}
theorem ds_asg (h : DE X B ρ e d ρ1) (hg : PG X tg g) (hs' : GS X.K B g d ρ1 ρ2) (k : P.nx ρ2) (hs : swapsWithSole [tg] e pos.line X.env = pure false := by rfl) (hw : swappedStores [tg] e X.env = pure none := by rfl)
    (h1 : (assignEach [tg] X.env).map (·.2) = [assign tg X.env] := by rfl) : DS X B ρ (.Assign [tg] e pos) P :=
  PS.imp (ps_asg h hg hs hw h1) fun D σ H ⟨⟨α, G, E⟩, m⟩ => ⟨α, G, E, fun v G1 H1 g1 E1 r1 => hs' α σ G1 H1 v _ E1 r1 fun σ' H' E' => m.nx _ _ _ _ _ k E'⟩
/-- x, y = a, b -/
theorem ds_par {i j : Nat} {x y : Str} {kt k2} (hc : X.calm = true) (hN : X.N.Nodup) (ha : DA X B ρ [a, b] [d1, d2] ρ1) (k : P.nx ((ρ1.set i (.dat d1)).set j (.dat d2))) (hij : i ≠ j) (hio : ∀ p ∈ B.io, p.1 ≠ i ∧ p.1 ≠ j) (hi : X.N[i]? = some x := by rfl) (hj : X.N[j]? = some y := by rfl)
    (hx : X.env.scope.names.lookup x = some .local := by rfl) (hy : X.env.scope.names.lookup y = some .local := by rfl)
    (hw : swappedStores [.Tuple [.Name x px, .Name y py] kt pt] (.Tuple [a, b] k2 pt2) X.env = pure (some [x, y]) := by rfl)
    (hs : swapsWithSole [.Tuple [.Name x px, .Name y py] kt pt] (.Tuple [a, b] k2 pt2) pos.line X.env = pure false := by rfl) :
    DS X B ρ (.Assign [.Tuple [.Name x px, .Name y py] kt pt] (.Tuple [a, b] k2 pt2) pos) P :=
  PS.imp (ps_par hc hN hi hj hij hx hy ha hw hs) fun D σ H ⟨⟨α, G, E⟩, m⟩ => ⟨α, G, E, fun vs G1 H1 g1 E1 r1 => by
    obtain ⟨v, w, rfl, q1, q2⟩ := r1.two_inv
    exact ⟨v, w, rfl, m.nx _ _ _ _ _ k ((E1.set (fun p hp => (hio p hp).1) q1).set (fun p hp => (hio p hp).2) q2)⟩⟩

/-! ### own lists -/
theorem e_ixO {i : Nat} {k : Int} (hρ : ρ[i]? = some (.own (.lst xs))) (hb : DE X B ρ b (.int k) ρ1) (hρ1 : ρ1[i]? = some (.own (.lst xs))) (hd : atI xs k = some d) (hs : PlainIx b := by intro _ _; rfl) (hN : X.N[i]? = some x := by rfl) (hv : Vis X.env.scope x := by first | exact Or.inl rfl | exact Or.inr (Or.inl rfl) | exact Or.inr (Or.inr rfl)) (hdb : (x == ("__debug__" : Str)) = false := by decide)
    (hcd : (x == ("__classdict__" : Str)) = false := by decide) : DE X B ρ (.Subscript (.Name x px) b pos) d ρ1 :=
  PE.imp (pe_ix ix_list (pe_var hN hv hdb hcd) hb hs) fun σ H Q ⟨α, G, E, q⟩ => ⟨_, (E.own i _ hρ).1, α, G, E, fun v G1 H1 g1 E1 r1 => by
    obtain ⟨_, _, ⟨vs, h3, h4⟩, _⟩ := E1.own i _ hρ1
    obtain ⟨y, hy, ry⟩ := atI_rep h4 hd
    exact ⟨α i, vs, k, y, rfl, r1.int_inv, SqL.of h3, hy, q y G1 H1 g1 E1 ry⟩⟩
theorem e_lenO {i : Nat} (hm : X.mg "len" = none) (hρ : ρ[i]? = some (.own (.lst xs))) (hg : Gl X "len" := by rfl) (hN : X.N[i]? = some x := by rfl) (hv : Vis X.env.scope x := by first | exact Or.inl rfl | exact Or.inr (Or.inl rfl) | exact Or.inr (Or.inr rfl)) (hdb : (x == ("__debug__" : Str)) = false := by decide)
    (hcd : (x == ("__classdict__" : Str)) = false := by decide) (hst : starEach [.Name x px] X.env = [(false, eval (.Name x px) X.env)] := by rfl) : DE X B ρ (.Call (.Name "len" apos) [.Name x px] [] pos) (.int xs.length) ρ :=
  PE.imp (pe_callB call_len_seq hg hm PySem.boot_len (pa_cons (pe_var hN hv hdb hcd) pa_nil hst) (by decide) (by decide) hst rfl) fun σ H Q ⟨α, G, E, q⟩ => ⟨_, (E.own i _ hρ).1, by
    obtain ⟨_, _, ⟨vs, h3, h4⟩, _⟩ := E.own i _ hρ
    exact ⟨α i, vs, rfl, .inl (SqL.of h3), q _ G H (Same.refl _) E (by rw [h4.length]; exact .int _)⟩⟩
/-- x.append(e) -/
theorem ds_append {i : Nat} (hp : ρ[i]? = some (.own (.lst xs))) (h : DE X B ρ e d ρ1) (hρ : ρ1[i]? = some (.own (.lst xs))) (hz : xs.length < sizeLine) (k : P.nx (ρ1.set i (.own (.lst (xs ++ [d])))))
    (hN : X.N[i]? = some x := by rfl) (hv : Vis X.env.scope x := by first | exact Or.inl rfl | exact Or.inr (Or.inl rfl) | exact Or.inr (Or.inr rfl)) (hdb : (x == ("__debug__" : Str)) = false := by decide) (hcd : (x == ("__classdict__" : Str)) = false := by decide)
    {cpos : Pos} (hs : swapsWith (.Call (.Attribute (.Name x px) "append" apos) [e] [] cpos) none pos.line X.env = pure false := by rfl)
    (hst : starEach [e] X.env = [(false, eval e X.env)] := by rfl)
    (hbase : attributeBase (.Name x px) "append" X.env (eval (.Name x px) X.env) = eval (.Name x px) X.env := by rfl)
    (hfew : ((backTo cpos (starEach [e] X.env)).all (fun x => !x.1) && (backToKw cpos (keywordEach [] X.env)).all (fun x => x.1.isSome)
      && decide ([e].length + ([] : List Keyword).length + (if ([] : List Keyword).isEmpty then 0 else 1) < 30)) = true := by rfl)
    (hline : (apos.endLine == cpos.line) = true := by rfl) : DS X B ρ (.Expr (.Call (.Attribute (.Name x px) "append" apos) [e] [] cpos) pos) P :=
  PS.imp (ps_expr (pe_bm PySem.F.plainAttrs_list PySem.F.slot_list_append PySem.F.type_list_append mt_append (pe_var hN hv hdb hcd) (pa_cons h pa_nil hst) hbase hfew hline hst rfl) hs) fun D σ H ⟨⟨α, G, E⟩, m⟩ => by
    obtain ⟨h1, h2, ⟨vs, h3, h4⟩, h5⟩ := E.own i _ hp
    refine ⟨_, h1, .inl ⟨rfl, vs, SqL.of h3⟩, α, G, E, fun v G1 H1 g1 E1 r1 => ?_⟩
    obtain ⟨_, _, ⟨ws, h6, h7⟩, _⟩ := E1.own i _ hρ
    exact ⟨α i, ws, v, rfl, rfl, h6, by rw [h7.length]; exact hz, m.nx _ _ _ _ _ k (E1.write hρ ⟨_, upd_same, h7.append (.cons r1 .nil)⟩)⟩
/-- x.pop(e) -/
theorem e_popO {i : Nat} {k : Int} {j : Nat} (hp : ρ[i]? = some (.own (.lst xs))) (h : DE X B ρ e (.int k) ρ1) (hρ : ρ1[i]? = some (.own (.lst xs))) (h1 : -(2 ^ 63) ≤ k) (h2 : k < 2 ^ 63) (hj : seqIndex? k xs.length = some j) (hd : xs[j]? = some d)
    (hN : X.N[i]? = some x := by rfl) (hv : Vis X.env.scope x := by first | exact Or.inl rfl | exact Or.inr (Or.inl rfl) | exact Or.inr (Or.inr rfl)) (hdb : (x == ("__debug__" : Str)) = false := by decide) (hcd : (x == ("__classdict__" : Str)) = false := by decide)
    {cpos : Pos} (hst : starEach [e] X.env = [(false, eval e X.env)] := by rfl)
    (hbase : attributeBase (.Name x px) "pop" X.env (eval (.Name x px) X.env) = eval (.Name x px) X.env := by rfl)
    (hfew : ((backTo cpos (starEach [e] X.env)).all (fun x => !x.1) && (backToKw cpos (keywordEach [] X.env)).all (fun x => x.1.isSome)
      && decide ([e].length + ([] : List Keyword).length + (if ([] : List Keyword).isEmpty then 0 else 1) < 30)) = true := by rfl)
    (hline : (apos.endLine == cpos.line) = true := by rfl) : DE X B ρ (.Call (.Attribute (.Name x px) "pop" apos) [e] [] cpos) d (ρ1.set i (.own (.lst (xs.eraseIdx j)))) :=
  PE.imp (pe_bm PySem.F.plainAttrs_list PySem.F.slot_list_pop PySem.F.type_list_pop mt_popAt (pe_var hN hv hdb hcd) (pa_cons h pa_nil hst) hbase hfew hline hst rfl) fun σ H Q ⟨α, G, E, q⟩ => by
    obtain ⟨z1, z2, ⟨vs, z3, z4⟩, z5⟩ := E.own i _ hp
    refine ⟨_, z1, .inl ⟨rfl, vs, SqL.of z3⟩, α, G, E, fun v G1 H1 g1 E1 r1 => ?_⟩
    obtain ⟨_, _, ⟨ws, h6, h7⟩, _⟩ := E1.own i _ hρ
    obtain ⟨y, hy, ry⟩ := h7.get hd
    exact ⟨α i, ws, k, j, y, rfl, by rw [r1.int_inv], h6, h1, h2, by rw [h7.length]; exact hj, hy, q y G1 _ g1 (E1.write hρ ⟨_, upd_same, h7.eraseIdx j⟩) ry⟩
end

/-! ### data as the library has them -/
mutual
def D.py : D → PyData
  | .non => .none
  | .bl b => .bool b
  | .int i => .int i
  | .str x => .str x
  | .lst xs => .list (D.pys xs)
  | .tup xs => .tuple (D.pys xs)
  | _ => .none
def D.pys : List D → List PyData
  | [] => []
  | x :: xs => x.py :: D.pys xs
end
mutual
/-- plain data: None, truths, numbers, texts, lists and tuples of such -/
def D.pl : D → Bool
  | .non => true
  | .bl _ => true
  | .int _ => true
  | .str _ => true
  | .lst xs => D.pls xs
  | .tup xs => D.pls xs
  | _ => false
def D.pls : List D → Bool
  | [] => true
  | x :: xs => x.pl && D.pls xs
end
mutual
theorem Rep.dp {K : PySem.W.Frag} {G H : Hp} (s : Same G H) : ∀ {v : V} {d : D}, Rep K G v d → d.pl = true → Dp K H v d.py
  | _, _, .non, _ => .non
  | _, _, .bl b, _ => .bl b
  | _, _, .int i, _ => .int i
  | _, _, .str x, _ => .str x
  | _, _, .cst v, h => by simp [D.pl] at h
  | _, _, .lst h r, p => by
    simp only [D.pl] at p
    simp only [D.py]
    exact .lst (SqL.of (s _ _ h)) (RepA.dp s r p)
  | _, _, .frl h r, p => by simp [D.pl] at p
  | _, _, .tup h r, p => by
    simp only [D.pl] at p
    simp only [D.py]
    exact .tup (same_t s h) (RepA.dp s r p)
  | _, _, .dct h r, p => by simp [D.pl] at p
  | _, _, .ins h r, p => by simp [D.pl] at p
theorem RepA.dp {K : PySem.W.Frag} {G H : Hp} (s : Same G H) : ∀ {v : List V} {d : List D}, RepA K G v d → D.pls d = true → DpAll K H v (D.pys d)
  | _, _, .nil, _ => by simp only [D.pys]; exact .nil
  | _, _, .cons r t, p => by
    simp only [D.pls, Bool.and_eq_true] at p
    simp only [D.pys]
    exact .cons (Rep.dp s r p.1) (RepA.dp s t p.2)
end
section
variable {X : Cx} {d1 d2 : D}
theorem c_eqD (hu : X.A.units + 64 < cLine) (p1 : d1.pl = true) (p2 : d2.pl = true) (s1 : SeqAt.shaped d1.py = true) (s2 : SeqAt.shaped d2.py = true) : CmpD X .Eq d1 d2 (.bl (PyData.eqv d1.py d2.py)) := fun x y G H s r1 r2 Q q =>
  ⟨_, op_eqD hu, d1.py, d2.py, r1.dp s p1, r2.dp s p2, s1, s2, q _ G H (Al.refl s) (.bl _)⟩
theorem c_neD (hu : X.A.units + 64 < cLine) (p1 : d1.pl = true) (p2 : d2.pl = true) (s1 : SeqAt.shaped d1.py = true) (s2 : SeqAt.shaped d2.py = true) : CmpD X .NotEq d1 d2 (.bl (!PyData.eqv d1.py d2.py)) := fun x y G H s r1 r2 Q q =>
  ⟨_, op_neD hu, d1.py, d2.py, r1.dp s p1, r2.dp s p2, s1, s2, q _ G H (Al.refl s) (.bl _)⟩
/-! ### repr -/
def rRepr (K : PySem.W.Frag) : List V → Hp → VK → Prop := fun xs H Q => ∃ a d, xs = [.ref a] ∧ Dp K H (.ref a) d ∧ d.showable = true ∧ d.hasDict = false ∧ d.depth < 60 ∧ d.shown.length ≤ sizeLine ∧ Q (.str d.shown) H
theorem call_repr (hg : X.A.guards = some []) (hu : X.A.units + 64 < cLine) : CallR X (.builtin "repr") (rRepr X.K) := by
  intro pins s σ H xs us Q I rv h
  obtain ⟨a, d, rfl, hd, h1, h2, h3, h4, q⟩ := h
  cases rv with
  | cons r rr =>
    cases rr
    obtain ⟨as, r1⟩ := Dp.reads I d _ _ hd r
    cases r
    refine repr_of_reads' r1 h1 (PyData.noDict_hsm h2) hg (by omega) (fun _ _ e => e) (fun h' u tk hk => ?_) h4
    exact ⟨.str d.shown, H, I.kept hk, ⟨_, rfl⟩, q⟩
def D.isSeq : D → Bool
  | .lst _ => true
  | .tup _ => true
  | _ => false
theorem f_repr {d : D} (hg : X.A.guards = some []) (hu : X.A.units + 64 < cLine) (hs : d.isSeq = true) (p : d.pl = true) (h1 : d.py.showable = true) (h2 : d.py.hasDict = false) (h3 : d.py.depth < 60) (h4 : d.py.shown.length ≤ sizeLine) : CaD X (.builtin "repr") [d] (.str d.py.shown) := fun vs G H s r Q q => by
  obtain ⟨v, rfl, r1⟩ := r.one_inv
  have hd := r1.dp s p
  have : ∃ a, v = .ref a := by
    cases r1 with
    | lst h t => exact ⟨_, rfl⟩
    | tup h t => exact ⟨_, rfl⟩
    | _ => cases hs
  obtain ⟨a, rfl⟩ := this
  exact ⟨_, call_repr hg hu, a, d.py, rfl, hd, h1, h2, h3, h4, q _ G H (Al.refl s) (.str _)⟩
end
end DL

set_option maxRecDepth 100000
set_option maxHeartbeats 4000000
/-! == and != by an own __eq__ -/
namespace DL
open PySem PySem.Spec PyProof.Rows L2 PySem.W
section
variable {prog : Program} {w : World} {A : Around} {E : Value → Shared → Prop} {s : Shared} {K : Frag} {x C L f : Addr} {h₀ : Heap} {m : Str → Option Value} {ox : Obj} {od : Option Obj} {b tb : Value}
theorem ne_bind (self : Value) : bindSpecial (.builtin "object.__ne__") self = pure (.builtin "object.__ne__", [self]) := by kernel_rfl
/-- a truth that is no NotImplemented -/
def TruBack (Q : Bool → Shared → Prop) (v : Value) (s' : Shared) : Prop := ∃ k, v = .bool k ∧ Q k s'
theorem objNe_own (X : K.In s.heap) (I : InstAt s.heap x ox C od) (hs : findIn K (.ref C) "__eq__" = some (some (.ref f))) (hf : isFn K (.ref f) = true) (hu : A.units < cLine) {Q : Fin → Shared → Prop}
    (h : wpAny (model prog w) A (call (.ref f) [.ref x, b]) (TruBack fun k => Q (.done (.ret (.bool (!k))))) E s) : wpAny (model prog w) A (Builtin.«object.__ne__» ⟨[.ref x, b], []⟩) Q E s := by
  unfold Builtin.«object.__ne__»
  refine wpAny_bind (wpAny_of_eq (a := ((Value.ref x : Value), [b])) (by first | rfl | (simp only [slotArgs]; rfl)) ?_)
  refine wpAny_bind (wpAny_cRoomFor hu ?_)
  refine wpAny_bind (ifBound_K X I hs hf (wpAny_mono h (fun v s' hv => ?_) fun _ _ e => e))
  obtain ⟨k, rfl, q⟩ := hv
  exact wpAny_bind (wpAny_truthy_bool (wpAny_pure q))
theorem try_ne (X : K.In s.heap) (I : InstAt s.heap x ox C od) (hs : findIn K (.ref C) "__eq__" = some (some (.ref f))) (hn : findIn K (.ref C) "__ne__" = some (some (.builtin "object.__ne__"))) (hm : mroIn K C (.type "object") = some true) (hf : isFn K (.ref f) = true) (hu : A.units + 1 < cLine) {Q : Option Value → Shared → Prop}
    (h : wpAny (model prog w) A.in1 (call (.ref f) [.ref x, b]) (TruBack fun k => Q (some (.bool (!k)))) E s) : wpAny (model prog w) A (tryCompare (.ref x) "__ne__" b) Q E s := by
  have call1 : wpAny (model prog w) A (call (.builtin "object.__ne__") [.ref x, b]) (fun v s' => ∃ k, v = .bool k ∧ Q (some (.bool k)) s') E s := by
    refine wpAny_call (codeAny_call_builtin F.cmp_object.ne.plain F.cmpEntry_ne (check_slot F.cmpKind_ne F.cmpSplit_ne (I.type.andThen (looks_mroIn X hm)) (F.cmpArgs_ne _ _) (objNe_own X I hs hf hu (wpAny_mono h (fun v s' hv => ?_) fun _ _ e => e))))
    obtain ⟨k, rfl, q⟩ := hv
    exact ⟨k, rfl, ⟨!k, rfl, q⟩⟩
  simp only [tryCompare, callSpecialIfBound?, bindSpecialIfBound?]
  refine wpAny_bind (wpAny_holding (wpAny_bind (wpAny_bind (wpAny_bind (I.type.here ((looks_findIn X hn).here ?_))))))
  have fin : wpAny (model prog w) A (call (.builtin "object.__ne__") ([.ref x] ++ [b]) >>= fun v => pure (some v)) (fun r s₁ => wpAny (model prog w) A (match r with | some Value.notImplemented | none => pure none | some v => pure (some v)) Q E s₁) E s :=
    wpAny_bind (wpAny_mono call1 (fun v s' hv => by obtain ⟨k, rfl, q⟩ := hv; exact wpAny_pure (wpAny_pure q)) fun _ _ e => e)
  refine wpAny_bind (wpAny_askSetting (wpAny_ite ?_))
  split
  · rw [ne_bind]; exact wpAny_bind (wpAny_pure (wpAny_pure (by exact fin)))
  · rw [ne_bind]; exact wpAny_tryCatch (wpAny_bind (wpAny_pure (wpAny_pure (by exact fin))))
theorem ne_own (hu : A.units + 1 < cLine) (X : K.In s.heap) (I : InstAt s.heap x ox C od) (hb : Looks (model prog w) s.heap (typeOf b) tb) (hn : notFirst K C tb = true) (hs : findIn K (.ref C) "__eq__" = some (some (.ref f))) (hne : findIn K (.ref C) "__ne__" = some (some (.builtin "object.__ne__"))) (hm : mroIn K C (.type "object") = some true) (hf : isFn K (.ref f) = true)
    {Q : Value → Shared → Prop} (h : wpAny (model prog w) A.in1 (call (.ref f) [.ref x, b]) (TruBack fun k => Q (.bool (!k))) E s) : wpAny (model prog w) A (richCompare .NotEq (.ref x) b) Q E s := by
  have one : wpAny (model prog w) A (tryCompare (.ref x) "__ne__" b) (fun r s' => ∃ v, r = some v ∧ Q v s') E s := try_ne X I hs hne hm hf hu (wpAny_mono h (fun v s' hv => by obtain ⟨k, rfl, q⟩ := hv; exact ⟨k, rfl, _, rfl, q⟩) fun _ _ e => e)
  unfold richCompare
  simp only [oneThing_ref]
  refine wpAny_holding (wpAny_bind (wpAny_cRoomFor (Nat.lt_of_succ_lt hu) (wpAny_bind (I.type.here (wpAny_bind (hb.here ?_))))))
  have go : ∀ {R : Value → Shared → Prop}, (∀ v s', Q v s' → R v s') → wpAny (model prog w) A (tryCompare (.ref x) "__ne__" b) (fun r s' => ∃ v, r = some v ∧ R v s') E s := fun k => wpAny_mono one (fun r s' ⟨v, e, q⟩ => ⟨v, e, k v s' q⟩) fun _ _ e => e
  split
  · rename_i q
    have e : subIn K tb (.ref C) = some false := by
      rcases Bool.or_eq_true_iff.mp hn with e | e
      · rw [beq_iff_eq.mp e] at q; simp at q
      · exact beq_iff_eq.mp e
    refine wpAny_bind ((looks_subIn X e).here ?_)
    simp only [Bool.false_eq_true, if_false]
    refine wpAny_bind (wpAny_mono one (fun r s' ⟨v, e, z⟩ => ?_) fun _ _ e => e)
    subst e; exact wpAny_pure z
  · refine wpAny_bind (wpAny_pure ?_)
    simp only [Bool.false_eq_true, if_false]
    refine wpAny_bind (wpAny_mono one (fun r s' ⟨v, e, z⟩ => ?_) fun _ _ e => e)
    subst e; exact wpAny_pure z
end
/-- what a class with an own __eq__ has -/
structure EqC (K : PySem.W.Frag) (C f : Addr) : Prop where
  eq : PySem.W.findIn K (.ref C) "__eq__" = some (some (.ref f))
  ne : PySem.W.findIn K (.ref C) "__ne__" = some (some (.builtin "object.__ne__"))
  mro : PySem.W.mroIn K C (.type "object") = some true
  fn : PySem.W.isFn K (.ref f) = true
/-- .. by its promise -/
structure EFn (P : Program) (w : World) (K : PySem.W.Frag) (mg : Str → Option Value) (base : Heap) (k : Nat) (C : Addr) (sp : Sp) : Prop where
  ex : ∃ f fd ps, FnG P w K mg base CX0 k f fd ps sp ∧ EqC K C f ∧ Binds K fd ps []
/-- the type of what stands on the right is no subclass -/
def RightTy (K : PySem.W.Frag) (C : Addr) : D → Prop
  | .ins A _ => Cls K A ∧ PySem.W.notFirst K C (.ref A) = true
  | .tup _ => PySem.W.notFirst K C (.type "tuple") = true
  | .lst _ => PySem.W.notFirst K C (.type "list") = true
  | .non => PySem.W.notFirst K C (.type "NoneType") = true
  | .int _ => PySem.W.notFirst K C (.type "int") = true
  | .bl _ => PySem.W.notFirst K C (.type "bool") = true
  | .str _ => PySem.W.notFirst K C (.type "str") = true
  | _ => False
section
variable {X : Cx} {k : Nat} {A : Addr} {fs : List (Str × D)} {d2 : D} {C : List D → D → Prop} {r : Bool}
theorem right_looks {pins : List (Addr × Obj)} {σ : L2.St} {H G : Hp} {s : Shared} {y : V} {u : Value} (I : Inv X pins σ H s) (s1 : Same G H) (rp : Rep X.K G y d2) (ru : RelV y u) (hR : RightTy X.K A d2) :
    ∃ tb, PySem.W.Looks (model X.prog X.w) s.heap (typeOf u) tb ∧ PySem.W.notFirst X.K A tb = true := by
  cases rp with
  | ins h t =>
    cases ru
    obtain ⟨mB, J, _⟩ := ins_get I.hok (s1 _ _ h)
    obtain ⟨od, J, _⟩ := J.look
    exact ⟨_, J.type, hR.2⟩
  | tup h t =>
    cases ru
    obtain ⟨its, rv, p, hz⟩ := I.tuple (same_t s1 h)
    obtain ⟨o, ho, hc, _⟩ := p
    exact ⟨.type "tuple", fun A Q E s k q => wpAny_typeOf_ref (k _ _ ho) (by rw [hc]; exact q), hR⟩
  | lst h t =>
    cases ru
    obtain ⟨its, rv, p, hz⟩ := I.list (SqL.of (s1 _ _ h))
    obtain ⟨o, n, ho, hc, _⟩ := p
    exact ⟨.type "list", fun A Q E s k q => wpAny_typeOf_ref (k _ _ ho) (by rw [hc]; exact q), hR⟩
  | non => cases ru; exact ⟨_, .now, hR⟩
  | bl b => cases ru; exact ⟨_, .now, hR⟩
  | int i => obtain ⟨t, rfl⟩ := ru; exact ⟨_, .now, hR⟩
  | str x => obtain ⟨t, rfl⟩ := ru; exact ⟨_, .now, hR⟩
  | _ => exact hR.elim
/-- the call of __eq__ by a comparison -/
theorem eq_call {f : Addr} {fd : FuncData} {ps : List Str} {A' : Around} {pins : List (Addr × Obj)} {σ : L2.St} {H G : Hp} {s : Shared} {a : Addr} {y : V} {u : Value} {Q : VK} (F : FnG X.prog X.w X.K X.mg X.base CX0 k f fd ps (spP X.K C)) (hb : Binds X.K fd ps []) (hr : Rm k A') (hfr : A'.frames = X.A.frames) (I : Inv X pins σ H s) (s1 : Same G H)
    (ra : Rep X.K G (.ref a) (.ins A fs)) (ry : Rep X.K G y d2) (ru : RelV y u) (hC : C [.ins A fs, d2] (.bl r)) (q : ∀ G' H', Al G H G' H' → Q (.bl r) H') :
    wpAny (model X.prog X.w) A' (call (.ref f) [.ref a, u]) (fun v s' => v = .bool r ∧ ∃ H', Inv X pins σ H' s' ∧ Q (.bl r) H') X.xe s := by
  have e0 : Env0 X.prog X.w X.K X.mg X.base A' X.stack s H := by
    have e := I.env0
    exact ⟨by rw [hfr]; exact e.frames, e.mod, e.bs, e.bsz, e.funs, e.frf, e.hok, e.bare⟩
  have hsp : spP X.K C [.ref a, y] H (fun v H' => v = .bl r ∧ Q (.bl r) H') E0 := ⟨G, [.ins A fs, d2], .bl r, s1, .cons ra (.cons ry .nil), hC, fun v G' H' al rv => ⟨rv.bl_inv, q G' H' al⟩⟩
  have hl := F.len _ _ _ _ hsp
  refine wpAny_call (codeAny_mono (F.go A' X.stack s H ⟨[.ref a, u], []⟩ [.ref a, u] [.ref a, y] _ E0 hr e0 (by simpa using hb s [.ref a, u] I.kIn (by simpa using hl)) (.cons rfl (.cons ru .nil)) hsp) fun rs s' hq => ?_)
  have z := cr_end (X := X) (pins := pins) (σ := σ) pass0 I hq
  cases rs with
  | error e => exact hq.elim
  | ok fl => cases fl with
    | ret v =>
      obtain ⟨v', H', I', rv, ev, q'⟩ := z
      subst ev
      cases rv
      exact ⟨rfl, H', I', q'⟩
    | next => exact z.elim
    | brk => exact z.elim
    | cont => exact z.elim
def rOwn (K : PySem.W.Frag) (A : Addr) (fs : List (Str × D)) (d2 : D) (r : Bool) : R2 := fun x y H Q => ∃ G, Same G H ∧ Rep K G x (.ins A fs) ∧ Rep K G y d2 ∧ ∀ G' H', Al G H G' H' → Q (.bl r) H'
theorem op_eqOwn (F : EFn X.prog X.w X.K X.mg X.base k A (spP X.K C)) (hr : Rm k X.A) (hR : RightTy X.K A d2) (hC : C [.ins A fs, d2] (.bl r)) : OpR X (compareOp .Eq) (rOwn X.K A fs d2 r) := by
  intro pins s σ H x y v u Q I rx ry h
  obtain ⟨G, s1, r1, r2, q⟩ := h
  obtain ⟨f, fd, ps, F, ec, hb⟩ := F.ex
  obtain ⟨a, dx, vs, rfl, h1, h2⟩ := id r1.ins_inv
  cases rx
  obtain ⟨tb, lk, nf⟩ := right_looks I s1 r2 ry hR
  obtain ⟨mA, J, _⟩ := ins_get I.hok (s1 _ _ h1)
  obtain ⟨od, J, _⟩ := J.look
  obtain ⟨m, hF⟩ := I.fr
  show wpAny (model X.prog X.w) X.A (richCompare .Eq (.ref a) u) (EP X pins σ Q) X.xe s
  refine PySem.W.cmp_K (op := .Eq) (tb := tb) hr.r.units0 hF I.ok.mod.kin J lk nf ec.eq ec.fn (wpAny_mono (eq_call F hb hr rfl I s1 r1 r2 ry hC q) (fun v s' hv => ?_) fun _ _ e => e)
  obtain ⟨rfl, H', I', q'⟩ := hv
  exact ⟨.bl r, H', I', rfl, q'⟩
theorem op_neOwn (F : EFn X.prog X.w X.K X.mg X.base k A (spP X.K C)) (hr : Rm (k + 1) X.A) (hR : RightTy X.K A d2) (hC : C [.ins A fs, d2] (.bl r)) : OpR X (compareOp .NotEq) (fun x y H Q => rOwn X.K A fs d2 r x y H (fun _ H' => Q (.bl (!r)) H')) := by
  intro pins s σ H x y v u Q I rx ry h
  obtain ⟨G, s1, r1, r2, q⟩ := h
  obtain ⟨f, fd, ps, F, ec, hb⟩ := F.ex
  obtain ⟨a, dx, vs, rfl, h1, h2⟩ := id r1.ins_inv
  cases rx
  obtain ⟨tb, lk, nf⟩ := right_looks I s1 r2 ry hR
  obtain ⟨mA, J, _⟩ := ins_get I.hok (s1 _ _ h1)
  obtain ⟨od, J, _⟩ := J.look
  show wpAny (model X.prog X.w) X.A (richCompare .NotEq (.ref a) u) (EP X pins σ Q) X.xe s
  refine ne_own (by have := hr.r.un; omega) I.kIn J lk nf ec.eq ec.ne ec.mro ec.fn (wpAny_mono (eq_call (Q := fun _ H' => Q (.bl (!r)) H') F hb hr.one rfl I s1 r1 r2 ry hC q) (fun v s' hv => ?_) fun _ _ e => e)
  obtain ⟨rfl, H', I', q'⟩ := hv
  exact ⟨r, rfl, .bl (!r), H', I', rfl, q'⟩
theorem c_eqOwn (F : EFn X.prog X.w X.K X.mg X.base k A (spP X.K C)) (hr : Rm k X.A) (hR : RightTy X.K A d2) (hC : C [.ins A fs, d2] (.bl r)) : CmpD X .Eq (.ins A fs) d2 (.bl r) := fun x y G H s r1 r2 Q q =>
  ⟨_, op_eqOwn F hr hR hC, G, s, r1, r2, fun G' H' al => q _ G' H' al (.bl r)⟩
theorem c_neOwn (F : EFn X.prog X.w X.K X.mg X.base k A (spP X.K C)) (hr : Rm (k + 1) X.A) (hR : RightTy X.K A d2) (hC : C [.ins A fs, d2] (.bl r)) : CmpD X .NotEq (.ins A fs) d2 (.bl (!r)) := fun x y G H s r1 r2 Q q =>
  ⟨_, op_neOwn F hr hR hC, G, s, r1, r2, fun G' H' al => q _ G' H' al (.bl _)⟩
end
end DL

set_option maxRecDepth 100000
set_option maxHeartbeats 4000000
namespace DL
open PySem PySem.Spec PyProof.Rows L2
/-! ### isinstance with built-in classes -/
/-- the name of a datum's class -/
def D.ty : D → Option String
  | .non => some "NoneType"
  | .bl _ => some "bool"
  | .int _ => some "int"
  | .str _ => some "str"
  | .lst _ => some "list"
  | .frl _ => none
  | .tup _ => some "tuple"
  | .dct _ => some "dict"
  | _ => none
section
variable {X : Cx} {B : Bs} {ρ ρ1 ρ2 ρ' : Ro} {e a b : Expr} {d d1 d2 : D} {pos px apos p1 p2 p3 p4 : Pos} {es : List Expr} {ds xs : List D} {P : Post} {x : Str}
theorem ty_rep {K : PySem.W.Frag} {G H : Hp} {v : V} {t : String} (s : Same G H) (r : Rep K G v d) (ht : d.ty = some t) : TyX K H v (.type t) := by
  cases r with
  | non => cases ht; exact .base .non
  | bl b => cases ht; exact .base (.bl b)
  | int b => cases ht; exact .base (.int b)
  | str b => cases ht; exact .base (.str b)
  | lst h t => cases ht; exact .base (.lst (s _ _ h))
  | dct h t => cases ht; exact .base (.dK (s _ _ h))
  | tup h t =>
    cases ht
    rcases h with (h | ⟨o, h⟩) | ⟨o, its, n, hk, hc, _⟩
    · exact .base (.tup (s _ _ h))
    · exact .fTuple (s _ _ h)
    · exact .kTuple hk hc
  | _ => cases ht
theorem f_isi {T t : String} {r : Bool} (ht : d.ty = some t) (hk : kitB t T = some r) : CaD X (.builtin "isinstance") [d, .cst (.ty T)] (.bl r) := fun vs G H s rv Q q => by
  obtain ⟨v, w, rfl, r1, r2⟩ := rv.two_inv
  cases r2.cst_inv
  exact ⟨_, call_isi, v, .ty T, .type t, .type T, r, rfl, .ty T, ty_rep s r1 ht, kit_ty hk, q _ G H (Al.refl s) (.bl r)⟩
/-- isinstance(e, (T1, T2)) -/
theorem e_isi2 {T1 T2 : String} {x1 x2 : Str} {t : String} {r1 r2 : Bool} {kt} (hmi : X.mg "isinstance" = none) (hm1 : X.mg x1 = none) (hm2 : X.mg x2 = none) (hb1 : bootBuiltins x1 = some (.type T1)) (hb2 : bootBuiltins x2 = some (.type T2)) (h : DE X B ρ e d ρ1) (ht : d.ty = some t) (k1 : kitB t T1 = some r1) (k2 : kitB t T2 = some r2)
    (hg : Gl X "isinstance" := by rfl) (hg1 : Gl X x1 := by rfl) (hg2 : Gl X x2 := by rfl) (n1 : x1 ≠ "__name__" := by decide) (n2 : x2 ≠ "__name__" := by decide) (hd1 : (x1 == ("__debug__" : Str)) = false := by decide) (hd2 : (x2 == ("__debug__" : Str)) = false := by decide)
    (hs1 : starEach [.Name x1 p1, .Name x2 p2] X.env = (false, eval (.Name x1 p1) X.env) :: starEach [.Name x2 p2] X.env := by rfl) (hs2 : starEach [.Name x2 p2] X.env = (false, eval (.Name x2 p2) X.env) :: starEach [] X.env := by rfl)
    (hst : starEach [e, .Tuple [.Name x1 p1, .Name x2 p2] kt p3] X.env = (false, eval e X.env) :: starEach [.Tuple [.Name x1 p1, .Name x2 p2] kt p3] X.env := by rfl) (hst2 : starEach [.Tuple [.Name x1 p1, .Name x2 p2] kt p3] X.env = (false, eval (.Tuple [.Name x1 p1, .Name x2 p2] kt p3) X.env) :: starEach [] X.env := by rfl)
    (hpl : (backTo pos (starEach [.Tuple [.Name x1 p1, .Name x2 p2] kt p3] X.env)).any (·.1) = false := by rfl) :
    DE X B ρ (.Call (.Name "isinstance" px) [e, .Tuple [.Name x1 p1, .Name x2 p2] kt p3] [] pos) (.bl (r1 || r2)) ρ1 := by
  have hp := pe_callB (X := X) (pos := pos) (p := px) call_isiT hg hmi (by decide +kernel : bootBuiltins "isinstance" = some (.builtin "isinstance")) (pa_cons h (pa_cons (pe_tup (pos := p3) (x1 := kt) (pa_cons (pe_bltn (v := .ty T1) (pos := p1) hg1 hm1 hb1 rfl n1 hd1) (pa_cons (pe_bltn (v := .ty T2) (pos := p2) hg2 hm2 hb2 rfl n2 hd2) pa_nil hs2) hs1)) pa_nil hst2) hst) (by decide) (by decide) hst hpl
  refine PE.imp hp fun σ H Q ⟨α, G, E, q⟩ => ⟨α, G, E, fun v G1 H1 g1 E1 rv => ⟨by show 2 ≤ sizeLine; decide, fun p hp => ?_⟩⟩
  refine ⟨v, p, [.ty T1, .ty T2], .type t, [.type T1, .type T2], r1 || r2, rfl, upd_same, .cons (.ty T1) (.cons (.ty T2) .nil), ty_rep (E1.sub.trans (same_upd hp)) rv ht, ?_, q _ G1 _ g1 (E1.al (Al.new0 E1.sub hp)) (.bl _)⟩
  refine kitAny_cons (kit_ty k1) (fun z => ?_) (fun z => by rw [z]; rfl)
  subst z
  refine kitAny_cons (kit_ty k2) (fun z => ?_) (fun z => by rw [z]; rfl)
  subst z
  rfl
/-! ### in -/
theorem inV_strs (w : Str) : ∀ ss : List Str, inV (.str w) (ss.map V.str) = decide (w ∈ ss)
  | [] => by simp [inV]
  | z :: ss => by
    have ih := inV_strs w ss
    unfold inV at ih ⊢
    rw [List.map_cons, List.any_cons, ih]
    simp only [eqV, List.mem_cons]
    by_cases e : z = w
    · subst e; simp
    · have : ¬ w = z := fun q => e q.symm
      simp [e, this]
theorem flat_strs : ∀ ss : List Str, (ss.map V.str).all flatV = true
  | [] => rfl
  | _ :: ss => by rw [List.map_cons, List.all_cons, flat_strs ss]; rfl
theorem c_inT {w : Str} {ss : List Str} : CmpD X .In (.str w) (.tup (ss.map .str)) (.bl (decide (w ∈ ss))) := fun x y G H s r1 r2 Q q => by
  cases r1.str_inv
  obtain ⟨a, vs, rfl, h1, h2⟩ := r2.tup_inv
  have := h2.strs; subst this
  exact ⟨_, op_in_seq, a, _, rfl, .inr (same_t s h1), rfl, flat_strs ss, q _ G H (Al.refl s) (by rw [if_neg (by decide), inV_strs]; exact .bl _)⟩
theorem c_inL {w : Str} {ss : List Str} : CmpD X .In (.str w) (.lst (ss.map .str)) (.bl (decide (w ∈ ss))) := fun x y G H s r1 r2 Q q => by
  cases r1.str_inv
  obtain ⟨a, vs, rfl, h1, h2⟩ := r2.lst_inv
  have := h2.strs; subst this
  exact ⟨_, op_in_seq, a, _, rfl, .inl (SqL.of (s _ _ h1)), rfl, flat_strs ss, q _ G H (Al.refl s) (by rw [if_neg (by decide), inV_strs]; exact .bl _)⟩
theorem c_inSign {c : Nat} {z : Str} : CmpD X .In (.str ⟨#[c]⟩) (.str z) (.bl (decide (c ∈ z.cps.toList))) := fun x y G H s r1 r2 Q q => by
  cases r1.str_inv; cases r2.str_inv
  exact ⟨_, op_in_sign, c, z, rfl, rfl, q _ G H (Al.refl s) (.bl _)⟩
/-! ### star in a display -/
theorem da_star (h : DE X B ρ e d ρ1) (hd : d = .lst xs ∨ d = .tup xs) (hr : DA X B ρ1 es ds ρ2) (hs : starEach (.Starred e px :: es) X.env = (true, eval e X.env) :: starEach es X.env := by rfl) : DA X B ρ (.Starred e px :: es) (xs ++ ds) ρ2 :=
  PA.imp (StX.pa_star h hr hs) fun σ H Q ⟨α, G, E, q⟩ => ⟨α, G, E, fun v G1 H1 g1 E1 r1 => by
    rcases hd with rfl | rfl
    · obtain ⟨a, vs, rfl, h1, h2⟩ := r1.lst_inv
      exact ⟨a, vs, rfl, .inr (SqL.of (E1.sub _ _ h1)), α, G1, E1, fun us G2 H2 g2 E2 r2 => q _ G2 H2 (g1.trans g2) E2 ((h2.mono g2).append r2)⟩
    · obtain ⟨a, vs, rfl, h1, h2⟩ := r1.tup_inv
      exact ⟨a, vs, rfl, .inl (same_t E1.sub h1), α, G1, E1, fun us G2 H2 g2 E2 r2 => q _ G2 H2 (g1.trans g2) E2 ((h2.mono g2).append r2)⟩⟩
/-! ### f-strings -/
def tFmtD (K : PySem.W.Frag) (te : TE) : TE := fun σ H Q => te σ H fun x H1 => ∃ a d, x = .ref a ∧ Dp K H1 (.ref a) d ∧ d.showable = true ∧ d.hasDict = false ∧ d.depth < 60 ∧ d.shown.length ≤ sizeLine ∧ Q (.str d.shown) H1
theorem pe_fmtD {te : TE} (hg : X.A.guards = some []) (hu : X.A.units + 64 < cLine) (he : PE X e te) : PE X (.FormattedValue e 114 none pos) (tFmtD X.K te) := by
  refine ⟨fun pins s σ H Q I h => ?_⟩
  refine wpAny_FormattedValue_repr (thn (he.run pins s σ H _ I h) fun v s1 ⟨x, H1, I1, r1, a, d, ex, hd, h1, h2, h3, h4, q⟩ => ?_)
  subst ex
  obtain ⟨as, rd⟩ := Dp.reads I1 d _ _ hd r1
  cases r1
  refine pyReprObj_of_reads rd h1 (PyData.noDict_hsm h2) hg (by omega) (fun _ _ z => z) (fun h' u tk hk => ?_) h4
  have I2 : Inv X pins σ H1 { s1 with heap := h', toks := tk } := I1.kept hk
  exact wpAny_formatField_str ⟨.str d.shown, H1, I2.tok _, ⟨_, rfl⟩, q⟩ ⟨.str d.shown, H1, I2.tok _, ⟨_, rfl⟩, q⟩ h4
theorem e_fmtR (hg : X.A.guards = some []) (hu : X.A.units + 64 < cLine) (h : DE X B ρ e d ρ') (hs : d.isSeq = true) (p : d.pl = true) (h1 : d.py.showable = true) (h2 : d.py.hasDict = false) (h3 : d.py.depth < 60) (h4 : d.py.shown.length ≤ sizeLine) : DE X B ρ (.FormattedValue e 114 none pos) (.str d.py.shown) ρ' :=
  PE.imp (pe_fmtD hg hu h) fun σ H Q ⟨α, G, E, q⟩ => ⟨α, G, E, fun v G1 H1 g1 E1 r1 => by
    have hd := r1.dp E1.sub p
    have : ∃ a, v = .ref a := by
      cases r1 with
      | lst h t => exact ⟨_, rfl⟩
      | tup h t => exact ⟨_, rfl⟩
      | _ => cases hs
    obtain ⟨a, rfl⟩ := this
    exact ⟨a, d.py, rfl, hd, h1, h2, h3, h4, q _ G1 H1 g1 E1 (.str _)⟩⟩
/-- the parts of an f-string -/
inductive DJ (X : Cx) (B : Bs) : Ro → List Expr → List Str → Ro → Prop
  | nil {ρ : Ro} : DJ X B ρ [] [] ρ
  | cons {ρ ρ1 ρ2 : Ro} {e : Expr} {es : List Expr} {w : Str} {ws : List Str} (h : DE X B ρ e (.str w) ρ1) (r : DJ X B ρ1 es ws ρ2) : DJ X B ρ (e :: es) (w :: ws) ρ2
def catS : Str → List Str → Str
  | acc, [] => acc
  | acc, w :: ws => catS (acc ++ w) ws
theorem dj_read {es : List Expr} {ws : List Str} (h : DJ X B ρ es ws ρ') : ∃ ts, PJ X es ts ∧ ∀ (acc : Str) σ α G H (Q : Str → Hp → Prop), EnvA X.K B α ρ σ G H → (catS acc ws).length ≤ sizeLine → (∀ G' H', Same G G' → EnvA X.K B α ρ' σ G' H' → Q (catS acc ws) H') → tJs ts acc σ H Q := by
  have grow : ∀ (ws : List Str) (acc : Str), acc.length ≤ (catS acc ws).length := by
    intro ws
    induction ws with
    | nil => intro acc; exact Nat.le_refl _
    | cons w ws ih => intro acc; refine Nat.le_trans ?_ (ih (acc ++ w)); rw [Str.length_append]; omega
  induction h with
  | nil => exact ⟨[], .nil, fun acc σ α G H Q E hz q => q G H (Same.refl _) E⟩
  | cons h r ih =>
    obtain ⟨ts, pj, rd⟩ := ih
    refine ⟨_, .cons h pj, fun acc σ α G H Q E hz q => ⟨α, G, E, fun v G1 H1 g1 E1 r1 => ⟨_, r1.str_inv, Nat.le_trans (grow _ _) hz, rd _ σ α G1 H1 Q E1 hz fun G2 H2 g2 E2 => q G2 H2 (g1.trans g2) E2⟩⟩⟩
theorem e_join {v1 v2 : Expr} {rest : List Expr} {ws : List Str} (h : DJ X B ρ (v1 :: v2 :: rest) ws ρ') (hz : (catS Str.empty ws).length ≤ sizeLine) : DE X B ρ (.JoinedStr (v1 :: v2 :: rest) pos) (.str (catS Str.empty ws)) ρ' := by
  obtain ⟨ts, pj, rd⟩ := dj_read h
  exact PE.imp (pe_joined pj) fun σ H Q ⟨α, G, E, q⟩ => rd _ σ α G H _ E hz fun G' H' g' E' => q _ G' H' g' E' (.str _)
/-! ### a try that runs through -/
theorem ds_try {body : List Stmt} {h₀ : ExceptHandler} {hs : List ExceptHandler} (h : DSs X.nox B ρ body P) : DS X B ρ (.Try body (h₀ :: hs) [] [] pos) P := ps_try_thru0 h
end
end DL

set_option maxRecDepth 100000
set_option maxHeartbeats 4000000
/-! lists and tuples of texts -/
namespace DL
open PySem PySem.Spec PyProof.Rows L2
def cutL {α : Type} (xs : List α) (lo hi : Option Int) : List α := (xs.drop (HT.sIx xs.length 0 lo)).take (HT.sIx xs.length xs.length hi - HT.sIx xs.length 0 lo)
theorem cutD_map {α : Type} (f : α → D) (xs : List α) (lo hi : Option Int) : cutD (xs.map f) lo hi = (cutL xs lo hi).map f := by
  unfold cutD cutL; rw [List.length_map, List.map_take, List.map_drop]
abbrev Ls (ss : List Str) : D := .lst (ss.map .str)
abbrev Ts (ss : List Str) : D := .tup (ss.map .str)
section
variable {X : Cx} {B : Bs} {ρ ρ1 ρ' : Ro} {e : Expr} {pos px : Pos} {a b ss : List Str} {l u : Option Int} {w : Str} {k : Int}
theorem s_LsO : SlO X (Ls ss) l u (Ls (cutL ss l u)) := by
  have h := s_lstO (X := X) (xs := ss.map .str) (l := l) (u := u); rw [cutD_map] at h; exact h
theorem s_Ls : SlD X (Ls ss) l u (Ls (cutL ss l u)) := s_LsO.rs
theorem s_Ts : SlD X (Ts ss) l u (Ts (cutL ss l u)) := by
  have h := s_tup (X := X) (xs := ss.map .str) (l := l) (u := u); rw [cutD_map] at h; exact h
theorem o_catS (h : a.length + b.length ≤ sizeLine) : BinO X .Add (Ls a) (Ls b) (Ls (a ++ b)) := by
  have z := o_cat (X := X) (xs := a.map .str) (ys := b.map .str) (by simpa using h); rw [← List.map_append] at z; exact z
theorem b_catS (h : a.length + b.length ≤ sizeLine) : BinD X .Add (Ls a) (Ls b) (Ls (a ++ b)) := (o_catS h).rd
theorem b_catTS (h : a.length + b.length ≤ sizeLine) : BinD X .Add (Ts a) (Ts b) (Ts (a ++ b)) := by
  have z := b_catT (X := X) (xs := a.map .str) (ys := b.map .str) (by simpa using h); rw [← List.map_append] at z; exact z
def repL {α : Type} (k : Nat) (xs : List α) : List α := (List.replicate k xs).flatten
theorem repL_map {α : Type} (f : α → D) (k : Nat) (xs : List α) : (List.replicate k (xs.map f)).flatten = (repL k xs).map f := by
  unfold repL; rw [List.map_flatten, List.map_replicate]
theorem repL_len {α : Type} (k : Nat) (xs : List α) : (repL k xs).length = k * xs.length := by
  unfold repL; simp
theorem o_repS (h1 : -(2 ^ 63) ≤ k) (h2 : k < 2 ^ 63) (h : a.length * k.toNat ≤ sizeLine) : BinO X .Mult (Ls a) (.int k) (Ls (repL k.toNat a)) := by
  have z := o_rep (X := X) (xs := a.map .str) h1 h2 (by simpa using h); rw [repL_map] at z; exact z
theorem b_repS (h1 : -(2 ^ 63) ≤ k) (h2 : k < 2 ^ 63) (h : a.length * k.toNat ≤ sizeLine) : BinD X .Mult (Ls a) (.int k) (Ls (repL k.toNat a)) := (o_repS h1 h2 h).rd
theorem b_repTS (hx : a ≠ []) (h1 : 2 ≤ k) (h2 : k ≤ 1000) (h : a.length ≤ 1000) : BinD X .Mult (Ts a) (.int k) (Ts (repL k.toNat a)) := by
  have z := b_repT (X := X) (xs := a.map .str) (by simpa using hx) h1 h2 (by simpa using h); rw [repL_map] at z; exact z
theorem atI_map {α β : Type} (f : α → β) {xs : List α} {i : Int} {y : α} (h : atI xs i = some y) : atI (xs.map f) i = some (f y) := by
  unfold atI at h ⊢
  rw [List.length_map]
  cases e : ixN xs.length i with
  | none => rw [e] at h; cases h
  | some j => rw [e] at h; simp at h ⊢; exact ⟨_, h, rfl⟩
theorem i_Ls (h : atI ss k = some w) : IxD X (Ls ss) (.int k) (.str w) := i_lst (atI_map _ h)
theorem i_Ts (h : atI ss k = some w) : IxD X (Ts ss) (.int k) (.str w) := i_tup (atI_map _ h)
theorem f_len_Ls : CaD X (.builtin "len") [Ls ss] (.int ss.length) := by
  have h := f_len_lst (X := X) (xs := ss.map .str); rw [List.length_map] at h; exact h
theorem f_len_Ts : CaD X (.builtin "len") [Ts ss] (.int ss.length) := by
  have h := f_len_tup (X := X) (xs := ss.map .str); rw [List.length_map] at h; exact h
theorem de_ty {x : Str} {T : String} (hm : X.mg x = none) (hv : bootBuiltins x = some (.type T)) (hg : Gl X x := by rfl) (hn : x ≠ "__name__" := by decide) (hd : (x == ("__debug__" : Str)) = false := by decide) : DE X B ρ (.Name x pos) (.cst (.ty T)) ρ := de_bltn hg hm hv rfl hn hd
theorem atI_pos {α : Type} {xs : List α} {i : Int} {y : α} (h0 : 0 ≤ i) (h : xs[i.toNat]? = some y) : atI xs i = some y := by
  have hl := (List.getElem?_eq_some_iff.mp h).1
  unfold atI ixN
  rw [if_pos h0, if_pos (by omega)]
  exact h
/-! ### texts that may stand in data -/
def okS (ss : List Str) : Prop := ∀ w ∈ ss, PyData.strOk w = true
theorem pls_strs : ∀ ss : List Str, D.pls (ss.map .str) = true
  | [] => by simp [D.pls]
  | w :: ss => by simp [D.pls, D.pl, pls_strs ss]
theorem pys_strs : ∀ ss : List Str, D.pys (ss.map .str) = ss.map .str
  | [] => by simp [D.pys]
  | w :: ss => by simp [D.pys, D.py, pys_strs ss]
theorem lay_strs : ∀ {ss : List Str}, okS ss → PyData.canLayAll0 (ss.map .str) = true
  | [], _ => by simp [PyData.canLayAll0]
  | w :: ss, h => by
    simp only [List.map_cons, PyData.canLayAll0, PyData.canLay0, Bool.and_eq_true]
    exact ⟨h w (List.mem_cons_self ..), lay_strs fun z hz => h z (List.mem_cons_of_mem _ hz)⟩
theorem depth_strs : ∀ ss : List Str, PyData.depthAll (ss.map .str) = 0
  | [] => by simp [PyData.depthAll]
  | w :: ss => by simp [PyData.depthAll, PyData.depth, depth_strs ss]
theorem eqv_strs : ∀ a b : List Str, PyData.eqvAll (a.map .str) (b.map .str) = decide (a = b)
  | [], [] => by simp [PyData.eqvAll]
  | [], _ :: _ => by simp [PyData.eqvAll]
  | _ :: _, [] => by simp [PyData.eqvAll]
  | x :: a, y :: b => by
    simp only [List.map_cons, PyData.eqvAll, PyData.eqv, eqv_strs a b]
    by_cases h : x = y
    · subst h; simp
    · simp [h]
theorem shaped_Ls (h : okS a) : SeqAt.shaped (Ls a).py = true := by
  simp only [D.py, pys_strs, SeqAt.shaped, PyData.canLay0, lay_strs h, PyData.depth, depth_strs]; decide
theorem shaped_Ts (h : okS a) : SeqAt.shaped (Ts a).py = true := by
  simp only [D.py, pys_strs, SeqAt.shaped, PyData.canLay0, lay_strs h, PyData.depth, depth_strs]; decide
theorem c_eqLs (hu : X.A.units + 64 < cLine) (ha : okS a) (hb : okS b) : CmpD X .Eq (Ls a) (Ls b) (.bl (decide (a = b))) := by
  have h := c_eqD (X := X) (d1 := Ls a) (d2 := Ls b) hu (by simp [D.pl, pls_strs]) (by simp [D.pl, pls_strs]) (shaped_Ls ha) (shaped_Ls hb)
  simp only [D.py, pys_strs, PyData.eqv, eqv_strs] at h; exact h
theorem c_eqTs (hu : X.A.units + 64 < cLine) (ha : okS a) (hb : okS b) : CmpD X .Eq (Ts a) (Ts b) (.bl (decide (a = b))) := by
  have h := c_eqD (X := X) (d1 := Ts a) (d2 := Ts b) hu (by simp [D.pl, pls_strs]) (by simp [D.pl, pls_strs]) (shaped_Ts ha) (shaped_Ts hb)
  simp only [D.py, pys_strs, PyData.eqv, eqv_strs] at h; exact h
theorem c_neLs (hu : X.A.units + 64 < cLine) (ha : okS a) (hb : okS b) : CmpD X .NotEq (Ls a) (Ls b) (.bl (!decide (a = b))) := by
  have h := c_neD (X := X) (d1 := Ls a) (d2 := Ls b) hu (by simp [D.pl, pls_strs]) (by simp [D.pl, pls_strs]) (shaped_Ls ha) (shaped_Ls hb)
  simp only [D.py, pys_strs, PyData.eqv, eqv_strs] at h; exact h
theorem c_neTs (hu : X.A.units + 64 < cLine) (ha : okS a) (hb : okS b) : CmpD X .NotEq (Ts a) (Ts b) (.bl (!decide (a = b))) := by
  have h := c_neD (X := X) (d1 := Ts a) (d2 := Ts b) hu (by simp [D.pl, pls_strs]) (by simp [D.pl, pls_strs]) (shaped_Ts ha) (shaped_Ts hb)
  simp only [D.py, pys_strs, PyData.eqv, eqv_strs] at h; exact h
theorem okS.append (ha : okS a) (hb : okS b) : okS (a ++ b) := fun w h => (List.mem_append.mp h).elim (ha w) (hb w)
theorem okS.sub (ha : okS a) (h : ∀ w ∈ b, w ∈ a) : okS b := fun w z => ha w (h w z)
theorem okS.cut (ha : okS a) : okS (cutL a l u) := ha.sub fun w z => by
  unfold cutL at z
  exact List.mem_of_mem_drop (List.mem_of_mem_take z)
theorem okS.rep (ha : okS a) (k : Nat) : okS (repL k a) := ha.sub fun w z => by
  unfold repL at z
  obtain ⟨l, h1, h2⟩ := List.mem_flatten.mp z
  rw [(List.mem_replicate.mp h1).2] at h2; exact h2
end
/-! ### the pot's arithmetic -/
theorem cdivp {i j : Int} (h : 0 < j) (hj : j.natAbs.log2 < 9000) : CDivP i j := ⟨h, PyProof.noPylong_of_log2 hj⟩
end DL

set_option maxRecDepth 100000
set_option maxHeartbeats 4000000
/-! isinstance with own classes; str and repr by own defs -/
namespace DL
open PySem PySem.Spec PyProof.Rows L2
/-- what isinstance asks of an own class -/
structure OwnC (K : PySem.W.Frag) (C : Addr) : Prop where
  cl : Cls K C
  ha : PySem.W.findIn K (.ref C) "__class__" = some (some (.builtin "object.__class__"))
  hn : PySem.W.specialIn K (.builtin "object.__class__") "__get__" = some (some (.builtin "getset_descriptor.__get__"))
  htk : PySem.W.takesIn K (.builtin "object.__class__") = some true
  hm : PySem.W.mroIn K C (.type "object") = some true
/-- a special method of the class, by its promise -/
structure SFn (P : Program) (w : World) (K : PySem.W.Frag) (mg : Str → Option Value) (base : Heap) (k : Nat) (C : Addr) (m : Str) (sp : Sp) : Prop where
  ex : ∃ f fd ps, FnG P w K mg base CX0 k f fd ps sp ∧ PySem.W.findIn K (.ref C) m = some (some (.ref f)) ∧ PySem.W.isFn K (.ref f) = true ∧ Binds K fd ps []
section
theorem dw_orF {X : Cx} {B : Bs} {ρ ρ1 ρ2 : Ro} {a b : Expr} {pos : Pos} {rest : List Expr} {k' : Bool} (h : DT X B ρ a false ρ1) (h' : DW X B ρ1 (.BoolOp .Or (b :: rest) pos) k' ρ2) : DW X B ρ (.BoolOp .Or (a :: b :: rest) pos) k' ρ2 :=
  PW.imp (pw_or h pw_a) fun σ H Q ⟨α, G, E, q⟩ => ⟨α, G, E, fun G1 H1 g1 E1 => by
    show if false = true then Q true H1 else aW X _ σ H1 Q
    rw [if_neg (by decide)]; exact ⟨_, h', α, G1, E1, fun G2 H2 g2 E2 => q G2 H2 (g1.trans g2) E2⟩⟩
theorem dw_andT {X : Cx} {B : Bs} {ρ ρ1 ρ2 : Ro} {a b : Expr} {pos : Pos} {rest : List Expr} {k' : Bool} (h : DT X B ρ a true ρ1) (h' : DW X B ρ1 (.BoolOp .And (b :: rest) pos) k' ρ2) : DW X B ρ (.BoolOp .And (a :: b :: rest) pos) k' ρ2 :=
  PW.imp (pw_and h pw_a) fun σ H Q ⟨α, G, E, q⟩ => ⟨α, G, E, fun G1 H1 g1 E1 => by
    show if true = true then aW X _ σ H1 Q else Q false H1
    rw [if_pos rfl]; exact ⟨_, h', α, G1, E1, fun G2 H2 g2 E2 => q G2 H2 (g1.trans g2) E2⟩⟩
theorem do_is {X : Cx} {B : Bs} {ρ ρ' : Ro} {e : Expr} {d d1 : D} (h : DO X B ρ e d ρ') (z : d = d1) : DO X B ρ e d1 ρ' := z ▸ h
variable {X : Cx} {k : Nat} {A C : Addr} {fs : List (Str × D)} {d : D} {CC : List D → D → Prop} {r : Bool} {w : Str}
theorem f_isiC (c : OwnC X.K A) (hk : PySem.W.kitOne X.K (.ref A) (.ref C) = some r) : CaD X (.builtin "isinstance") [.ins A fs, .cst (.ref C)] (.bl r) := fun vs G H s rv Q q => by
  obtain ⟨v, w, rfl, r1, r2⟩ := rv.two_inv
  cases r2.cst_inv
  obtain ⟨a, dx, vs, rfl, h1, h2⟩ := r1.ins_inv
  exact ⟨_, call_isi, .ref a, .ref C, .ref A, .ref C, r, rfl, .own C, .base (.ins (s _ _ h1) c.cl c.ha c.hn c.htk c.hm), hk, q _ G H (Al.refl s) (.bl r)⟩
theorem f_isiO {t : String} (ht : d.ty = some t) (hk : PySem.W.kitOne X.K (.type t) (.ref C) = some r) : CaD X (.builtin "isinstance") [d, .cst (.ref C)] (.bl r) := fun vs G H s rv Q q => by
  obtain ⟨v, w, rfl, r1, r2⟩ := rv.two_inv
  cases r2.cst_inv
  exact ⟨_, call_isi, v, .ref C, .type t, .ref C, r, rfl, .own C, ty_rep s r1 ht, hk, q _ G H (Al.refl s) (.bl r)⟩
theorem own_call1 {f : Addr} {fd : FuncData} {ps : List Str} {A' : Around} {pins : List (Addr × Obj)} {σ : L2.St} {H G : Hp} {s : Shared} {a : Addr} {Q : VK} (F : FnG X.prog X.w X.K X.mg X.base CX0 k f fd ps (spP X.K CC)) (hb : Binds X.K fd ps []) (hr : Rm k A') (hfr : A'.frames = X.A.frames) (I : Inv X pins σ H s) (s1 : Same G H)
    (ra : Rep X.K G (.ref a) (.ins A fs)) (hC : CC [.ins A fs] (.str w)) (q : ∀ G' H', Al G H G' H' → Q (.str w) H') :
    wpAny (model X.prog X.w) A' (call (.ref f) [.ref a]) (fun v s' => ∃ t, v = .str w t ∧ ∃ H', Inv X pins σ H' s' ∧ Q (.str w) H') X.xe s := by
  have e0 : Env0 X.prog X.w X.K X.mg X.base A' X.stack s H := by
    have e := I.env0
    exact ⟨by rw [hfr]; exact e.frames, e.mod, e.bs, e.bsz, e.funs, e.frf, e.hok, e.bare⟩
  have hsp : spP X.K CC [.ref a] H (fun v H' => v = .str w ∧ Q (.str w) H') E0 := ⟨G, [.ins A fs], .str w, s1, .cons ra .nil, hC, fun v G' H' al rv => ⟨rv.str_inv, q G' H' al⟩⟩
  have hl := F.len _ _ _ _ hsp
  refine wpAny_call (codeAny_mono (F.go A' X.stack s H ⟨[.ref a], []⟩ [.ref a] [.ref a] _ E0 hr e0 (by simpa using hb s [.ref a] I.kIn (by simpa using hl)) (.cons rfl .nil) hsp) fun rs s' hq => ?_)
  have z := cr_end (X := X) (pins := pins) (σ := σ) pass0 I hq
  cases rs with
  | error e => exact hq.elim
  | ok fl => cases fl with
    | ret v =>
      obtain ⟨v', H', I', rv, ev, q'⟩ := z
      subst ev
      obtain ⟨t, rfl⟩ := rv
      exact ⟨t, rfl, H', I', q'⟩
    | next => exact z.elim
    | brk => exact z.elim
    | cont => exact z.elim
def rOwn1 (K : PySem.W.Frag) (A : Addr) (fs : List (Str × D)) (w : Str) : List V → Hp → VK → Prop := fun xs H Q => ∃ G x, xs = [x] ∧ Same G H ∧ Rep K G x (.ins A fs) ∧ ∀ G' H', Al G H G' H' → Q (.str w) H'
theorem call_strOwn (F : SFn X.prog X.w X.K X.mg X.base k A "__str__" (spP X.K CC)) (hr : Rm (k + 2) X.A) (hC : CC [.ins A fs] (.str w)) : CallR X (.type "str") (rOwn1 X.K A fs w) := by
  intro pins s σ H xs us Q I rv h
  obtain ⟨G, x, rfl, s1, r1, q⟩ := h
  cases rv with
  | cons rx rr =>
    cases rr
    obtain ⟨f, fd, ps, F, hf, hi, hb⟩ := F.ex
    obtain ⟨a, dx, vs, rfl, h1, h2⟩ := id r1.ins_inv
    cases rx
    obtain ⟨mA, J, _⟩ := ins_get I.hok (s1 _ _ h1)
    obtain ⟨od, J, _⟩ := J.look
    refine PySem.W.kso_call (Rm.one (Rm.one hr)).r.units0 I.kIn J hf hi (wpAny_mono (own_call1 F hb (Rm.one (Rm.one hr)) rfl I s1 r1 hC q) (fun v s' hv => ?_) fun _ _ e => e)
    obtain ⟨t, rfl, H', I', q'⟩ := hv
    exact ⟨.str w, H', I', ⟨t, rfl⟩, q'⟩
theorem call_reprOwn (F : SFn X.prog X.w X.K X.mg X.base k A "__repr__" (spP X.K CC)) (hr : Rm (k + 1) X.A) (hC : CC [.ins A fs] (.str w)) : CallR X (.builtin "repr") (rOwn1 X.K A fs w) := by
  intro pins s σ H xs us Q I rv h
  obtain ⟨G, x, rfl, s1, r1, q⟩ := h
  cases rv with
  | cons rx rr =>
    cases rr
    obtain ⟨f, fd, ps, F, hf, hi, hb⟩ := F.ex
    obtain ⟨a, dx, vs, rfl, h1, h2⟩ := id r1.ins_inv
    cases rx
    obtain ⟨mA, J, _⟩ := ins_get I.hok (s1 _ _ h1)
    obtain ⟨od, J, _⟩ := J.look
    obtain ⟨m, hF⟩ := I.fr
    refine PySem.W.repr_K (Rm.one hr).r.units0 hF I.ok.mod.kin J hf hi (wpAny_mono (own_call1 F hb (Rm.one hr) rfl I s1 r1 hC q) (fun v s' hv => ?_) fun _ _ e => e)
    obtain ⟨t, rfl, H', I', q'⟩ := hv
    exact ⟨.str w, H', I', ⟨t, rfl⟩, q'⟩
theorem f_strOwn (F : SFn X.prog X.w X.K X.mg X.base k A "__str__" (spP X.K CC)) (hr : Rm (k + 2) X.A) (hC : CC [.ins A fs] (.str w)) : CaD X (.type "str") [.ins A fs] (.str w) := fun vs G H s r Q q => by
  obtain ⟨v, rfl, r1⟩ := r.one_inv
  exact ⟨_, call_strOwn F hr hC, G, v, rfl, s, r1, fun G' H' al => q _ G' H' al (.str w)⟩
theorem f_reprOwn (F : SFn X.prog X.w X.K X.mg X.base k A "__repr__" (spP X.K CC)) (hr : Rm (k + 1) X.A) (hC : CC [.ins A fs] (.str w)) : CaD X (.builtin "repr") [.ins A fs] (.str w) := fun vs G H s r Q q => by
  obtain ⟨v, rfl, r1⟩ := r.one_inv
  exact ⟨_, call_reprOwn F hr hC, G, v, rfl, s, r1, fun G' H' al => q _ G' H' al (.str w)⟩
end
end DL

set_option maxRecDepth 100000
set_option maxHeartbeats 4000000
/-! two own things at once; a list of lists that are changed later on -/
namespace DL
open PySem PySem.Spec PyProof.Rows L2
section
variable {X : Cx} {B : Bs} {ρ ρ1 ρ2 ρ3 ρ' : Ro} {e a b : Expr} {d d1 d2 : D} {pos px py pt pt2 : Pos} {P : Post}
theorem EnvA.nio {K : PySem.W.Frag} {α : Nat → Addr} {σ : L2.St} {G H : Hp} {q : Addr} (E : EnvA K B α ρ σ G H) (ne : ∀ (j : Nat) e, ρ[j]? = some (.own e) → α j ≠ q) : ∀ p ∈ B.io, p.2 ≠ q := fun p hp => by
  obtain ⟨⟨d, e⟩, z⟩ := E.io p hp
  rw [← z]; exact ne _ _ e
/-- x, y = a, b: two new own things -/
theorem ds_parO {i j : Nat} {x y : Str} {kt k2} (hc : X.calm = true) (hN : X.N.Nodup) (h1 : DO X B ρ a d1 ρ1) (h2 : ∀ B1 : Bs, B1.io = B.io → DO X B1 ρ1 b d2 ρ2) (k : P.nx ((ρ2.set i (.own d1)).set j (.own d2))) (hij : i ≠ j) (hio : ∀ p ∈ B.io, p.1 ≠ i ∧ p.1 ≠ j) (hi : X.N[i]? = some x := by rfl) (hj : X.N[j]? = some y := by rfl)
    (hx : X.env.scope.names.lookup x = some .local := by rfl) (hy : X.env.scope.names.lookup y = some .local := by rfl)
    (hw : swappedStores [.Tuple [.Name x px, .Name y py] kt pt] (.Tuple [a, b] k2 pt2) X.env = pure (some [x, y]) := by rfl)
    (hs : swapsWithSole [.Tuple [.Name x px, .Name y py] kt pt] (.Tuple [a, b] k2 pt2) pos.line X.env = pure false := by rfl)
    (s1 : starEach [a, b] X.env = (false, eval a X.env) :: starEach [b] X.env := by rfl) (s2 : starEach [b] X.env = (false, eval b X.env) :: starEach [] X.env := by rfl) :
    DS X B ρ (.Assign [.Tuple [.Name x px, .Name y py] kt pt] (.Tuple [a, b] k2 pt2) pos) P :=
  PS.imp (ps_par hc hN hi hj hij hx hy (pa_cons h1 (pa_cons pe_a pa_nil s2) s1) hw hs) fun D σ H ⟨⟨α, G, E⟩, m⟩ => ⟨α, G, E, fun p G1 H1 g1 E1 n1 w1 b1 ne1 => by
    obtain ⟨o, ho⟩ := w1.at
    have E1' := E1.guard ho n1 b1 ne1
    refine ⟨tO X.K ⟨G1, upd B.H p o, B.io⟩ ρ1 d2 ρ2, h2 _ rfl, α, G1, E1', fun q G2 H2 g2 E2 n2 w2 b2 ne2 => ?_⟩
    obtain ⟨E3, z1, z2, z3⟩ := EnvA.unguard E1 b1 n1 (E1.nio ne1) E2
    have qp : q ≠ p := fun z => by
      have b2 : upd B.H p o q = none := b2
      rw [z, upd_same] at b2; cases b2
    have b2' : B.H q = none := by
      have b2 : upd B.H p o q = none := b2
      rw [upd_ne qp] at b2; exact b2
    show ∃ v w, [V.ref p, V.ref q] = [v, w] ∧ D.nx ((σ.set i (some v)).set j (some w)) H2
    have E4 := E3.setOwn (i := i) (a := p) (fun r hr => (hio r hr).1) z2 (w1.mono g2 fun u hu => by rw [ho] at hu; cases hu; exact z1) b1 z3
    have E5 := E4.setOwn (i := j) (a := q) (d := d2) (fun r hr => (hio r hr).2) n2 w2 b2' (fun l e he => by
      rcases set_get he with ⟨rfl, _⟩ | ⟨hl, he⟩
      · show (if l = l then p else α l) ≠ q
        rw [if_pos rfl]; exact Ne.symm qp
      · show (if l = i then p else α l) ≠ q
        rw [if_neg hl]; exact ne2 l e he)
    exact ⟨.ref p, .ref q, rfl, m.nx _ _ _ _ _ k E5⟩⟩
/-! ### lists that stand in a list, and are changed later on -/
/-- the list at a, of texts, which no name holds and no datum uses -/
structure Lent (B : Bs) (a : Addr) (L : List Str) : Prop where
  h : B.H a = some (.lst (L.map V.str))
  g : B.G a = none
  io : ∀ p ∈ B.io, p.2 ≠ a
def frz1 : Slot → Slot
  | .own _ => .un
  | s => s
mutual
def D.noL : D → Bool
  | .lst _ => false
  | .frl _ => false
  | .dct _ => false
  | .tup xs => D.noLs xs
  | .ins _ fs => D.noLf fs
  | _ => true
def D.noLs : List D → Bool
  | [] => true
  | x :: xs => x.noL && D.noLs xs
def D.noLf : List (Str × D) → Bool
  | [] => true
  | (_, x) :: xs => x.noL && D.noLf xs
end
def Bar (G G' : Hp) : Prop := ∀ b o, G b = some o → (∀ xs, o ≠ .lst xs) → G' b = some o
theorem bar_rd {G G' : Hp} {a : Addr} {u : HO} (e : Bar G G') (hu : ∀ xs, u ≠ .lst xs) (h : Rd G a u) : Rd G' a u := by
  rcases h with h | ⟨o, h⟩
  · exact .inl (e _ _ h hu)
  · exact .inr ⟨o, e _ _ h (fun xs z => by cases z)⟩
mutual
theorem Rep.bar {K : PySem.W.Frag} {G G' : Hp} (s : Bar G G') : ∀ {v : V} {d : D}, Rep K G v d → d.noL = true → Rep K G' v d
  | _, _, .non, _ => .non
  | _, _, .bl b, _ => .bl b
  | _, _, .int i, _ => .int i
  | _, _, .str x, _ => .str x
  | _, _, .cst v, _ => .cst v
  | _, _, .lst h r, p => by simp [D.noL] at p
  | _, _, .frl h r, p => by simp [D.noL] at p
  | _, _, .dct h r, p => by simp [D.noL] at p
  | _, _, .tup h r, p => by
    simp only [D.noL] at p
    refine .tup ?_ (RepA.bar s r p)
    rcases h with h | h
    · exact .inl (bar_rd s (fun xs z => by cases z) h)
    · exact .inr h
  | _, _, .ins h r, p => by
    simp only [D.noL] at p
    exact .ins (s _ _ h (fun xs z => by cases z)) (RepF.bar s r p)
theorem RepA.bar {K : PySem.W.Frag} {G G' : Hp} (s : Bar G G') : ∀ {v : List V} {d : List D}, RepA K G v d → D.noLs d = true → RepA K G' v d
  | _, _, .nil, _ => .nil
  | _, _, .cons r t, p => by
    simp only [D.noLs, Bool.and_eq_true] at p
    exact .cons (Rep.bar s r p.1) (RepA.bar s t p.2)
theorem RepF.bar {K : PySem.W.Frag} {G G' : Hp} (s : Bar G G') : ∀ {v : List (Str × V)} {d : List (Str × D)}, RepF K G v d → D.noLf d = true → RepF K G' v d
  | _, _, .nil, _ => .nil
  | _, _, .cons r t, p => by
    simp only [D.noLf, Bool.and_eq_true] at p
    exact .cons (Rep.bar s r p.1) (RepF.bar s t p.2)
end
theorem borrow {K : PySem.W.Frag} {α : Nat → Addr} {σ : L2.St} {G H : Hp} {i : Nat} {a0 a1 : Addr} {L T : List Str} (E : EnvA K B α ρ σ G H) (l0 : Lent B a0 L) (l1 : Lent B a1 T) (ne : a0 ≠ a1) (hi : ρ[i]? = some (.own (.lst [.cst (.ref a0), .cst (.ref a1)]))) :
    ∃ G1, EnvA K ⟨G1, H, []⟩ α ((ρ.map frz1).set i (.dat (.lst [.lst (L.map .str), .lst (T.map .str)]))) σ G1 H ∧
      ∀ {ρ' G2 H2}, EnvA K ⟨G1, H, []⟩ α ρ' σ G2 H2 → ∃ G3, Same G G3 ∧ EnvA K B α ρ σ G3 H2 ∧ Bar G2 G3 := by
  obtain ⟨h0, g0⟩ := E.keep a0 _ l0.h l0.g l0.io
  obtain ⟨h1, g1⟩ := E.keep a1 _ l1.h l1.g l1.io
  obtain ⟨si, gi, ⟨xs, hp, rx⟩, _⟩ := E.own i _ hi
  obtain ⟨v, u, rfl, r1, r2⟩ := rx.two_inv
  cases r1.cst_inv
  cases r2.cst_inv
  have p0 : α i ≠ a0 := fun z => by
    rw [z, h0] at hp
    have := congrArg (fun o : Option HO => match o with | some (.lst xs) => xs | _ => []) hp
    cases L with
    | nil => simp at this
    | cons w L => simp at this
  have p1 : α i ≠ a1 := fun z => by
    rw [z, h1] at hp
    have := congrArg (fun o : Option HO => match o with | some (.lst xs) => xs | _ => []) hp
    cases T with
    | nil => simp at this
    | cons w L => simp at this
  let G1 : Hp := upd (upd (upd G a0 (.lst (L.map V.str))) a1 (.lst (T.map V.str))) (α i) (.lst [.ref a0, .ref a1])
  have q0 : G1 a0 = some (.lst (L.map V.str)) := by show upd _ _ _ a0 = _; rw [upd_ne (Ne.symm p0), upd_ne ne, upd_same]
  have q1 : G1 a1 = some (.lst (T.map V.str)) := by show upd _ _ _ a1 = _; rw [upd_ne (Ne.symm p1), upd_same]
  have qp : G1 (α i) = some (.lst [.ref a0, .ref a1]) := upd_same
  have qo : ∀ b, b ≠ a0 → b ≠ a1 → b ≠ α i → G1 b = G b := fun b z0 z1 zp => by show upd _ _ _ b = _; rw [upd_ne zp, upd_ne z1, upd_ne z0]
  have s1 : Same G1 H := fun b o e => by
    by_cases zp : b = α i
    · subst zp; rw [qp] at e; cases e; exact hp
    · by_cases z1 : b = a1
      · subst z1; rw [q1] at e; cases e; exact h1
      · by_cases z0 : b = a0
        · subst z0; rw [q0] at e; cases e; exact h0
        · rw [qo b z0 z1 zp] at e; exact E.sub _ _ e
  have sG : Same G G1 := fun b o e => by
    rw [qo b (fun z => by rw [z, g0] at e; cases e) (fun z => by rw [z, g1] at e; cases e) (fun z => by rw [z, gi] at e; cases e)]; exact e
  refine ⟨G1, ⟨by rw [List.length_set, List.length_map]; exact E.len, s1, Same.refl _, fun a o e n _ => ⟨e, n⟩, fun j d q => ?_, fun j d q => ?_, fun j k d e q => ?_, fun p hp => by cases hp⟩, fun {ρ' G2 H2} E2 => ?_⟩
  · rcases set_get q with ⟨rfl, z⟩ | ⟨hj, q⟩
    · cases z
      exact ⟨_, si, .lst qp (.cons (.lst q0 (RepA.ofStrs _)) (.cons (.lst q1 (RepA.ofStrs _)) .nil))⟩
    · rw [List.getElem?_map] at q
      cases z : ρ[j]? with
      | none => rw [z] at q; cases q
      | some s =>
        rw [z] at q
        cases s with
        | un => cases q
        | own e => cases q
        | dat e =>
          cases q
          obtain ⟨v, y1, y2⟩ := E.dat j _ z
          exact ⟨v, y1, y2.mono sG⟩
  · rcases set_get q with ⟨rfl, z⟩ | ⟨hj, q⟩
    · cases z
    · rw [List.getElem?_map] at q
      cases z : ρ[j]? with
      | none => rw [z] at q; cases q
      | some s => rw [z] at q; cases s <;> cases q
  · rcases set_get q with ⟨rfl, z⟩ | ⟨hj, q⟩
    · cases z
    · rw [List.getElem?_map] at q
      cases z : ρ[j]? with
      | none => rw [z] at q; cases q
      | some s => rw [z] at q; cases s <;> cases q
  · have hk : ∀ a o, H a = some o → G1 a = none → H2 a = some o ∧ G2 a = none := fun a o e n => E2.keep a o e n (fun p hp => by cases hp)
    let G3 : Hp := fun b => if b = a0 ∨ b = a1 ∨ b = α i then none else G2 b
    have g3 : ∀ b, ¬ (b = a0 ∨ b = a1 ∨ b = α i) → G3 b = G2 b := fun b z => if_neg z
    have g3n : ∀ b, (b = a0 ∨ b = a1 ∨ b = α i) → G3 b = none := fun b z => if_pos z
    have hin : ∀ b o, G b = some o → ¬ (b = a0 ∨ b = a1 ∨ b = α i) := fun b o e z => by
      rcases z with rfl | rfl | rfl
      · rw [g0] at e; cases e
      · rw [g1] at e; cases e
      · rw [gi] at e; cases e
    have gg : Same G G3 := fun b o e => by
      rw [g3 b (hin b o e)]; exact E2.grow _ _ (sG _ _ e)
    have hh : Same H H2 := fun b o e => by
      cases z : G1 b with
      | none => exact (hk b o e z).1
      | some u =>
        have := s1 _ _ z
        rw [e] at this; cases this
        exact E2.sub _ _ (E2.grow _ _ z)
    refine ⟨G3, gg, E.al ⟨gg, hh, fun b o e => ?_, fun b o e n => ?_⟩, fun b o e hl => ?_⟩
    · by_cases z : b = a0 ∨ b = a1 ∨ b = α i
      · rw [g3n b z] at e; cases e
      · rw [g3 b z] at e; exact E2.sub _ _ e
    · by_cases z : b = a0 ∨ b = a1 ∨ b = α i
      · exact g3n b z
      · rw [g3 b z]
        refine (hk b o e ?_).2
        rw [qo b (fun y => z (.inl y)) (fun y => z (.inr (.inl y))) (fun y => z (.inr (.inr y)))]; exact n
    · rw [g3 b, e]
      intro z
      rcases z with rfl | rfl | rfl
      · have := E2.grow _ _ q0; rw [e] at this; cases this; exact hl _ rfl
      · have := E2.grow _ _ q1; rw [e] at this; cases this; exact hl _ rfl
      · have := E2.grow _ _ qp; rw [e] at this; cases this; exact hl _ rfl
theorem de_borrow {i : Nat} {a0 a1 : Addr} {L T : List Str} (l0 : Lent B a0 L) (l1 : Lent B a1 T) (ne : a0 ≠ a1) (hi : ρ[i]? = some (.own (.lst [.cst (.ref a0), .cst (.ref a1)])))
    (h : ∀ B1 : Bs, B1.io = [] → DE X B1 ((ρ.map frz1).set i (.dat (.lst [.lst (L.map .str), .lst (T.map .str)]))) e d ρ') (hd : d.noL = true) : DE X B ρ e d ρ :=
  PE.imp pe_a fun σ H Q ⟨α, G, E, q⟩ => by
    obtain ⟨G1, E1, back⟩ := borrow E l0 l1 ne hi
    refine ⟨_, h ⟨G1, H, []⟩ rfl, α, G1, E1, fun v G2 H2 g2 E2 r2 => ?_⟩
    obtain ⟨G3, s3, E3, b3⟩ := back E2
    exact q v G3 H2 s3 E3 (r2.bar b3 hd)
theorem dt_borrow {i : Nat} {a0 a1 : Addr} {L T : List Str} {k : Bool} (l0 : Lent B a0 L) (l1 : Lent B a1 T) (ne : a0 ≠ a1) (hi : ρ[i]? = some (.own (.lst [.cst (.ref a0), .cst (.ref a1)])))
    (h : ∀ B1 : Bs, B1.io = [] → DT X B1 ((ρ.map frz1).set i (.dat (.lst [.lst (L.map .str), .lst (T.map .str)]))) e k ρ') : DT X B ρ e k ρ :=
  PT.imp pt_a fun σ H Q ⟨α, G, E, q⟩ => by
    obtain ⟨G1, E1, back⟩ := borrow E l0 l1 ne hi
    refine ⟨_, h ⟨G1, H, []⟩ rfl, α, G1, E1, fun G2 H2 g2 E2 => ?_⟩
    obtain ⟨G3, s3, E3, b3⟩ := back E2
    exact q G3 H2 s3 E3
theorem EnvA.poke {K : PySem.W.Frag} {α : Nat → Addr} {σ : L2.St} {G H : Hp} {q : Addr} {o : HO} (E : EnvA K B α ρ σ G H) (gq : G q = none) (bq : B.H q = none) (ne : ∀ (j : Nat) e, ρ[j]? = some (.own e) → α j ≠ q) : EnvA K B α ρ σ G (upd H q o) :=
  ⟨E.len, fun a u e => by rw [upd_ne (fun z => by rw [z, gq] at e; cases e)]; exact E.sub a u e, E.grow, fun a u e n k => by
    obtain ⟨y1, y2⟩ := E.keep a u e n k
    exact ⟨by rw [upd_ne (fun z => by rw [z, bq] at e; cases e)]; exact y1, y2⟩, E.dat, fun m d e => by
    obtain ⟨y1, y2, y3, y4⟩ := E.own m d e
    exact ⟨y1, y2, y3.mono (Same.refl _) (fun o ho => by rw [upd_ne (ne m d e)]; exact ho), y4⟩, E.inj, E.io⟩
/-- x = [e0, e1]; s2; s3; x[0].append(e4); x[1].clear(); rest -/
theorem dss_pass {i : Nat} {x : Str} {e0 e1 : Expr} {w4 : Str} {st2 st3 : Stmt} {rest : List Stmt} {L T : List Str} {R2 R3 : Addr → Addr → Ro} {p1 p2 p3 p4 p5 p6 p7 p8 p9 p10 p11 p12 p13 p14 pos4 pos5 : Pos} {j1 j2 j3} (hN : X.N.Nodup) (h0 : DO X B ρ e0 (.lst (L.map .str)) ρ) (h1 : ∀ B1 : Bs, B1.io = B.io → DO X B1 ρ e1 (.lst (T.map .str)) ρ) (hio : ∀ p ∈ B.io, p.1 ≠ i) (hil : i < ρ.length)
    (h2 : ∀ (B1 : Bs) (a0 a1 : Addr), B1.io = B.io → Lent B1 a0 L → Lent B1 a1 T → a0 ≠ a1 → DS X B1 (ρ.set i (.own (.lst [.cst (.ref a0), .cst (.ref a1)]))) st2 { nx := fun r => r = R2 a0 a1 })
    (h3 : ∀ (B1 : Bs) (a0 a1 : Addr), B1.io = B.io → Lent B1 a0 L → Lent B1 a1 T → a0 ≠ a1 → DS X B1 (R2 a0 a1) st3 { nx := fun r => r = R3 a0 a1 }) (hi3 : ∀ a0 a1, (R3 a0 a1)[i]? = some (.own (.lst [.cst (.ref a0), .cst (.ref a1)]))) (hL : L.length < sizeLine)
    (hr : ∀ a0 a1, DSs X B (R3 a0 a1) rest P) (hi : X.N[i]? = some x := by rfl) (hx : Loc X.env.scope x := by first | exact Or.inl rfl | exact Or.inr rfl) (hv : Vis X.env.scope x := by first | exact Or.inl rfl | exact Or.inr (Or.inl rfl) | exact Or.inr (Or.inr rfl)) (hdb : (x == ("__debug__" : Str)) = false := by decide) (hcd : (x == ("__classdict__" : Str)) = false := by decide)
    (hs : swapsWith (.List [e0, e1] p2) (some (.Name x p1)) p3.line X.env = pure false := by rfl) (hf : X.fn x = true ∨ X.env.scope.names.lookup x = some .local := by first | exact .inl rfl | exact .inr rfl | assumption)
    (s1 : starEach [e0, e1] X.env = (false, eval e0 X.env) :: starEach [e1] X.env := by rfl) (s2 : starEach [e1] X.env = (false, eval e1 X.env) :: starEach [] X.env := by rfl)
    (hs4 : swapsWith (.Call (.Attribute (.Subscript (.Name x p4) (.Constant (.int 0) j1 p5) p6) "append" p7) [.Constant (.str w4) j3 p8] [] p9) none pos4.line X.env = pure false := by rfl)
    (hst : starEach [.Constant (.str w4) j3 p8] X.env = [(false, eval (.Constant (.str w4) j3 p8) X.env)] := by rfl)
    (hbase : attributeBase (.Subscript (.Name x p4) (.Constant (.int 0) j1 p5) p6) "append" X.env (eval (.Subscript (.Name x p4) (.Constant (.int 0) j1 p5) p6) X.env) = eval (.Subscript (.Name x p4) (.Constant (.int 0) j1 p5) p6) X.env := by rfl)
    (hfew : ((backTo p9 (starEach [.Constant (.str w4) j3 p8] X.env)).all (fun x => !x.1) && (backToKw p9 (keywordEach [] X.env)).all (fun x => x.1.isSome)
      && decide ([Expr.Constant (.str w4) j3 p8].length + ([] : List Keyword).length + (if ([] : List Keyword).isEmpty then 0 else 1) < 30)) = true := by rfl)
    (hline : (p7.endLine == p9.line) = true := by rfl)
    (hs5 : swapsWith (.Call (.Attribute (.Subscript (.Name x p10) (.Constant (.int 1) j2 p11) p12) "clear" p13) [] [] p14) none pos5.line X.env = pure false := by rfl)
    (hbase5 : attributeBase (.Subscript (.Name x p10) (.Constant (.int 1) j2 p11) p12) "clear" X.env (eval (.Subscript (.Name x p10) (.Constant (.int 1) j2 p11) p12) X.env) = eval (.Subscript (.Name x p10) (.Constant (.int 1) j2 p11) p12) X.env := by rfl)
    (hline5 : (p13.endLine == p14.line) = true := by rfl) :
    DSs X B ρ (.Assign [.Name x p1] (.List [e0, e1] p2) p3 :: st2 :: st3 :: .Expr (.Call (.Attribute (.Subscript (.Name x p4) (.Constant (.int 0) j1 p5) p6) "append" p7) [.Constant (.str w4) j3 p8] [] p9) pos4
      :: .Expr (.Call (.Attribute (.Subscript (.Name x p10) (.Constant (.int 1) j2 p11) p12) "clear" p13) [] [] p14) pos5 :: rest) P := by
  refine PSs.imp (pss_cons (ps_set hN hi hx (pe_lst (pa_cons h0 (pa_cons pe_a pa_nil s2) s1)) hs hf) (pss_cons ps_a (pss_cons ps_a (pss_cons (ps_expr (pe_bm PySem.F.plainAttrs_list PySem.F.slot_list_append PySem.F.type_list_append mt_append (pe_ix ix_list (pe_var hi hv hdb hcd) pe_int (by intro _ _; rfl)) (pa_cons pe_str pa_nil hst) hbase hfew hline hst rfl) hs4)
    (pss_cons (ps_expr (pe_bm0 PySem.F.plainAttrs_list PySem.F.slot_list_clear PySem.F.type_list_clear mt_clear (pe_ix ix_list (pe_var hi hv hdb hcd) pe_int (by intro _ _; rfl)) hbase5 hline5) hs5) pss_a))))) fun D σ H ⟨⟨α, G, E⟩, m⟩ => ⟨α, G, E, fun a0 G1 H1 g1 E1 n1 w1 b1 ne1 => ?_⟩
  obtain ⟨xs, ho0, rx⟩ := w1
  have := rx.strs; subst this
  have E1' := E1.guard ho0 n1 b1 ne1
  refine ⟨tO X.K ⟨G1, upd B.H a0 (.lst (L.map V.str)), B.io⟩ ρ (.lst (T.map .str)) ρ, h1 _ rfl, α, G1, E1', fun a1 G2 H2 g2 E2 n2 w2 b2 ne2 => ?_⟩
  obtain ⟨ys, ho1, ry⟩ := w2
  have := ry.strs; subst this
  refine ⟨by show 2 ≤ sizeLine; decide, fun p hp => ?_⟩
  have b2 : upd B.H a0 (.lst (L.map V.str)) a1 = none := b2
  have ne : a0 ≠ a1 := fun z => by rw [← z, upd_same] at b2; cases b2
  have b2' : B.H a1 = none := by rw [upd_ne (Ne.symm ne)] at b2; exact b2
  obtain ⟨_, y1, y2, y3⟩ := EnvA.unguard E1 b1 n1 (E1.nio ne1) E2
  have E2' := E2.guard ho1 n2 b2 ne2
  have l0 : Lent ⟨G2, upd (upd B.H a0 (.lst (L.map V.str))) a1 (.lst (T.map V.str)), B.io⟩ a0 L := ⟨by show upd _ _ _ a0 = _; rw [upd_ne ne, upd_same], y2, E1.nio ne1⟩
  have l1 : Lent ⟨G2, upd (upd B.H a0 (.lst (L.map V.str))) a1 (.lst (T.map V.str)), B.io⟩ a1 T := ⟨upd_same, n2, E2.nio ne2⟩
  have E3 := E2'.al (Al.new0 (o := .lst [.ref a0, .ref a1]) E2'.sub hp)
  have E4 := E3.setOwn (i := i) (a := p) (d := .lst [.cst (.ref a0), .cst (.ref a1)]) hio (E2.sub.free hp) ⟨_, upd_same, .cons (.cst _) (.cons (.cst _) .nil)⟩ (E2'.fresh hp) (fun j e he => E2'.ownNe hp he)
  refine ⟨_, h2 ⟨G2, upd (upd B.H a0 (.lst (L.map V.str))) a1 (.lst (T.map V.str)), B.io⟩ a0 a1 rfl l0 l1 ne, ⟨_, _, E4⟩, ⟨fun r α5 σ5 G5 H5 hr5 E5 => ?_, fun _ _ _ _ _ _ _ z => z.elim, fun _ _ _ _ _ _ _ z => z.elim, fun _ _ _ _ _ z => z.elim, fun _ _ _ _ _ z => z.elim⟩⟩
  have hr5 : r = R2 a0 a1 := hr5
  subst hr5
  refine ⟨_, h3 ⟨G2, upd (upd B.H a0 (.lst (L.map V.str))) a1 (.lst (T.map V.str)), B.io⟩ a0 a1 rfl l0 l1 ne, ⟨_, _, E5⟩, ⟨fun r α6 σ6 G6 H6 hr6 E6 => ?_, fun _ _ _ _ _ _ _ z => z.elim, fun _ _ _ _ _ _ _ z => z.elim, fun _ _ _ _ _ z => z.elim, fun _ _ _ _ _ z => z.elim⟩⟩
  have hr6 : r = R3 a0 a1 := hr6
  subst hr6
  obtain ⟨E7, k1, k2, k3⟩ := EnvA.unguard E2 b2 n2 (E2.nio ne2) E6
  obtain ⟨E8, m1, m2, m3⟩ := EnvA.unguard E1 b1 n1 (E1.nio ne1) E7
  obtain ⟨si, gi, ⟨zs, hz, rz⟩, _⟩ := E8.own i _ (hi3 a0 a1)
  obtain ⟨v, u, rfl, r1, r2⟩ := rz.two_inv
  cases r1.cst_inv
  cases r2.cst_inv
  have pa : α6 i ≠ a0 := m3 i _ (hi3 a0 a1)
  refine ⟨_, si, α6 i, [.ref a0, .ref a1], 0, .ref a0, rfl, rfl, SqL.of hz, rfl, .inl ⟨rfl, _, SqL.of m1⟩, a0, _, _, rfl, rfl, m1, by rw [List.length_map]; exact hL, ?_⟩
  have hz7 : upd H6 a0 (.lst (L.map V.str ++ [.str w4])) (α6 i) = some (.lst [.ref a0, .ref a1]) := by rw [upd_ne pa]; exact hz
  have h17 : upd H6 a0 (.lst (L.map V.str ++ [.str w4])) a1 = some (.lst (T.map V.str)) := by rw [upd_ne (Ne.symm ne)]; exact k1
  refine ⟨_, si, α6 i, [.ref a0, .ref a1], 1, .ref a1, rfl, rfl, SqL.of hz7, rfl, .inl ⟨rfl, _, SqL.of h17⟩, a1, _, rfl, rfl, h17, ?_⟩
  exact ⟨_, hr a0 a1, ⟨_, _, (E8.poke m2 b1 m3).poke k2 b2' k3⟩, m⟩
/-! ### list comprehensions, as values and behind a name -/
structure LcD (X : Cx) (B : Bs) (ρ : Ro) (elt tg it : Expr) (ifs : List Expr) (scope : Scope) (d : D) (ρ' : Ro) : Prop where
  ex : ∃ ds ρ1 g own, DI X B ρ tg it ds ρ1 ∧ BlkOk X.N X.env.scope scope own ∧ InBlk X scope (fun Y => PG Y tg g) ∧ ∀ σ H Q, tO X.K B ρ d ρ' σ H Q → tLc (tI X.K B ρ ds ρ1) g (tUT X scope ifs) (tU X scope elt) (own.map (·.2)) σ H Q
variable {elt tg it : Expr} {ifs : List Expr} {scope : Scope} {own : List (Str × Nat)} {g : TG} {ds : List D}
theorem lcd (hi : DI X B ρ tg it ds ρ1) (ok : BlkOk X.N X.env.scope scope own) (hg : InBlk X scope (fun Y => PG Y tg g)) (R : Nat → Ro) (out : Nat → List D) (h0 : wipeR ρ1 (own.map (·.2)) = R 0) (o0 : out 0 = [])
    (hv : ∀ v ∈ own.map (·.2), ∀ p ∈ B.io, p.1 ≠ v) (hz : ∀ k, (out k).length < sizeLine)
    (turn : ∀ (B1 : Bs), B1.io = B.io → ∀ (k : Nat) d, ds[k]? = some d → ∃ r' ws, GD X.K B1 g d (R k) r' ws ∧ (∀ i ∈ ws, i ∈ own.map (·.2)) ∧ ∃ b r3, InBlk X scope (fun Y => DTs Y B1 r' ifs b r3) ∧
      (b = true → ∃ y r4, InBlk X scope (fun Y => DE Y B1 r3 elt y r4) ∧ out (k + 1) = out k ++ [y] ∧ wipeR r4 (own.map (·.2)) = R (k + 1)) ∧ (b = false → out (k + 1) = out k ∧ wipeR r3 (own.map (·.2)) = R (k + 1))) :
    LcD X B ρ elt tg it ifs scope (.lst (out ds.length)) (R ds.length) :=
  ⟨ds, ρ1, g, own, hi, ok, hg, fun σ H Q h => lc_read R out h0 o0 hv hz turn h⟩
theorem LcD.o (h : LcD X B ρ elt tg it ifs scope d ρ') (hc : X.calm = true) (hN : X.N.Nodup) (hs : ∀ x, foldedSetIterable it X.env x = pure x := by intro _; rfl) : DO X B ρ (.ListComp elt [⟨tg, it, ifs, 0⟩] scope pos) d ρ' := by
  obtain ⟨ds, ρ1, g, own, hi, ok, hg, rd⟩ := h.ex
  exact PE.imp (pe_lc hc hN hi ok hg pt_u pe_u hs) fun σ H Q h => rd σ H Q h
theorem LcD.is (h : LcD X B ρ elt tg it ifs scope d ρ') (z : d = d1) : LcD X B ρ elt tg it ifs scope d1 ρ' := z ▸ h
theorem LcD.set {i : Nat} {y : Str} {spos : Pos} (h : LcD X B ρ elt tg it ifs scope d ρ') (hc : X.calm = true) (hN : X.N.Nodup) (k : P.nx (ρ'.set i (.dat d))) (hio : ∀ p ∈ B.io, p.1 ≠ i) (hy : X.N[i]? = some y := by rfl) (hyl : X.env.scope.names.lookup y = some .local := by rfl) (hk : X.env.scope.kind = .function := by rfl) (hl : (py.line == pos.line) = true := by rfl)
    (ha : (scope.names.any fun (n, k) => n == y && (k == .local || k == .cell)) = false := by rfl) (hs : ∀ x, foldedSetIterable it X.env x = pure x := by intro _; rfl) : DS X B ρ (.Assign [.Name y py] (.ListComp elt [⟨tg, it, ifs, 0⟩] scope pos) spos) P := by
  obtain ⟨ds, ρ1, g, own, hi, ok, hg, rd⟩ := h.ex
  refine PS.imp (ps_setLc hc hN hy hyl (sw_true hk hyl hl ha) hi ok hg pt_u pe_u hs) fun D σ H ⟨⟨α, G, E⟩, m⟩ => rd σ H _ ⟨α, G, E, fun a G' H' g' E' n w b ne => ?_⟩
  obtain ⟨G2, g2, E2, r⟩ := E'.take n w b ne
  exact m.nx _ _ _ _ _ k (E2.set hio r)
theorem LcD.setO {i : Nat} {y : Str} {spos : Pos} (h : LcD X B ρ elt tg it ifs scope d ρ') (hc : X.calm = true) (hN : X.N.Nodup) (k : P.nx (ρ'.set i (.own d))) (hio : ∀ p ∈ B.io, p.1 ≠ i) (hy : X.N[i]? = some y := by rfl) (hyl : X.env.scope.names.lookup y = some .local := by rfl) (hk : X.env.scope.kind = .function := by rfl) (hl : (py.line == pos.line) = true := by rfl)
    (ha : (scope.names.any fun (n, k) => n == y && (k == .local || k == .cell)) = false := by rfl) (hs : ∀ x, foldedSetIterable it X.env x = pure x := by intro _; rfl) : DS X B ρ (.Assign [.Name y py] (.ListComp elt [⟨tg, it, ifs, 0⟩] scope pos) spos) P := by
  obtain ⟨ds, ρ1, g, own, hi, ok, hg, rd⟩ := h.ex
  refine PS.imp (ps_setLc hc hN hy hyl (sw_true hk hyl hl ha) hi ok hg pt_u pe_u hs) fun D σ H ⟨⟨α, G, E⟩, m⟩ => rd σ H _ ⟨α, G, E, fun a G' H' g' E' n w b ne => m.nx _ _ _ _ _ k (E'.setOwn hio n w b ne)⟩
/-- [elt for x in iter]: a map -/
theorem lcd_map {i : Nat} {x : Str} {px : Pos} (f : D → D) (hi : DI X B ρ (.Name x px) it ds ρ1) (ok : BlkOk X.N X.env.scope scope [(x, i)]) (hg : InBlk X scope (fun Y => PG Y (.Name x px) (gName i))) (hv : ∀ p ∈ B.io, p.1 ≠ i) (hz : ds.length < sizeLine)
    (he : ∀ (B1 : Bs), B1.io = B.io → ∀ d, d ∈ ds → InBlk X scope (fun Y => DE Y B1 (ρ1.set i (.dat d)) elt (f d) (ρ1.set i (.dat d)))) : LcD X B ρ elt (.Name x px) it [] scope (.lst (ds.map f)) (ρ1.set i .un) := by
  have h := lcd (X := X) (B := B) (ρ := ρ) (elt := elt) (ifs := []) hi ok hg (fun _ => ρ1.set i .un) (fun k => (ds.take k).map f) rfl (by simp) (by intro v hv' p hp; simp at hv'; subst hv'; exact hv p hp) (fun k => by
    rw [List.length_map, List.length_take]; exact Nat.lt_of_le_of_lt (Nat.min_le_right _ _) hz) (fun B1 hB k d hd => by
    refine ⟨ρ1.set i (.dat d), [i], ?_, by simp, true, _, fun _ _ _ _ _ => dts_nil, fun _ => ⟨f d, _, he B1 hB d (List.mem_of_getElem? hd), ?_, ?_⟩, fun z => by cases z⟩
    · have := gd_name (K := X.K) (B := B1) (d := d) (r := ρ1.set i .un) (i := i) (by rw [hB]; exact hv)
      rw [List.set_set] at this; exact this
    · show (ds.take (k + 1)).map f = (ds.take k).map f ++ [f d]
      rw [List.take_succ, hd, List.map_append]; rfl
    · show (ρ1.set i (.dat d)).set i .un = ρ1.set i .un
      rw [List.set_set])
  simpa using h
end
end DL

set_option maxRecDepth 100000
set_option maxHeartbeats 4000000
/-! The end of a law: its call behind the top (promises of the kind FnG), and the facts that the top leaves. -/
namespace DL
open PySem PySem.Spec PyProof.Rows L2
/-! ### the call of a law -/
section
variable {P : Program} {w : World} {K : PySem.W.Frag} {mg mb : Str → Option Value} {k : Nat} {fa a : Addr} {fd : FuncData} {x : Str} {s : Shared} {vs : List Value} {ns : List Int}
/-- the heap of things that a law's call begins with: its script, unless the written part has it -/
def lawH (K : PySem.W.Frag) (a : Addr) (vs : List Value) (ns : List Int) : Hp := fun b => if b = a ∧ K.lookup a = none then some (.frz { cls := .type "list", data := .seq vs.toArray } (.lst (ns.map V.int))) else none
theorem lawH_at {b : Addr} {u : HO} (e : lawH K a vs ns b = some u) : b = a ∧ K.lookup a = none ∧ u = .frz { cls := .type "list", data := .seq vs.toArray } (.lst (ns.map V.int)) := by
  unfold lawH at e
  by_cases z : b = a ∧ K.lookup a = none
  · rw [if_pos z] at e; cases e; exact ⟨z.1, z.2, rfl⟩
  · rw [if_neg z] at e; cases e
theorem lawG (KX : K.In s.heap) (hns : s.heap.Ns mainGlobals mg) (hb : s.heap.Ns builtinsNs mb) (hbb : ∀ x : Str, x ≠ "__name__" → mb x = bootBuiltins x) (hlim : s.heap.NoLimit) (hg : s.gens = #[])
    (ha : s.heap.get? a = some { cls := .type "list", data := .seq vs.toArray }) (hi : IntsAre vs ns) (hl : ns.length ≤ sizeLine) (hr : Room k callerA) {C : List D → D → Prop}
    (F : ∀ base : Heap, K.In base → base.Ns mainGlobals mg → FnG P w K mg base CX0 k fa fd [x] (spP K C)) (hbind : ∀ (s : Shared) (u : Value), BindsTo s fd ⟨[u], []⟩ [(x, u)]) (hC : C [.frl (ns.map .int)] (.bl true)) :
    codeAny (model P w) callerA (.call (.ref fa) ⟨[.ref a], []⟩) (fun r s' => r = .ok (.ret (.bool true)) ∧ OldK s.heap s'.heap ∧ s'.os = s.os ∧ AllBare s'.gens) s := by
  let H : Hp := lawH K a vs ns
  -- what is no list object of that kind stands in the base
  have free : ∀ {b : Addr} {o : Obj}, s.heap.get? b = some o → (K.lookup b ≠ none ∨ ∃ es ep, o.data = .dict es ep) → H b = none := fun {b o} e hz => by
    cases q : H b with
    | none => rfl
    | some u =>
      obtain ⟨rfl, hk, _⟩ := lawH_at q
      rw [ha] at e; cases e
      rcases hz with hz | ⟨es, ep, hz⟩
      · exact absurd hk hz
      · cases hz
  have ns' : ∀ {b : Addr} {m : Str → Option Value}, s.heap.Ns b m → (hidT s.heap H).Ns b m := fun {b m} hN => by
    obtain ⟨o, es, ep, e, d, r⟩ := hN
    exact ⟨o, es, ep, hidT_get e (free e (.inr ⟨es, ep, d⟩)), d, r⟩
  have kin : K.In (hidT s.heap H) := fun b o e => hidT_get (KX b o e) (free (KX b o e) (.inl (by rw [e]; simp)))
  have mod : Mod K mg (hidT s.heap H) := by
    obtain ⟨mc, h1, h2⟩ := hlim
    exact ⟨kin, ns' hns, ⟨mb, ns' hb, hbb⟩, ⟨mc, ns' h1, h2⟩⟩
  have rv := vals_ints hi
  have hok : HOk P w H s.heap := fun b u q => by
    obtain ⟨rfl, hk, rfl⟩ := lawH_at q
    exact ⟨ha, by rw [List.length_map]; exact hl, vs, _, rv, ha⟩
  have env : Env0 P w K mg (hidT s.heap H) callerA [] s H := ⟨rfl, mod, fun b o e => of_hidT e, Nat.le_of_eq (hidT_size _ _), trivial, fun b hb => absurd (show b ∈ ([] : List Addr) from hb) (by simp), hok, .of_eq hg⟩
  have seq : SqL K H a (ns.map V.int) := by
    cases hk : K.lookup a with
    | none => exact .inl (.inr ⟨_, if_pos ⟨rfl, hk⟩⟩)
    | some o =>
      have e := KX a o hk
      rw [ha] at e; cases e
      exact .inr ⟨_, vs.toArray, _, hk, rfl, rfl, rfl, by rw [List.size_toArray, hi.length]; exact hl, by simpa using rv⟩
  have sp : spP K C [.ref a] H (fun v _ => v = .bl true) E0 := ⟨H, [.frl (ns.map .int)], .bl true, Same.refl _, .cons (.frl seq (RepA.ofInts ns)) .nil, hC, fun v G' H' al r => r.bl_inv⟩
  refine codeAny_mono ((F _ kin (ns' hns)).go callerA [] s H ⟨[.ref a], []⟩ [.ref a] [.ref a] _ E0 ⟨hr, rfl⟩ env (hbind s (.ref a)) (.cons rfl .nil) sp) fun r s' h => ?_
  cases r with
  | error e => exact False.elim h
  | ok fl =>
    cases fl with
    | next => exact False.elim h
    | brk => exact False.elim h
    | cont => exact False.elim h
    | ret u =>
      obtain ⟨v, H', os, bare, un, hok', rel, q⟩ := h
      have q : v = .bl true := q
      subst q
      obtain rfl : u = Value.bool true := rel
      refine ⟨rfl, OldK.of_keep fun b o e => ?_, os, bare⟩
      cases q : H b with
      | none => exact un.keep b o e q (by simp [frs]) (by simp)
      | some u =>
        obtain ⟨rfl, hk, rfl⟩ := lawH_at q
        obtain ⟨e2, _⟩ := hok' _ _ (un.frzs _ _ _ q)
        rw [ha] at e; cases e
        exact e2
end
/-- the goal that head_any leaves -/
theorem walkG {l : PySem.W.OpenLaw} {n k : Nat} {q : Program} {loose : List Str} {XP : (Str → Option Value) → Heap → Prop} {YP : World → Heap → Prop} {d : DefRec} {x : Str} (hn : l.most = some n) (hn2 : n ≤ sizeLine) (hdf : d.params.defaults = []) (hr : Room k callerA)
    (F : ∀ (w : World) (mg : Str → Option Value) (fa : Addr) (h : Heap), YP w h → h.Ns mainGlobals mg → mg d.name = some (.ref fa) →
      ∃ (K : PySem.W.Frag) (fd : FuncData) (C : List D → D → Prop), K.In h ∧ (∀ (s : Shared) (u : Value), BindsTo s fd ⟨[u], []⟩ [(x, u)]) ∧ (∀ ns : List Int, ns.length ≤ n → C [.frl (ns.map .int)] (.bl true)) ∧
        ∀ base : Heap, K.In base → base.Ns mainGlobals mg → FnG l.prog w K mg base CX0 k fa fd [x] (spP K C)) :
    PySem.W.WalkO q loose XP YP l.row.toRowW d [] (fun f vs => PySem.call f vs) := by
  refine Att.attach_call hn hdf fun w s₀ s₁ mg mb fa o pm cd doc a vs ns G Y ho hd hcd hmg hobj hints hlen hg => ?_
  obtain ⟨K, fd, C, KX, hb, hC, hF⟩ := F w mg fa _ Y G.T.g hmg
  exact lawG KX G.T.g G.T.b G.T.builtins G.T.nolimit hg hobj hints (Nat.le_trans hlen hn2) hr hF hb (hC ns hlen)

/-! ### facts of the top: a check of one's own, and defs by where they stand -/
structure FD where
  at_ : PySem.W.Frag → Addr
  name : Str
  qual : Str
  st : Stmt
def fdSeen (K : PySem.W.Frag) (d : FD) : He.FnW := match K.lookup (d.at_ K) with
  | some ⟨_, _, .func fd, _⟩ => some (fd.name, fd.qualname, fd.params, fd.body, fd.scope, fd.globals, fd.closure, fd.builtins)
  | _ => none
def FD.val (d : FD) : He.FnW := some (d.name, d.qual, defArgs d.st, .stmts (defBody d.st), defScope d.st, mainGlobals, [], builtinsNs)
def isNon : Value → Bool
  | .none => true
  | _ => false
theorem isNon_ok {v : Value} (h : isNon v = true) : v = .none := by
  cases v with
  | none => rfl
  | _ => cases h
def FD.ok (K : PySem.W.Frag) (d : FD) : Bool := PySem.W.keepIn K (.ref (d.at_ K)) && (match K.lookup (d.at_ K) with
  | some ⟨_, _, .func fd, _⟩ => PySem.W.codeIn K fd.code d.qual && isNon fd.defaults
  | _ => false)
theorem FD.get {K : PySem.W.Frag} {d : FD} (e : fdSeen K d = d.val) (c : d.ok K = true) : ∃ fd, Fun K d.name d.qual d.st (d.at_ K) fd := by
  obtain ⟨kp, c2⟩ := He.ba c
  unfold fdSeen at e
  cases q : K.lookup (d.at_ K) with
  | none => rw [q] at c2; cases c2
  | some o =>
    obtain ⟨oc, od, dt, osl⟩ := o
    rw [q] at c2 e
    cases dt with
    | func fd =>
      obtain ⟨n1, n2, n3, n4, n5, n6, n7, n8, n9, n10, n11, n12, n13, n14, n15⟩ := fd
      have e2 : (some (n1, n2, n3, n4, n5, n6, n7, n15) : He.FnW) = some (d.name, d.qual, defArgs d.st, .stmts (defBody d.st), defScope d.st, mainGlobals, [], builtinsNs) := e
      simp only [Option.some.injEq, Prod.mk.injEq] at e2
      obtain ⟨h1, h2, h3, h4, h5, h6, h7, h8⟩ := e2
      have c3 : (PySem.W.codeIn K n13 d.qual && isNon n8) = true := c2
      obtain ⟨k1, k2⟩ := He.ba c3
      have h9 : n8 = .none := isNon_ok k2
      subst h1 h2 h3 h4 h5 h6 h7 h8 h9
      exact ⟨_, ⟨oc, od, n9, n10, n11, n12, n13, n14, osl, rfl, q, k1⟩, kp⟩
    | _ => cases c2
abbrev AlF : Type := Bool × List He.FnW
def obF (ck : PySem.W.Frag → Bool) (fn : List FD) (K : PySem.W.Frag) : AlF := (ck K && fn.all fun d => d.ok K, fn.map fun d => fdSeen K d)
def valF (fn : List FD) : AlF := (true, fn.map FD.val)
def SaysF (ck : PySem.W.Frag → Bool) (fn : List FD) (K : PySem.W.Frag) : Prop := obF ck fn K = valF fn
def obFG (n : Nat) (ck : PySem.W.Frag → Bool) (fn : List FD) (g : Addr → Option Obj) : AlF := obF ck fn (He.frG g (He.asD g n))
def hookF (n : Nat) (ck : PySem.W.Frag → Bool) (fn : List FD) : PySem.W.Hook where
  α := AlF
  obs := fun s => obFG n ck fn s.heap.get?
  val := fun _ => valF fn
  says := fun _ h => ∃ K : PySem.W.Frag, K.In h ∧ SaysF ck fn K
  of := fun _ _ e => ⟨_, He.frG_in, e⟩
  keeps := fun _ _ _ ⟨K, hK, c⟩ k => ⟨K, PySem.W.Frag.In.keeps hK k, c⟩
theorem obFG_eq {n : Nat} {ck : PySem.W.Frag → Bool} {fn : List FD} {g : Addr → Option Obj} {s : Shared} (h : ∀ a, g a = s.heap.get? a) : obFG n ck fn g = (hookF n ck fn).obs s := by
  have e : g = s.heap.get? := funext h
  rw [e] <;> rfl
section
variable {ck : PySem.W.Frag → Bool} {fn : List FD} {K : PySem.W.Frag}
theorem SaysF.chk (c : SaysF ck fn K) : ck K = true := (He.ba (show (ck K && fn.all fun d => d.ok K) = true from congrArg (fun z : AlF => z.1) c)).1
theorem SaysF.def_ (c : SaysF ck fn K) (i : Nat) {d : FD} (h : fn[i]? = some d := by rfl) : ∃ fd, Fun K d.name d.qual d.st (d.at_ K) fd := by
  have c2 := (He.ba (show (ck K && fn.all fun d => d.ok K) = true from congrArg (fun z : AlF => z.1) c)).2
  have e : fn.map (fun d => fdSeen K d) = fn.map FD.val := congrArg (fun z : AlF => z.2) c
  have e2 : (fn.map fun d => fdSeen K d)[i]? = (fn.map FD.val)[i]? := by rw [e]
  rw [List.getElem?_map, List.getElem?_map, h] at e2
  exact FD.get (Option.some.inj e2) (List.all_eq_true.mp c2 d (List.mem_of_getElem? h))
end
end DL

/-! fills: the normal form of an endless sequence that is told by a lead and a turn -/
namespace FM
variable {α : Type} [DecidableEq α]
def repL (k : Nat) (xs : List α) : List α := (List.replicate k xs).flatten
def okSize (t : List α) (s : Nat) : Bool := decide (repL (t.length / s) (t.take s) = t)
def shortT (t : List α) : List α := match ((List.range (t.length - 1)).map (· + 1)).find? (fun s => decide (t.length % s = 0) && okSize t s) with
  | some s => t.take s
  | none => t
def shortL (t : List α) : List α := match ((List.range t.length).map (· + 1)).find? (okSize t) with
  | some s => t.take s
  | none => t
def rot (t : List α) : List α := t.drop (t.length - 1) ++ t.take (t.length - 1)
def nf (l t : List α) : List α × List α := if h : l ≠ [] ∧ l.getLast? = t.getLast? then nf l.dropLast (rot t) else (l, t)
termination_by l.length
decreasing_by
  have := h.1
  cases l with
  | nil => exact absurd rfl this
  | cons x l => simp
def NF (l t : List α) : List α × List α := nf l (shortT t)
/-- the sequence -/
def cyc (t : List α) (n : Nat) : Option α := t[n % t.length]?
def seq (l t : List α) (n : Nat) : Option α := if n < l.length then l[n]? else cyc t (n - l.length)

theorem repL_len (k : Nat) (xs : List α) : (repL k xs).length = k * xs.length := by
  unfold repL; simp
theorem repL_succ (k : Nat) (xs : List α) : repL (k + 1) xs = xs ++ repL k xs := by
  unfold repL; rw [List.replicate_succ, List.flatten_cons]
theorem repL_get (xs : List α) : ∀ (k i : Nat), i < k * xs.length → (repL k xs)[i]? = xs[i % xs.length]?
  | 0, i, h => by simp at h
  | k + 1, i, h => by
    rw [repL_succ]
    by_cases hi : i < xs.length
    · rw [List.getElem?_append_left hi, Nat.mod_eq_of_lt hi]
    · have hi' : xs.length ≤ i := Nat.le_of_not_lt hi
      rw [List.getElem?_append_right hi', repL_get xs k (i - xs.length) (by rw [Nat.succ_mul] at h; omega)]
      congr 1
      conv => rhs; rw [← Nat.sub_add_cancel hi', Nat.add_mod_right]
/-- a size that is a period -/
theorem okSize_iff {t : List α} {s : Nat} (hs : 0 < s) (hd : t.length % s = 0) : okSize t s = true ↔ ∀ i, i < t.length → t[i]? = t[i % s]? := by
  have hm : t.length / s * s = t.length := Nat.div_mul_cancel (Nat.dvd_of_mod_eq_zero hd)
  by_cases ht : t.length = 0
  · have : t = [] := List.eq_nil_of_length_eq_zero ht
    subst this
    simp [okSize, repL]
  have hle : s ≤ t.length := Nat.le_of_dvd (Nat.pos_of_ne_zero ht) (Nat.dvd_of_mod_eq_zero hd)
  have hl : (t.take s).length = s := by rw [List.length_take]; omega
  unfold okSize
  rw [decide_eq_true_iff]
  constructor
  · intro e i hi
    have := repL_get (t.take s) (t.length / s) i (by rw [hl, hm]; exact hi)
    rw [e, hl] at this
    rw [this, List.getElem?_take_of_lt (Nat.mod_lt _ hs)]
  · intro h
    apply List.ext_getElem?
    intro i
    by_cases hi : i < t.length
    · rw [repL_get _ _ _ (by rw [hl, hm]; exact hi), hl, List.getElem?_take_of_lt (Nat.mod_lt _ hs), ← h i hi]
    · rw [List.getElem?_eq_none (by rw [repL_len, hl, hm]; omega), List.getElem?_eq_none (by omega)]
theorem okSize_div {t : List α} {s : Nat} (hs : 0 < s) (h : okSize t s = true) : t.length % s = 0 := by
  unfold okSize at h
  have e := of_decide_eq_true h
  by_cases hle : s ≤ t.length
  · have := congrArg List.length e
    rw [repL_len, List.length_take, Nat.min_eq_left hle] at this
    have := Nat.div_add_mod t.length s
    rw [Nat.mul_comm] at this
    omega
  · have hd : t.length / s = 0 := Nat.div_eq_of_lt (by omega)
    rw [hd] at e
    have : t = [] := by rw [← e]; rfl
    subst this
    simp
theorem find_same {p q : Nat → Bool} : ∀ (l : List Nat), (∀ x ∈ l, p x = q x) → l.find? p = l.find? q
  | [], _ => rfl
  | x :: l, h => by
    rw [List.find?_cons, List.find?_cons, h x (List.mem_cons_self ..), find_same l fun y hy => h y (List.mem_cons_of_mem _ hy)]
/-- the two searches are one -/
theorem short_same (t : List α) : shortL t = shortT t := by
  unfold shortL shortT
  cases hn : t.length with
  | zero =>
    have : t = [] := List.eq_nil_of_length_eq_zero hn
    subst this; rfl
  | succ n =>
    have e1 : (List.range (n + 1)).map (· + 1) = (List.range n).map (· + 1) ++ [n + 1] := by rw [List.range_succ, List.map_append]; rfl
    rw [e1, Nat.add_sub_cancel, List.find?_append]
    have e2 : ((List.range n).map (· + 1)).find? (fun s => decide ((n + 1) % s = 0) && okSize t s) = ((List.range n).map (· + 1)).find? (okSize t) := by
      apply find_same
      intro s hs
      obtain ⟨k, hk, rfl⟩ := List.mem_map.mp hs
      cases ho : okSize t (k + 1) with
      | false => simp
      | true =>
        have := okSize_div (Nat.succ_pos k) ho
        rw [hn] at this
        simp [this]
    rw [e2]
    cases hf : ((List.range n).map (· + 1)).find? (okSize t) with
    | some s => rfl
    | none =>
      have ho : okSize t (n + 1) = true := by
        unfold okSize
        rw [hn, Nat.div_self (Nat.succ_pos n), List.take_of_length_le (by omega)]
        simp [repL]
      simp [ho]
      rw [List.take_of_length_le (by omega)]

/-! ### primitive turns -/
def Per (t : List α) (d : Nat) : Prop := ∀ n, cyc t (n + d) = cyc t n
def Prim (t : List α) : Prop := ∀ d, 0 < d → d ∣ t.length → Per t d → d = t.length
theorem per_of_ok {t : List α} {s : Nat} (hs : 0 < s) (hd : s ∣ t.length) : okSize t s = true ↔ Per t s := by
  have hm : t.length % s = 0 := Nat.mod_eq_zero_of_dvd hd
  by_cases ht : t = []
  · subst ht
    simp [okSize, repL, Per, cyc]
  have hp : 0 < t.length := List.length_pos_iff.mpr ht
  rw [okSize_iff hs hm]
  constructor
  · intro h n
    unfold cyc
    rw [h _ (Nat.mod_lt _ hp), h (n % t.length) (Nat.mod_lt _ hp), Nat.mod_mod_of_dvd _ hd, Nat.mod_mod_of_dvd _ hd, Nat.add_mod_right]
  · intro h i hi
    have go : ∀ k j, cyc t (j + k * s) = cyc t j := by
      intro k
      induction k with
      | zero => intro j; simp
      | succ k ih => intro j; rw [Nat.succ_mul, ← Nat.add_assoc, h, ih]
    have e := go (i / s) (i % s)
    rw [Nat.mul_comm, Nat.mod_add_div] at e
    unfold cyc at e
    rw [Nat.mod_eq_of_lt hi, Nat.mod_eq_of_lt (Nat.lt_of_le_of_lt (Nat.mod_le _ _) hi)] at e
    exact e
theorem cyc_add_len (t : List α) (n : Nat) : cyc t (n + t.length) = cyc t n := by unfold cyc; rw [Nat.add_mod_right]
theorem cyc_add_mul (t : List α) (n k : Nat) : cyc t (n + k * t.length) = cyc t n := by unfold cyc; rw [Nat.add_mul_mod_self_right]
theorem short_cases (t : List α) (ht : t ≠ []) : shortT t ≠ [] ∧ (∀ n, cyc (shortT t) n = cyc t n) ∧ Prim (shortT t) := by
  have hp : 0 < t.length := List.length_pos_iff.mpr ht
  unfold shortT
  cases hf : ((List.range (t.length - 1)).map (· + 1)).find? (fun s => decide (t.length % s = 0) && okSize t s) with
  | some s =>
    have hs := List.find?_some hf
    have hmem := List.mem_of_find?_eq_some hf
    obtain ⟨k, hk, rfl⟩ := List.mem_map.mp hmem
    have hk' : k < t.length - 1 := List.mem_range.mp hk
    rw [Bool.and_eq_true, decide_eq_true_iff] at hs
    obtain ⟨hd, ho⟩ := hs
    have hl : (t.take (k + 1)).length = k + 1 := by rw [List.length_take]; omega
    have hdv : k + 1 ∣ t.length := Nat.dvd_of_mod_eq_zero hd
    have hc : ∀ n, cyc (t.take (k + 1)) n = cyc t n := by
      intro n
      unfold cyc
      rw [hl, List.getElem?_take_of_lt (Nat.mod_lt _ (Nat.succ_pos k)), (okSize_iff (Nat.succ_pos k) hd).mp ho _ (Nat.mod_lt _ hp), Nat.mod_mod_of_dvd _ hdv]
    refine ⟨?_, hc, ?_⟩
    · intro z
      have z : t.take (k + 1) = [] := z
      rw [z] at hl; simp at hl
    · show Prim (t.take (k + 1))
      intro d hd0 hdd hper
      rw [hl] at hdd ⊢
      apply Classical.byContradiction
      intro hne
      have hdle : d ≤ k + 1 := Nat.le_of_dvd (Nat.succ_pos k) hdd
      have hlt : d < k + 1 := Nat.lt_of_le_of_ne hdle hne
      have hdt : d ∣ t.length := Nat.dvd_trans hdd hdv
      have hpt : Per t d := fun n => by rw [← hc, ← hc]; exact hper n
      have hok := (per_of_ok hd0 hdt).mpr hpt
      have hnf := List.find?_eq_some_iff_append.mp hf
      obtain ⟨_, as, bs, e, hno⟩ := hnf
      have hin : d ∈ as := by
        have : d ∈ (List.range (t.length - 1)).map (· + 1) := List.mem_map.mpr ⟨d - 1, List.mem_range.mpr (by omega), by omega⟩
        rw [e] at this
        rcases List.mem_append.mp this with h | h
        · exact h
        · exfalso
          have hs : List.Pairwise (· < ·) ((List.range (t.length - 1)).map (· + 1)) := by
            rw [List.pairwise_map]
            exact List.Pairwise.imp (fun h => by omega) List.pairwise_lt_range
          rw [e] at hs
          rcases List.mem_cons.mp h with h | h
          · omega
          · have := (List.pairwise_cons.mp (List.pairwise_append.mp hs).2.1).1 d h
            omega
      have := hno d hin
      simp [Nat.mod_eq_zero_of_dvd hdt, hok] at this
  | none =>
    refine ⟨ht, fun _ => rfl, ?_⟩
    show Prim t
    intro d hd0 hdd hper
    apply Classical.byContradiction
    intro hne
    have hdle : d ≤ t.length := Nat.le_of_dvd hp hdd
    have hok := (per_of_ok hd0 hdd).mpr hper
    have := List.find?_eq_none.mp hf d (List.mem_map.mpr ⟨d - 1, List.mem_range.mpr (by omega), by omega⟩)
    simp [Nat.mod_eq_zero_of_dvd hdd, hok] at this

/-! ### turned round by one -/
theorem rot_len (t : List α) : (rot t).length = t.length := by unfold rot; rw [List.length_append, List.length_drop, List.length_take]; omega
theorem rot_cyc (t : List α) (ht : t ≠ []) (n : Nat) : cyc (rot t) (n + 1) = cyc t n := by
  have hp : 0 < t.length := List.length_pos_iff.mpr ht
  unfold cyc
  rw [rot_len]
  unfold rot
  have hdl : (t.drop (t.length - 1)).length = 1 := by rw [List.length_drop]; omega
  have hn := Nat.mod_lt n hp
  by_cases h : n % t.length = t.length - 1
  · have e : (n + 1) % t.length = 0 := by
      rw [Nat.add_mod, h]
      by_cases h1 : t.length = 1
      · rw [h1]
      · rw [Nat.mod_eq_of_lt (by omega : 1 < t.length), Nat.sub_add_cancel hp, Nat.mod_self]
    rw [e, List.getElem?_append_left (by omega), List.getElem?_drop, h]
    rfl
  · have e : (n + 1) % t.length = n % t.length + 1 := by
      rw [Nat.add_mod]
      have h1 : 1 < t.length := by
        apply Classical.byContradiction; intro z
        have : t.length = 1 := by omega
        rw [this, Nat.mod_one] at h; omega
      rw [Nat.mod_eq_of_lt h1, Nat.mod_eq_of_lt (by omega)]
    rw [e, List.getElem?_append_right (by omega), hdl, Nat.add_sub_cancel, List.getElem?_take_of_lt (by omega)]
theorem rot_ne {t : List α} (ht : t ≠ []) : rot t ≠ [] := fun z => ht (List.eq_nil_of_length_eq_zero (by rw [← rot_len, z]; rfl))
theorem rot_prim {t : List α} (ht : t ≠ []) (h : Prim t) : Prim (rot t) := by
  intro d h1 h2 h3
  rw [rot_len] at h2 ⊢
  refine h d h1 h2 fun n => ?_
  have := h3 (n + 1)
  rw [Nat.add_right_comm, rot_cyc t ht, rot_cyc t ht] at this
  exact this
theorem cyc_last {t : List α} (ht : t ≠ []) : cyc t (t.length - 1) = t.getLast? := by
  have hp : 0 < t.length := List.length_pos_iff.mpr ht
  unfold cyc
  rw [Nat.mod_eq_of_lt (by omega), List.getLast?_eq_getElem?]
theorem seq_step {l t : List α} (hl : l ≠ []) (ht : t ≠ []) (h : l.getLast? = t.getLast?) (n : Nat) : seq l.dropLast (rot t) n = seq l t n := by
  have hp : 0 < l.length := List.length_pos_iff.mpr hl
  have htp : 0 < t.length := List.length_pos_iff.mpr ht
  unfold seq
  rw [List.length_dropLast]
  by_cases h1 : n < l.length - 1
  · rw [if_pos h1, if_pos (by omega), List.getElem?_dropLast, if_pos h1]
  · rw [if_neg h1]
    by_cases h2 : n < l.length
    · have hn : n = l.length - 1 := by omega
      rw [if_pos h2, hn, Nat.sub_self, ← List.getLast?_eq_getElem?, h, ← cyc_last ht]
      have e := rot_cyc t ht (t.length - 1)
      rw [Nat.sub_add_cancel htp, ← Nat.zero_add t.length] at e
      have e2 := cyc_add_len (rot t) 0
      rw [rot_len] at e2
      rw [← e2]
      simpa using e
    · rw [if_neg h2]
      have e : n - (l.length - 1) = (n - l.length) + 1 := by omega
      rw [e, rot_cyc t ht]
theorem nf_props : ∀ (k : Nat) (l t : List α), l.length = k → t ≠ [] → Prim t → (∀ n, seq (nf l t).1 (nf l t).2 n = seq l t n) ∧ (nf l t).2 ≠ [] ∧ Prim (nf l t).2 ∧ ((nf l t).1 = [] ∨ (nf l t).1.getLast? ≠ (nf l t).2.getLast?)
  | k, l, t, hk, ht, hp => by
    rw [nf]
    split
    · rename_i h
      have hl : l.dropLast.length < k := by
        rw [List.length_dropLast]
        have := List.length_pos_iff.mpr h.1
        omega
      obtain ⟨a, b, c, d⟩ := nf_props l.dropLast.length l.dropLast (rot t) rfl (rot_ne ht) (rot_prim ht hp)
      exact ⟨fun n => (a n).trans (seq_step h.1 ht h.2 n), b, c, d⟩
    · rename_i h
      refine ⟨fun _ => rfl, ht, hp, ?_⟩
      by_cases hl : l = []
      · exact .inl hl
      · exact .inr fun z => h ⟨hl, z⟩
termination_by k => k
theorem NF_props (l t : List α) (ht : t ≠ []) : (∀ n, seq (NF l t).1 (NF l t).2 n = seq l t n) ∧ (NF l t).2 ≠ [] ∧ Prim (NF l t).2 ∧ ((NF l t).1 = [] ∨ (NF l t).1.getLast? ≠ (NF l t).2.getLast?) := by
  obtain ⟨h1, h2, h3⟩ := short_cases t ht
  obtain ⟨a, b, c, d⟩ := nf_props l.length l (shortT t) rfl h1 h3
  refine ⟨fun n => ?_, b, c, d⟩
  unfold NF
  rw [a]
  unfold seq
  split
  · rfl
  · exact h2 _

/-! ### the normal form is one -/
theorem per_gcd {f : Nat → Option α} {N p q : Nat} (hp : ∀ n, N ≤ n → f (n + p) = f n) (hq : ∀ n, N ≤ n → f (n + q) = f n) : ∀ n, N ≤ n → f (n + Nat.gcd p q) = f n := by
  induction p, q using Nat.gcd.induction with
  | H0 q => intro n hn; rw [Nat.gcd_zero_left]; exact hq n hn
  | H1 p q hpos ih =>
    intro n hn
    rw [Nat.gcd_rec]
    refine ih (fun n hn => ?_) hp n hn
    have go : ∀ k m, N ≤ m → f (m + p * k) = f m := by
      intro k
      induction k with
      | zero => intro m hm; simp
      | succ k ih2 => intro m hm; rw [Nat.mul_succ, ← Nat.add_assoc, hp _ (by omega), ih2 m hm]
    have e := hq n hn
    have d := Nat.mod_add_div q p
    rw [← d, ← Nat.add_assoc, go (q / p) (n + q % p) (by omega)] at e
    exact e
theorem uniq_len {l t l' t' : List α} (ht : t ≠ []) (ht' : t' ≠ []) (hp : Prim t) (h : ∀ n, seq l t n = seq l' t' n) : t.length ∣ t'.length := by
  have hl : 0 < t.length := List.length_pos_iff.mpr ht
  have hl' : 0 < t'.length := List.length_pos_iff.mpr ht'
  have N := l.length + l'.length
  have p1 : ∀ n, l.length + l'.length ≤ n → seq l t (n + t.length) = seq l t n := fun n hn => by
    unfold seq; rw [if_neg (by omega), if_neg (by omega), Nat.sub_add_comm (by omega), cyc_add_len]
  have p2 : ∀ n, l.length + l'.length ≤ n → seq l t (n + t'.length) = seq l t n := fun n hn => by
    rw [h, h]; unfold seq; rw [if_neg (by omega), if_neg (by omega), Nat.sub_add_comm (by omega), cyc_add_len]
  have pg := per_gcd p1 p2
  have hg : 0 < Nat.gcd t.length t'.length := Nat.gcd_pos_of_pos_left _ hl
  have := hp _ hg (Nat.gcd_dvd_left _ _) fun n => by
    have big : l.length + l'.length ≤ l.length + (n + (l.length + l'.length) * t.length) := by
      have : l.length + l'.length ≤ (l.length + l'.length) * t.length := Nat.le_mul_of_pos_right _ hl
      omega
    have e := pg _ big
    unfold seq at e
    rw [if_neg (by omega), if_neg (by omega)] at e
    have a1 : l.length + (n + (l.length + l'.length) * t.length) + Nat.gcd t.length t'.length - l.length = (n + Nat.gcd t.length t'.length) + (l.length + l'.length) * t.length := by omega
    have a2 : l.length + (n + (l.length + l'.length) * t.length) - l.length = n + (l.length + l'.length) * t.length := by omega
    rw [a1, a2, cyc_add_mul, cyc_add_mul] at e
    exact e
  rw [← this]
  exact Nat.gcd_dvd_right _ _
theorem lead_le {l t l' t' : List α} (ht : t ≠ []) (ht' : t' ≠ []) (hlen : t.length = t'.length) (hc : l' = [] ∨ l'.getLast? ≠ t'.getLast?) (h : ∀ n, seq l t n = seq l' t' n) : l'.length ≤ l.length := by
  apply Classical.byContradiction
  intro hlt
  have hl' : l' ≠ [] := fun z => by rw [z] at hlt; simp at hlt
  have hp : 0 < l'.length := List.length_pos_iff.mpr hl'
  have htp : 0 < t'.length := List.length_pos_iff.mpr ht'
  rcases hc with z | z
  · exact hl' z
  · apply z
    have e1 : l'.getLast? = seq l' t' (l'.length - 1) := by unfold seq; rw [if_pos (by omega), List.getLast?_eq_getElem?]
    have e2 : seq l' t' (l'.length - 1 + t'.length) = t'.getLast? := by
      unfold seq
      rw [if_neg (by omega)]
      have : l'.length - 1 + t'.length - l'.length = t'.length - 1 := by omega
      rw [this, cyc_last ht']
    rw [e1, ← e2, ← h, ← h]
    unfold seq
    rw [if_neg (by omega), if_neg (by omega), Nat.sub_add_comm (by omega), ← hlen, cyc_add_len]
theorem uniq {l t l' t' : List α} (ht : t ≠ []) (ht' : t' ≠ []) (hp : Prim t) (hp' : Prim t') (hc : l = [] ∨ l.getLast? ≠ t.getLast?) (hc' : l' = [] ∨ l'.getLast? ≠ t'.getLast?) (h : ∀ n, seq l t n = seq l' t' n) : l = l' ∧ t = t' := by
  have hlen : t.length = t'.length := Nat.dvd_antisymm (uniq_len ht ht' hp h) (uniq_len ht' ht hp' fun n => (h n).symm)
  have hll : l.length = l'.length := Nat.le_antisymm (lead_le ht' ht hlen.symm hc fun n => (h n).symm) (lead_le ht ht' hlen hc' h)
  have hpos : 0 < t.length := List.length_pos_iff.mpr ht
  refine ⟨List.ext_getElem? fun i => ?_, List.ext_getElem? fun i => ?_⟩
  · by_cases hi : i < l.length
    · have e := h i
      unfold seq at e
      rw [if_pos hi, if_pos (by omega)] at e
      exact e
    · rw [List.getElem?_eq_none (by omega), List.getElem?_eq_none (by omega)]
  · by_cases hi : i < t.length
    · have e := h (l.length + i)
      unfold seq at e
      rw [if_neg (by omega), if_neg (by omega), hll, Nat.add_sub_cancel_left] at e
      unfold cyc at e
      rw [Nat.mod_eq_of_lt hi, Nat.mod_eq_of_lt (by omega)] at e
      exact e
    · rw [List.getElem?_eq_none (by omega), List.getElem?_eq_none (by omega)]
/-- fills with one sequence have one normal form -/
theorem canon {l t l' t' : List α} (ht : t ≠ []) (ht' : t' ≠ []) (h : ∀ n, seq l t n = seq l' t' n) : NF l t = NF l' t' := by
  obtain ⟨a, b, c, d⟩ := NF_props l t ht
  obtain ⟨a', b', c', d'⟩ := NF_props l' t' ht'
  have := uniq b b' c c' d d' fun n => by rw [a, a', h]
  exact Prod.ext this.1 this.2
theorem canon_self {l t : List α} (ht : t ≠ []) : NF (NF l t).1 (NF l t).2 = NF l t := by
  obtain ⟨a, b, c, d⟩ := NF_props l t ht
  exact canon b ht a
end FM

set_option maxRecDepth 100000
set_option maxHeartbeats 4000000
namespace K23
open PySem PySem.Spec PyProof.Rows L2 DL
def top (i : Nat) : Stmt := PySem.Challenge.pw_belowneeds_k23_whole_fills.main.body.getD i (.Pass ⟨0, 0, 0, 0⟩)
/-! ### names -/
def menu : List Str := ["a", "b", "item", "end", "zzzzzzzz", "plan", "kind", "ab"]
def resv : List Str := ["if", "then", "else", "in", "here", "up", "down", "least", "most"]
def small : Str := "abcdefghijklmnopqrstuvwxyz"
def nameB (w : Str) : Bool := (decide ((1 : Int) ≤ w.length) && decide ((w.length : Int) ≤ 8)) && (!decide (w ∈ resv) && w.cps.toList.all fun c => decide (c ∈ small.cps.toList))
def Nm (ss : List Str) : Prop := ∀ w ∈ ss, w ∈ menu
theorem menu_name : ∀ w ∈ menu, nameB w = true ∧ w.length ≤ 8 ∧ PyData.strOk w = true := by decide +kernel
theorem Nm.ok {ss : List Str} (h : Nm ss) : okS ss := fun w z => (menu_name w (h w z)).2.2
theorem Nm.app {a b : List Str} (ha : Nm a) (hb : Nm b) : Nm (a ++ b) := fun w h => (List.mem_append.mp h).elim (ha w) (hb w)
theorem Nm.sub {a b : List Str} (ha : Nm a) (h : ∀ w ∈ b, w ∈ a) : Nm b := fun w z => ha w (h w z)
def Sq (d : D) (ss : List Str) : Prop := d = Ls ss ∨ d = Ts ss
/-- the names that the top leaves as they are built in, and its constants -/
structure Mg (K : PySem.W.Frag) (mg : Str → Option Value) : Prop where
  len : mg "len" = none
  int : mg "int" = none
  bool : mg "bool" = none
  str : mg "str" = none
  list : mg "list" = none
  tuple : mg "tuple" = none
  isinstance : mg "isinstance" = none
  range : mg "range" = none
  enumerate : mg "enumerate" = none
  all : mg "all" = none
  abs : mg "abs" = none
  max : mg "max" = none
  min : mg "min" = none
  divmod : mg "divmod" = none
  repr : mg "repr" = none
  SMALL : ∃ t, mg "SMALL" = some (.str small t)
  MOST_SIGNS : ∃ t, mg "MOST_SIGNS" = some (.int 8 t)
  LEAD : ∃ t, mg "LEAD" = some (.str "lead" t)
  TURN : ∃ t, mg "TURN" = some (.str "turn" t)
  FARTHEST : ∃ t, mg "FARTHEST" = some (.int (10 ^ 60) t)
  MOST_FIRST : ∃ t, mg "MOST_FIRST" = some (.int 2000 t)
  RESERVED : ∃ a, mg "RESERVED" = some (.ref a) ∧ SqT K (fun _ => none) a (resv.map V.str)
theorem sqt_any {K : PySem.W.Frag} {a : Addr} {xs : List V} (h : SqT K (fun _ => none) a xs) (G : Hp) : SqT K G a xs := same_t (fun _ _ z => by cases z) h
section
variable {X : Cx} {B : Bs} {ρ : Ro} {pos : Pos}
theorem g_int {x : Str} {i : Int} (h : ∃ t, X.mg x = some (.int i t)) (hg : Gl X x := by rfl) (hd : (x == ("__debug__" : Str)) = false := by decide) : DE X B ρ (.Name x pos) (.int i) ρ := by
  obtain ⟨t, e⟩ := h; exact de_glob (v := .int i) hg e ⟨t, rfl⟩ (fun _ => .int i) hd
theorem g_str {x : Str} {i : Str} (h : ∃ t, X.mg x = some (.str i t)) (hg : Gl X x := by rfl) (hd : (x == ("__debug__" : Str)) = false := by decide) : DE X B ρ (.Name x pos) (.str i) ρ := by
  obtain ⟨t, e⟩ := h; exact de_glob (v := .str i) hg e ⟨t, rfl⟩ (fun _ => .str i) hd
theorem g_tup {x : Str} {ss : List Str} (h : ∃ a, X.mg x = some (.ref a) ∧ SqT X.K (fun _ => none) a (ss.map V.str)) (hg : Gl X x := by rfl) (hd : (x == ("__debug__" : Str)) = false := by decide) : DE X B ρ (.Name x pos) (Ts ss) ρ := by
  obtain ⟨a, e, t⟩ := h; exact de_glob (v := .ref a) hg e rfl (fun G => .tup (sqt_any t G) (RepA.ofStrs _)) hd
theorem f_tuple_Sq {d : D} {ss : List Str} (h : Sq d ss) : CaD X (.type "tuple") [d] (Ts ss) := by
  rcases h with rfl | rfl
  · exact f_tuple_lst
  · exact f_tuple_tup
theorem f_len_Sq {d : D} {ss : List Str} (h : Sq d ss) : CaD X (.builtin "len") [d] (.int ss.length) := by
  rcases h with rfl | rfl
  · exact f_len_Ls
  · exact f_len_Ts
end
section
variable {P : Program} {w : World} {K : PySem.W.Frag} {mg : Str → Option Value} {base : Heap} {f : Addr} {fd : FuncData}
/-! ### basics -/
abbrev sIsInt : Stmt := top 10
abbrev sIsCount : Stmt := top 11
abbrev sIsList : Stmt := top 12
abbrev sIsName : Stmt := top 13
theorem scIsInt : FnScope ["value"] ["value"] (defScope sIsInt) := ⟨rfl, rfl, rfl, by decide +kernel, rfl, by decide +kernel, by decide +kernel⟩
def cIsInt (ds : List D) (d : D) : Prop := ∃ i : Int, ds = [.int i] ∧ d = .bl true
theorem ok_isint (F : Fun K "is_integer" "is_integer" sIsInt f fd) (M : Mg K mg) : FnG P w K mg base CX0 1 f fd ["value"] (spP K cIsInt) := by
  refine fn_P F scIsInt (fun ds d h => by obtain ⟨i, rfl, _⟩ := h; rfl) (by decide) (fun cdv A outer s H E B ds d hr hio hC => ?_)
  obtain ⟨i, rfl, rfl⟩ := hC
  show DSs _ B [.dat (.int i)] _ _
  exact dss_one (ds_ret (de_and (e_blt M.isinstance boot_isinstance (da_cons (de_var 0 rfl) (da_cons (de_ty M.int boot_int) da_nil)) (f_isi (r := true) rfl (by decide +kernel)))
    (fun _ => de_and1 (de_not (e_blt M.isinstance boot_isinstance (da_cons (de_var 0 rfl) (da_cons (de_ty M.bool boot_bool) da_nil)) (f_isi (r := false) rfl (by decide +kernel))))) (fun z => by cases z)) rfl)
theorem scIsCount : FnScope ["value"] ["value"] (defScope sIsCount) := ⟨rfl, rfl, rfl, by decide +kernel, rfl, by decide +kernel, by decide +kernel⟩
def cIsCount (ds : List D) (d : D) : Prop := ∃ i : Int, ds = [.int i] ∧ d = .bl (decide (0 ≤ i))
theorem ok_iscount (F : Fun K "is_count" "is_count" sIsCount f fd) (G1 : GFn P w K mg base 1 "is_integer" (spP K cIsInt)) : FnG P w K mg base CX0 2 f fd ["value"] (spP K cIsCount) := by
  refine fn_P F scIsCount (fun ds d h => by obtain ⟨i, rfl, _⟩ := h; rfl) (by decide) (fun cdv A outer s H E B ds d hr hio hC => ?_)
  obtain ⟨i, rfl, rfl⟩ := hC
  show DSs _ B [.dat (.int i)] _ _
  exact dss_one (ds_ret (de_and (de_call G1 hr (da_cons (de_var 0 rfl) da_nil) ⟨i, rfl, rfl⟩) (fun _ => de_and1 (e_cmp (de_var 0 rfl) de_int c_ge)) (fun z => by cases z)) rfl)
theorem scIsList : FnScope ["value"] ["value"] (defScope sIsList) := ⟨rfl, rfl, rfl, by decide +kernel, rfl, by decide +kernel, by decide +kernel⟩
def cIsList (ds : List D) (d : D) : Prop := ∃ v ss, ds = [v] ∧ Sq v ss ∧ d = .bl true
theorem ok_islist (F : Fun K "is_list" "is_list" sIsList f fd) (M : Mg K mg) : FnG P w K mg base CX0 1 f fd ["value"] (spP K cIsList) := by
  refine fn_P F scIsList (fun ds d h => by obtain ⟨v, ss, rfl, _⟩ := h; rfl) (by decide) (fun cdv A outer s H E B ds d hr hio hC => ?_)
  obtain ⟨v, ss, rfl, hv, rfl⟩ := hC
  rcases hv with rfl | rfl
  · show DSs _ B [.dat (Ls ss)] _ _
    exact dss_one (ds_ret (e_isi2 M.isinstance M.list M.tuple boot_list boot_tuple (de_var 0 rfl) rfl (r1 := true) (r2 := false) (by decide +kernel) (by decide +kernel)) rfl)
  · show DSs _ B [.dat (Ts ss)] _ _
    exact dss_one (ds_ret (e_isi2 M.isinstance M.list M.tuple boot_list boot_tuple (de_var 0 rfl) rfl (r1 := false) (r2 := true) (by decide +kernel) (by decide +kernel)) rfl)
theorem scIsName : FnScope ["value", "sign"] ["value"] (defScope sIsName) := ⟨rfl, rfl, rfl, by decide +kernel, rfl, by decide +kernel, by decide +kernel⟩
def cIsName (ds : List D) (d : D) : Prop := ∃ x : Str, ds = [.str x] ∧ x.length ≤ 1000 ∧ d = .bl (nameB x)
theorem ok_isname (F : Fun K "is_name" "is_name" sIsName f fd) (M : Mg K mg) : FnG P w K mg base CX0 1 f fd ["value"] (spP K cIsName) := by
  refine fn_P F scIsName (fun ds d h => by obtain ⟨i, rfl, _⟩ := h; rfl) (by decide) (fun cdv A outer s H E B ds d hr hio hC => ?_)
  obtain ⟨x, rfl, hl, rfl⟩ := hC
  show DSs _ B [.dat (.str x), .un] _ _
  have hz : x.length ≤ sizeLine := Nat.le_trans hl (by decide)
  refine (dss_ifx (DW.dt (dw_or (dt_not (dt_val (e_blt M.isinstance boot_isinstance (da_cons (de_var 0 rfl) (da_cons (de_ty M.str boot_str) da_nil)) (f_isi (r := true) rfl (by decide +kernel))))) (fun z3 => (dw_or (dt_not (t_chain de_int (e_blt M.len boot_len (da_cons (de_var 0 rfl) da_nil) (f_len_str hz)) (g_int M.MOST_SIGNS) c_le c_le)) (fun z2 => (dw_or1 (t_cmp (de_var 0 rfl) (g_tup M.RESERVED) c_inT))))))) (fun z1 => (dss_one (ds_ret de_bl ?_))) (fun z1 => 
    (dss_one (ds_ret (e_blt M.all boot_all (da_cons (de_is (d1 := .lst ((x.cps.toList.map fun c => decide (c ∈ small.cps.toList)).map .bl)) (DO.de (do_map (i := 1) (fun d => match d with | .str y => .bl (decide (y.cps.toList.headD 0 ∈ small.cps.toList)) | d => d) rfl scIsName.nd (di_any (de_var 0 rfl) (.str _)) (blkOk_by (N := ["value", "sign"]) (sc := defScope sIsName) (by decide +kernel)) (fun _ _ _ _ _ => pg_name (i := 1) scIsName.nd rfl (Or.inl rfl)) (hio _) ?_ (fun B1 hB d hd => ?_))) ?_) da_nil) (f_all rfl)) ?_))))
  · simp only [Bool.or_eq_true, Bool.not_true, Bool.false_or, Bool.not_eq_true', decide_eq_true_iff] at z1
    show D.bl false = D.bl (nameB x)
    rcases z1 with z1 | z1
    · unfold nameB; rw [z1]; rfl
    · unfold nameB; simp [z1]
  · rw [List.length_map, Array.length_toList]; exact Nat.lt_of_le_of_lt hl (by decide)
  · obtain ⟨c, hc, rfl⟩ := List.mem_map.mp hd
    exact fun _ _ _ _ _ => e_cmp (de_var 1 rfl) (g_str M.SMALL) c_inSign
  · rw [List.map_map, List.map_map]; rfl
  · simp only [Bool.or_eq_false_iff, Bool.not_eq_false', decide_eq_false_iff_not] at z1
    show D.bl _ = D.bl (nameB x)
    unfold nameB
    rw [z1.2.1]
    simp [z1.2.2, List.all_map, Function.comp_def]
/-! ### fills' own defs -/
abbrev sWantNames : Stmt := top 19
abbrev sShort : Stmt := top 20
abbrev sNormForm : Stmt := top 21
abbrev sWantFar : Stmt := top 22
theorem scWantNames : FnScope ["part", "value", "position", "name"] ["part", "value"] (defScope sWantNames) := ⟨rfl, rfl, rfl, by decide +kernel, rfl, by decide +kernel, by decide +kernel⟩
def cWantNames (ds : List D) (d : D) : Prop := ∃ (p : Str) (v : D) (ss : List Str), ds = [.str p, v] ∧ Sq v ss ∧ Nm ss ∧ (p = "turn" → ss ≠ []) ∧ d = .non
theorem ok_wantnames (F : Fun K "want_names" "want_names" sWantNames f fd) (M : Mg K mg) (X1 : GFn P w K mg base 1 "is_list" (spP K cIsList)) (X2 : GFn P w K mg base 1 "is_name" (spP K cIsName)) : FnG P w K mg base CX0 2 f fd ["part", "value"] (spP K cWantNames) := by
  refine fn_P F scWantNames (fun ds d h => by obtain ⟨p, v, ss, rfl, _⟩ := h; rfl) (by decide) (fun cdv A outer s H E B ds d hr hio hC => ?_)
  obtain ⟨p, v, ss, rfl, hv, hn, hp, rfl⟩ := hC
  show DSs _ B [.dat (.str p), .dat v, .un, .un] _ _
  have hit : v = .lst (ss.map .str) ∨ v = .tup (ss.map .str) := hv
  refine (dss_ifx (DW.dt (dw_or (dt_not (dt_val (de_call X1 (hr.mono (by decide)) (da_cons (de_var 1 rfl) da_nil) ⟨v, ss, rfl, hv, rfl⟩))) (fun z3 => (dw_or1 (DW.dt (dw_and (t_cmp (de_var 0 rfl) (g_str M.TURN) c_eqS) (fun z2 => (dw_and1 (t_cmp (e_blt M.len boot_len (da_cons (de_var 1 rfl) da_nil) (f_len_Sq hv)) de_int c_eqI))))))))) (fun z1 => (dss_one (ds_never _ ?_))) (fun z1 =>
    (dss_one (ds_for PassesOwn.never rfl (di_enum (ds := ss.map .str) M.enumerate (da_cons (de_var 1 rfl) da_nil) hit) (pg_tup rfl (pgs_cons (pg_name (i := 2) scWantNames.nd rfl (Or.inl rfl)) (pgs_cons (pg_name (i := 3) scWantNames.nd rfl (Or.inl rfl)) pgs_nil)))
      (fun _ r => ∃ a b, r = [.dat (.str p), .dat v, a, b]) ⟨_, _, rfl⟩ (fun B1 hB k d r hk hv' => ?_) (fun r hv' => rfl)))))
  · simp only [Bool.or_eq_true, Bool.not_true, Bool.false_or, Bool.and_eq_true, decide_eq_true_iff] at z1
    exact hp z1.1 (List.eq_nil_of_length_eq_zero (by have := z1.2; omega))
  · obtain ⟨a, b, rfl⟩ := hv'
    obtain ⟨x, hx, rfl⟩ := enumD_get hk
    obtain ⟨y, hy, rfl⟩ := List.mem_map.mp (List.mem_of_getElem? hx)
    have nm := menu_name y (hn y hy)
    have hio1 : ∀ (i : Nat), ∀ p ∈ B1.io, p.1 ≠ i := by rw [hB]; exact hio
    refine ⟨_, _, gd_tup rfl (gds_cons (gd_name (hio1 _)) (gds_cons (gd_name (hio1 _)) gds_nil)), ?_⟩
    refine (dss_one (ds_if (dt_not (dt_val (de_call X2 (hr.mono (by decide)) (da_cons (de_var 3 rfl) da_nil) ⟨y, rfl, Nat.le_trans nm.2.1 (by decide), rfl⟩))) (fun z4 => (dss_one (ds_never _ ?_))) (fun z4 => (dss_nil ⟨_, _, rfl⟩))))
    rw [nm.1] at z4; cases z4
theorem scShort : FnScope ["turn", "size"] ["turn"] (defScope sShort) := ⟨rfl, rfl, rfl, by decide +kernel, rfl, by decide +kernel, by decide +kernel⟩
def cShort (ds : List D) (d : D) : Prop := ∃ t : List Str, ds = [Ts t] ∧ t.length ≤ 1000 ∧ okS t ∧ d = Ts (FM.shortT t)
end
end K23

set_option maxRecDepth 100000
set_option maxHeartbeats 4000000
namespace K23
open PySem PySem.Spec PyProof.Rows L2 DL
/-! ### slices -/
section
variable {α : Type}
theorem cut_take (t : List α) (k : Int) (h : 0 ≤ k) : cutL t none (some k) = t.take k.toNat := by
  have e : HT.sIx t.length t.length (some k) = min k.toNat t.length := by show (if k < 0 then _ else _) = _; rw [if_neg (by omega)]
  unfold cutL
  rw [e]
  show (t.drop 0).take (min k.toNat t.length - 0) = t.take k.toNat
  rw [List.drop_zero, Nat.sub_zero]
  by_cases q : k.toNat ≤ t.length
  · rw [Nat.min_eq_left q]
  · rw [Nat.min_eq_right (by omega), List.take_of_length_le (Nat.le_refl _), List.take_of_length_le (by omega)]
theorem cut_drop (t : List α) (k : Int) (h : 0 ≤ k) : cutL t (some k) none = t.drop k.toNat := by
  have e : HT.sIx t.length 0 (some k) = min k.toNat t.length := by show (if k < 0 then _ else _) = _; rw [if_neg (by omega)]
  unfold cutL
  rw [e]
  show (t.drop (min k.toNat t.length)).take (t.length - min k.toNat t.length) = t.drop k.toNat
  rw [List.take_of_length_le (by rw [List.length_drop]; exact Nat.le_refl _)]
  by_cases q : k.toNat ≤ t.length
  · rw [Nat.min_eq_left q]
  · rw [Nat.min_eq_right (by omega), List.drop_of_length_le (Nat.le_refl _), List.drop_of_length_le (by omega)]
theorem cut_init (t : List α) : cutL t none (some (-1)) = t.take (t.length - 1) := by
  have e : HT.sIx t.length t.length (some (-1)) = t.length - 1 := by show (if (-1 : Int) < 0 then ((-1 : Int) + (t.length : Int)).toNat else min (-1 : Int).toNat t.length) = _; rw [if_pos (by decide)]; omega
  unfold cutL
  rw [e]
  show (t.drop 0).take (t.length - 1 - 0) = _
  rw [List.drop_zero, Nat.sub_zero]
theorem cut_last (t : List α) : cutL t (some (-1)) none = t.drop (t.length - 1) := by
  have e : HT.sIx t.length 0 (some (-1)) = t.length - 1 := by show (if (-1 : Int) < 0 then ((-1 : Int) + (t.length : Int)).toNat else min (-1 : Int).toNat t.length) = _; rw [if_pos (by decide)]; omega
  unfold cutL
  rw [e]
  show (t.drop (t.length - 1)).take (t.length - (t.length - 1)) = _
  rw [List.take_of_length_le (by rw [List.length_drop]; exact Nat.le_refl _)]
theorem atI_last {t : List α} (ht : t ≠ []) : atI t (-1) = t.getLast? := by
  have hp : 0 < t.length := List.length_pos_iff.mpr ht
  unfold atI ixN
  rw [if_neg (by decide), if_pos (by omega)]
  show t[((-1 : Int) + t.length).toNat]? = _
  rw [List.getLast?_eq_getElem?]
  congr 1
  omega
theorem last_some {t : List α} (ht : t ≠ []) : ∃ w, t.getLast? = some w ∧ w ∈ t := ⟨t.getLast ht, List.getLast?_eq_some_getLast ht, List.getLast_mem ht⟩
end
theorem rot_cut (t : List Str) : cutL t (some (-1)) none ++ cutL t none (some (-1)) = FM.rot t := by rw [cut_last, cut_init]; rfl
theorem rep_same (k : Nat) (t : List Str) : DL.repL k t = FM.repL k t := rfl
theorem mem_short (t : List Str) : ∀ w ∈ FM.shortT t, w ∈ t := fun w h => by
  unfold FM.shortT at h
  split at h
  · exact List.mem_of_mem_take h
  · exact h
theorem mem_rot (t : List Str) : ∀ w ∈ FM.rot t, w ∈ t := fun w h => by
  unfold FM.rot at h
  rcases List.mem_append.mp h with h | h
  · exact List.mem_of_mem_drop h
  · exact List.mem_of_mem_take h
theorem len_short (t : List Str) : (FM.shortT t).length ≤ t.length := by
  unfold FM.shortT
  split
  · rw [List.length_take]; exact Nat.min_le_right _ _
  · exact Nat.le_refl _
theorem nf_mem : ∀ (k : Nat) (l t : List Str), l.length = k → (∀ w ∈ (FM.nf l t).1, w ∈ l) ∧ (∀ w ∈ (FM.nf l t).2, w ∈ t) ∧ (FM.nf l t).1.length ≤ l.length ∧ (FM.nf l t).2.length = t.length
  | k, l, t, hk => by
    rw [FM.nf]
    split
    · rename_i h
      have hl : l.dropLast.length < k := by rw [List.length_dropLast]; have := List.length_pos_iff.mpr h.1; omega
      obtain ⟨a, b, c, d⟩ := nf_mem l.dropLast.length l.dropLast (FM.rot t) rfl
      exact ⟨fun w z => (List.dropLast_sublist l).subset (a w z), fun w z => mem_rot t w (b w z), by rw [List.length_dropLast] at c; omega, by rw [d, FM.rot_len]⟩
    · exact ⟨fun _ z => z, fun _ z => z, Nat.le_refl _, rfl⟩
termination_by k => k
theorem NF_mem (l t : List Str) : (∀ w ∈ (FM.NF l t).1, w ∈ l) ∧ (∀ w ∈ (FM.NF l t).2, w ∈ t) ∧ (FM.NF l t).1.length ≤ l.length ∧ (FM.NF l t).2.length ≤ t.length := by
  obtain ⟨a, b, c, d⟩ := nf_mem l.length l (FM.shortT t) rfl
  exact ⟨a, fun w z => mem_short t w (b w z), c, by unfold FM.NF; rw [d]; exact len_short t⟩
section
variable {P : Program} {w : World} {K : PySem.W.Frag} {mg : Str → Option Value} {base : Heap} {f : Addr} {fd : FuncData}
theorem range_get {lo hi : Int} {k : Nat} {d : D} (h : (rangeD lo hi)[k]? = some d) : d = .int (lo + k) ∧ (k : Int) < hi - lo := by
  unfold rangeD at h
  rw [List.getElem?_map] at h
  cases q : (List.range (hi - lo).toNat)[k]? with
  | none => rw [q] at h; cases h
  | some j =>
    have hl : k < (hi - lo).toNat := by simpa using (List.getElem?_eq_some_iff.mp q).1
    rw [List.getElem?_range hl] at q
    cases q
    rw [List.getElem?_range hl] at h
    cases h
    exact ⟨rfl, by omega⟩
theorem range_len (lo hi : Int) : (rangeD lo hi).length = (hi - lo).toNat := by unfold rangeD; simp
/-- the search, turn by turn -/
def noSize (t : List Str) (k : Nat) : Prop := ∀ j, j < k → (decide (t.length % (j + 1) = 0) && FM.okSize t (j + 1)) = false
theorem short_none {t : List Str} (h : noSize t (t.length - 1)) : FM.shortT t = t := by
  unfold FM.shortT
  rw [List.find?_eq_none.mpr]
  intro s hs
  obtain ⟨j, hj, rfl⟩ := List.mem_map.mp hs
  rw [h j (List.mem_range.mp hj)]; decide
theorem find_range {p : Nat → Bool} : ∀ (n k : Nat), k < n → (∀ j, j < k → p j = false) → p k = true → (List.range n).find? p = some k
  | 0, k, h, _, _ => by omega
  | n + 1, k, h, hn, hp => by
    rw [List.range_succ, List.find?_append]
    by_cases q : k < n
    · rw [find_range n k q hn hp]; rfl
    · have : k = n := by omega
      subst this
      rw [List.find?_eq_none.mpr fun x hx => by rw [hn x (List.mem_range.mp hx)]; decide]
      simp [hp]
theorem short_some {t : List Str} {k : Nat} (hk : k < t.length - 1) (h : noSize t k) (ho : (decide (t.length % (k + 1) = 0) && FM.okSize t (k + 1)) = true) : FM.shortT t = t.take (k + 1) := by
  unfold FM.shortT
  have e : ((List.range (t.length - 1)).map (· + 1)).find? (fun s => decide (t.length % s = 0) && FM.okSize t s) = some (k + 1) := by
    rw [List.find?_map]; exact congrArg (Option.map (· + 1)) (find_range (p := fun j => decide (t.length % (j + 1) = 0) && FM.okSize t (j + 1)) (t.length - 1) k hk (fun j hj => h j hj) ho)
  rw [e]
theorem ok_short (F : Fun K "shortest_turn" "shortest_turn" sShort f fd) (M : Mg K mg) : FnG P w K mg base CX0 1 f fd ["turn"] (spP K cShort) := by
  refine fn_P F scShort (fun ds d h => by obtain ⟨t, rfl, _⟩ := h; rfl) (by decide) (fun cdv A outer s H E B ds d hr hio hC => ?_)
  obtain ⟨t, rfl, hl, hok, rfl⟩ := hC
  show DSs _ B [.dat (Ts t), .un] _ _
  refine (dss_cons (M := fun r => ∃ a, r = [.dat (Ts t), a] ∧ noSize t (t.length - 1)) (ds_for PassesOwn.never rfl (di_range2 M.range (da_cons de_int (da_cons (e_blt M.len boot_len (da_cons (de_var 0 rfl) da_nil) f_len_Ts) da_nil)) ?_) (pg_name (i := 1) scShort.nd rfl (Or.inl rfl))
      (fun k r => ∃ a, r = [.dat (Ts t), a] ∧ noSize t k) ⟨_, rfl, fun j hj => by omega⟩ (fun B1 hB k d r hk hv => ?_) (fun r hv => ?_))
    (fun r hr' => ?_))
  · refine ⟨by decide, by decide, by omega, ?_⟩
    have : (t.length : Int) ≤ 1000 := by omega
    exact Int.lt_of_le_of_lt this (by decide)
  · obtain ⟨a, rfl, hno⟩ := hv
    obtain ⟨rfl, hlt⟩ := range_get hk
    have hio1 : ∀ (i : Nat), ∀ p ∈ B1.io, p.1 ≠ i := by rw [hB]; exact hio
    have hk1 : (1 + (k : Int)).toNat = k + 1 := by omega
    have hdiv : ((t.length : Int) / (1 + (k : Int))).toNat = t.length / (k + 1) := by
      rw [show (1 + (k : Int)) = ((k + 1 : Nat) : Int) by omega, ← Int.natCast_ediv, Int.toNat_natCast]
    have hmod : ((t.length : Int) % (1 + (k : Int)) = 0) ↔ t.length % (k + 1) = 0 := by
      rw [show (1 + (k : Int)) = ((k + 1 : Nat) : Int) by omega, ← Int.natCast_emod]; omega
    refine ⟨_, _, gd_name (hio1 _), ?_⟩
    have hT : ∀ (z : decide ((t.length : Int) % (1 + (k : Int)) = 0) = true), 2 ≤ (t.length : Int) / (1 + (k : Int)) := fun z => by
      have hm := hmod.mp (of_decide_eq_true z)
      have := Nat.div_mul_cancel (Nat.dvd_of_mod_eq_zero hm)
      rw [show (1 + (k : Int)) = ((k + 1 : Nat) : Int) by omega, ← Int.natCast_ediv]
      have h2 : 2 ≤ t.length / (k + 1) := by
        apply Classical.byContradiction; intro q
        have : t.length / (k + 1) ≤ 1 := by omega
        have := Nat.mul_le_mul_right (k + 1) this
        omega
      omega
    refine (dss_one (ds_if (DW.dt (dw_and (t_cmp (e_bin (e_blt M.len boot_len (da_cons (de_var 0 rfl) da_nil) f_len_Ts) (de_var 1 rfl) (b_mod ?_)) de_int c_eqI) (fun z2 => (dw_and1 (t_cmp (e_bin (e_sl (de_var 0 rfl) dp_no (dp_some (de_var 1 rfl)) s_Ts) (e_bin (e_blt M.len boot_len (da_cons (de_var 0 rfl) da_nil) f_len_Ts) (de_var 1 rfl) (b_fdiv ?_)) (b_repTS ?_ (hT z2) ?_ ?_)) (de_var 0 rfl) (c_eqTs hr.r.units ?_ hok)))))) (fun z1 => (dss_one (ds_ret (e_sl (de_var 0 rfl) dp_no (dp_some (de_var 1 rfl)) s_Ts) ?_))) (fun z1 => (dss_nil ?_))))
    · omega
    · omega
    · rw [cut_take _ _ (by omega), hk1]; intro z; have := congrArg List.length z; rw [List.length_take, List.length_nil] at this; omega
    · rw [show (1 + (k : Int)) = ((k + 1 : Nat) : Int) by omega, ← Int.natCast_ediv]; have := Nat.div_le_self t.length (k + 1); omega
    · rw [cut_take _ _ (by omega), List.length_take]; omega
    · exact (hok.cut).rep _
    · show Ts _ = Ts _
      rw [cut_take _ _ (by omega), hk1]
      rw [Bool.and_eq_true] at z1
      have e := of_decide_eq_true z1.2
      rw [cut_take _ _ (by omega), hk1, hdiv] at e
      rw [short_some (by omega) hno]
      rw [Bool.and_eq_true]
      refine ⟨decide_eq_true (hmod.mp (of_decide_eq_true z1.1)), decide_eq_true e⟩
    · refine ⟨_, rfl, fun j hj => ?_⟩
      by_cases q : j < k
      · exact hno j q
      · have : j = k := by omega
        subst this
        rw [Bool.and_eq_false_iff] at z1 ⊢
        rcases z1 with z1 | z1
        · left
          rw [decide_eq_false_iff_not] at z1 ⊢
          exact fun y => z1 (hmod.mpr y)
        · right
          rw [decide_eq_false_iff_not] at z1
          unfold FM.okSize
          rw [decide_eq_false_iff_not]
          rw [cut_take _ _ (by omega), hk1, hdiv] at z1
          exact z1
  · obtain ⟨a, rfl, hno⟩ := hv
    rw [range_len] at hno
    exact ⟨_, rfl, by rw [show ((t.length : Int) - 1).toNat = t.length - 1 by omega] at hno; exact hno⟩
  · obtain ⟨a, rfl, hno⟩ := hr'
    exact (dss_one (ds_ret (de_var 0 rfl) (by show Ts t = Ts _; rw [short_none hno])))
theorem scNormForm : FnScope ["lead", "turn"] ["lead", "turn"] (defScope sNormForm) := ⟨rfl, rfl, rfl, by decide +kernel, rfl, by decide +kernel, by decide +kernel⟩
def cNormForm (ds : List D) (d : D) : Prop := ∃ (v u : D) (l t : List Str), ds = [v, u] ∧ Sq v l ∧ Sq u t ∧ l.length ≤ 1000 ∧ t.length ≤ 1000 ∧ okS l ∧ okS t ∧ t ≠ [] ∧ d = .tup [Ts (FM.NF l t).1, Ts (FM.NF l t).2]
theorem ok_normform (F : Fun K "normal_form" "normal_form" sNormForm f fd) (M : Mg K mg) (X1 : GFn P w K mg base 1 "shortest_turn" (spP K cShort)) : FnG P w K mg base CX0 2 f fd ["lead", "turn"] (spP K cNormForm) := by
  refine fn_P F scNormForm (fun ds d h => by obtain ⟨v, u, l, t, rfl, _⟩ := h; rfl) (by decide) (fun cdv A outer s H E B ds d hr hio hC => ?_)
  obtain ⟨v, u, l, t, rfl, hv, hu, hl, ht, okl, okt, hne, rfl⟩ := hC
  show DSs _ B [.dat v, .dat u] _ _
  have hne1 := (FM.short_cases t hne).1
  refine (dss_seq (ds_par (i := 0) (j := 1) rfl scNormForm.nd (da_cons (e_bty M.tuple boot_tuple (da_cons (de_var 0 rfl) da_nil) (f_tuple_Sq hv)) (da_cons (de_call X1 (hr.mono (by decide)) (da_cons (e_bty M.tuple boot_tuple (da_cons (de_var 1 rfl) da_nil) (f_tuple_Sq hu)) da_nil) ⟨t, rfl, ht, okt, rfl⟩) da_nil)) rfl (by decide) (fun p hp => ⟨hio _ p hp, hio _ p hp⟩))
    (dss_cons (M := fun r => r = [.dat (Ts (FM.NF l t).1), .dat (Ts (FM.NF l t).2)]) (ds_while (fun m r => ∃ l' t', r = [.dat (Ts l'), .dat (Ts t')] ∧ m = l'.length ∧ FM.nf l' t' = FM.NF l t ∧ okS l' ∧ okS t' ∧ t' ≠ [] ∧ l'.length ≤ 1000 ∧ t'.length ≤ 1000) PassesOwn.never l.length ⟨l, FM.shortT t, rfl, rfl, rfl, okl, okt.sub (mem_short t), hne1, hl, Nat.le_trans (len_short t) ht⟩ (fun m r hw => ?_))
    (fun r hr' => ?_)))
  · obtain ⟨l', t', rfl, rfl, hnf, okl', okt', hne', hl', ht'⟩ := hw
    obtain ⟨wt, hwt, _⟩ := last_some hne'
    have hL : ∀ (z : (!decide (l' = [])) = true), ∃ wl, l'.getLast? = some wl := fun z => by
      have : l' ≠ [] := by simpa using z
      obtain ⟨wl, h1, _⟩ := last_some this
      exact ⟨wl, h1⟩
    refine ⟨(!decide (l' = []) && decide (l'.getLast? = some wt)), _, (DW.dt (dw_and (t_cmp (de_var 0 rfl) (de_tup da_nil) (c_neTs (b := []) hr.r.units okl' (fun _ z => by cases z))) (fun z1 => (dw_and1 ?_)))), fun z => (dss_one (ds_par (i := 0) (j := 1) rfl scNormForm.nd (da_cons (e_sl (de_var 0 rfl) dp_no (dp_some (e_neg de_int)) s_Ts) (da_cons (e_bin (e_sl (de_var 1 rfl) (dp_some (e_neg de_int)) dp_no s_Ts) (e_sl (de_var 1 rfl) dp_no (dp_some (e_neg de_int)) s_Ts) (b_catTS ?_)) da_nil)) ?_ (by decide) (fun p hp => ⟨hio _ p hp, hio _ p hp⟩))), fun z => ?_⟩
    · obtain ⟨wl, h1⟩ := hL z1
      have hne2 : l' ≠ [] := by simpa using z1
      refine dt_is (t_cmp (e_ix (de_var 0 rfl) (e_neg de_int) (i_Ts (w := wl) (by rw [atI_last hne2]; exact h1))) (e_ix (de_var 1 rfl) (e_neg de_int) (i_Ts (w := wt) (by rw [atI_last hne']; exact hwt))) c_eqS) ?_
      rw [h1]; simp
    · rw [cut_last, cut_init, List.length_drop, List.length_take]; exact Nat.le_trans (show t'.length - (t'.length - 1) + min (t'.length - 1) t'.length ≤ 2000 by omega) (by decide)
    · rw [Bool.and_eq_true] at z
      have hne2 : l' ≠ [] := by simpa using z.1
      have hp := List.length_pos_iff.mpr hne2
      have hlast : l'.getLast? = t'.getLast? := by rw [hwt]; exact of_decide_eq_true z.2
      refine ⟨l'.length - 1, by omega, cutL l' none (some (-1)), _, rfl, ?_, ?_, okl'.cut, okt'.cut.append okt'.cut, ?_, ?_, ?_⟩
      · rw [cut_init, List.length_take]; omega
      · rw [rot_cut, cut_init, ← hnf, ← List.dropLast_eq_take, FM.nf.eq_1 l' t', dif_pos ⟨hne2, hlast⟩]
      · rw [rot_cut]; exact FM.rot_ne hne'
      · rw [cut_init, List.length_take]; omega
      · rw [rot_cut, FM.rot_len]; exact ht'
    · show [Slot.dat (Ts l'), Slot.dat (Ts t')] = _
      rw [← hnf, FM.nf.eq_1 l' t', dif_neg]
      intro ⟨h1, h2⟩
      rw [Bool.and_eq_false_iff] at z
      rcases z with z | z
      · simp at z; exact h1 z
      · exact of_decide_eq_false z (by rw [h2, hwt])
  · subst hr'
    exact (dss_one (ds_ret (de_tup (da_cons (de_var 0 rfl) (da_cons (de_var 1 rfl) da_nil))) rfl))
end
end K23

set_option maxRecDepth 100000
set_option maxHeartbeats 4000000
namespace K23
open PySem PySem.Spec PyProof.Rows L2 DL
/-! ### Fill -/
def fillD (C : Addr) (L T : List Str) : D := .ins C [("own_lead", Ts L), ("own_turn", Ts T)]
structure Vf (L T : List Str) : Prop where
  ne : T ≠ []
  nL : Nm L
  nT : Nm T
  lL : L.length ≤ 1000
  lT : T.length ≤ 1000
theorem Vf.nf {L T : List Str} (v : Vf L T) : Vf (FM.NF L T).1 (FM.NF L T).2 := by
  obtain ⟨a, b, c, d⟩ := NF_mem L T
  exact ⟨(FM.NF_props L T v.ne).2.1, v.nL.sub a, v.nT.sub b, Nat.le_trans c v.lL, Nat.le_trans d v.lT⟩
def sq (L T : List Str) (k : Nat) : Str := (FM.seq L T k).getD Str.empty
theorem cyc_some {T : List Str} (h : T ≠ []) (k : Nat) : ∃ w, FM.cyc T k = some w := by
  unfold FM.cyc
  have hp : 0 < T.length := List.length_pos_iff.mpr h
  exact ⟨_, List.getElem?_eq_getElem (Nat.mod_lt k hp)⟩
theorem sq_some {L T : List Str} (h : T ≠ []) (k : Nat) : FM.seq L T k = some (sq L T k) := by
  have : ∃ w, FM.seq L T k = some w := by
    unfold FM.seq
    split
    · rename_i q; exact ⟨_, List.getElem?_eq_getElem q⟩
    · exact cyc_some h _
  obtain ⟨w, e⟩ := this
  unfold sq; rw [e]; rfl
theorem sq_ext {L T L' T' : List Str} (h : T ≠ []) (h' : T' ≠ []) (e : ∀ k, sq L T k = sq L' T' k) : ∀ k, FM.seq L T k = FM.seq L' T' k := fun k => by rw [sq_some h, sq_some h', e]
/-- what the top has of the class -/
structure TF (K : PySem.W.Frag) (mg : Str → Option Value) (C : Addr) : Prop where
  own : OwnC K C
  nL : NoAttr K C "own_lead"
  nT : NoAttr K C "own_turn"
  me : PySem.W.kitOne K (.ref C) (.ref C) = some true
  tup : PySem.W.kitOne K (.type "tuple") (.ref C) = some false
  mg : mg "Fill" = some (.ref C)
  nf : PySem.W.notFirst K C (.ref C) = true
  nft : PySem.W.notFirst K C (.type "tuple") = true
abbrev sFill : Stmt := top 23
abbrev sInit : Stmt := inClass sFill 0
abbrev sLead : Stmt := inClass sFill 2
abbrev sTurn : Stmt := inClass sFill 3
abbrev sNameAt : Stmt := inClass sFill 4
abbrev sKindAt : Stmt := inClass sFill 5
abbrev sFirst : Stmt := inClass sFill 6
abbrev sBehind : Stmt := inClass sFill 7
abbrev sEq : Stmt := inClass sFill 8
section
variable {P : Program} {w : World} {K : PySem.W.Frag} {mg : Str → Option Value} {base : Heap} {f : Addr} {fd : FuncData} {C : Addr}
theorem scWantFar : FnScope ["row"] ["row"] (defScope sWantFar) := ⟨rfl, rfl, rfl, by decide +kernel, rfl, by decide +kernel, by decide +kernel⟩
def cWantFar (ds : List D) (d : D) : Prop := ∃ i : Int, ds = [.int i] ∧ 1 ≤ i ∧ i ≤ 10 ^ 60 ∧ d = .non
theorem ok_wantfar (F : Fun K "want_far_row" "want_far_row" sWantFar f fd) (M : Mg K mg) (G1 : GFn P w K mg base 1 "is_integer" (spP K cIsInt)) : FnG P w K mg base CX0 2 f fd ["row"] (spP K cWantFar) := by
  refine fn_P F scWantFar (fun ds d h => by obtain ⟨i, rfl, _⟩ := h; rfl) (by decide) (fun cdv A outer s H E B ds d hr hio hC => ?_)
  obtain ⟨i, rfl, h1, h2, rfl⟩ := hC
  show DSs _ B [.dat (.int i)] _ _
  refine (dss_one (ds_if (DW.dt (dw_or (dt_not (dt_val (de_call G1 hr (da_cons (de_var 0 rfl) da_nil) ⟨i, rfl, rfl⟩))) (fun z2 => (dw_or1 (dt_not (t_chain de_int (de_var 0 rfl) (g_int M.FARTHEST) c_le c_le)))))) (fun z1 => (dss_one (ds_never _ ?_))) (fun z1 => (dss_nil rfl))))
  simp [h1] at z1
  omega
theorem scInit : FnScope ["self", "lead", "turn"] ["self", "lead", "turn"] (defScope sInit) := ⟨rfl, rfl, rfl, by decide +kernel, rfl, by decide +kernel, by decide +kernel⟩
def cInit (C : Addr) (p : D) (ds : List D) (d p' : D) : Prop := ∃ v u l t, p = .ins C [] ∧ ds = [v, u] ∧ Sq v l ∧ Sq u t ∧ Vf l t ∧ d = .non ∧ p' = fillD C (FM.NF l t).1 (FM.NF l t).2
theorem ok_init (F : Fun K "__init__" "Fill.__init__" sInit f fd) (M : Mg K mg) (T : TF K mg C) (X1 : GFn P w K mg base 2 "want_names" (spP K cWantNames)) (X2 : GFn P w K mg base 2 "normal_form" (spP K cNormForm)) : FnG P w K mg base CX0 3 f fd ["self", "lead", "turn"] (spI K (cInit C)) := by
  refine fn_I F scInit (fun p ds d p' h => by obtain ⟨v, u, l, t, rfl, rfl, _⟩ := h; rfl) (by decide) (fun cdv A outer s H E B p ds d p' hr hio hC => ?_)
  obtain ⟨v, u, l, t, rfl, rfl, hv, hu, vf, rfl, rfl⟩ := hC
  show DSs _ B [.own (.ins C []), .dat v, .dat u] _ _
  refine (dss_seq (ds_expr (de_call X1 (hr.mono (by decide)) (da_cons (g_str M.LEAD) (da_cons (de_var 1 rfl) da_nil)) ⟨_, v, l, rfl, hv, vf.nL, fun z => absurd z (by decide), rfl⟩) rfl)
    (dss_seq (ds_expr (de_call X1 (hr.mono (by decide)) (da_cons (g_str M.TURN) (da_cons (de_var 2 rfl) da_nil)) ⟨_, u, t, rfl, hu, vf.nT, fun _ => vf.ne, rfl⟩) rfl)
    (dss_one (ds_asg (de_call X2 (hr.mono (by decide)) (da_cons (de_var 1 rfl) (da_cons (de_var 2 rfl) da_nil)) ⟨v, u, l, t, rfl, hv, hu, vf.lL, vf.lT, vf.nL.ok, vf.nT.ok, vf.ne, rfl⟩) (pg_tup rfl (pgs_cons (pg_fld (pv 0)) (pgs_cons (pg_fld (pv 0)) pgs_nil))) (gs_tup rfl (gss_cons (gs_fld (i := 0) T.own.cl T.nL rfl (by decide)) (gss_cons (gs_fld (i := 0) T.own.cl T.nT rfl (by show 1 < 1000; decide)) gss_nil))) ⟨rfl, rfl⟩))))
theorem scLead : FnScope ["self"] ["self"] (defScope sLead) := ⟨rfl, rfl, rfl, by decide +kernel, rfl, by decide +kernel, by decide +kernel⟩
theorem scTurn : FnScope ["self"] ["self"] (defScope sTurn) := ⟨rfl, rfl, rfl, by decide +kernel, rfl, by decide +kernel, by decide +kernel⟩
def cLead (C : Addr) (ds : List D) (d : D) : Prop := ∃ L T, ds = [fillD C L T] ∧ d = Ts L
def cTurn (C : Addr) (ds : List D) (d : D) : Prop := ∃ L T, ds = [fillD C L T] ∧ d = Ts T
theorem ok_lead (F : Fun K "lead" "Fill.lead" sLead f fd) (T : TF K mg C) : FnG P w K mg base CX0 1 f fd ["self"] (spP K (cLead C)) := by
  refine fn_P F scLead (fun ds d h => by obtain ⟨_, _, rfl, _⟩ := h; rfl) (by decide) (fun cdv A outer s H E B ds d hr hio hC => ?_)
  obtain ⟨l, t, rfl, rfl⟩ := hC
  show DSs _ B [.dat (fillD C l t)] _ _
  exact (dss_one (ds_ret (de_fld T.own.cl T.nL (de_var 0 rfl) rfl) rfl))
theorem ok_turn (F : Fun K "turn" "Fill.turn" sTurn f fd) (T : TF K mg C) : FnG P w K mg base CX0 1 f fd ["self"] (spP K (cTurn C)) := by
  refine fn_P F scTurn (fun ds d h => by obtain ⟨_, _, rfl, _⟩ := h; rfl) (by decide) (fun cdv A outer s H E B ds d hr hio hC => ?_)
  obtain ⟨l, t, rfl, rfl⟩ := hC
  show DSs _ B [.dat (fillD C l t)] _ _
  exact (dss_one (ds_ret (de_fld T.own.cl T.nT (de_var 0 rfl) rfl) rfl))
theorem scNameAt : FnScope ["self", "position"] ["self", "position"] (defScope sNameAt) := ⟨rfl, rfl, rfl, by decide +kernel, rfl, by decide +kernel, by decide +kernel⟩
def cNameAt (C : Addr) (ds : List D) (d : D) : Prop := ∃ L T p, ds = [fillD C L T, .int p] ∧ T ≠ [] ∧ 0 ≤ p ∧ d = .str (sq L T p.toNat)
theorem ok_nameat (F : Fun K "name_at" "Fill.name_at" sNameAt f fd) (M : Mg K mg) (T : TF K mg C) : FnG P w K mg base CX0 1 f fd ["self", "position"] (spP K (cNameAt C)) := by
  refine fn_P F scNameAt (fun ds d h => by obtain ⟨_, _, _, rfl, _⟩ := h; rfl) (by decide) (fun cdv A outer s H E B ds d hr hio hC => ?_)
  obtain ⟨l, t, p, rfl, ht, hp, rfl⟩ := hC
  show DSs _ B [.dat (fillD C l t), .dat (.int p)] _ _
  have hpos : 0 < t.length := List.length_pos_iff.mpr ht
  have hs := sq_some (L := l) ht p.toNat
  refine (dss_ifx (t_cmp (de_var 1 rfl) (e_blt M.len boot_len (da_cons (de_fld T.own.cl T.nL (de_var 0 rfl) rfl) da_nil) f_len_Ts) c_lt) (fun z1 => (dss_one (ds_ret (e_ix (de_fld T.own.cl T.nL (de_var 0 rfl) rfl) (de_var 1 rfl) (i_Ts (atI_pos hp ?_))) rfl))) (fun z1 =>
    (dss_one (ds_ret (e_ix (de_fld T.own.cl T.nT (de_var 0 rfl) rfl) (e_bin (e_bin (de_var 1 rfl) (e_blt M.len boot_len (da_cons (de_fld T.own.cl T.nL (de_var 0 rfl) rfl) da_nil) f_len_Ts) b_sub) (e_blt M.len boot_len (da_cons (de_fld T.own.cl T.nT (de_var 0 rfl) rfl) da_nil) f_len_Ts) (b_mod ?_)) (i_Ts (atI_pos ?_ ?_))) rfl))))
  · have := of_decide_eq_true z1
    rw [← hs]; unfold FM.seq; rw [if_pos (by omega)]
  · omega
  · exact Int.emod_nonneg _ (by omega)
  · have := of_decide_eq_false z1
    rw [← hs]; unfold FM.seq FM.cyc; rw [if_neg (by omega)]
    congr 1
    rw [show p - (l.length : Int) = ((p.toNat - l.length : Nat) : Int) by omega, ← Int.natCast_emod, Int.toNat_natCast]
theorem scKindAt : FnScope ["self", "row"] ["self", "row"] (defScope sKindAt) := ⟨rfl, rfl, rfl, by decide +kernel, rfl, by decide +kernel, by decide +kernel⟩
def cKindAt (C : Addr) (ds : List D) (d : D) : Prop := ∃ L T p, ds = [fillD C L T, .int p] ∧ T ≠ [] ∧ 1 ≤ p ∧ p ≤ 10 ^ 60 ∧ d = .str (sq L T (p - 1).toNat)
theorem ok_kindat (F : Fun K "kind_at" "Fill.kind_at" sKindAt f fd) (T : TF K mg C) (X1 : GFn P w K mg base 2 "want_far_row" (spP K cWantFar)) (X2 : MFn P w K mg base 1 C "name_at" (spP K (cNameAt C))) : FnG P w K mg base CX0 3 f fd ["self", "row"] (spP K (cKindAt C)) := by
  refine fn_P F scKindAt (fun ds d h => by obtain ⟨_, _, _, rfl, _⟩ := h; rfl) (by decide) (fun cdv A outer s H E B ds d hr hio hC => ?_)
  obtain ⟨l, t, p, rfl, ht, hp, hp2, rfl⟩ := hC
  show DSs _ B [.dat (fillD C l t), .dat (.int p)] _ _
  exact (dss_seq (ds_expr (de_call X1 (hr.mono (by decide)) (da_cons (de_var 1 rfl) da_nil) ⟨p, rfl, hp, hp2, rfl⟩) rfl)
    (dss_one (ds_ret (de_meth T.own.cl X2 (hr.mono (by decide)) (de_var 0 rfl) rfl (da_cons (e_bin (de_var 1 rfl) de_int b_sub) da_nil) ⟨l, t, p - 1, rfl, ht, by omega, rfl⟩) rfl)))
theorem scFirst : FnScope ["self", "many", "position"] ["self", "many"] (defScope sFirst) := ⟨rfl, rfl, rfl, by decide +kernel, rfl, by decide +kernel, by decide +kernel⟩
def firstN (L T : List Str) (n : Nat) : List Str := (List.range n).map (sq L T)
def cFirst (C : Addr) (ds : List D) (d : D) : Prop := ∃ L T n, ds = [fillD C L T, .int n] ∧ T ≠ [] ∧ 0 ≤ n ∧ n ≤ 2000 ∧ d = Ls (firstN L T n.toNat)
theorem ok_first (F : Fun K "first" "Fill.first" sFirst f fd) (M : Mg K mg) (T : TF K mg C) (X1 : GFn P w K mg base 2 "is_count" (spP K cIsCount)) (X2 : MFn P w K mg base 1 C "name_at" (spP K (cNameAt C))) : FnG P w K mg base CX0 3 f fd ["self", "many"] (spO K (cFirst C)) := by
  refine fn_O F scFirst (fun ds d h => by obtain ⟨_, _, _, rfl, _⟩ := h; rfl) (by decide) (fun cdv A outer s H E B ds d hr hio hC => ?_)
  obtain ⟨l, t, n, rfl, ht, hn, hn2, rfl⟩ := hC
  show DSs _ B [.dat (fillD C l t), .dat (.int n), .un] _ _
  refine (dss_ifx (DW.dt (dw_or (dt_not (dt_val (de_call X1 (hr.mono (by decide)) (da_cons (de_var 1 rfl) da_nil) ⟨n, rfl, rfl⟩))) (fun z2 => (dw_or1 (t_cmp (de_var 1 rfl) (g_int M.MOST_FIRST) c_gt))))) (fun z1 => (dss_one (ds_never _ ?_))) (fun z1 =>
    (dss_one (ds_retO (d := Ls (firstN l t n.toNat)) (do_is (do_map (i := 2) (fun d => match d with | .int k => .str (sq l t k.toNat) | d => d) rfl scFirst.nd (di_range1 M.range (da_cons (de_var 1 rfl) da_nil) ?_ ?_) (blkOk_by (N := ["self", "many", "position"]) (sc := defScope sFirst) (by decide +kernel)) (fun _ _ _ _ _ => pg_name (i := 2) scFirst.nd rfl (Or.inl rfl)) (hio _) ?_ (fun B1 hB d hd => ?_)) ?_) rfl))))
  · simp [hn] at z1; omega
  · exact Int.le_trans (by decide) hn
  · exact Int.lt_of_le_of_lt hn2 (by decide)
  · rw [range_len]; exact Nat.lt_of_le_of_lt (show (n - 0).toNat ≤ 2000 by omega) (by decide)
  · obtain ⟨k, hk, rfl⟩ := List.mem_map.mp hd
    exact fun s1 H1 C1 cl fp => de_meth T.own.cl X2 (hr.mono (by decide)) (de_var 0 rfl) rfl (da_cons (de_var 2 rfl) da_nil) ⟨l, t, _, rfl, ht, by omega, rfl⟩
  · unfold rangeD firstN
    rw [List.map_map, Int.sub_zero]
    show D.lst _ = D.lst _
    rw [List.map_map]
    congr 1
    apply List.map_congr_left
    intro k _
    show D.str _ = D.str _
    congr 2
    omega
end
end K23

set_option maxRecDepth 100000
set_option maxHeartbeats 4000000
namespace K23
open PySem PySem.Spec PyProof.Rows L2 DL TL
/-! ### texts of fills -/
theorem menu_chars : ∀ w ∈ menu, (40 : Nat) ∉ tl w ∧ (32 : Nat) ∉ tl w ∧ tl w ≠ [] ∧ (reprText w).length ≤ 10 := by decide +kernel
theorem sum_le {ss : List Str} {b : Nat} {g : Str → Nat} (h : ∀ w ∈ ss, g w ≤ b) : (ss.map g).sum ≤ b * ss.length := by
  induction ss with
  | nil => simp
  | cons w ss ih =>
    have h1 := h w (List.mem_cons_self ..)
    have h2 := ih fun z hz => h z (List.mem_cons_of_mem _ hz)
    rw [List.map_cons, List.sum_cons, List.length_cons, Nat.mul_succ]; omega
theorem Nm.sum {ss : List Str} (h : Nm ss) : (ss.map (·.length)).sum ≤ 8 * ss.length := sum_le fun w hw => (menu_name w (h w hw)).2.1
theorem join_len (y : Str) (ss : List Str) : (Txt.join y ss).length ≤ (ss.map (·.length)).sum + ss.length * y.length := by
  rw [join_eq]; exact StrLaws.join_length_le y ss
theorem Nm.join {ss : List Str} (h : Nm ss) : (Txt.join " " ss).length ≤ 9 * ss.length := by
  have h1 := h.sum
  have h2 := join_len " " ss
  have : ((" " : Str)).length = 1 := rfl
  rw [this] at h2; omega
def turnText (T : List Str) : Str := ("(" : Str) ++ Txt.join " " T ++ (")" : Str)
def fillText (L T : List Str) : Str := Txt.join " " (L ++ [turnText T])
theorem turnText_len (T : List Str) : (turnText T).length = (Txt.join " " T).length + 2 := by
  unfold turnText; rw [Str.length_append, Str.length_append]; show 1 + _ + 1 = _; omega
theorem joinL_last (S a b : List Nat) : ∀ ps : List (List Nat), joinL S (ps ++ [a]) ++ b = joinL S (ps ++ [a ++ b])
  | [] => rfl
  | [p] => by show p ++ (S ++ a) ++ b = p ++ (S ++ (a ++ b)); simp
  | p :: q :: r => by
    have ih := joinL_last S a b (q :: r)
    show p ++ (S ++ joinL S (q :: r ++ [a])) ++ b = p ++ (S ++ joinL S (q :: r ++ [a ++ b]))
    rw [← ih]; simp
/-- the head of the text: names, each with a blank behind it -/
def headText (L : List Str) : Str := Txt.join " " (L ++ [("" : Str)])
theorem text_split (L T : List Str) : headText L ++ ("(" : Str) ++ Txt.join " " T ++ (")" : Str) = fillText L T := by
  apply ext_tl
  unfold headText fillText turnText
  simp only [join_eq, tl_append, tl_join, List.map_append, List.map_cons, List.map_nil]
  rw [← joinL_last _ _ (tl (")" : Str)), ← joinL_last _ _ _]
  have e : tl ("" : Str) = [] := rfl
  rw [e]
  have := joinL_last (tl (" " : Str)) [] (tl ("(" : Str)) (L.map tl)
  rw [List.nil_append] at this
  rw [this]
theorem joinL_mem {S : List Nat} {c : Nat} (hs : c ∉ S) : ∀ {ps : List (List Nat)}, (∀ p ∈ ps, c ∉ p) → c ∉ joinL S ps
  | [], _ => by simp [joinL]
  | [p], h => h p (List.mem_cons_self ..)
  | p :: q :: r, h => by
    show c ∉ p ++ (S ++ joinL S (q :: r))
    have ih := joinL_mem hs (ps := q :: r) fun z hz => h z (List.mem_cons_of_mem _ hz)
    have hp := h p (List.mem_cons_self ..)
    simp only [List.mem_append, not_or]
    exact ⟨hp, hs, ih⟩
theorem join_free {ss : List Str} {c : Nat} (hc : c ≠ 32) (h : ∀ w ∈ ss, c ∉ tl w) : c ∉ tl (Txt.join " " ss) := by
  rw [join_eq, tl_join]
  refine joinL_mem (by show c ∉ [32]; simpa using hc) fun p hp => ?_
  obtain ⟨w, hw, rfl⟩ := List.mem_map.mp hp
  exact h w hw
theorem head_free {L : List Str} (h : Nm L) : (40 : Nat) ∉ tl (headText L) := join_free (by decide) fun w hw => by
  rcases List.mem_append.mp hw with hw | hw
  · exact (menu_chars w (h w hw)).1
  · rw [List.mem_singleton.mp hw]; decide
theorem text_part {L : List Str} (h : Nm L) (T : List Str) : Txt.partition (fillText L T) "(" = (headText L, ("(" : Str), Txt.join " " T ++ (")" : Str)) := by
  rw [← text_split]
  have e : headText L ++ ("(" : Str) ++ Txt.join " " T ++ (")" : Str) = headText L ++ ("(" : Str) ++ (Txt.join " " T ++ (")" : Str)) := ext_tl (by simp only [tl_append, List.append_assoc])
  rw [e]
  exact partition_app (y := "(") (s := 40) (S := []) rfl (head_free h)
theorem cutS_last {x : Str} {c : Nat} : cutS (x ++ (⟨#[c]⟩ : Str)) none (some (-1)) = x := by
  apply ext_tl
  have hl : (x ++ (⟨#[c]⟩ : Str)).length = x.length + 1 := by rw [Str.length_append]; rfl
  have e : HT.sIx (x ++ (⟨#[c]⟩ : Str)).length (x ++ (⟨#[c]⟩ : Str)).length (some (-1)) = x.length := by
    rw [hl]; show (if (-1 : Int) < 0 then ((-1 : Int) + ((x.length + 1 : Nat) : Int)).toNat else min (-1 : Int).toNat (x.length + 1)) = _; rw [if_pos (by decide)]; omega
  unfold cutS
  rw [e]
  show ((tl (x ++ (⟨#[c]⟩ : Str))).drop 0).take (x.length - 0) = tl x
  rw [List.drop_zero, Nat.sub_zero, tl_append, len_tl, List.take_left']
  rfl
theorem head_nil : headText [] = ("" : Str) := by unfold headText; rw [join_eq]; rfl
theorem head_cons {L : List Str} (h : L ≠ []) : headText L = Txt.join " " L ++ (⟨#[32]⟩ : Str) := by
  apply ext_tl
  unfold headText
  simp only [join_eq, tl_append, tl_join, List.map_append, List.map_cons, List.map_nil]
  have key : ∀ ps : List (List Nat), ps ≠ [] → joinL [32] (ps ++ [[]]) = joinL [32] ps ++ [32] := by
    intro ps
    induction ps with
    | nil => intro z; exact absurd rfl z
    | cons p ps ih =>
      intro _
      cases ps with
      | nil => simp [joinL]
      | cons q r =>
        show p ++ ([32] ++ joinL [32] (q :: r ++ [[]])) = p ++ ([32] ++ joinL [32] (q :: r)) ++ [32]
        rw [ih (by simp)]; simp
  exact key (L.map tl) (by simpa using h)
theorem head_ne {L : List Str} (h : L ≠ []) : headText L ≠ ("" : Str) := fun z => by
  rw [head_cons h] at z
  have := congrArg Str.length z
  rw [Str.length_append] at this
  have e1 : (⟨#[32]⟩ : Str).length = 1 := rfl
  have e2 : ("" : Str).length = 0 := rfl
  omega
theorem split_names {L : List Str} (h : L ≠ []) (n : Nm L) : Txt.split (Txt.join " " L) " " = L := split_join (y := " ") (s := 32) (S := []) rfl (by decide +kernel) h fun p hp => (menu_chars p (n p hp)).2.1
theorem head_len {L : List Str} (h : Nm L) : (headText L).length ≤ 9 * L.length + 1 := by
  by_cases q : L = []
  · subst q; rw [head_nil]; decide
  · rw [head_cons q, Str.length_append]
    have := h.join
    have e1 : (⟨#[32]⟩ : Str).length = 1 := rfl
    omega
theorem text_len {L T : List Str} (h : Vf L T) : (fillText L T).length ≤ 20000 := by
  rw [← text_split]
  simp only [Str.length_append]
  have h1 := head_len h.nL
  have h2 := h.nT.join
  have h3 := h.lL
  have h4 := h.lT
  have e1 : ("(" : Str).length = 1 := rfl
  have e2 : (")" : Str).length = 1 := rfl
  omega
/-! ### what is shown -/
theorem shown_strs : ∀ ss : List Str, PyData.shownAll (ss.map .str) = ss.map reprText
  | [] => by simp [PyData.shownAll]
  | w :: ss => by simp [PyData.shownAll, PyData.shown, shown_strs ss]
theorem showable_strs : ∀ ss : List Str, PyData.showableAll (ss.map .str) = true
  | [] => by simp [PyData.showableAll]
  | w :: ss => by simp [PyData.showableAll, PyData.showable, showable_strs ss]
theorem hasDict_strs : ∀ ss : List Str, PyData.hasDictAll (ss.map .str) = false
  | [] => by simp [PyData.hasDictAll]
  | w :: ss => by simp [PyData.hasDictAll, PyData.hasDict, hasDict_strs ss]
def shT (L : List Str) : Str := (Ts L).py.shown
def shL (L : List Str) : Str := (Ls L).py.shown
theorem shT_len {L : List Str} (h : Nm L) (hl : L.length ≤ 2000) : (shT L).length ≤ 25000 := by
  unfold shT
  simp only [D.py, pys_strs, PyData.shown, shown_strs]
  have h1 := tupleText_len_le (L.map reprText)
  rw [List.map_map, List.length_map] at h1
  have h2 := sum_le (ss := L) (b := 10) (g := (fun (x : Str) => x.length) ∘ reprText) fun w hw => (menu_chars w (h w hw)).2.2.2
  omega
theorem shL_len {L : List Str} (h : Nm L) (hl : L.length ≤ 2000) : (shL L).length ≤ 25000 := by
  unfold shL
  simp only [D.py, pys_strs, PyData.shown, shown_strs]
  have h1 := listText_len_le (L.map reprText)
  rw [List.map_map, List.length_map] at h1
  have h2 := sum_le (ss := L) (b := 10) (g := (fun (x : Str) => x.length) ∘ reprText) fun w hw => (menu_chars w (h w hw)).2.2.2
  omega
theorem sT_pl (L : List Str) : (Ts L).pl = true := by simp [D.pl, pls_strs]
theorem sT_show (L : List Str) : (Ts L).py.showable = true := by simp [D.py, pys_strs, PyData.showable, showable_strs]
theorem sT_dict (L : List Str) : (Ts L).py.hasDict = false := by simp [D.py, pys_strs, PyData.hasDict, hasDict_strs]
theorem sT_depth (L : List Str) : (Ts L).py.depth < 60 := by simp [D.py, pys_strs, PyData.depth, depth_strs]
theorem sL_pl (L : List Str) : (Ls L).pl = true := by simp [D.pl, pls_strs]
theorem sL_show (L : List Str) : (Ls L).py.showable = true := by simp [D.py, pys_strs, PyData.showable, showable_strs]
theorem sL_dict (L : List Str) : (Ls L).py.hasDict = false := by simp [D.py, pys_strs, PyData.hasDict, hasDict_strs]
theorem sL_depth (L : List Str) : (Ls L).py.depth < 60 := by simp [D.py, pys_strs, PyData.depth, depth_strs]
def fillRepr (L T : List Str) : Str := catS Str.empty ["Fill(", shT L, ", ", shT T, ")"]
theorem repr_len {L T : List Str} (h : Vf L T) : (fillRepr L T).length ≤ 60000 := by
  unfold fillRepr
  simp only [catS, Str.length_append]
  have h1 := shT_len h.nL (Nat.le_trans h.lL (by decide))
  have h2 := shT_len h.nT (Nat.le_trans h.lT (by decide))
  have e0 : Str.empty.length = 0 := rfl
  have e1 : ("Fill(" : Str).length = 5 := rfl
  have e2 : (", " : Str).length = 2 := rfl
  have e3 : (")" : Str).length = 1 := rfl
  omega
end K23

set_option maxRecDepth 100000
set_option maxHeartbeats 4000000
namespace K23
open PySem PySem.Spec PyProof.Rows L2 DL TL
/-! ### what is behind so many names -/
def spin (T : List Str) (s : Nat) : List Str := T.drop s ++ T.take s
def behF (L T : List Str) (n : Int) : List Str × List Str := if n ≤ L.length then FM.NF (L.drop n.toNat) T else FM.NF [] (spin T ((n - L.length) % T.length).toNat)
theorem spin_len (T : List Str) (s : Nat) : (spin T s).length = T.length := by unfold spin; rw [List.length_append, List.length_drop, List.length_take]; omega
theorem spin_ne {T : List Str} (h : T ≠ []) (s : Nat) : spin T s ≠ [] := fun z => h (List.eq_nil_of_length_eq_zero (by rw [← spin_len T s, z]; rfl))
theorem spin_mem {T : List Str} {s : Nat} : ∀ w ∈ spin T s, w ∈ T := fun w h => by
  rcases List.mem_append.mp h with h | h
  · exact List.mem_of_mem_drop h
  · exact List.mem_of_mem_take h
theorem spin_vf {L T : List Str} (v : Vf L T) (s : Nat) : Vf [] (spin T s) := ⟨spin_ne v.ne s, (fun _ z => absurd z (by simp)), v.nT.sub spin_mem, by simp, by rw [spin_len]; exact v.lT⟩
theorem drop_vf {L T : List Str} (v : Vf L T) (s : Nat) : Vf (L.drop s) T := ⟨v.ne, v.nL.sub fun _ z => List.mem_of_mem_drop z, v.nT, by rw [List.length_drop]; have := v.lL; omega, v.lT⟩
theorem beh_vf {L T : List Str} (v : Vf L T) (n : Int) : Vf (behF L T n).1 (behF L T n).2 := by
  unfold behF
  split
  · exact (drop_vf v _).nf
  · exact (spin_vf v _).nf
theorem spin_cyc {T : List Str} (h : T ≠ []) {s : Nat} (hs : s ≤ T.length) (k : Nat) : FM.cyc (spin T s) k = FM.cyc T (k + s) := by
  have hp : 0 < T.length := List.length_pos_iff.mpr h
  unfold FM.cyc
  rw [spin_len]
  have hk := Nat.mod_lt k hp
  have e : (k + s) % T.length = (k % T.length + s) % T.length := by rw [Nat.add_mod, Nat.add_mod (k % T.length) s, Nat.mod_mod]
  rw [e]
  generalize k % T.length = j at hk ⊢
  unfold spin
  by_cases q : j < T.length - s
  · rw [List.getElem?_append_left (by rw [List.length_drop]; exact q), List.getElem?_drop, Nat.mod_eq_of_lt (by omega), Nat.add_comm]
  · rw [List.getElem?_append_right (by rw [List.length_drop]; omega), List.length_drop, List.getElem?_take]
    have e2 : (j + s) % T.length = j - (T.length - s) := by rw [Nat.mod_eq_sub_mod (by omega), Nat.mod_eq_of_lt (by omega)]; omega
    rw [e2]
    split
    · rfl
    · rename_i z; omega
theorem beh_seq {L T : List Str} (h : T ≠ []) {n : Int} (hn : 0 ≤ n) (k : Nat) : FM.seq (behF L T n).1 (behF L T n).2 k = FM.seq L T (k + n.toNat) := by
  have hp : 0 < T.length := List.length_pos_iff.mpr h
  unfold behF
  split
  · rename_i q
    rw [(FM.NF_props _ T h).1 k]
    unfold FM.seq
    rw [List.length_drop, List.getElem?_drop]
    by_cases z : k < L.length - n.toNat
    · rw [if_pos z, if_pos (by omega), Nat.add_comm]
    · rw [if_neg z, if_neg (by omega)]; congr 1; omega
  · rename_i q
    rw [(FM.NF_props [] _ (spin_ne h _)).1 k]
    unfold FM.seq
    rw [if_neg (by simp), if_neg (by omega)]
    have e : ((n - (L.length : Int)) % (T.length : Int)).toNat = (n.toNat - L.length) % T.length := by
      rw [show n - (L.length : Int) = ((n.toNat - L.length : Nat) : Int) by omega, ← Int.natCast_emod, Int.toNat_natCast]
    rw [e, spin_cyc h (Nat.le_of_lt (Nat.mod_lt _ hp))]
    unfold FM.cyc
    congr 1
    rw [List.length_nil, Nat.sub_zero, Nat.add_mod, Nat.mod_mod, ← Nat.add_mod]; congr 1; omega
theorem beh_same {L T : List Str} (v : Vf L T) {n : Int} (hn : 0 ≤ n) : behF (FM.NF L T).1 (FM.NF L T).2 n = behF L T n := by
  have nn : ∀ {l t : List Str}, Vf l t → ∀ m, FM.NF (behF l t m).1 (behF l t m).2 = behF l t m := fun {l t} v m => by
    unfold behF; split
    · exact FM.canon_self v.ne
    · exact FM.canon_self (spin_ne v.ne _)
  rw [← nn v.nf n, ← nn v n]
  exact FM.canon (beh_vf v.nf n).ne (beh_vf v n).ne fun k => by rw [beh_seq v.nf.ne hn, beh_seq v.ne hn, (FM.NF_props L T v.ne).1]
abbrev sStr : Stmt := inClass sFill 9
abbrev sRepr : Stmt := inClass sFill 10
abbrev sRead : Stmt := top 25
section
variable {P : Program} {w : World} {K : PySem.W.Frag} {mg : Str → Option Value} {base : Heap} {f : Addr} {fd : FuncData} {C : Addr}
theorem scBehind : FnScope ["self", "many", "shift"] ["self", "many"] (defScope sBehind) := ⟨rfl, rfl, rfl, by decide +kernel, rfl, by decide +kernel, by decide +kernel⟩
def cBehind (C : Addr) (ds : List D) (d : D) : Prop := ∃ L T n, ds = [fillD C L T, .int n] ∧ Vf L T ∧ 0 ≤ n ∧ n ≤ 10 ^ 60 ∧ d = fillD C (behF L T n).1 (behF L T n).2
theorem ok_behind (F : Fun K "behind" "Fill.behind" sBehind f fd) (M : Mg K mg) (T : TF K mg C) (X1 : GFn P w K mg base 2 "is_count" (spP K cIsCount)) (X2 : CFn P w K mg base 3 "Fill" C (spI K (cInit C))) : FnG P w K mg base CX0 5 f fd ["self", "many"] (spP K (cBehind C)) := by
  refine fn_P F scBehind (fun ds d h => by obtain ⟨_, _, _, rfl, _⟩ := h; rfl) (by decide) (fun cdv A outer s H E B ds d hr hio hC => ?_)
  obtain ⟨l, t, n, rfl, v, hn, hn2, rfl⟩ := hC
  show DSs _ B [.dat (fillD C l t), .dat (.int n), .un] _ _
  have hpos : 0 < t.length := List.length_pos_iff.mpr v.ne
  refine (dss_ifx (DW.dt (dw_or (dt_not (dt_val (de_call X1 (hr.mono (by decide)) (da_cons (de_var 1 rfl) da_nil) ⟨n, rfl, rfl⟩))) (fun z2 => (dw_or1 (t_cmp (de_var 1 rfl) (g_int M.FARTHEST) c_gt))))) (fun z1 => (dss_one (ds_never _ ?_))) (fun z1 =>
    (dss_ifx (t_cmp (de_var 1 rfl) (e_blt M.len boot_len (da_cons (de_fld T.own.cl T.nL (de_var 0 rfl) rfl) da_nil) f_len_Ts) c_le) (fun z3 => (dss_one (ds_ret (DO.de (do_make X2 (hr.mono (by decide)) (da_cons (e_sl (de_fld T.own.cl T.nL (de_var 0 rfl) rfl) (dp_some (de_var 1 rfl)) dp_no s_Ts) (da_cons (de_fld T.own.cl T.nT (de_var 0 rfl) rfl) da_nil)) ⟨_, _, _, t, rfl, rfl, .inr rfl, .inr rfl, ?_, rfl, rfl⟩)) ?_))) (fun z3 =>
    (dss_seq (ds_set (i := 2) scBehind.nd (e_bin (e_bin (de_var 1 rfl) (e_blt M.len boot_len (da_cons (de_fld T.own.cl T.nL (de_var 0 rfl) rfl) da_nil) f_len_Ts) b_sub) (e_blt M.len boot_len (da_cons (de_fld T.own.cl T.nT (de_var 0 rfl) rfl) da_nil) f_len_Ts) (b_mod ?_)) rfl (hio _))
    (dss_one (ds_ret (DO.de (do_make X2 (hr.mono (by decide)) (da_cons (de_tup da_nil) (da_cons (e_bin (e_sl (de_fld T.own.cl T.nT (de_var 0 rfl) rfl) (dp_some (de_var 2 rfl)) dp_no s_Ts) (e_sl (de_fld T.own.cl T.nT (de_var 0 rfl) rfl) dp_no (dp_some (de_var 2 rfl)) s_Ts) (b_catTS ?_)) da_nil)) ⟨_, _, [], _, rfl, rfl, .inr rfl, .inr rfl, ?_, rfl, rfl⟩)) ?_)))))))
  · simp [hn] at z1; omega
  · rw [cut_drop _ _ hn]; exact drop_vf v _
  · have := of_decide_eq_true z3
    show fillD C _ _ = fillD C _ _
    unfold behF
    rw [if_pos this, cut_drop _ _ hn]
  · omega
  all_goals rw [cut_drop _ _ (Int.emod_nonneg _ (by omega)), cut_take _ _ (Int.emod_nonneg _ (by omega))]
  · have := v.lT
    rw [List.length_drop, List.length_take]
    exact Nat.le_trans (show _ ≤ 2000 by omega) (by decide)
  · exact spin_vf v _
  · have := of_decide_eq_false z3
    show fillD C _ _ = fillD C _ _
    unfold behF
    rw [if_neg this]; rfl
theorem scEq : FnScope ["self", "other"] ["self", "other"] (defScope sEq) := ⟨rfl, rfl, rfl, by decide +kernel, rfl, by decide +kernel, by decide +kernel⟩
def cEq (C : Addr) (ds : List D) (d : D) : Prop := ∃ L T o, ds = [fillD C L T, o] ∧ okS L ∧ okS T ∧ ((∃ L' T', o = fillD C L' T' ∧ okS L' ∧ okS T' ∧ d = .bl (decide (L = L') && decide (T = T'))) ∨ (∃ xs, o = .tup xs ∧ d = .bl false))
theorem ok_eq (F : Fun K "__eq__" "Fill.__eq__" sEq f fd) (M : Mg K mg) (T : TF K mg C) : FnG P w K mg base CX0 1 f fd ["self", "other"] (spP K (cEq C)) := by
  refine fn_P F scEq (fun ds d h => by obtain ⟨_, _, _, rfl, _⟩ := h; rfl) (by decide) (fun cdv A outer s H E B ds d hr hio hC => ?_)
  obtain ⟨l, t, o, rfl, ol, ot, hC⟩ := hC
  rcases hC with ⟨l', t', rfl, ol', ot', rfl⟩ | ⟨xs, rfl, rfl⟩
  · show DSs _ B [.dat (fillD C l t), .dat (fillD C l' t')] _ _
    refine (dss_one (ds_ret (de_and (e_blt M.isinstance boot_isinstance (da_cons (de_var 1 rfl) (da_cons (de_glob (v := .ref C) rfl T.mg rfl (fun _ => .cst (.ref C))) da_nil)) (f_isiC T.own T.me)) (fun z2 => (de_and (e_cmp (de_fld T.own.cl T.nL (de_var 0 rfl) rfl) (de_fld T.own.cl T.nL (de_var 1 rfl) rfl) (c_eqTs hr.r.units ol ol')) (fun z1 => (de_and1 (de_is (e_cmp (de_fld T.own.cl T.nT (de_var 0 rfl) rfl) (de_fld T.own.cl T.nT (de_var 1 rfl) rfl) (c_eqTs hr.r.units ot ot')) ?_))) ?_)) ?_) rfl))
    · rw [z1, Bool.true_and]
    · intro z; rw [z, Bool.false_and]
    · intro z; cases z
  · show DSs _ B [.dat (fillD C l t), .dat (.tup xs)] _ _
    exact (dss_one (ds_ret (de_and (e_blt M.isinstance boot_isinstance (da_cons (de_var 1 rfl) (da_cons (de_glob (v := .ref C) rfl T.mg rfl (fun _ => .cst (.ref C))) da_nil)) (f_isiO rfl T.tup)) (fun z => by cases z) (fun _ => rfl)) rfl))
theorem scStr : FnScope ["self"] ["self"] (defScope sStr) := ⟨rfl, rfl, rfl, by decide +kernel, rfl, by decide +kernel, by decide +kernel⟩
theorem scRepr : FnScope ["self"] ["self"] (defScope sRepr) := ⟨rfl, rfl, rfl, by decide +kernel, rfl, by decide +kernel, by decide +kernel⟩
def cStr (C : Addr) (ds : List D) (d : D) : Prop := ∃ L T, ds = [fillD C L T] ∧ Vf L T ∧ d = .str (fillText L T)
def cRepr (C : Addr) (ds : List D) (d : D) : Prop := ∃ L T, ds = [fillD C L T] ∧ Vf L T ∧ d = .str (fillRepr L T)
theorem ok_str (F : Fun K "__str__" "Fill.__str__" sStr f fd) (T : TF K mg C) : FnG P w K mg base CX0 1 f fd ["self"] (spP K (cStr C)) := by
  refine fn_P F scStr (fun ds d h => by obtain ⟨_, _, rfl, _⟩ := h; rfl) (by decide) (fun cdv A outer s H E B ds d hr hio hC => ?_)
  obtain ⟨l, t, rfl, v, rfl⟩ := hC
  show DSs _ B [.dat (fillD C l t)] _ _
  have hj := v.nT.join
  have hs := v.nL.sum
  have h1 := v.lL
  have h2 := v.lT
  refine (dss_one (ds_ret (de_bm (pe_bm PySem.F.plainAttrs_str PySem.F.slot_str_join PySem.F.type_str_join mtr_a de_str (da_cons (de_is (d1 := Ls (l ++ [turnText t])) (de_lst (da_star (de_fld T.own.cl T.nL (de_var 0 rfl) rfl) (.inr rfl) (da_cons (e_bin (e_bin de_str (de_bm (pe_bm PySem.F.plainAttrs_str PySem.F.slot_str_join PySem.F.type_str_join mtr_a de_str (da_cons (de_fld T.own.cl T.nT (de_var 0 rfl) rfl) da_nil)) (m_join_tup ?_)) (b_addS ?_)) de_str (b_addS ?_)) da_nil)) ?_) ?_) da_nil)) (m_join_lst ?_)) rfl))
  · have := v.nT.sum
    show _ + t.length * 1 ≤ _
    omega
  · show 1 + _ ≤ _
    exact Nat.le_trans (show _ ≤ 9001 by omega) (by decide)
  · rw [Str.length_append]
    show 1 + _ + 1 ≤ _
    exact Nat.le_trans (show _ ≤ 9002 by omega) (by decide)
  · rw [List.length_append, List.length_map]
    show l.length + 1 ≤ _
    exact Nat.le_trans (show _ ≤ 1001 by omega) (by decide)
  · show D.lst _ = D.lst _
    rw [List.map_append]; rfl
  · rw [List.map_append, List.sum_append, List.length_append]
    have := turnText_len t
    show _ + ((turnText t).length + 0) + (l.length + 1) * 1 ≤ _
    omega
theorem ok_repr (F : Fun K "__repr__" "Fill.__repr__" sRepr f fd) (T : TF K mg C) : FnG P w K mg base CX0 1 f fd ["self"] (spP K (cRepr C)) := by
  refine fn_P F scRepr (fun ds d h => by obtain ⟨_, _, rfl, _⟩ := h; rfl) (by decide) (fun cdv A outer s H E B ds d hr hio hC => ?_)
  obtain ⟨l, t, rfl, v, rfl⟩ := hC
  show DSs _ B [.dat (fillD C l t)] _ _
  have h1 := shT_len v.nL (Nat.le_trans v.lL (by decide))
  have h2 := shT_len v.nT (Nat.le_trans v.lT (by decide))
  exact (dss_one (ds_ret (e_join (.cons de_str (.cons (e_fmtR hr.g hr.r.units (de_fld T.own.cl T.nL (de_var 0 rfl) rfl) rfl (sT_pl l) (sT_show l) (sT_dict l) (sT_depth l) (Nat.le_trans h1 (by decide))) (.cons de_str (.cons (e_fmtR hr.g hr.r.units (de_fld T.own.cl T.nT (de_var 0 rfl) rfl) rfl (sT_pl t) (sT_show t) (sT_dict t) (sT_depth t) (Nat.le_trans h2 (by decide))) (.cons de_str DJ.nil))))) (Nat.le_trans (repr_len v) (by decide))) rfl))
theorem scRead : FnScope ["text", "lead", "e", "head", "bracket", "tail", "found"] ["text"] (defScope sRead) := ⟨rfl, rfl, rfl, by decide +kernel, rfl, by decide +kernel, by decide +kernel⟩
def cRead (C : Addr) (ds : List D) (d : D) : Prop := ∃ L T, ds = [.str (fillText L T)] ∧ Vf L T ∧ FM.NF L T = (L, T) ∧ d = fillD C L T
theorem ok_read (F : Fun K "read_fill" "read_fill" sRead f fd) (M : Mg K mg) (T : TF K mg C) (X1 : CFn P w K mg base 3 "Fill" C (spI K (cInit C))) (X2 : SFn P w K mg base 1 C "__str__" (spP K (cStr C))) : FnG P w K mg base CX0 5 f fd ["text"] (spP K (cRead C)) := by
  refine fn_P F scRead (fun ds d h => by obtain ⟨_, _, rfl, _⟩ := h; rfl) (by decide) (fun cdv A outer s H E B ds d hr hio hC => ?_)
  obtain ⟨l, t, rfl, v, hnf, rfl⟩ := hC
  show DSs _ B [.dat (.str (fillText l t)), .un, .un, .un, .un, .un, .un] _ _
  have hl := text_len v
  have hj := v.nT.join
  have hh := head_len v.nL
  have h1 := v.lL
  have h2 := v.lT
  have hjl := v.nL.join
  refine (dss_ifx (dt_not (dt_val (e_blt M.isinstance boot_isinstance (da_cons (de_var 0 rfl) (da_cons (de_ty M.str boot_str) da_nil)) (f_isi (r := true) rfl (by decide +kernel))))) (fun z1 => (dss_one (ds_never _ (by cases z1)))) (fun z1 =>
    (dss_seq (ds_asg (de_is (d1 := .tup [.str (headText l), .str ("(" : Str), .str (Txt.join " " t ++ (⟨#[41]⟩ : Str))]) (de_bm (pe_bm PySem.F.plainAttrs_str PySem.F.slot_str_partition PySem.F.type_str_partition mtr_a (de_var 0 rfl) (da_cons de_str da_nil)) (m_partition (by decide +kernel) ?_)) ?_) (pg_tup rfl (pgs_cons (pg_name (i := 3) scRead.nd rfl (Or.inl rfl)) (pgs_cons (pg_name (i := 4) scRead.nd rfl (Or.inl rfl)) (pgs_cons (pg_name (i := 5) scRead.nd rfl (Or.inl rfl)) pgs_nil)))) (gs_tup rfl (gss_cons (gs_name (hio _)) (gss_cons (gs_name (hio _)) (gss_cons (gs_name (hio _)) gss_nil)))) rfl)
    (dss_seq (ds_set (i := 1) scRead.nd (de_if (d := Ls l) (t_cmp (de_var 3 rfl) de_str c_neS) (fun z2 => (de_is (DO.de (do_bm (pe_bm PySem.F.plainAttrs_str PySem.F.slot_str_split PySem.F.type_str_split mtr_a (e_sl (de_var 3 rfl) dp_no (dp_some (e_neg de_int)) (s_str ?_)) (da_cons de_str da_nil)) (m_split (by decide +kernel) ?_))) ?_)) (fun z2 => (de_is (de_lst da_nil) ?_))) rfl (hio _))
    (dss_seq (ds_try (dss_one (ds_set (i := 6) scRead.nd (DO.de (do_make X1 (hr.mono (by decide)) (da_cons (de_var 1 rfl) (da_cons (de_is (d1 := Ls t) (DO.de (do_bm (pe_bm PySem.F.plainAttrs_str PySem.F.slot_str_split PySem.F.type_str_split mtr_a (e_sl (de_var 5 rfl) dp_no (dp_some (e_neg de_int)) (s_str ?_)) (da_cons de_str da_nil)) (m_split (by decide +kernel) ?_))) ?_) da_nil)) ⟨_, _, l, t, rfl, rfl, .inl rfl, .inl rfl, v, rfl, rfl⟩)) rfl (hio _))))
    (dss_ifx (t_cmp (e_bty M.str boot_str (da_cons (de_var 6 rfl) da_nil) (f_strOwn (w := fillText (FM.NF l t).1 (FM.NF l t).2) X2 (hr.mono (by decide)) ⟨_, _, rfl, v.nf, rfl⟩)) (de_var 0 rfl) c_neS) (fun z3 => (dss_one (ds_never _ ?_))) (fun z3 =>
    (dss_one (ds_ret (de_var 6 rfl) ?_)))))))))
  · exact Nat.le_trans hl (by decide)
  · rw [text_part v.nL]; rfl
  · exact Nat.le_trans (show _ ≤ 10000 by omega) (by decide)
  · have : l ≠ [] := fun z => by subst z; rw [head_nil] at z2; simp at z2
    rw [head_cons this, cutS_last]
    exact Nat.le_trans (show _ ≤ 10000 by omega) (by decide)
  · have : l ≠ [] := fun z => by subst z; rw [head_nil] at z2; simp at z2
    show D.lst _ = D.lst _
    rw [head_cons this]
    erw [cutS_last]
    rw [split_names this v.nL]
  · have : l = [] := Classical.byContradiction fun z => by
      have := head_ne z
      simp [this] at z2
    subst this; rfl
  · rw [Str.length_append]
    exact Nat.le_trans (show _ + 1 ≤ 10000 by omega) (by decide)
  · erw [cutS_last]
    exact Nat.le_trans (show _ ≤ 10000 by omega) (by decide)
  · show D.lst _ = D.lst _
    erw [cutS_last]
    rw [split_names v.ne v.nT]
  · rw [hnf] at z3; simp at z3
  · show fillD C _ _ = fillD C _ _
    rw [hnf]
end
end K23

set_option maxRecDepth 100000
set_option maxHeartbeats 4000000
namespace K23
open PySem PySem.Spec PyProof.Rows L2 DL TL
/-! ### the law's pot -/
abbrev Pot := Int × Int
def potD (p : Pot) : D := .lst [.int p.1, .int p.2]
structure PotOk (p : Pot) : Prop where
  a : 0 ≤ p.1
  b : 0 ≤ p.2
  c : p.2 < 2147483648
def cellF (xs : List Int) (k : Int) : Int := if k < xs.length then (if xs.getD k.toNat 0 < 0 then -(xs.getD k.toNat 0) else xs.getD k.toNat 0) else 11 * k + 6
def potF (xs : List Int) (k : Int) : Pot := (if cellF xs k - 10 ^ 18 > 0 then cellF xs k - 10 ^ 18 else 0, (cellF xs k % 2147483563 * 40014 + 52021 * k + 41) % 2147483629 + 1)
theorem potF_ok (xs : List Int) (k : Int) : PotOk (potF xs k) := by
  refine ⟨?_, ?_, ?_⟩
  · unfold potF; split <;> simp; omega
  · unfold potF; simp only; omega
  · unfold potF; simp only; omega
def drawF (p : Pot) (m : Int) : Int × Pot := if p.1 > 0 then (p.1 % m, (p.1 / m, p.2)) else ((((p.2 * 39373 + 12227) % 2147483587 * ((p.2 * 39373 + 12227) % 2147483587)) % 2147483549 / 13) % m, (p.1, (p.2 * 39373 + 12227) % 2147483587))
theorem drawF_ok {p : Pot} (h : PotOk p) {m : Int} (hm : 0 < m) : 0 ≤ (drawF p m).1 ∧ (drawF p m).1 < m ∧ PotOk (drawF p m).2 := by
  unfold drawF
  split
  · exact ⟨Int.emod_nonneg _ (by omega), Int.emod_lt_of_pos _ hm, Int.ediv_nonneg h.a (by omega), h.b, h.c⟩
  · exact ⟨Int.emod_nonneg _ (by omega), Int.emod_lt_of_pos _ hm, h.a, Int.emod_nonneg _ (by omega), Int.lt_trans (Int.emod_lt_of_pos _ (by omega)) (by omega)⟩
def pickF (p : Pot) (ss : List Str) : Str × Pot := (ss.getD (drawF p ss.length).1.toNat Str.empty, (drawF p ss.length).2)
theorem pick_get {p : Pot} (h : PotOk p) {ss : List Str} (hs : ss ≠ []) : ss[(drawF p ss.length).1.toNat]? = some (pickF p ss).1 ∧ (pickF p ss).1 ∈ ss ∧ PotOk (pickF p ss).2 := by
  have hp : 0 < ss.length := List.length_pos_iff.mpr hs
  obtain ⟨h1, h2, h3⟩ := drawF_ok h (m := ss.length) (by omega)
  have hl : (drawF p ss.length).1.toNat < ss.length := by omega
  have e : ss[(drawF p ss.length).1.toNat]? = some (pickF p ss).1 := by
    unfold pickF; rw [List.getD_eq_getElem?_getD, List.getElem?_eq_getElem hl]; rfl
  exact ⟨e, List.mem_of_getElem? e, h3⟩
def picks (ss : List Str) : Nat → Pot → List Str × Pot
  | 0, p => ([], p)
  | n + 1, p => ((picks ss n p).1 ++ [(pickF (picks ss n p).2 ss).1], (pickF (picks ss n p).2 ss).2)
theorem picks_ok {ss : List Str} (hs : ss ≠ []) {p : Pot} (h : PotOk p) : ∀ n, (picks ss n p).1.length = n ∧ (∀ w ∈ (picks ss n p).1, w ∈ ss) ∧ PotOk (picks ss n p).2
  | 0 => ⟨rfl, (fun w z => absurd z (by simp [picks])), h⟩
  | n + 1 => by
    obtain ⟨a, b, c⟩ := picks_ok hs h n
    obtain ⟨_, e, f⟩ := pick_get c hs
    refine ⟨?_, fun w z => ?_, f⟩
    · show ((picks ss n p).1 ++ [_]).length = n + 1
      rw [List.length_append, a]; rfl
    · rcases List.mem_append.mp z with z | z
      · exact b w z
      · rw [List.mem_singleton.mp z]; exact e
def drawnF (p : Pot) (ss : List Str) : (List Str × List Str) × Pot :=
  let d := drawF p 6
  let l := picks ss d.1.toNat d.2
  let e := drawF l.2 4
  let t := picks ss (1 + e.1).toNat e.2
  ((l.1, t.1), t.2)
theorem drawnF_ok {p : Pot} (h : PotOk p) {ss : List Str} (hs : ss ≠ []) : ((drawnF p ss).1.1.length ≤ 5 ∧ (drawnF p ss).1.2.length ≤ 4 ∧ 1 ≤ (drawnF p ss).1.2.length) ∧ (∀ w ∈ (drawnF p ss).1.1, w ∈ ss) ∧ (∀ w ∈ (drawnF p ss).1.2, w ∈ ss) ∧ PotOk (drawnF p ss).2 := by
  unfold drawnF
  obtain ⟨a1, a2, a3⟩ := drawF_ok h (m := 6) (by omega)
  obtain ⟨b1, b2, b3⟩ := picks_ok hs a3 (drawF p 6).1.toNat
  obtain ⟨c1, c2, c3⟩ := drawF_ok b3 (m := 4) (by omega)
  obtain ⟨d1, d2, d3⟩ := picks_ok hs c3 (1 + (drawF (picks ss (drawF p 6).1.toNat (drawF p 6).2).2 4).1).toNat
  simp only
  refine ⟨⟨?_, ?_, ?_⟩, b2, d2, d3⟩ <;> omega
def takeF : Nat → Pot → List Str → List Str × List Str × Pot
  | 0, p, left => ([], left, p)
  | n + 1, p, left =>
    let r := takeF n p left
    let d := drawF r.2.2 r.2.1.length
    (r.1 ++ [r.2.1.getD d.1.toNat Str.empty], r.2.1.eraseIdx d.1.toNat, d.2)
theorem takeF_ok {p : Pot} (h : PotOk p) {left : List Str} : ∀ n, n ≤ left.length → (takeF n p left).1.length = n ∧ (takeF n p left).2.1.length + n = left.length ∧ (∀ w ∈ (takeF n p left).1, w ∈ left) ∧ (∀ w ∈ (takeF n p left).2.1, w ∈ left) ∧ PotOk (takeF n p left).2.2
  | 0, _ => ⟨rfl, rfl, (fun w z => absurd z (by simp [takeF])), fun w z => z, h⟩
  | n + 1, hn => by
    obtain ⟨a, b, c, d, e⟩ := takeF_ok (left := left) h n (by omega)
    obtain ⟨f1, f2, f3⟩ := drawF_ok e (m := (takeF n p left).2.1.length) (by omega)
    have hl : (drawF (takeF n p left).2.2 (takeF n p left).2.1.length).1.toNat < (takeF n p left).2.1.length := by omega
    refine ⟨?_, ?_, fun w z => ?_, fun w z => ?_, f3⟩
    · show ((takeF n p left).1 ++ [_]).length = n + 1
      rw [List.length_append, a]; rfl
    · show (List.eraseIdx _ _).length + (n + 1) = _
      rw [List.length_eraseIdx_of_lt hl]; omega
    · rcases List.mem_append.mp z with z | z
      · exact c w z
      · rw [List.mem_singleton.mp z, List.getD_eq_getElem?_getD, List.getElem?_eq_getElem hl]
        exact d _ (List.getElem_mem hl)
    · exact d w (List.mem_of_mem_eraseIdx z)
abbrev sPot : Stmt := top 27
abbrev sDraw : Stmt := top 28
abbrev sPick : Stmt := top 29
abbrev sTaken : Stmt := top 30
abbrev sNormal : Stmt := top 31
abbrev sAt : Stmt := top 32
abbrev sLBehind : Stmt := top 33
abbrev sText : Stmt := top 34
abbrev sIs : Stmt := top 35
abbrev sNamesR : Stmt := top 36
abbrev sDrawn : Stmt := top 37
abbrev sRight : Stmt := top 38
abbrev sLaw : Stmt := top 39
section
variable {P : Program} {w : World} {K : PySem.W.Frag} {mg : Str → Option Value} {base : Heap} {f : Addr} {fd : FuncData} {C : Addr}
theorem scPot : FnScope ["_law_script", "_law_k", "_law_cell"] ["_law_script", "_law_k"] (defScope sPot) := ⟨rfl, rfl, rfl, by decide +kernel, rfl, by decide +kernel, by decide +kernel⟩
def cPot (ds : List D) (d : D) : Prop := ∃ (xs : List Int) (k : Int), ds = [.frl (xs.map .int), .int k] ∧ 0 ≤ k ∧ k < 1000 ∧ d = potD (potF xs k)
theorem ok_pot (F : Fun K "_law_pot" "_law_pot" sPot f fd) (M : Mg K mg) : FnG P w K mg base CX0 1 f fd ["_law_script", "_law_k"] (spO K cPot) := by
  refine fn_O F scPot (fun ds d h => by obtain ⟨_, _, rfl, _⟩ := h; rfl) (by decide) (fun cdv A outer s H E B ds d hr hio hC => ?_)
  obtain ⟨xs, k, rfl, hk, hk2, rfl⟩ := hC
  show DSs _ B [.dat (.frl (xs.map .int)), .dat (.int k), .un] _ _
  have hlen : ((xs.map D.int).length : Int) = xs.length := by rw [List.length_map]
  refine (dss_seq (ds_set (i := 2) (d := .int (cellF xs k)) scPot.nd (de_if (t_cmp (de_var 1 rfl) (e_blt M.len boot_len (da_cons (de_var 0 rfl) da_nil) f_len_frl) c_lt) (fun z1 => (de_is (e_blt M.abs boot_abs (da_cons (e_ix (de_var 0 rfl) (de_var 1 rfl) (i_frl (d := .int (xs.getD k.toNat 0)) (atI_pos hk ?_))) da_nil) f_abs) ?_)) (fun z1 => (de_is (e_bin (e_bin de_int (de_var 1 rfl) (b_mul ?_)) de_int b_add) ?_))) rfl (hio _))
    (dss_one (ds_retO (do_lst (da_cons (e_blt M.max boot_max (da_cons de_int (da_cons (e_bin (de_var 2 rfl) (e_bin de_int de_int (b_pow ?_)) b_sub) da_nil)) (f_max2 rfl)) (da_cons (e_bin (e_bin (e_bty M.int boot_int (da_cons (e_bin (e_bin (e_bin (e_bin (e_bty M.int boot_int (da_cons (de_var 2 rfl) da_nil) f_int) de_int (b_mod ?_)) de_int (b_mul ?_)) (e_bin de_int (de_var 1 rfl) (b_mul ?_)) b_add) de_int b_add) da_nil) f_int) de_int (b_mod ?_)) de_int b_add) da_nil))) ?_)))
  · have z := of_decide_eq_true z1
    rw [hlen] at z
    rw [List.getElem?_map, List.getD_eq_getElem?_getD, List.getElem?_eq_getElem (by omega)]; rfl
  · have z := of_decide_eq_true z1
    rw [hlen] at z
    unfold cellF; rw [if_pos z]
  · left; decide
  · have z := of_decide_eq_false z1
    rw [hlen] at z
    unfold cellF; rw [if_neg z]
  · exact ⟨by decide, by decide, by decide⟩
  · decide
  · right; decide
  · left; decide
  · decide
  · show D.lst _ = potD _
    rfl
theorem scDraw : FnScope ["_law_pot_here", "_law_many", "_law_digit"] ["_law_pot_here", "_law_many"] (defScope sDraw) := ⟨rfl, rfl, rfl, by decide +kernel, rfl, by decide +kernel, by decide +kernel⟩
def cDraw (p : D) (ds : List D) (d p' : D) : Prop := ∃ (q : Pot) (m : Int), p = potD q ∧ ds = [.int m] ∧ PotOk q ∧ 0 < m ∧ m.natAbs.log2 < 9000 ∧ d = .int (drawF q m).1 ∧ p' = potD (drawF q m).2
theorem ok_draw (F : Fun K "_law_draw" "_law_draw" sDraw f fd) (M : Mg K mg) : FnG P w K mg base CX0 1 f fd ["_law_pot_here", "_law_many"] (spI K cDraw) := by
  refine fn_I F scDraw (fun p ds d p' h => by obtain ⟨_, _, rfl, rfl, _⟩ := h; rfl) (by decide) (fun cdv A outer s H E B p ds d p' hr hio hC => ?_)
  obtain ⟨q, m, rfl, rfl, hq, hm, hm2, rfl, rfl⟩ := hC
  show DSs _ B [.own (.lst [.int q.1, .int q.2]), .dat (.int m), .un] _ _
  have hb : ∀ x : Int, (x % 2147483587) < 18446744073709551616 ∧ -18446744073709551616 < x % 2147483587 := fun x => by omega
  refine (dss_ifx (t_cmp (e_ixO (i := 0) rfl de_int rfl (d := .int q.1) rfl) de_int c_gt) (fun z1 => (dss_seq (ds_asg (e_blt M.divmod boot_divmod (da_cons (e_ixO (i := 0) rfl de_int rfl (d := .int q.1) rfl) (da_cons (de_var 1 rfl) da_nil)) (f_divmod (cdivp hm hm2))) (pg_tup rfl (pgs_cons (pg_sub (pv 0) pe_int set_list) (pgs_cons (pg_name (i := 2) scDraw.nd rfl (Or.inl rfl)) pgs_nil))) (gs_tup rfl (gss_cons (gs_sub (i := 0) (j := 0) rfl rfl) (gss_cons (gs_name (hio _ (by decide))) gss_nil))) rfl)
      (dss_one (ds_ret (de_var 2 rfl) ?_)))) (fun z1 =>
    (dss_seq (ds_asg (e_bin (e_bty M.int boot_int (da_cons (e_bin (e_bin (e_ixO (i := 0) rfl de_int rfl (d := .int q.2) rfl) de_int (b_mul ?_)) de_int b_add) da_nil) f_int) de_int (b_mod ?_)) (pg_sub (pv 0) pe_int set_list) (gs_sub (i := 0) (j := 1) rfl rfl) rfl)
    (dss_one (ds_ret (e_bin (e_bty M.int boot_int (da_cons (e_bin (e_bin (e_bty M.int boot_int (da_cons (e_bin (e_ixO (i := 0) rfl de_int rfl (d := .int ((q.2 * 39373 + 12227) % 2147483587)) rfl) (e_ixO (i := 0) rfl de_int rfl (d := .int ((q.2 * 39373 + 12227) % 2147483587)) rfl) (b_mul ?_)) da_nil) f_int) de_int (b_mod ?_)) de_int (b_fdiv ?_)) da_nil) f_int) (de_var 1 rfl) (b_mod hm)) ?_)))))
  · have z := of_decide_eq_true z1
    unfold drawF
    rw [if_pos z]
    exact ⟨rfl, rfl⟩
  · right; decide
  · decide
  · left; have := hb (q.2 * 39373 + 12227); exact ⟨this.2, this.1⟩
  · decide
  · decide
  · have z := of_decide_eq_false z1
    unfold drawF
    rw [if_neg z]
    exact ⟨rfl, rfl⟩
theorem scPick : FnScope ["_law_pot_here", "_law_some"] ["_law_pot_here", "_law_some"] (defScope sPick) := ⟨rfl, rfl, rfl, by decide +kernel, rfl, by decide +kernel, by decide +kernel⟩
def cPick (p : D) (ds : List D) (d p' : D) : Prop := ∃ (q : Pot) (ss : List Str), p = potD q ∧ ds = [Ls ss] ∧ PotOk q ∧ ss ≠ [] ∧ ss.length ≤ 1000 ∧ d = .str (pickF q ss).1 ∧ p' = potD (pickF q ss).2
theorem log_small {m : Int} (h0 : 0 ≤ m) (h : m ≤ 10 ^ 60) : m.natAbs.log2 < 9000 := by
  by_cases q : m = 0
  · subst q; decide
  · have : m.natAbs < 2 ^ 9000 := by
      have h1 : m.natAbs ≤ 10 ^ 60 := by omega
      exact Nat.lt_of_le_of_lt h1 (by decide +kernel)
    exact (Nat.log2_lt (by omega)).mpr this
theorem ok_pick (F : Fun K "_law_pick" "_law_pick" sPick f fd) (M : Mg K mg) (X1 : GFn P w K mg base 1 "_law_draw" (spI K cDraw)) : FnG P w K mg base CX0 2 f fd ["_law_pot_here", "_law_some"] (spI K cPick) := by
  refine fn_I F scPick (fun p ds d p' h => by obtain ⟨_, _, rfl, rfl, _⟩ := h; rfl) (by decide) (fun cdv A outer s H E B p ds d p' hr hio hC => ?_)
  obtain ⟨q, ss, rfl, rfl, hq, hs, hl, rfl, rfl⟩ := hC
  show DSs _ B [.own (potD q), .dat (Ls ss)] _ _
  have hp : 0 < ss.length := List.length_pos_iff.mpr hs
  obtain ⟨g1, g2, g3⟩ := pick_get hq hs
  obtain ⟨f1, f2, f3⟩ := drawF_ok hq (m := ss.length) (by omega)
  exact (dss_one (ds_ret (e_ix (de_var 1 rfl) (de_callI (i := 0) X1 hr (dai_cons 0 rfl (da_cons (e_blt M.len boot_len (da_cons (de_var 1 rfl) da_nil) f_len_Ls) da_nil)) rfl ⟨q, _, rfl, rfl, hq, by omega, log_small (by omega) (by omega), rfl, rfl⟩) (i_Ls (atI_pos f1 g1))) ⟨rfl, rfl⟩))
theorem scTaken : FnScope ["_law_pot_here", "_law_menu", "_law_many", "_law_turn", "_law_left", "_law_found"] ["_law_pot_here", "_law_menu", "_law_many"] (defScope sTaken) := ⟨rfl, rfl, rfl, by decide +kernel, rfl, by decide +kernel, by decide +kernel⟩
def cTaken (p : D) (ds : List D) (d p' : D) : Prop := ∃ (q : Pot) (ss : List Str) (n : Int), p = potD q ∧ ds = [Ls ss, .int n] ∧ PotOk q ∧ ss.length ≤ 1000 ∧ 0 ≤ n ∧ n ≤ ss.length ∧ d = Ls (takeF n.toNat q ss).1 ∧ p' = potD (takeF n.toNat q ss).2.2
theorem at_scDrawn : FnScope ["_law_pot_here", "_law_some", "_law_lead", "_law_turn"] ["_law_pot_here", "_law_some"] (defScope sDrawn) := ⟨rfl, rfl, rfl, by decide +kernel, rfl, by decide +kernel, by decide +kernel⟩
end
end K23

set_option maxRecDepth 100000
set_option maxHeartbeats 4000000
namespace K23
open PySem PySem.Spec PyProof.Rows L2 DL TL
section
variable {P : Program} {w : World} {K : PySem.W.Frag} {mg : Str → Option Value} {base : Heap} {f : Addr} {fd : FuncData} {C : Addr}
theorem erase_map {α β : Type} (g : α → β) : ∀ (l : List α) (i : Nat), (l.map g).eraseIdx i = (l.eraseIdx i).map g
  | [], _ => rfl
  | x :: l, 0 => rfl
  | x :: l, i + 1 => by show g x :: (l.map g).eraseIdx i = g x :: (l.eraseIdx i).map g; rw [erase_map g l i]
theorem seqIx {k : Int} {n : Nat} (h0 : 0 ≤ k) (h1 : k < n) : seqIndex? k n = some k.toNat := by
  unfold seqIndex?
  have e : (if k < 0 then k + (n : Int) else k) = k := if_neg (by omega)
  simp only [e]
  rw [if_pos]
  simp [h0]; omega
theorem ok_taken (F : Fun K "_law_taken" "_law_taken" sTaken f fd) (M : Mg K mg) (X1 : GFn P w K mg base 1 "_law_draw" (spI K cDraw)) : FnG P w K mg base CX0 2 f fd ["_law_pot_here", "_law_menu", "_law_many"] (spI K cTaken) := by
  refine fn_I F scTaken (fun p ds d p' h => by obtain ⟨_, _, _, rfl, rfl, _⟩ := h; rfl) (by decide) (fun cdv A outer s H E B p ds d p' hr hio hC => ?_)
  obtain ⟨q, ss, n, rfl, rfl, hq, hl, hn, hn2, rfl, rfl⟩ := hC
  show DSs _ B [.own (potD q), .dat (Ls ss), .dat (.int n), .un, .un, .un] _ _
  refine (dss_seq (ds_parO (i := 4) (j := 5) rfl scTaken.nd (o_bty M.list boot_list (da_cons (de_var 1 rfl) da_nil) f_list_lst) (fun B1 hB => do_lst da_nil) rfl (by decide) (fun p hp => ⟨hio _ (by decide) p hp, hio _ (by decide) p hp⟩))
    (dss_cons (M := fun r => ∃ a, r = [.own (potD (takeF n.toNat q ss).2.2), .dat (Ls ss), .dat (.int n), a, .own (Ls (takeF n.toNat q ss).2.1), .own (Ls (takeF n.toNat q ss).1)]) (ds_for PassesOwn.never rfl (di_range1 M.range (da_cons (de_var 2 rfl) da_nil) ?_ ?_) (pg_name (i := 3) scTaken.nd rfl (Or.inl rfl)) (fun k r => ∃ a, r = [.own (potD (takeF k q ss).2.2), .dat (Ls ss), .dat (.int n), a, .own (Ls (takeF k q ss).2.1), .own (Ls (takeF k q ss).1)]) ⟨_, rfl⟩ (fun B1 hB k d r hk hv => ?_) (fun r hv => ?_))
    (fun r hr' => ?_)))
  · exact Int.le_trans (by decide) hn
  · exact Int.lt_of_le_of_lt (show n ≤ 1000 by omega) (by decide)
  · obtain ⟨a, rfl⟩ := hv
    obtain ⟨rfl, hlt⟩ := range_get hk
    have hio1 : ∀ (i : Nat), i ≠ 0 → ∀ p ∈ B1.io, p.1 ≠ i := by rw [hB]; exact hio
    obtain ⟨t1, t2, t3, t4, t5⟩ := takeF_ok (left := ss) hq k (by omega)
    have hpos : (0 : Int) < ((takeF k q ss).2.1.map D.str).length := by rw [List.length_map]; omega
    obtain ⟨f1, f2, f3⟩ := drawF_ok t5 (m := ((takeF k q ss).2.1.map D.str).length) hpos
    have hsz : ((takeF k q ss).2.1.map D.str).length ≤ 1000 := by rw [List.length_map]; omega
    have eL : (((takeF k q ss).2.1.map D.str).length : Int) = (takeF k q ss).2.1.length := by rw [List.length_map]
    refine ⟨_, _, gd_name (hio1 _ (by decide)), (dss_one (ds_append (i := 5) (xs := (takeF k q ss).1.map .str) rfl (e_popO (i := 4) (xs := (takeF k q ss).2.1.map .str) (d := .str ((takeF k q ss).2.1.getD (drawF (takeF k q ss).2.2 (takeF k q ss).2.1.length).1.toNat Str.empty)) rfl (de_callI (i := 0) X1 hr (dai_cons 0 rfl (da_cons (e_lenO (i := 4) M.len rfl) da_nil)) rfl ⟨_, _, rfl, rfl, t5, hpos, log_small (by omega) (by omega), rfl, rfl⟩) rfl ?_ ?_ (seqIx f1 (by omega)) ?_) rfl ?_ ?_))⟩
    · exact Int.le_trans (by decide) f1
    · exact Int.lt_of_lt_of_le f2 (Int.le_trans (show _ ≤ (1000 : Int) by omega) (by decide))
    · rw [eL] at f1 f2 ⊢
      rw [List.getElem?_map, List.getD_eq_getElem?_getD, List.getElem?_eq_getElem (by omega)]; rfl
    · rw [List.length_map]; exact Nat.lt_of_le_of_lt (show _ ≤ 1000 by omega) (by decide)
    · refine ⟨.dat (.int (0 + k)), ?_⟩
      rw [eL]
      show [Slot.own _, _, _, _, Slot.own (.lst (List.eraseIdx (List.map D.str _) _)), Slot.own (.lst (List.map D.str _ ++ [D.str _]))] = _
      rw [erase_map, ← List.map_singleton (f := D.str), ← List.map_append]
      rfl
  · obtain ⟨a, rfl⟩ := hv
    rw [range_len, Int.sub_zero]
    exact ⟨_, rfl⟩
  · obtain ⟨a, rfl⟩ := hr'
    exact (dss_one (ds_ret (de_varF 5 rfl (hio _ (by decide))) ⟨rfl, rfl⟩))
def cDrawn (p : D) (ds : List D) (d p' : D) : Prop := ∃ (q : Pot) (ss : List Str), p = potD q ∧ ds = [Ls ss] ∧ PotOk q ∧ ss ≠ [] ∧ ss.length ≤ 1000 ∧ d = .tup [Ls (drawnF q ss).1.1, Ls (drawnF q ss).1.2] ∧ p' = potD (drawnF q ss).2
/-- [_law_pick(pot, some) for _ in range(n)] -/
theorem lc_picks {X : Cx} {B : Bs} {ρ ρ1 : Ro} {it : Expr} {n : Nat} {q : Pot} {ss : List Str} {j : Nat} {x : Str} {px p1 p2 p3 p4 : Pos} {scope : Scope} (X2 : GFn X.prog X.w X.K X.mg X.base 2 "_law_pick" (spI X.K cPick)) (hq : PotOk q) (hs : ss ≠ []) (hl : ss.length ≤ 1000) (hn : n ≤ 10)
    (hi : DI X B ρ (.Name x px) it (rangeD 0 n) ρ1) (R : Pot → Ro) (h0 : ρ1.set j .un = R q)
    (ok : BlkOk X.N X.env.scope scope [(x, j)]) (hg : InBlk X scope (fun Y => PG Y (.Name x px) (gName j))) (hv : ∀ p ∈ B.io, p.1 ≠ j)
    (hR : ∀ q', PotOk q' → ∀ (B1 : Bs) (k : Int), B1.io = B.io → InBlk X scope (fun Y => DE Y B1 ((R q').set j (.dat (.int k))) (.Call (.Name "_law_pick" p1) [.Name "_law_pot_here" p2, .Name "_law_some" p3] [] p4) (.str (pickF q' ss).1) ((R (pickF q' ss).2).set j (.dat (.int k)))))
    (hu : ∀ q', (R q').set j .un = R q') :
    LcD X B ρ (.Call (.Name "_law_pick" p1) [.Name "_law_pot_here" p2, .Name "_law_some" p3] [] p4) (.Name x px) it [] scope (Ls (picks ss n q).1) (R (picks ss n q).2) := by
  have e : (rangeD 0 (n : Int)).length = n := by rw [range_len]; omega
  have h := lcd (X := X) (B := B) (ρ := ρ) (ifs := []) hi ok hg (fun k => R (picks ss k q).2) (fun k => if k ≤ n then (picks ss k q).1.map .str else []) h0 rfl (by intro v hv' p hp; simp at hv'; subst hv'; exact hv p hp) (fun k => by
    split
    · rw [List.length_map, (picks_ok hs hq k).1]; exact Nat.lt_of_le_of_lt (show k ≤ 10 by omega) (by decide)
    · decide) (fun B1 hB k d hd => by
    obtain ⟨rfl, hlt⟩ := range_get hd
    have hk : k < n := by omega
    refine ⟨(R (picks ss k q).2).set j (.dat (.int (0 + k))), [j], gd_name (by rw [hB]; exact hv), by simp, true, _, fun _ _ _ _ _ => dts_nil, fun _ => ⟨_, _, hR _ (picks_ok hs hq k).2.2 B1 _ hB, ?_, ?_⟩, fun z => by cases z⟩
    · show (if k + 1 ≤ n then _ else _) = (if k ≤ n then _ else _) ++ [_]
      rw [if_pos (by omega), if_pos (by omega)]
      show List.map D.str ((picks ss k q).1 ++ [_]) = _
      rw [List.map_append]; rfl
    · show ((R _).set j _).set j .un = R _
      rw [List.set_set, hu]; rfl)
  rw [e] at h
  simp only [Nat.le_refl, if_true] at h
  exact h
theorem ok_drawn (F : Fun K "_law_drawn" "_law_drawn" sDrawn f fd) (M : Mg K mg) (X1 : GFn P w K mg base 1 "_law_draw" (spI K cDraw)) (X2 : GFn P w K mg base 2 "_law_pick" (spI K cPick)) : FnG P w K mg base CX0 3 f fd ["_law_pot_here", "_law_some"] (spI K cDrawn) := by
  refine fn_I F at_scDrawn (fun p ds d p' h => by obtain ⟨_, _, rfl, rfl, _⟩ := h; rfl) (by decide) (fun cdv A outer s H E B p ds d p' hr hio hC => ?_)
  obtain ⟨q, ss, rfl, rfl, hq, hs, hl, rfl, rfl⟩ := hC
  show DSs _ B [.own (potD q), .dat (Ls ss), .un, .un] _ _
  obtain ⟨a1, a2, a3⟩ := drawF_ok hq (m := 6) (by omega)
  obtain ⟨b1, b2, b3⟩ := picks_ok hs a3 (drawF q 6).1.toNat
  obtain ⟨c1, c2, c3⟩ := drawF_ok b3 (m := 4) (by omega)
  have e1 : (((drawF q 6).1.toNat : Nat) : Int) = (drawF q 6).1 := by omega
  have e2 : (((1 + (drawF (picks ss (drawF q 6).1.toNat (drawF q 6).2).2 4).1).toNat : Nat) : Int) = 1 + (drawF (picks ss (drawF q 6).1.toNat (drawF q 6).2).2 4).1 := by omega
  refine (dss_seq (LcD.set (i := 2) (lc_picks (n := (drawF q 6).1.toNat) (q := (drawF q 6).2) (j := 3) X2 a3 hs hl (by omega) (by rw [e1]; exact di_range1 M.range (da_cons (de_callI (i := 0) X1 (hr.mono (by decide)) (dai_cons 0 rfl (da_cons de_int da_nil)) rfl ⟨q, 6, rfl, rfl, hq, by decide, by decide, rfl, rfl⟩) da_nil) (Int.le_trans (by decide) a1) (Int.lt_trans a2 (by decide))) (fun q' => [.own (potD q'), .dat (Ls ss), .un, .un]) rfl (blkOk_by (N := ["_law_pot_here", "_law_some", "_law_lead", "_law_turn"]) (sc := defScope sDrawn) (by decide +kernel)) (fun _ _ _ _ _ => pg_name (i := 3) at_scDrawn.nd rfl (Or.inl rfl)) (hio _ (by decide)) ?_ (fun _ => rfl)) rfl at_scDrawn.nd rfl (hio _ (by decide)))
    (dss_one (ds_ret (de_tup (da_cons (de_var 2 rfl) (da_cons (DO.de (LcD.o (lc_picks (n := (1 + (drawF (picks ss (drawF q 6).1.toNat (drawF q 6).2).2 4).1).toNat) (q := (drawF (picks ss (drawF q 6).1.toNat (drawF q 6).2).2 4).2) (j := 3) X2 c3 hs hl (by omega) (by rw [e2]; exact di_range1 M.range (da_cons (e_bin de_int (de_callI (i := 0) X1 (hr.mono (by decide)) (dai_cons 0 rfl (da_cons de_int da_nil)) rfl ⟨_, 4, rfl, rfl, b3, by decide, by decide, rfl, rfl⟩) b_add) da_nil) (Int.le_trans (by decide) (show (0 : Int) ≤ 1 + _ by omega)) (Int.lt_of_lt_of_le (show 1 + _ < (6 : Int) by omega) (by decide))) (fun q' => [.own (potD q'), .dat (Ls ss), .dat (Ls (picks ss (drawF q 6).1.toNat (drawF q 6).2).1), .un]) rfl (blkOk_by (N := ["_law_pot_here", "_law_some", "_law_lead", "_law_turn"]) (sc := defScope sDrawn) (by decide +kernel)) (fun _ _ _ _ _ => pg_name (i := 3) at_scDrawn.nd rfl (Or.inl rfl)) (hio _ (by decide)) ?_ (fun _ => rfl)) rfl at_scDrawn.nd)) da_nil))) ⟨rfl, rfl⟩)))
  · exact fun q' hq' B1 k hB _ _ _ _ _ => de_callI (i := 0) X2 (hr.mono (by decide)) (dai_cons 0 rfl (da_cons (de_var 1 rfl) da_nil)) rfl ⟨q', ss, rfl, rfl, hq', hs, hl, rfl, rfl⟩
  · exact fun q' hq' B1 k hB _ _ _ _ _ => de_callI (i := 0) X2 (hr.mono (by decide)) (dai_cons 0 rfl (da_cons (de_var 1 rfl) da_nil)) rfl ⟨q', ss, rfl, rfl, hq', hs, hl, rfl, rfl⟩
end
end K23

set_option maxRecDepth 100000
set_option maxHeartbeats 4000000
namespace K23
open PySem PySem.Spec PyProof.Rows L2 DL TL
def noSizeL (t : List Str) (k : Nat) : Prop := ∀ j, j < k → FM.okSize t (j + 1) = false
theorem shortL_none {t : List Str} (h : noSizeL t t.length) : FM.shortT t = t := by
  rw [← FM.short_same]
  unfold FM.shortL
  rw [List.find?_eq_none.mpr]
  intro s hs
  obtain ⟨j, hj, rfl⟩ := List.mem_map.mp hs
  rw [h j (List.mem_range.mp hj)]; decide
theorem shortL_some {t : List Str} {k : Nat} (hk : k < t.length) (h : noSizeL t k) (ho : FM.okSize t (k + 1) = true) : FM.shortT t = t.take (k + 1) := by
  rw [← FM.short_same]
  unfold FM.shortL
  have e : ((List.range t.length).map (· + 1)).find? (FM.okSize t) = some (k + 1) := by
    rw [List.find?_map]; exact congrArg (Option.map (· + 1)) (find_range (p := fun j => FM.okSize t (j + 1)) t.length k hk (fun j hj => h j hj) ho)
  rw [e]
section
variable {P : Program} {w : World} {K : PySem.W.Frag} {mg : Str → Option Value} {base : Heap} {f : Addr} {fd : FuncData} {C : Addr}
theorem scNormal : FnScope ["_law_lead", "_law_turn", "_law_size", "_law_some", "_law_ahead"] ["_law_lead", "_law_turn"] (defScope sNormal) := ⟨rfl, rfl, rfl, by decide +kernel, rfl, by decide +kernel, by decide +kernel⟩
def cNormal (ds : List D) (d : D) : Prop := ∃ (l t : List Str), ds = [Ls l, Ls t] ∧ l.length ≤ 1000 ∧ t.length ≤ 1000 ∧ okS l ∧ okS t ∧ t ≠ [] ∧ d = .tup [Ts (FM.NF l t).1, Ts (FM.NF l t).2]
theorem ok_normal (F : Fun K "_law_normal" "_law_normal" sNormal f fd) (M : Mg K mg) : FnG P w K mg base CX0 1 f fd ["_law_lead", "_law_turn"] (spP K cNormal) := by
  refine fn_P F scNormal (fun ds d h => by obtain ⟨l, t, rfl, _⟩ := h; rfl) (by decide) (fun cdv A outer s H E B ds d hr hio hC => ?_)
  obtain ⟨l, t, rfl, hl, ht, okl, okt, hne, rfl⟩ := hC
  show DSs _ B [.dat (Ls l), .dat (Ls t), .un, .un, .un] _ _
  have hne1 := (FM.short_cases t hne).1
  refine (dss_seq (ds_par (i := 3) (j := 4) rfl scNormal.nd (da_cons (DO.de (o_bty M.list boot_list (da_cons (de_var 1 rfl) da_nil) f_list_lst)) (da_cons (DO.de (o_bty M.list boot_list (da_cons (de_var 0 rfl) da_nil) f_list_lst)) da_nil)) rfl (by decide) (fun p hp => ⟨hio _ p hp, hio _ p hp⟩))
    (dss_cons (M := fun r => ∃ a, r = [.dat (Ls l), .dat (Ls t), a, .dat (Ls (FM.shortT t)), .dat (Ls l)]) (ds_for PassesOwn.never rfl (di_range2 M.range (da_cons de_int (da_cons (e_bin (e_blt M.len boot_len (da_cons (de_var 1 rfl) da_nil) f_len_Ls) de_int b_add) da_nil)) ?_) (pg_name (i := 2) scNormal.nd rfl (Or.inl rfl))
      (fun k r => ∃ a, r = [.dat (Ls l), .dat (Ls t), a, .dat (Ls t), .dat (Ls l)] ∧ noSizeL t k) ⟨_, rfl, fun j hj => by omega⟩ (fun B1 hB k d r hk hv => ?_) (fun r hv => ?_))
    (fun r hr' => ?_)))
  · refine ⟨by decide, by decide, by omega, ?_⟩
    have : (t.length : Int) + 1 ≤ 1001 := by omega
    exact Int.lt_of_le_of_lt this (by decide)
  · obtain ⟨a, rfl, hno⟩ := hv
    obtain ⟨rfl, hlt⟩ := range_get hk
    have hio1 : ∀ (i : Nat), ∀ p ∈ B1.io, p.1 ≠ i := by rw [hB]; exact hio
    have hk1 : (1 + (k : Int)).toNat = k + 1 := by omega
    have hdiv : ((t.length : Int) / (1 + (k : Int))).toNat = t.length / (k + 1) := by
      rw [show (1 + (k : Int)) = ((k + 1 : Nat) : Int) by omega, ← Int.natCast_ediv, Int.toNat_natCast]
    have hdn : (0 : Int) ≤ (t.length : Int) / (1 + (k : Int)) := Int.ediv_nonneg (by omega) (by omega)
    have hdl : (t.length : Int) / (1 + (k : Int)) ≤ 1000 := by
      rw [show (1 + (k : Int)) = ((k + 1 : Nat) : Int) by omega, ← Int.natCast_ediv]; have := Nat.div_le_self t.length (k + 1); omega
    refine ⟨_, _, gd_name (hio1 _), ?_⟩
    refine (dss_one (ds_if (t_cmp (e_bin (DO.de (o_bty M.list boot_list (da_cons (e_sl (de_var 1 rfl) dp_no (dp_some (de_var 2 rfl)) s_Ls) da_nil) f_list_lst)) (e_bin (e_blt M.len boot_len (da_cons (de_var 1 rfl) da_nil) f_len_Ls) (de_var 2 rfl) (b_fdiv ?_)) (b_repS ?_ ?_ ?_)) (DO.de (o_bty M.list boot_list (da_cons (de_var 1 rfl) da_nil) f_list_lst)) (c_eqLs hr.r.units ?_ okt)) (fun z1 => (dss_seq (ds_set (i := 3) scNormal.nd (DO.de (o_bty M.list boot_list (da_cons (e_sl (de_var 1 rfl) dp_no (dp_some (de_var 2 rfl)) s_Ls) da_nil) f_list_lst)) rfl (hio1 _))
        (dss_one (ds_break ?_)))) (fun z1 => (dss_nil ?_))))
    · omega
    · exact Int.le_trans (by decide) hdn
    · exact Int.lt_of_le_of_lt hdl (by decide)
    · rw [cut_take _ _ (by omega), hk1, hdiv, List.length_take]
      have h1 : min (k + 1) t.length * (t.length / (k + 1)) ≤ (k + 1) * (t.length / (k + 1)) := Nat.mul_le_mul_right _ (Nat.min_le_left _ _)
      have h2 := Nat.mul_div_le t.length (k + 1)
      exact Nat.le_trans (show _ ≤ 1000 by omega) (by decide)
    · exact (okt.cut).rep _
    · have e := of_decide_eq_true z1
      rw [cut_take _ _ (by omega), hk1, hdiv] at e
      refine ⟨.dat (.int (1 + k)), ?_⟩
      show [_, _, _, Slot.dat (Ls (cutL t none (some (1 + (k : Int))))), _] = _
      rw [cut_take _ _ (by omega), hk1, shortL_some (by omega) hno (decide_eq_true e)]
    · refine ⟨_, rfl, fun j hj => ?_⟩
      by_cases q : j < k
      · exact hno j q
      · have : j = k := by omega
        subst this
        have e := of_decide_eq_false z1
        rw [cut_take _ _ (by omega), hk1, hdiv] at e
        unfold FM.okSize
        rw [decide_eq_false_iff_not]
        exact e
  · obtain ⟨a, rfl, hno⟩ := hv
    rw [range_len] at hno
    have : ((t.length : Int) + 1 - 1).toNat = t.length := by omega
    rw [this] at hno
    exact ⟨a, by rw [shortL_none hno]⟩
  · obtain ⟨a, rfl⟩ := hr'
    refine (dss_cons (M := fun r => ∃ a, r = [.dat (Ls l), .dat (Ls t), a, .dat (Ls (FM.NF l t).2), .dat (Ls (FM.NF l t).1)]) (ds_while (fun m r => ∃ l' t', r = [.dat (Ls l), .dat (Ls t), a, .dat (Ls t'), .dat (Ls l')] ∧ m = l'.length ∧ FM.nf l' t' = FM.NF l t ∧ okS l' ∧ okS t' ∧ t' ≠ [] ∧ l'.length ≤ 1000 ∧ t'.length ≤ 1000) PassesOwn.never l.length ⟨l, FM.shortT t, rfl, rfl, rfl, okl, okt.sub (mem_short t), hne1, hl, Nat.le_trans (len_short t) ht⟩ (fun m r hw => ?_))
      (fun r hr' => ?_))
    · obtain ⟨l', t', rfl, rfl, hnf, okl', okt', hne', hl', ht'⟩ := hw
      obtain ⟨wt, hwt, _⟩ := last_some hne'
      have hL : ∀ (z : (!decide (l' = [])) = true), ∃ wl, l'.getLast? = some wl := fun z => by
        have : l' ≠ [] := by simpa using z
        obtain ⟨wl, h1, _⟩ := last_some this
        exact ⟨wl, h1⟩
      refine ⟨(!decide (l' = []) && decide (l'.getLast? = some wt)), _, (DW.dt (dw_and (t_cmp (de_var 4 rfl) (de_lst da_nil) (c_neLs (b := []) hr.r.units okl' (fun _ z => by cases z))) (fun z1 => (dw_and1 ?_)))), fun z => (dss_seq (ds_set (i := 3) scNormal.nd (e_bin (e_sl (de_var 3 rfl) (dp_some (e_neg de_int)) dp_no s_Ls) (e_sl (de_var 3 rfl) dp_no (dp_some (e_neg de_int)) s_Ls) (b_catS ?_)) rfl (hio _))
        (dss_one (ds_set (i := 4) scNormal.nd (e_sl (de_var 4 rfl) dp_no (dp_some (e_neg de_int)) s_Ls) ?_ (hio _)))), fun z => ?_⟩
      · obtain ⟨wl, h1⟩ := hL z1
        have hne2 : l' ≠ [] := by simpa using z1
        refine dt_is (t_cmp (e_ix (de_var 4 rfl) (e_neg de_int) (i_Ls (w := wl) (by rw [atI_last hne2]; exact h1))) (e_ix (de_var 3 rfl) (e_neg de_int) (i_Ls (w := wt) (by rw [atI_last hne']; exact hwt))) c_eqS) ?_
        rw [h1]; simp
      · rw [cut_last, cut_init, List.length_drop, List.length_take]; exact Nat.le_trans (show t'.length - (t'.length - 1) + min (t'.length - 1) t'.length ≤ 2000 by omega) (by decide)
      · rw [Bool.and_eq_true] at z
        have hne2 : l' ≠ [] := by simpa using z.1
        have hp := List.length_pos_iff.mpr hne2
        have hlast : l'.getLast? = t'.getLast? := by rw [hwt]; exact of_decide_eq_true z.2
        refine ⟨l'.length - 1, by omega, cutL l' none (some (-1)), _, rfl, ?_, ?_, okl'.cut, okt'.cut.append okt'.cut, ?_, ?_, ?_⟩
        · rw [cut_init, List.length_take]; omega
        · rw [rot_cut, cut_init, ← hnf, ← List.dropLast_eq_take, FM.nf.eq_1 l' t', dif_pos ⟨hne2, hlast⟩]
        · rw [rot_cut]; exact FM.rot_ne hne'
        · rw [cut_init, List.length_take]; omega
        · rw [rot_cut, FM.rot_len]; exact ht'
      · refine ⟨a, ?_⟩
        show [_, _, _, Slot.dat (Ls t'), Slot.dat (Ls l')] = _
        rw [← hnf, FM.nf.eq_1 l' t', dif_neg]
        intro ⟨h1, h2⟩
        rw [Bool.and_eq_false_iff] at z
        rcases z with z | z
        · simp at z; exact h1 z
        · exact of_decide_eq_false z (by rw [h2, hwt])
    · obtain ⟨a, rfl⟩ := hr'
      exact (dss_one (ds_ret (de_tup (da_cons (e_bty M.tuple boot_tuple (da_cons (de_var 4 rfl) da_nil) f_tuple_lst) (da_cons (e_bty M.tuple boot_tuple (da_cons (de_var 3 rfl) da_nil) f_tuple_lst) da_nil))) rfl))
theorem scAt : FnScope ["_law_lead", "_law_turn", "_law_row"] ["_law_lead", "_law_turn", "_law_row"] (defScope sAt) := ⟨rfl, rfl, rfl, by decide +kernel, rfl, by decide +kernel, by decide +kernel⟩
def cAt (ds : List D) (d : D) : Prop := ∃ (l t : List Str) (p : Int), ds = [Ls l, Ls t, .int p] ∧ t ≠ [] ∧ 1 ≤ p ∧ d = .str (sq l t (p - 1).toNat)
theorem ok_at (F : Fun K "_law_at" "_law_at" sAt f fd) (M : Mg K mg) : FnG P w K mg base CX0 1 f fd ["_law_lead", "_law_turn", "_law_row"] (spP K cAt) := by
  refine fn_P F scAt (fun ds d h => by obtain ⟨_, _, _, rfl, _⟩ := h; rfl) (by decide) (fun cdv A outer s H E B ds d hr hio hC => ?_)
  obtain ⟨l, t, p, rfl, ht, hp, rfl⟩ := hC
  show DSs _ B [.dat (Ls l), .dat (Ls t), .dat (.int p)] _ _
  have hpos : 0 < t.length := List.length_pos_iff.mpr ht
  have hs := sq_some (L := l) ht (p - 1).toNat
  refine (dss_one (ds_ret (de_if (t_cmp (de_var 2 rfl) (e_blt M.len boot_len (da_cons (de_var 0 rfl) da_nil) f_len_Ls) c_le) (fun z1 => (e_ix (de_var 0 rfl) (e_bin (de_var 2 rfl) de_int b_sub) (i_Ls (atI_pos ?_ ?_)))) (fun z1 => (e_ix (de_var 1 rfl) (e_bin (e_bty M.int boot_int (da_cons (e_bin (e_bin (de_var 2 rfl) de_int b_sub) (e_blt M.len boot_len (da_cons (de_var 0 rfl) da_nil) f_len_Ls) b_sub) da_nil) f_int) (e_blt M.len boot_len (da_cons (de_var 1 rfl) da_nil) f_len_Ls) (b_mod ?_)) (i_Ls (atI_pos ?_ ?_))))) rfl))
  · omega
  · have := of_decide_eq_true z1
    rw [← hs]; unfold FM.seq; rw [if_pos (by omega)]
  · omega
  · exact Int.emod_nonneg _ (by omega)
  · have := of_decide_eq_false z1
    rw [← hs]; unfold FM.seq FM.cyc; rw [if_neg (by omega)]
    congr 1
    rw [show p - 1 - (l.length : Int) = (((p - 1).toNat - l.length : Nat) : Int) by omega, ← Int.natCast_emod, Int.toNat_natCast]
theorem scLBehind : FnScope ["_law_lead", "_law_turn", "_law_many", "_law_at_here"] ["_law_lead", "_law_turn", "_law_many"] (defScope sLBehind) := ⟨rfl, rfl, rfl, by decide +kernel, rfl, by decide +kernel, by decide +kernel⟩
def cLBehind (ds : List D) (d : D) : Prop := ∃ (l t : List Str) (n : Int), ds = [Ls l, Ls t, .int n] ∧ Vf l t ∧ 0 ≤ n ∧ d = .tup [Ts (behF l t n).1, Ts (behF l t n).2]
theorem ok_lbehind (F : Fun K "_law_behind" "_law_behind" sLBehind f fd) (M : Mg K mg) (X1 : GFn P w K mg base 1 "_law_normal" (spP K cNormal)) : FnG P w K mg base CX0 2 f fd ["_law_lead", "_law_turn", "_law_many"] (spP K cLBehind) := by
  refine fn_P F scLBehind (fun ds d h => by obtain ⟨_, _, _, rfl, _⟩ := h; rfl) (by decide) (fun cdv A outer s H E B ds d hr hio hC => ?_)
  obtain ⟨l, t, n, rfl, v, hn, rfl⟩ := hC
  show DSs _ B [.dat (Ls l), .dat (Ls t), .dat (.int n), .un] _ _
  have hpos : 0 < t.length := List.length_pos_iff.mpr v.ne
  have dv := drop_vf v n.toNat
  have sv := spin_vf v ((n - l.length) % t.length).toNat
  refine (dss_ifx (t_cmp (de_var 2 rfl) (e_blt M.len boot_len (da_cons (de_var 0 rfl) da_nil) f_len_Ls) c_le) (fun z1 => (dss_one (ds_ret (de_call X1 hr (da_cons (e_sl (de_var 0 rfl) (dp_some (de_var 2 rfl)) dp_no s_Ls) (da_cons (de_var 1 rfl) da_nil)) ⟨_, t, rfl, ?_, v.lT, v.nL.ok.cut, v.nT.ok, v.ne, rfl⟩) ?_))) (fun z1 =>
    (dss_seq (ds_set (i := 3) scLBehind.nd (e_bin (e_bty M.int boot_int (da_cons (e_bin (de_var 2 rfl) (e_blt M.len boot_len (da_cons (de_var 0 rfl) da_nil) f_len_Ls) b_sub) da_nil) f_int) (e_blt M.len boot_len (da_cons (de_var 1 rfl) da_nil) f_len_Ls) (b_mod ?_)) rfl (hio _))
    (dss_one (ds_ret (de_call X1 hr (da_cons (de_lst da_nil) (da_cons (e_bin (e_sl (de_var 1 rfl) (dp_some (de_var 3 rfl)) dp_no s_Ls) (e_sl (de_var 1 rfl) dp_no (dp_some (de_var 3 rfl)) s_Ls) (b_catS ?_)) da_nil)) ⟨[], _, rfl, by simp, ?_, (fun _ z => absurd z (by simp)), v.nT.ok.cut.append v.nT.ok.cut, ?_, rfl⟩) ?_)))))
  · rw [cut_drop _ _ hn]; exact dv.lL
  · have := of_decide_eq_true z1
    show D.tup _ = D.tup _
    unfold behF
    rw [if_pos this, cut_drop _ _ hn]
  · omega
  all_goals rw [cut_drop _ _ (Int.emod_nonneg _ (by omega)), cut_take _ _ (Int.emod_nonneg _ (by omega))]
  · have := v.lT
    rw [List.length_drop, List.length_take]
    exact Nat.le_trans (show _ ≤ 2000 by omega) (by decide)
  · exact sv.lT
  · exact sv.ne
  · have := of_decide_eq_false z1
    show D.tup _ = D.tup _
    unfold behF
    rw [if_neg this]; rfl
theorem scText : FnScope ["_law_lead", "_law_turn"] ["_law_lead", "_law_turn"] (defScope sText) := ⟨rfl, rfl, rfl, by decide +kernel, rfl, by decide +kernel, by decide +kernel⟩
def cText (ds : List D) (d : D) : Prop := ∃ (l t : List Str), ds = [Ts l, Ts t] ∧ Vf l t ∧ d = .str (fillText l t)
theorem ok_text (F : Fun K "_law_text" "_law_text" sText f fd) (M : Mg K mg) : FnG P w K mg base CX0 1 f fd ["_law_lead", "_law_turn"] (spP K cText) := by
  refine fn_P F scText (fun ds d h => by obtain ⟨_, _, rfl, _⟩ := h; rfl) (by decide) (fun cdv A outer s H E B ds d hr hio hC => ?_)
  obtain ⟨l, t, rfl, v, rfl⟩ := hC
  show DSs _ B [.dat (Ts l), .dat (Ts t)] _ _
  have hj := v.nT.join
  have hh := head_len v.nL
  have hs := v.nL.sum
  have h1 := v.lL
  have h2 := v.lT
  have e1 : ("(" : Str).length = 1 := rfl
  have e2 : (")" : Str).length = 1 := rfl
  refine (dss_one (ds_ret (e_bin (e_bin (e_bin (de_bm (d := .str (headText l)) (pe_bm PySem.F.plainAttrs_str PySem.F.slot_str_join PySem.F.type_str_join mtr_a de_str (da_cons (de_is (d1 := Ls (l ++ [("" : Str)])) (e_bin (DO.de (o_bty M.list boot_list (da_cons (de_var 0 rfl) da_nil) f_list_tup)) (de_lst (da_cons de_str da_nil)) (b_cat ?_)) ?_) da_nil)) (m_join_lst ?_)) de_str (b_addS ?_)) (de_bm (pe_bm PySem.F.plainAttrs_str PySem.F.slot_str_join PySem.F.type_str_join mtr_a de_str (da_cons (de_var 1 rfl) da_nil)) (m_join_tup ?_)) (b_addS ?_)) de_str (b_addS ?_)) ?_))
  · rw [List.length_map]; exact Nat.le_trans (show l.length + 1 ≤ 1001 by omega) (by decide)
  · show D.lst _ = D.lst _
    rw [List.map_append]; rfl
  · rw [List.map_append, List.sum_append, List.length_append]
    show _ + (0 + 0) + (l.length + 1) * 1 ≤ _
    omega
  · exact Nat.le_trans (show _ ≤ 10000 by omega) (by decide)
  · have := v.nT.sum
    show _ + t.length * 1 ≤ _
    omega
  · rw [Str.length_append]; exact Nat.le_trans (show _ ≤ 20000 by omega) (by decide)
  · rw [Str.length_append, Str.length_append]; exact Nat.le_trans (show _ ≤ 20000 by omega) (by decide)
  · show D.str _ = D.str _
    rw [text_split]
end
end K23

set_option maxRecDepth 100000
set_option maxHeartbeats 4000000
namespace K23
open PySem PySem.Spec PyProof.Rows L2 DL TL
abbrev PairL (a b : List Str) : D := .lst [Ts a, Ts b]
theorem pL_pl (a b : List Str) : (PairL a b).pl = true := by simp [D.pl, D.pls, pls_strs]
theorem pL_show (a b : List Str) : (PairL a b).py.showable = true := by simp [D.py, D.pys, pys_strs, PyData.showable, PyData.showableAll, showable_strs]
theorem pL_dict (a b : List Str) : (PairL a b).py.hasDict = false := by simp [D.py, D.pys, pys_strs, PyData.hasDict, PyData.hasDictAll, hasDict_strs]
theorem pL_depth (a b : List Str) : (PairL a b).py.depth < 60 := by simp [D.py, D.pys, pys_strs, PyData.depth, PyData.depthAll, depth_strs]
theorem pL_len {a b : List Str} (v : Vf a b) : (PairL a b).py.shown.length ≤ 60000 := by
  have h1 := shT_len v.nL (Nat.le_trans v.lL (by decide))
  have h2 := shT_len v.nT (Nat.le_trans v.lT (by decide))
  have e : (PairL a b).py.shown = listText [shT a, shT b] := by simp [shT, D.py, D.pys, PyData.shown, PyData.shownAll]
  rw [e]
  have h3 := listText_len_le [shT a, shT b]
  simp at h3
  omega
section
variable {P : Program} {w : World} {K : PySem.W.Frag} {mg : Str → Option Value} {base : Heap} {f : Addr} {fd : FuncData} {C : Addr}
theorem scIs : FnScope ["_law_fill", "_law_normal_here", "_law_text_here"] ["_law_fill", "_law_normal_here"] (defScope sIs) := ⟨rfl, rfl, rfl, by decide +kernel, rfl, by decide +kernel, by decide +kernel⟩
def cIs (C : Addr) (ds : List D) (d : D) : Prop := ∃ L T, ds = [fillD C L T, .tup [Ts L, Ts T]] ∧ Vf L T ∧ FM.NF L T = (L, T) ∧ d = .bl true
theorem ok_is (F : Fun K "_law_is" "_law_is" sIs f fd) (M : Mg K mg) (T : TF K mg C) (X1 : PFn P w K mg base 1 C "lead" (spP K (cLead C))) (X2 : PFn P w K mg base 1 C "turn" (spP K (cTurn C))) (X3 : GFn P w K mg base 1 "_law_text" (spP K cText)) (X4 : SFn P w K mg base 1 C "__str__" (spP K (cStr C))) (X5 : SFn P w K mg base 1 C "__repr__" (spP K (cRepr C))) (X6 : GFn P w K mg base 5 "read_fill" (spP K (cRead C))) (X7 : EFn P w K mg base 1 C (spP K (cEq C))) : FnG P w K mg base CX0 6 f fd ["_law_fill", "_law_normal_here"] (spP K (cIs C)) := by
  refine fn_P F scIs (fun ds d h => by obtain ⟨_, _, rfl, _⟩ := h; rfl) (by decide) (fun cdv A outer s H E B ds d hr hio hC => ?_)
  obtain ⟨l, t, rfl, v, hnf, rfl⟩ := hC
  show DSs _ B [.dat (fillD C l t), .dat (.tup [Ts l, Ts t]), .un] _ _
  have h1 := shT_len v.nL (Nat.le_trans v.lL (by decide))
  have h2 := shT_len v.nT (Nat.le_trans v.lT (by decide))
  have h1' : (Ts l).py.shown.length ≤ 25000 := h1
  have h2' : (Ts t).py.shown.length ≤ 25000 := h2
  have hp : (PairL l t).py.shown.length ≤ sizeLine := Nat.le_trans (pL_len v) (by decide)
  have e1 : ("Fill(" : Str).length = 5 := rfl
  have e2 : (", " : Str).length = 2 := rfl
  have e3 : (")" : Str).length = 1 := rfl
  refine (dss_ifx (t_cmp (e_blt M.repr boot_repr (da_cons (de_lst (da_cons (de_prop T.own.cl X1 (hr.mono (by decide)) (de_var 0 rfl) ⟨l, t, rfl, rfl⟩) (da_cons (de_prop T.own.cl X2 (hr.mono (by decide)) (de_var 0 rfl) ⟨l, t, rfl, rfl⟩) da_nil))) da_nil) (f_repr hr.g hr.r.units rfl (pL_pl l t) (pL_show l t) (pL_dict l t) (pL_depth l t) hp)) (e_blt M.repr boot_repr (da_cons (de_lst (da_cons (e_ix (de_var 1 rfl) de_int (i_tup (d := Ts l) rfl)) (da_cons (e_ix (de_var 1 rfl) de_int (i_tup (d := Ts t) rfl)) da_nil))) da_nil) (f_repr hr.g hr.r.units rfl (pL_pl l t) (pL_show l t) (pL_dict l t) (pL_depth l t) hp)) c_neS) (fun z1 => (dss_one (ds_ret de_bl (by simp at z1)))) (fun z1 =>
    (dss_seq (ds_set (i := 2) scIs.nd (de_call X3 (hr.mono (by decide)) (da_cons (e_ix (de_var 1 rfl) de_int (i_tup (d := Ts l) rfl)) (da_cons (e_ix (de_var 1 rfl) de_int (i_tup (d := Ts t) rfl)) da_nil)) ⟨l, t, rfl, v, rfl⟩) rfl (hio _))
    (dss_ifx (DW.dt (dw_or (t_cmp (e_bty M.str boot_str (da_cons (de_var 0 rfl) da_nil) (f_strOwn (w := fillText l t) X4 (hr.mono (by decide)) ⟨l, t, rfl, v, rfl⟩)) (de_var 2 rfl) c_neS) (fun z3 => (dw_or1 (t_cmp (e_blt M.repr boot_repr (da_cons (de_var 0 rfl) da_nil) (f_reprOwn (w := fillRepr l t) X5 (hr.mono (by decide)) ⟨l, t, rfl, v, rfl⟩)) (e_bin (e_bin (e_bin (e_bin de_str (e_blt M.repr boot_repr (da_cons (e_ix (de_var 1 rfl) de_int (i_tup (d := Ts l) rfl)) da_nil) (f_repr hr.g hr.r.units rfl (sT_pl l) (sT_show l) (sT_dict l) (sT_depth l) (Nat.le_trans h1 (by decide)))) (b_addS ?_)) de_str (b_addS ?_)) (e_blt M.repr boot_repr (da_cons (e_ix (de_var 1 rfl) de_int (i_tup (d := Ts t) rfl)) da_nil) (f_repr hr.g hr.r.units rfl (sT_pl t) (sT_show t) (sT_dict t) (sT_depth t) (Nat.le_trans h2 (by decide)))) (b_addS ?_)) de_str (b_addS ?_)) c_neS))))) (fun z2 => (dss_one (ds_ret de_bl ?_))) (fun z2 =>
    (dss_one (ds_ret (e_cmp (de_call X6 (hr.mono (by decide)) (da_cons (de_var 2 rfl) da_nil) ⟨l, t, rfl, v, hnf, rfl⟩) (de_var 0 rfl) (c_eqOwn (r := true) X7 (hr.mono (by decide)) ⟨T.own.cl, T.nf⟩ ⟨l, t, _, rfl, v.nL.ok, v.nT.ok, .inl ⟨l, t, rfl, v.nL.ok, v.nT.ok, by simp⟩⟩)) rfl)))))))
  · exact Nat.le_trans (show _ ≤ 30000 by omega) (by decide)
  · rw [Str.length_append]; exact Nat.le_trans (show _ ≤ 30000 by omega) (by decide)
  · rw [Str.length_append, Str.length_append]; exact Nat.le_trans (show _ ≤ 60000 by omega) (by decide)
  · rw [Str.length_append, Str.length_append, Str.length_append]; exact Nat.le_trans (show _ ≤ 60000 by omega) (by decide)
  · exfalso
    rw [Bool.or_eq_true] at z2
    rcases z2 with z2 | z2
    · simp at z2
    · rw [Bool.not_eq_true'] at z2
      refine of_decide_eq_false z2 ?_
      apply ext_tl
      unfold fillRepr
      simp only [catS, tl_append]
      show _ = _
      rfl
end
end K23

set_option maxRecDepth 100000
set_option maxHeartbeats 4000000
namespace K23
open PySem PySem.Spec PyProof.Rows L2 DL TL
theorem sq_nf {L T : List Str} (h : T ≠ []) (k : Nat) : sq (FM.NF L T).1 (FM.NF L T).2 k = sq L T k := by
  unfold sq; rw [(FM.NF_props L T h).1 k]
theorem sq_mem {L T : List Str} (h : T ≠ []) (k : Nat) : sq L T k ∈ L ++ T := by
  have e := sq_some (L := L) h k
  unfold FM.seq FM.cyc at e
  split at e
  · exact List.mem_append_left _ (List.mem_of_getElem? e)
  · exact List.mem_append_right _ (List.mem_of_getElem? e)
theorem first_nm {L T : List Str} (v : Vf L T) (n : Nat) : Nm (firstN L T n) := fun w h => by
  obtain ⟨k, _, rfl⟩ := List.mem_map.mp h
  exact (v.nL.app v.nT) _ (sq_mem v.ne k)
theorem first_len (L T : List Str) (n : Nat) : (firstN L T n).length = n := by unfold firstN; simp
theorem first_nf {L T : List Str} (h : T ≠ []) (n : Nat) : firstN (FM.NF L T).1 (FM.NF L T).2 n = firstN L T n := by
  unfold firstN; exact List.map_congr_left fun k _ => sq_nf h k
theorem range_first (l t : List Str) (n : Int) : D.lst ((rangeD 0 n).map fun d => match d with | .int k => .str (sq l t k.toNat) | d => d) = Ls (firstN l t n.toNat) := by
  unfold rangeD firstN
  rw [List.map_map, Int.sub_zero]
  show D.lst _ = D.lst _
  rw [List.map_map]
  congr 1
  apply List.map_congr_left
  intro k _
  show D.str _ = D.str _
  congr 2
  omega
def namesF (q : Pot) : Pot := (drawF (drawF (drawF (drawF q (10 ^ 60)).2 40).2 12).2 (10 ^ 60)).2
/-- a row that may be asked for -/
def RowD (d : D) : Prop := ∃ r : Int, d = .int r ∧ 1 ≤ r ∧ r ≤ 10 ^ 60
def CntD (d : D) : Prop := ∃ r : Int, d = .int r ∧ 0 ≤ r ∧ r ≤ 40
def ManyD (d : D) : Prop := ∃ r : Int, d = .int r ∧ 0 ≤ r ∧ r ≤ 10 ^ 60
section
variable {P : Program} {w : World} {K : PySem.W.Frag} {mg : Str → Option Value} {base : Heap} {f : Addr} {fd : FuncData} {C : Addr}
theorem scNamesR : FnScope ["_law_pot_here", "_law_fill", "_law_lead", "_law_turn", "_law_rows", "_law_row", "_law_many", "_law_told"] ["_law_pot_here", "_law_fill", "_law_lead", "_law_turn"] (defScope sNamesR) := ⟨rfl, rfl, rfl, by decide +kernel, rfl, by decide +kernel, by decide +kernel⟩
def cNamesR (C : Addr) (p : D) (ds : List D) (d p' : D) : Prop := ∃ (q : Pot) (l t : List Str), p = potD q ∧ ds = [fillD C (FM.NF l t).1 (FM.NF l t).2, Ls l, Ls t] ∧ PotOk q ∧ Vf l t ∧ d = .bl true ∧ p' = potD (namesF q)
theorem e18 : CPow 10 60 := ⟨by decide, by decide, by decide⟩
theorem ok_namesr (F : Fun K "_law_names_right" "_law_names_right" sNamesR f fd) (M : Mg K mg) (T : TF K mg C) (X1 : GFn P w K mg base 1 "_law_draw" (spI K cDraw)) (X2 : MFn P w K mg base 3 C "kind_at" (spP K (cKindAt C))) (X3 : GFn P w K mg base 1 "_law_at" (spP K cAt)) (X4 : MFn P w K mg base 3 C "first" (spO K (cFirst C))) (X5 : GFn P w K mg base 6 "_law_is" (spP K (cIs C))) (X6 : MFn P w K mg base 5 C "behind" (spP K (cBehind C))) (X7 : GFn P w K mg base 2 "_law_behind" (spP K cLBehind)) :
    FnG P w K mg base CX0 7 f fd ["_law_pot_here", "_law_fill", "_law_lead", "_law_turn"] (spI K (cNamesR C)) := by
  refine fn_I F scNamesR (fun p ds d p' h => by obtain ⟨_, _, _, rfl, rfl, _⟩ := h; rfl) (by decide) (fun cdv A outer s H E B p ds d p' hr hio hC => ?_)
  obtain ⟨q, l, t, rfl, rfl, hq, v, rfl, rfl⟩ := hC
  show DSs _ B [.own (potD q), .dat (fillD C (FM.NF l t).1 (FM.NF l t).2), .dat (Ls l), .dat (Ls t), .un, .un, .un, .un] _ _
  obtain ⟨a1, a2, a3⟩ := drawF_ok hq (m := 10 ^ 60) (by decide)
  obtain ⟨b1, b2, b3⟩ := drawF_ok a3 (m := 40) (by decide)
  obtain ⟨c1, c2, c3⟩ := drawF_ok b3 (m := 12) (by decide)
  obtain ⟨g1, g2, g3⟩ := drawF_ok c3 (m := 10 ^ 60) (by decide)
  have vn := v.nf
  have fN : ∀ n : Nat, n ≤ 2000 → (Ls (firstN l t n)).py.shown.length ≤ sizeLine := fun n hn => Nat.le_trans (shL_len (first_nm v n) (by rw [first_len]; exact hn)) (by decide)
  -- [_law_at(lead, turn, row + 1) for row in range(n)]
  refine (dss_cons (M := fun r => ∃ rs, r = [.own (potD (drawF q (10 ^ 60)).2), .dat (fillD C (FM.NF l t).1 (FM.NF l t).2), .dat (Ls l), .dat (Ls t), .dat (.lst rs), .un, .un, .un] ∧ ∀ d ∈ rs, RowD d)
      (ds_set (i := 4) scNamesR.nd (e_bin (DO.de (LcD.o (lcd_map (i := 5) (fun d => match d with | .int k => .int (k + 1) | d => d) (di_range1 M.range (da_cons de_int da_nil) (by decide) (by decide)) (blkOk_by (N := ["_law_pot_here", "_law_fill", "_law_lead", "_law_turn", "_law_rows", "_law_row", "_law_many", "_law_told"]) (sc := defScope sNamesR) (by decide +kernel)) (fun _ _ _ _ _ => pg_name (i := 5) scNamesR.nd rfl (Or.inl rfl)) (hio _ (by decide)) (by rw [range_len]; decide) (fun B1 hB d hd => by
        obtain ⟨k, hk, rfl⟩ := List.mem_map.mp hd
        exact fun _ _ _ _ _ => e_bin (de_var 5 rfl) de_int b_add)) rfl scNamesR.nd)) (de_lst (da_cons (e_bin de_int de_int (b_pow e18)) (da_cons (e_bin (e_bin de_int de_int (b_pow e18)) de_int b_sub) (da_cons (e_bin de_int (de_callI (i := 0) X1 (hr.mono (by decide)) (dai_cons 0 rfl (da_cons (e_bin de_int de_int (b_pow e18)) da_nil)) rfl ⟨q, 10 ^ 60, rfl, rfl, hq, by decide, log_small (by decide) (by decide), rfl, rfl⟩) b_add) da_nil)))) (b_cat ?_)) ?_ (hio _ (by decide)))
    (fun r hr1 => ?_))
  · rw [List.length_map, range_len]; show 12 + 3 ≤ sizeLine; decide
  · refine ⟨_, rfl, fun d hd => ?_⟩
    rcases List.mem_append.mp hd with hd | hd
    · obtain ⟨y, hy, rfl⟩ := List.mem_map.mp hd
      obtain ⟨k, hk, rfl⟩ := List.mem_map.mp hy
      have hk := List.mem_range.mp hk
      exact ⟨_, rfl, by omega, Int.le_trans (show 0 + (k : Int) + 1 ≤ 13 by omega) (by decide)⟩
    · have : ∀ y ∈ [D.int (10 ^ 60), D.int (10 ^ 60 - 1), D.int (1 + (drawF q (10 ^ 60)).1)], RowD y := by
        intro y hy
        simp only [List.mem_cons, List.not_mem_nil, or_false] at hy
        rcases hy with rfl | rfl | rfl
        · exact ⟨_, rfl, by decide, by decide⟩
        · exact ⟨_, rfl, by decide, by decide⟩
        · exact ⟨_, rfl, by omega, by omega⟩
      exact this d hd
  obtain ⟨rs, rfl, hrs⟩ := hr1
  -- the rows
  refine (dss_cons (M := fun r => ∃ a, r = [.own (potD (drawF q (10 ^ 60)).2), .dat (fillD C (FM.NF l t).1 (FM.NF l t).2), .dat (Ls l), .dat (Ls t), .dat (.lst rs), a, .un, .un])
      (ds_for PassesOwn.never rfl (di_any (de_var 4 rfl) (.lst _)) (pg_name (i := 5) scNamesR.nd rfl (Or.inl rfl)) (fun _ r => ∃ a, r = [.own (potD (drawF q (10 ^ 60)).2), .dat (fillD C (FM.NF l t).1 (FM.NF l t).2), .dat (Ls l), .dat (Ls t), .dat (.lst rs), a, .un, .un]) ⟨_, rfl⟩ (fun B1 hB k d r hk hv => ?_) (fun r hv => hv))
    (fun r hr1 => ?_))
  · obtain ⟨a, rfl⟩ := hv
    obtain ⟨i, rfl, i1, i2⟩ := hrs d (List.mem_of_getElem? hk)
    have hio1 : ∀ (i : Nat), i ≠ 0 → ∀ p ∈ B1.io, p.1 ≠ i := by rw [hB]; exact hio
    refine ⟨_, _, gd_name (hio1 _ (by decide)), (dss_one (ds_if (t_cmp (de_meth T.own.cl X2 (hr.mono (by decide)) (de_var 1 rfl) rfl (da_cons (de_var 5 rfl) da_nil) ⟨_, _, i, rfl, vn.ne, i1, i2, rfl⟩) (de_call X3 (hr.mono (by decide)) (da_cons (de_var 2 rfl) (da_cons (de_var 3 rfl) (da_cons (de_var 5 rfl) da_nil))) ⟨l, t, i, rfl, v.ne, i1, rfl⟩) c_neS) (fun z1 => (dss_one (ds_ret de_bl ?_))) (fun z1 => (dss_nil ⟨_, rfl⟩))))⟩
    rw [sq_nf v.ne] at z1; simp at z1
  obtain ⟨a, rfl⟩ := hr1
  -- the first names
  refine (dss_cons (M := fun r => ∃ a b, r = [.own (potD (drawF (drawF q (10 ^ 60)).2 40).2), .dat (fillD C (FM.NF l t).1 (FM.NF l t).2), .dat (Ls l), .dat (Ls t), .dat (.lst rs), a, b, .un])
      (ds_for PassesOwn.never rfl (di_any (de_lst (da_cons de_int (da_cons de_int (da_cons de_int (da_cons (de_callI (i := 0) X1 (hr.mono (by decide)) (dai_cons 0 rfl (da_cons de_int da_nil)) rfl ⟨_, 40, rfl, rfl, a3, by decide, by decide, rfl, rfl⟩) da_nil))))) (.lst _)) (pg_name (i := 6) scNamesR.nd rfl (Or.inl rfl)) (fun _ r => ∃ a b, r = [.own (potD (drawF (drawF q (10 ^ 60)).2 40).2), .dat (fillD C (FM.NF l t).1 (FM.NF l t).2), .dat (Ls l), .dat (Ls t), .dat (.lst rs), a, b, .un]) ⟨_, _, rfl⟩ (fun B1 hB k d r hk hv => ?_) (fun r hv => hv))
    (fun r hr1 => ?_))
  · obtain ⟨a, b, rfl⟩ := hv
    have hio1 : ∀ (i : Nat), i ≠ 0 → ∀ p ∈ B1.io, p.1 ≠ i := by rw [hB]; exact hio
    have hd : CntD d := by
      have : ∀ y ∈ [D.int 0, D.int 1, D.int 12, D.int (drawF (drawF q (10 ^ 60)).2 40).1], CntD y := by
        intro y hy
        simp only [List.mem_cons, List.not_mem_nil, or_false] at hy
        rcases hy with rfl | rfl | rfl | rfl
        · exact ⟨_, rfl, by decide, by decide⟩
        · exact ⟨_, rfl, by decide, by decide⟩
        · exact ⟨_, rfl, by decide, by decide⟩
        · exact ⟨_, rfl, b1, by omega⟩
      exact this d (List.mem_of_getElem? hk)
    obtain ⟨i, rfl, i1, i2⟩ := hd
    refine ⟨_, _, gd_name (hio1 _ (by decide)), (dss_one (ds_if (t_cmp (e_blt M.repr boot_repr (da_cons (de_is (d1 := Ls (firstN l t i.toNat)) (DO.de (do_meth T.own.cl X4 (hr.mono (by decide)) (de_var 1 rfl) rfl (da_cons (de_var 6 rfl) da_nil) ⟨_, _, i, rfl, vn.ne, i1, by omega, rfl⟩)) (by rw [first_nf v.ne])) da_nil) (f_repr hr.g hr.r.units rfl (sL_pl _) (sL_show _) (sL_dict _) (sL_depth _) (fN _ (by omega)))) (e_blt M.repr boot_repr (da_cons (DO.de (do_is (d1 := Ls (firstN l t i.toNat)) (LcD.o (lcd_map (i := 5) (fun d => match d with | .int k => .str (sq l t k.toNat) | d => d) (di_range1 M.range (da_cons (de_var 6 rfl) da_nil) (Int.le_trans (by decide) i1) (Int.lt_of_le_of_lt i2 (by decide))) (blkOk_by (N := ["_law_pot_here", "_law_fill", "_law_lead", "_law_turn", "_law_rows", "_law_row", "_law_many", "_law_told"]) (sc := defScope sNamesR) (by decide +kernel)) (fun _ _ _ _ _ => pg_name (i := 5) scNamesR.nd rfl (Or.inl rfl)) (hio1 _ (by decide)) ?_ (fun B2 hB2 d hd => by
        obtain ⟨k, hk, rfl⟩ := List.mem_map.mp hd
        exact fun _ _ _ _ _ => de_is (de_call X3 (hr.mono (by decide)) (da_cons (de_var 2 rfl) (da_cons (de_var 3 rfl) (da_cons (e_bin (de_var 5 rfl) de_int b_add) da_nil))) ⟨l, t, _, rfl, v.ne, by omega, rfl⟩) (by show D.str (sq l t (0 + (k : Int) + 1 - 1).toNat) = D.str (sq l t (0 + (k : Int)).toNat); congr 2; omega))) rfl scNamesR.nd) ?_)) da_nil) (f_repr hr.g hr.r.units rfl (sL_pl _) (sL_show _) (sL_dict _) (sL_depth _) (fN _ (by omega)))) c_neS) (fun z2 => (dss_one (ds_ret de_bl (by simp at z2)))) (fun z2 => (dss_nil ⟨_, _, rfl⟩))))⟩
    · rw [range_len]; exact Nat.lt_of_le_of_lt (show (i - 0).toNat ≤ 40 by omega) (by decide)
    · exact range_first l t i
  obtain ⟨a', b', rfl⟩ := hr1
  -- a list that is handed out may be changed
  refine (dss_seq (ds_setO (i := 7) scNamesR.nd (do_meth T.own.cl X4 (hr.mono (by decide)) (de_var 1 rfl) rfl (da_cons de_int da_nil) ⟨_, _, 5, rfl, vn.ne, by decide, by decide, rfl⟩) rfl (hio _ (by decide)))
    (dss_seq (ds_append (i := 7) rfl de_str rfl ?_ rfl) ?_))
  · rw [List.length_map, first_len]; decide
  -- behind
  refine (dss_cons (M := fun r => ∃ a b c, r = [.own (potD (namesF q)), .dat (fillD C (FM.NF l t).1 (FM.NF l t).2), .dat (Ls l), .dat (Ls t), .dat (.lst rs), a, b, c])
      (ds_for PassesOwn.never rfl (di_any (de_lst (da_cons de_int (da_cons de_int (da_cons (e_blt M.len boot_len (da_cons (de_var 2 rfl) da_nil) f_len_Ls) (da_cons (e_bin (e_blt M.len boot_len (da_cons (de_var 2 rfl) da_nil) f_len_Ls) de_int b_add) (da_cons (de_callI (i := 0) X1 (hr.mono (by decide)) (dai_cons 0 rfl (da_cons de_int da_nil)) rfl ⟨_, 12, rfl, rfl, b3, by decide, by decide, rfl, rfl⟩) (da_cons (e_bin de_int de_int (b_pow e18)) (da_cons (de_callI (i := 0) X1 (hr.mono (by decide)) (dai_cons 0 rfl (da_cons (e_bin de_int de_int (b_pow e18)) da_nil)) rfl ⟨_, 10 ^ 60, rfl, rfl, c3, by decide, log_small (by decide) (by decide), rfl, rfl⟩) da_nil)))))))) (.lst _)) (pg_name (i := 6) scNamesR.nd rfl (Or.inl rfl)) (fun _ r => ∃ a b c, r = [.own (potD (namesF q)), .dat (fillD C (FM.NF l t).1 (FM.NF l t).2), .dat (Ls l), .dat (Ls t), .dat (.lst rs), a, b, c]) ⟨_, _, _, rfl⟩ (fun B1 hB k d r hk hv => ?_) (fun r hv => hv))
    (fun r hr1 => ?_))
  · obtain ⟨a, b, c, rfl⟩ := hv
    have hio1 : ∀ (i : Nat), i ≠ 0 → ∀ p ∈ B1.io, p.1 ≠ i := by rw [hB]; exact hio
    have hlen := v.lL
    have hd : ManyD d := by
      have : ∀ y ∈ [D.int 0, D.int 1, D.int l.length, D.int (l.length + 1), D.int (drawF (drawF (drawF q (10 ^ 60)).2 40).2 12).1, D.int (10 ^ 60), D.int (drawF (drawF (drawF (drawF q (10 ^ 60)).2 40).2 12).2 (10 ^ 60)).1], ManyD y := by
        intro y hy
        simp only [List.mem_cons, List.not_mem_nil, or_false] at hy
        rcases hy with rfl | rfl | rfl | rfl | rfl | rfl | rfl
        · exact ⟨_, rfl, by decide, by decide⟩
        · exact ⟨_, rfl, by decide, by decide⟩
        · exact ⟨_, rfl, by omega, by omega⟩
        · exact ⟨_, rfl, by omega, by omega⟩
        · exact ⟨_, rfl, c1, by omega⟩
        · exact ⟨_, rfl, by decide, by decide⟩
        · exact ⟨_, rfl, g1, by omega⟩
      exact this d (List.mem_of_getElem? hk)
    obtain ⟨i, rfl, i1, i2⟩ := hd
    have hb : FM.NF (behF l t i).1 (behF l t i).2 = ((behF l t i).1, (behF l t i).2) := by
      unfold behF; split
      · exact FM.canon_self v.ne
      · exact FM.canon_self (spin_ne v.ne _)
    refine ⟨_, _, gd_name (hio1 _ (by decide)), (dss_one (ds_if (dt_not (dt_val (de_call X5 (hr.mono (by decide)) (da_cons (de_meth T.own.cl X6 (hr.mono (by decide)) (de_var 1 rfl) rfl (da_cons (de_var 6 rfl) da_nil) ⟨_, _, i, rfl, vn, i1, i2, by rw [beh_same v i1]⟩) (da_cons (de_call X7 (hr.mono (by decide)) (da_cons (de_var 2 rfl) (da_cons (de_var 3 rfl) (da_cons (de_var 6 rfl) da_nil))) ⟨l, t, i, rfl, v, i1, rfl⟩) da_nil)) ⟨_, _, rfl, beh_vf v i, hb, rfl⟩))) (fun z3 => by cases z3) (fun z3 => (dss_nil ⟨_, _, _, rfl⟩))))⟩
  obtain ⟨a'', b'', c'', rfl⟩ := hr1
  refine (dss_one (ds_ret (e_cmp (e_blt M.repr boot_repr (da_cons (de_is (d1 := Ls (firstN l t 5)) (DO.de (do_meth T.own.cl X4 (hr.mono (by decide)) (de_var 1 rfl) rfl (da_cons de_int da_nil) ⟨_, _, 5, rfl, vn.ne, by decide, by decide, rfl⟩)) (by show Ls (firstN _ _ 5) = _; rw [first_nf v.ne])) da_nil) (f_repr hr.g hr.r.units rfl (sL_pl _) (sL_show _) (sL_dict _) (sL_depth _) (fN _ (by decide)))) (e_blt M.repr boot_repr (da_cons (DO.de (do_is (d1 := Ls (firstN l t 5)) (LcD.o (lcd_map (i := 5) (fun d => match d with | .int k => .str (sq l t k.toNat) | d => d) (di_range1 M.range (da_cons de_int da_nil) (by decide) (by decide)) (blkOk_by (N := ["_law_pot_here", "_law_fill", "_law_lead", "_law_turn", "_law_rows", "_law_row", "_law_many", "_law_told"]) (sc := defScope sNamesR) (by decide +kernel)) (fun _ _ _ _ _ => pg_name (i := 5) scNamesR.nd rfl (Or.inl rfl)) (hio _ (by decide)) ?_ (fun B2 hB2 d hd => by
        obtain ⟨k, hk, rfl⟩ := List.mem_map.mp hd
        exact fun _ _ _ _ _ => de_is (de_call X3 (hr.mono (by decide)) (da_cons (de_var 2 rfl) (da_cons (de_var 3 rfl) (da_cons (e_bin (de_var 5 rfl) de_int b_add) da_nil))) ⟨l, t, _, rfl, v.ne, by omega, rfl⟩) (by show D.str (sq l t (0 + (k : Int) + 1 - 1).toNat) = D.str (sq l t (0 + (k : Int)).toNat); congr 2; omega))) rfl scNamesR.nd) ?_)) da_nil) (f_repr hr.g hr.r.units rfl (sL_pl _) (sL_show _) (sL_dict _) (sL_depth _) (fN _ (by decide)))) c_eqS) ⟨by simp, rfl⟩))
  · rw [range_len]; decide
  · exact range_first l t 5
end
end K23

set_option maxRecDepth 100000
set_option maxHeartbeats 4000000
namespace K23
open PySem PySem.Spec PyProof.Rows L2 DL TL
/-! ### the same sequence, written otherwise -/
theorem seq_app {l t : List Str} (m : List Str) {t' : List Str} (ht : t ≠ []) (hm : ∀ k, k < m.length → m[k]? = FM.cyc t k) (hc : ∀ k, FM.cyc t' k = FM.cyc t (k + m.length)) (k : Nat) : FM.seq (l ++ m) t' k = FM.seq l t k := by
  unfold FM.seq
  rw [List.length_append]
  by_cases h1 : k < l.length
  · rw [if_pos (by omega), if_pos h1, List.getElem?_append_left h1]
  · rw [if_neg h1]
    by_cases h2 : k < l.length + m.length
    · rw [if_pos h2, List.getElem?_append_right (by omega), hm _ (by omega)]
    · rw [if_neg h2, hc]; congr 1; omega
theorem cyc_lt {t : List Str} {k : Nat} (h : k < t.length) : FM.cyc t k = t[k]? := by unfold FM.cyc; rw [Nat.mod_eq_of_lt h]
theorem cyc_rep {t : List Str} (ht : t ≠ []) {n : Nat} (hn : 0 < n) (k : Nat) : FM.cyc (DL.repL n t) k = FM.cyc t k := by
  have hp : 0 < t.length := List.length_pos_iff.mpr ht
  unfold FM.cyc
  rw [DL.repL_len, rep_same, FM.repL_get _ _ _ (Nat.mod_lt _ (Nat.mul_pos hn hp)), Nat.mod_mod_of_dvd _ (Nat.dvd_mul_left _ _)]
theorem rep_ne {t : List Str} (ht : t ≠ []) {n : Nat} (hn : 0 < n) : DL.repL n t ≠ [] := fun z => by
  have := congrArg List.length z
  rw [DL.repL_len] at this
  have hp : 0 < t.length := List.length_pos_iff.mpr ht
  have := Nat.mul_pos hn hp
  simp at *; omega
theorem get_rep {t : List Str} {n k : Nat} (h : k < (DL.repL n t).length) : (DL.repL n t)[k]? = FM.cyc t k := by
  rw [DL.repL_len] at h
  rw [rep_same, FM.repL_get _ _ _ h]; rfl
theorem mem_rep {t : List Str} {n : Nat} : ∀ w ∈ DL.repL n t, w ∈ t := fun w z => by
  unfold DL.repL at z
  obtain ⟨l, h1, h2⟩ := List.mem_flatten.mp z
  rw [(List.mem_replicate.mp h1).2] at h2; exact h2
/-- small fills -/
structure Sf (l t : List Str) : Prop where
  ne : t ≠ []
  nL : Nm l
  nT : Nm t
  lL : l.length ≤ 5
  lT : t.length ≤ 4
theorem Sf.vf {l t : List Str} (s : Sf l t) : Vf l t := ⟨s.ne, s.nL, s.nT, Nat.le_trans s.lL (by decide), Nat.le_trans s.lT (by decide)⟩
/-- a writing of the fill of l, t -/
def Wr (l t : List Str) (d : D) : Prop := ∃ v u a b, d = .tup [v, u] ∧ Sq v a ∧ Sq u b ∧ Vf a b ∧ FM.NF a b = FM.NF l t
section
variable {l t : List Str} (s : Sf l t)
include s
theorem wr1 : Wr l t (.tup [Ls l, Ls (DL.repL 3 t)]) := by
  have hl := s.lT
  refine ⟨_, _, l, _, rfl, .inl rfl, .inl rfl, ⟨rep_ne s.ne (by decide), s.nL, s.nT.sub mem_rep, s.vf.lL, by rw [DL.repL_len]; omega⟩, FM.canon (rep_ne s.ne (by decide)) s.ne fun k => ?_⟩
  unfold FM.seq; rw [cyc_rep s.ne (by decide)]
theorem wr2 : Wr l t (.tup [Ls (l ++ t), Ls t]) := by
  have hl := s.lT; have hl2 := s.lL
  refine ⟨_, _, _, t, rfl, .inl rfl, .inl rfl, ⟨s.ne, s.nL.app s.nT, s.nT, by rw [List.length_append]; omega, s.vf.lT⟩, FM.canon s.ne s.ne fun k => ?_⟩
  exact seq_app t s.ne (fun k h => (cyc_lt h).symm) (fun k => (FM.cyc_add_len t k).symm) k
theorem t1_len : (t.take 1).length = 1 := by
  have hp : 0 < t.length := List.length_pos_iff.mpr s.ne
  rw [List.length_take]; omega
theorem wr3 : Wr l t (.tup [Ls (l ++ t.take 1), Ls (spin t 1)]) := by
  have hl := s.lT; have hl2 := s.lL
  have hp : 0 < t.length := List.length_pos_iff.mpr s.ne
  have h1 := t1_len s
  refine ⟨_, _, _, _, rfl, .inl rfl, .inl rfl, ⟨spin_ne s.ne 1, s.nL.app (s.nT.sub fun _ z => List.mem_of_mem_take z), s.nT.sub spin_mem, by rw [List.length_append]; omega, by rw [spin_len]; omega⟩, FM.canon (spin_ne s.ne 1) s.ne fun k => ?_⟩
  refine seq_app (t.take 1) s.ne (fun k h => ?_) (fun k => ?_) k
  · rw [cyc_lt (by omega), List.getElem?_take, if_pos (by omega)]
  · rw [spin_cyc s.ne (by omega), h1]
theorem wr4 : Wr l t (.tup [Ts (FM.NF l t).1, Ts (FM.NF l t).2]) := ⟨_, _, _, _, rfl, .inr rfl, .inr rfl, s.vf.nf, FM.canon_self s.ne⟩
theorem wr5 : Wr l t (.tup [Ls (l ++ DL.repL 2 t ++ t.take 1), Ls (DL.repL 2 (spin t 1))]) := by
  have hl := s.lT; have hl2 := s.lL
  have hp : 0 < t.length := List.length_pos_iff.mpr s.ne
  have h1 := t1_len s
  have hr : (DL.repL 2 t).length = 2 * t.length := DL.repL_len 2 t
  refine ⟨_, _, _, _, rfl, .inl rfl, .inl rfl, ⟨rep_ne (spin_ne s.ne 1) (by decide), (s.nL.app (s.nT.sub mem_rep)).app (s.nT.sub fun _ z => List.mem_of_mem_take z), (s.nT.sub spin_mem).sub mem_rep, by rw [List.length_append, List.length_append]; omega, by rw [DL.repL_len, spin_len]; omega⟩, FM.canon (rep_ne (spin_ne s.ne 1) (by decide)) s.ne fun k => ?_⟩
  rw [List.append_assoc]
  refine seq_app (DL.repL 2 t ++ t.take 1) s.ne (fun k h => ?_) (fun k => ?_) k
  · rw [List.length_append] at h
    by_cases z : k < (DL.repL 2 t).length
    · rw [List.getElem?_append_left z, get_rep z]
    · rw [List.getElem?_append_right (by omega), List.getElem?_take, if_pos (by omega)]
      have : k = 2 * t.length := by omega
      subst this
      rw [hr, Nat.sub_self]
      unfold FM.cyc; rw [Nat.mul_mod_left]
  · rw [cyc_rep (spin_ne s.ne 1) (by decide), spin_cyc s.ne (by omega), List.length_append, h1, hr]
    have := FM.cyc_add_mul t (k + 1) 2
    rw [← this]; congr 1; omega
end
theorem nf_twice {t : List Str} (ht : t ≠ []) : FM.NF t t = FM.NF [] t := FM.canon ht ht fun k => by
  have := seq_app (l := []) t ht (fun k h => (cyc_lt h).symm) (fun k => (FM.cyc_add_len t k).symm) k
  rw [List.nil_append] at this; exact this
theorem pair_eqv (a b a' b' : List Str) : PyData.eqv (D.tup [Ts a, Ts b]).py (D.tup [Ts a', Ts b']).py = (decide (a = a') && decide (b = b')) := by
  simp [D.py, D.pys, pys_strs, PyData.eqv, PyData.eqvAll, eqv_strs]
theorem pairL_eqv (a b : List Str) : PyData.eqv (D.lst [Ls a, Ls b]).py (D.lst [Ls a, Ls b]).py = true := by
  simp [D.py, D.pys, pys_strs, PyData.eqv, PyData.eqvAll, eqv_strs]
theorem pair_pl (a b : List Str) : (D.tup [Ts a, Ts b]).pl = true := by simp [D.pl, D.pls, pls_strs]
theorem pairL_pl (a b : List Str) : (D.lst [Ls a, Ls b]).pl = true := by simp [D.pl, D.pls, pls_strs]
theorem pair_shaped {a b : List Str} (ha : okS a) (hb : okS b) : SeqAt.shaped (D.tup [Ts a, Ts b]).py = true := by
  simp [D.py, D.pys, pys_strs, SeqAt.shaped, PyData.canLay0, PyData.canLayAll0, lay_strs ha, lay_strs hb, PyData.depth, PyData.depthAll, depth_strs]
theorem pairL_shaped {a b : List Str} (ha : okS a) (hb : okS b) : SeqAt.shaped (D.lst [Ls a, Ls b]).py = true := by
  simp [D.py, D.pys, pys_strs, SeqAt.shaped, PyData.canLay0, PyData.canLayAll0, lay_strs ha, lay_strs hb, PyData.depth, PyData.depthAll, depth_strs]
theorem c_eqPair {X : Cx} (hu : X.A.units + 64 < cLine) {a b a' b' : List Str} (ha : okS a) (hb : okS b) (ha' : okS a') (hb' : okS b') : CmpD X .Eq (.tup [Ts a, Ts b]) (.tup [Ts a', Ts b']) (.bl (decide (a = a') && decide (b = b'))) := by
  have h := c_eqD (X := X) (d1 := .tup [Ts a, Ts b]) (d2 := .tup [Ts a', Ts b']) hu (pair_pl a b) (pair_pl a' b') (pair_shaped ha hb) (pair_shaped ha' hb')
  rw [pair_eqv] at h; exact h
theorem c_neSelf {X : Cx} (hu : X.A.units + 64 < cLine) {a b : List Str} (ha : okS a) (hb : okS b) : CmpD X .NotEq (.lst [Ls a, Ls b]) (.lst [Ls a, Ls b]) (.bl false) := by
  have h := c_neD (X := X) (d1 := .lst [Ls a, Ls b]) (d2 := .lst [Ls a, Ls b]) hu (pairL_pl a b) (pairL_pl a b) (pairL_shaped ha hb) (pairL_shaped ha hb)
  rw [pairL_eqv] at h; exact h
theorem c_neB {X : Cx} (hu : X.A.units + 64 < cLine) {a : Bool} : CmpD X .NotEq (.bl a) (.bl a) (.bl false) := by
  have h := c_neD (X := X) (d1 := .bl a) (d2 := .bl a) hu rfl rfl (by cases a <;> decide) (by cases a <;> decide)
  have e : PyData.eqv (D.bl a).py (D.bl a).py = true := by cases a <;> rfl
  rw [e] at h; exact h
def someF (q : Pot) : List Str × Pot := let r := takeF (1 + (drawF q 3).1).toNat (drawF q 3).2 menu; (r.1, r.2.2)
def rightF (q : Pot) : Pot := (drawnF (namesF (drawnF (someF q).2 (someF q).1).2) (someF q).1).2
theorem someF_ok {q : Pot} (h : PotOk q) : (someF q).1 ≠ [] ∧ (someF q).1.length ≤ 3 ∧ Nm (someF q).1 ∧ PotOk (someF q).2 := by
  obtain ⟨a1, a2, a3⟩ := drawF_ok h (m := 3) (by omega)
  have hm : menu.length = 8 := rfl
  obtain ⟨b1, b2, b3, b4, b5⟩ := takeF_ok (left := menu) a3 (1 + (drawF q 3).1).toNat (by omega)
  refine ⟨fun z => ?_, ?_, b3, b5⟩
  · have z : (takeF (1 + (drawF q 3).1).toNat (drawF q 3).2 menu).1 = [] := z
    rw [z] at b1; simp at b1; omega
  · show (takeF _ _ _).1.length ≤ 3
    omega
theorem namesF_ok {q : Pot} (hq : PotOk q) : PotOk (namesF q) := by
  obtain ⟨a1, a2, a3⟩ := drawF_ok hq (m := 10 ^ 60) (by decide)
  obtain ⟨b1, b2, b3⟩ := drawF_ok a3 (m := 40) (by decide)
  obtain ⟨c1, c2, c3⟩ := drawF_ok b3 (m := 12) (by decide)
  exact (drawF_ok c3 (m := 10 ^ 60) (by decide)).2.2
theorem drawn_sf {q : Pot} (hq : PotOk q) {ss : List Str} (hs : ss ≠ []) (hn : Nm ss) : Sf (drawnF q ss).1.1 (drawnF q ss).1.2 := by
  obtain ⟨⟨h1, h2, h3⟩, h4, h5, h6⟩ := drawnF_ok hq hs
  exact ⟨fun z => by rw [z] at h3; simp at h3, hn.sub h4, hn.sub h5, h1, h2⟩
theorem rightF_ok {q : Pot} (hq : PotOk q) : PotOk (rightF q) := by
  obtain ⟨s1, s2, s3, s4⟩ := someF_ok hq
  exact (drawnF_ok (namesF_ok (drawnF_ok s4 s1).2.2.2) s1).2.2.2
end K23

set_option maxRecDepth 100000
set_option maxHeartbeats 4000000
namespace K23
open PySem PySem.Spec PyProof.Rows L2 DL TL
theorem dt_notT {X : Cx} {B : Bs} {ρ ρ' : Ro} {e : Expr} {pos : Pos} (h : DT X B ρ e true ρ') : DT X B ρ (.UnaryOp .Not e pos) false ρ' := dt_not h
theorem noL_strs : ∀ ss : List Str, D.noLs (ss.map .str) = true
  | [] => by simp [D.noLs]
  | w :: ss => by simp [D.noLs, D.noL, noL_strs ss]
theorem fill_noL (C : Addr) (a b : List Str) : (fillD C a b).noL = true := by simp [fillD, D.noL, D.noLf, noL_strs]
section
variable {P : Program} {w : World} {K : PySem.W.Frag} {mg : Str → Option Value} {base : Heap} {f : Addr} {fd : FuncData} {C : Addr}
theorem scRight : FnScope ["_law_pot_here", "_law_menu", "_law_some", "_law_normal_here", "_law_passed", "_law_writings", "_law_lead", "_law_turn", "_law_fill", "_law_same", "_law_ahead", "_law_again", "_law_other"] ["_law_pot_here"] (defScope sRight) := ⟨rfl, rfl, rfl, by decide +kernel, rfl, by decide +kernel, by decide +kernel⟩
def cRight (p : D) (ds : List D) (d p' : D) : Prop := ∃ (q : Pot), p = potD q ∧ ds = [] ∧ PotOk q ∧ d = .bl true ∧ p' = potD (rightF q)
theorem ok_right (F : Fun K "_law_right" "_law_right" sRight f fd) (M : Mg K mg) (T : TF K mg C) (X1 : GFn P w K mg base 1 "_law_draw" (spI K cDraw)) (X2 : GFn P w K mg base 2 "_law_taken" (spI K cTaken)) (X3 : GFn P w K mg base 3 "_law_drawn" (spI K cDrawn)) (X4 : GFn P w K mg base 1 "_law_normal" (spP K cNormal)) (X5 : CFn P w K mg base 3 "Fill" C (spI K (cInit C))) (X6 : GFn P w K mg base 6 "_law_is" (spP K (cIs C))) (X7 : GFn P w K mg base 7 "_law_names_right" (spI K (cNamesR C))) (X8 : EFn P w K mg base 1 C (spP K (cEq C))) :
    FnG P w K mg base CX0 8 f fd ["_law_pot_here"] (spI K cRight) := by
  refine fn_I F scRight (fun p ds d p' h => by obtain ⟨_, rfl, rfl, _⟩ := h; rfl) (by decide) (fun cdv A outer s H E B p ds d p' hr hio hC => ?_)
  obtain ⟨q, rfl, rfl, hq, rfl, rfl⟩ := hC
  show DSs _ B [.own (potD q), .un, .un, .un, .un, .un, .un, .un, .un, .un, .un, .un, .un] _ _
  obtain ⟨a1, a2, a3⟩ := drawF_ok hq (m := 3) (by omega)
  obtain ⟨s1, s2, s3, s4⟩ := someF_ok hq
  have hs1000 : (someF q).1.length ≤ 1000 := Nat.le_trans s2 (by decide)
  have sf := drawn_sf s4 s1 s3
  have pk := (drawnF_ok s4 s1).2.2.2
  have pk2 := namesF_ok pk
  have sg := drawn_sf pk2 s1 s3
  have lg := sg.lL
  have lgt := sg.lT
  generalize hl : (drawnF (someF q).2 (someF q).1).1.1 = l at sf
  generalize ht : (drawnF (someF q).2 (someF q).1).1.2 = t at sf
  generalize hg : (drawnF (namesF (drawnF (someF q).2 (someF q).1).2) (someF q).1).1.1 = g at sg lg
  generalize hh : (drawnF (namesF (drawnF (someF q).2 (someF q).1).2) (someF q).1).1.2 = h at sg lgt
  have v := sf.vf
  have vg := sg.vf
  have hl5 := sf.lL
  have ht4 := sf.lT
  have vn := v.nf
  have hnf : FM.NF (FM.NF l t).1 (FM.NF l t).2 = ((FM.NF l t).1, (FM.NF l t).2) := FM.canon_self v.ne
  have v0 : Vf [] t := ⟨v.ne, (fun _ z => absurd z (by simp)), v.nT, by simp, v.lT⟩
  have v2 : Vf t t := ⟨v.ne, v.nT, v.nT, v.lT, v.lT⟩
  have vlg : Vf (l ++ g) h := ⟨sg.ne, sf.nL.app sg.nL, sg.nT, by rw [List.length_append]; omega, vg.lT⟩
  refine (dss_seq (ds_set (i := 1) (d := Ls menu) scRight.nd (de_lst (da_cons de_str (da_cons de_str (da_cons de_str (da_cons de_str (da_cons de_str (da_cons de_str (da_cons de_str (da_cons de_str da_nil))))))))) rfl (hio _ (by decide)))
    (dss_seq (ds_set (i := 2) scRight.nd (de_callI (i := 0) X2 (hr.mono (by decide)) (dai_cons 0 rfl (da_cons (de_var 1 rfl) (da_cons (e_bin de_int (de_callI (i := 0) X1 (hr.mono (by decide)) (dai_cons 0 rfl (da_cons de_int da_nil)) rfl ⟨q, 3, rfl, rfl, hq, by decide, by decide, rfl, rfl⟩) b_add) da_nil))) rfl ⟨_, menu, _, rfl, rfl, a3, by decide, by omega, ?_, rfl, rfl⟩) rfl (hio _ (by decide)))
    (dss_seq (ds_asg (de_callI (i := 0) X3 (hr.mono (by decide)) (dai_cons 0 rfl (da_cons (de_var 2 rfl) da_nil)) rfl ⟨(someF q).2, (someF q).1, rfl, rfl, s4, s1, hs1000, rfl, rfl⟩) (pg_tup rfl (pgs_cons (pg_name (i := 6) scRight.nd rfl (Or.inl rfl)) (pgs_cons (pg_name (i := 7) scRight.nd rfl (Or.inl rfl)) pgs_nil))) (gs_tup rfl (gss_cons (gs_name (hio _ (by decide))) (gss_cons (gs_name (hio _ (by decide))) gss_nil))) rfl)
    ?_)))
  · have hm : (menu.length : Int) = 8 := rfl
    rw [hm]; omega
  show DSs _ B [.own (potD (drawnF (someF q).2 (someF q).1).2), .dat (Ls menu), .dat (Ls (someF q).1), .un, .un, .un, .dat (Ls (drawnF (someF q).2 (someF q).1).1.1), .dat (Ls (drawnF (someF q).2 (someF q).1).1.2), .un, .un, .un, .un, .un] _ _
  rw [hl, ht]
  refine (dss_seq (ds_set (i := 3) scRight.nd (de_call X4 (hr.mono (by decide)) (da_cons (de_var 6 rfl) (da_cons (de_var 7 rfl) da_nil)) ⟨l, t, rfl, v.lL, v.lT, v.nL.ok, v.nT.ok, v.ne, rfl⟩) rfl (hio _ (by decide))) ?_)
  have e1 : ∀ a0 a1 : Addr, [Slot.own (potD (drawnF (someF q).2 (someF q).1).2), .dat (Ls menu), .dat (Ls (someF q).1), .dat (.tup [Ts (FM.NF l t).1, Ts (FM.NF l t).2]), .own (.lst [.cst (.ref a0), .cst (.ref a1)]), .un, .dat (Ls l), .dat (Ls t), .dat (fillD C (FM.NF l t).1 (FM.NF l t).2), .dat (Ls t), .un, .un, .un][4]? = some (.own (.lst [.cst (.ref a0), .cst (.ref a1)])) := fun _ _ => rfl
  refine dss_pass (i := 4) (L := l) (T := t)
    (R2 := fun a0 a1 => [.own (potD (drawnF (someF q).2 (someF q).1).2), .dat (Ls menu), .dat (Ls (someF q).1), .dat (.tup [Ts (FM.NF l t).1, Ts (FM.NF l t).2]), .own (.lst [.cst (.ref a0), .cst (.ref a1)]), .un, .dat (Ls l), .dat (Ls t), .dat (fillD C (FM.NF l t).1 (FM.NF l t).2), .dat (Ls t), .un, .un, .un])
    (R3 := fun a0 a1 => [.own (potD (drawnF (someF q).2 (someF q).1).2), .dat (Ls menu), .dat (Ls (someF q).1), .dat (.tup [Ts (FM.NF l t).1, Ts (FM.NF l t).2]), .own (.lst [.cst (.ref a0), .cst (.ref a1)]), .un, .dat (Ls l), .dat (Ls t), .dat (fillD C (FM.NF l t).1 (FM.NF l t).2), .dat (Ls t), .un, .un, .un])
    scRight.nd (o_bty M.list boot_list (da_cons (de_var 6 rfl) da_nil) f_list_lst) (fun B1 hB => o_bty M.list boot_list (da_cons (de_var 7 rfl) da_nil) f_list_lst) (hio _ (by decide)) (by show 4 < 13; decide)
    (fun B1 a0 a1 hB l0 l1 ne => ?_) (fun B1 a0 a1 hB l0 l1 ne => ?_) e1 (Nat.lt_of_le_of_lt hl5 (by decide)) (fun a0 a1 => ?_)
  · have hio1 : ∀ (i : Nat), i ≠ 0 → ∀ p ∈ B1.io, p.1 ≠ i := by rw [hB]; exact hio
    exact ds_par (i := 8) (j := 9) rfl scRight.nd (da_cons (de_borrow (i := 4) l0 l1 ne rfl (fun B2 hB2 => DO.de (do_make X5 (hr.mono (by decide)) (da_cons (e_ix (de_var 4 rfl) de_int (i_lst (d := Ls l) rfl)) (da_cons (e_ix (de_var 4 rfl) de_int (i_lst (d := Ls t) rfl)) da_nil)) ⟨_, _, l, t, rfl, rfl, .inl rfl, .inl rfl, v, rfl, rfl⟩)) (fill_noL C _ _)) (da_cons (DO.de (o_bty M.list boot_list (da_cons (de_var 7 rfl) da_nil) f_list_lst)) da_nil)) rfl (by decide) (fun p hp => ⟨hio1 _ (by decide) p hp, hio1 _ (by decide) p hp⟩)
  · exact ds_if (DW.dt (dw_orF (dt_borrow (i := 4) l0 l1 ne rfl (fun B2 hB2 => t_cmp (de_var 4 rfl) (de_lst (da_cons (de_var 6 rfl) (da_cons (de_var 7 rfl) da_nil))) (c_neSelf hr.r.units v.nL.ok v.nT.ok))) (dw_orF (dt_notT (dt_val (de_call X6 (hr.mono (by decide)) (da_cons (de_is (d1 := fillD C (FM.NF [] t).1 (FM.NF [] t).2) (DO.de (do_make X5 (hr.mono (by decide)) (da_cons (de_var 9 rfl) (da_cons (de_var 9 rfl) da_nil)) ⟨_, _, t, t, rfl, rfl, .inl rfl, .inl rfl, v2, rfl, rfl⟩)) (by rw [nf_twice v.ne])) (da_cons (de_call X4 (hr.mono (by decide)) (da_cons (de_lst da_nil) (da_cons (de_var 7 rfl) da_nil)) ⟨[], t, rfl, by simp, v.lT, (fun _ z => absurd z (by simp)), v.nT.ok, v.ne, rfl⟩) da_nil)) ⟨_, _, rfl, v0.nf, FM.canon_self v.ne, rfl⟩))) (dw_or1 (dt_is (k' := false) (t_cmp (de_var 9 rfl) (de_var 7 rfl) (c_neLs hr.r.units v.nT.ok v.nT.ok)) (by simp)))))) (fun z => by cases z) (fun z => dss_nil rfl)
  have hw : ∀ d ∈ [D.tup [Ls l, Ls (DL.repL 3 t)], .tup [Ls (l ++ t), Ls t], .tup [Ls (l ++ t.take 1), Ls (spin t 1)], .tup [Ts (FM.NF l t).1, Ts (FM.NF l t).2]] ++ [.tup [Ls (l ++ DL.repL 2 t ++ t.take 1), Ls (DL.repL 2 (spin t 1))]], Wr l t d := by
    intro d hd
    simp only [List.cons_append, List.nil_append, List.mem_cons, List.not_mem_nil, or_false] at hd
    rcases hd with rfl | rfl | rfl | rfl | rfl
    · exact wr1 sf
    · exact wr2 sf
    · exact wr3 sf
    · exact wr4 sf
    · exact wr5 sf
  have c1 : cutL t none (some 1) = t.take 1 := cut_take t 1 (by decide)
  have c2 : cutL t (some 1) none = t.drop 1 := cut_drop t 1 (by decide)
  have ht1 : (t.take 1).length ≤ 1 := by rw [List.length_take]; omega
  have hd1 : (t.drop 1).length ≤ 4 := by rw [List.length_drop]; omega
  have hr2 : (DL.repL 2 t).length ≤ 8 := by rw [DL.repL_len]; omega
  have sz : ∀ n : Nat, n ≤ 100 → n ≤ sizeLine := fun n h => Nat.le_trans h (by decide)
  have s1T : ∀ {X : Cx}, SlD X (Ls t) none (some 1) (Ls (t.take 1)) := fun {X} => by have h := s_Ls (X := X) (ss := t) (l := none) (u := some 1); rw [c1] at h; exact h
  have s1D : ∀ {X : Cx}, SlD X (Ls t) (some 1) none (Ls (t.drop 1)) := fun {X} => by have h := s_Ls (X := X) (ss := t) (l := some 1) (u := none); rw [c2] at h; exact h
  refine (dss_ifx (DW.dt (dw_orF (dt_notT (dt_val (de_call X6 (hr.mono (by decide)) (da_cons (de_var 8 rfl) (da_cons (de_var 3 rfl) da_nil)) ⟨_, _, rfl, vn, hnf, rfl⟩))) (dw_or1 (dt_notT (dt_val (de_callI (i := 0) X7 (hr.mono (by decide)) (dai_cons 0 rfl (da_cons (de_var 8 rfl) (da_cons (de_var 6 rfl) (da_cons (de_var 7 rfl) da_nil)))) rfl ⟨_, l, t, rfl, rfl, pk, v, rfl, rfl⟩)))))) (fun z => by cases z) (fun z =>
    (dss_seq (ds_set (i := 5) scRight.nd (de_lst (da_cons (de_tup (da_cons (de_var 6 rfl) (da_cons (e_bin (de_var 7 rfl) de_int (b_repS (by decide) (by decide) (sz _ (by show t.length * 3 ≤ 100; omega)))) da_nil))) (da_cons (de_tup (da_cons (e_bin (de_var 6 rfl) (de_var 7 rfl) (b_catS (sz _ (by omega)))) (da_cons (de_var 7 rfl) da_nil))) (da_cons (de_tup (da_cons (e_bin (de_var 6 rfl) (e_sl (de_var 7 rfl) dp_no (dp_some de_int) s1T) (b_catS (sz _ (by omega)))) (da_cons (e_bin (e_sl (de_var 7 rfl) (dp_some de_int) dp_no s1D) (e_sl (de_var 7 rfl) dp_no (dp_some de_int) s1T) (b_catS (sz _ (by omega)))) da_nil))) (da_cons (de_tup (da_cons (e_ix (de_var 3 rfl) de_int (i_tup (d := Ts (FM.NF l t).1) rfl)) (da_cons (e_ix (de_var 3 rfl) de_int (i_tup (d := Ts (FM.NF l t).2) rfl)) da_nil))) da_nil))))) rfl (hio _ (by decide)))
    (dss_cons (M := fun r => ∃ a b c e, r = [.own (potD (namesF (drawnF (someF q).2 (someF q).1).2)), .dat (Ls menu), .dat (Ls (someF q).1), .dat (.tup [Ts (FM.NF l t).1, Ts (FM.NF l t).2]), .own (.lst [.cst (.ref a0), .cst (.ref a1)]), e, .dat (Ls l), .dat (Ls t), .dat (fillD C (FM.NF l t).1 (FM.NF l t).2), .dat (Ls t), a, b, c])
      (ds_for PassesOwn.never rfl (di_any (e_bin (de_var 5 rfl) (de_lst (da_cons (de_tup (da_cons (e_bin (e_bin (de_var 6 rfl) (e_bin (de_var 7 rfl) de_int (b_repS (by decide) (by decide) (sz _ (by show t.length * 2 ≤ 100; omega)))) (b_catS (sz _ (by show l.length + (DL.repL 2 t).length ≤ 100; omega)))) (e_sl (de_var 7 rfl) dp_no (dp_some de_int) s1T) (b_catS (sz _ (by show (l ++ DL.repL 2 t).length + (t.take 1).length ≤ 100; rw [List.length_append]; omega)))) (da_cons (e_bin (e_bin (e_sl (de_var 7 rfl) (dp_some de_int) dp_no s1D) (e_sl (de_var 7 rfl) dp_no (dp_some de_int) s1T) (b_catS (sz _ (by omega)))) de_int (b_repS (by decide) (by decide) (sz _ (by show (t.drop 1 ++ t.take 1).length * 2 ≤ 100; rw [List.length_append]; omega)))) da_nil))) da_nil)) (b_cat (by show 4 + 1 ≤ sizeLine; decide))) (.lst _)) (pg_tup rfl (pgs_cons (pg_name (i := 10) scRight.nd rfl (Or.inl rfl)) (pgs_cons (pg_name (i := 11) scRight.nd rfl (Or.inl rfl)) pgs_nil)))
        (fun _ r => ∃ a b c e, r = [.own (potD (namesF (drawnF (someF q).2 (someF q).1).2)), .dat (Ls menu), .dat (Ls (someF q).1), .dat (.tup [Ts (FM.NF l t).1, Ts (FM.NF l t).2]), .own (.lst [.cst (.ref a0), .cst (.ref a1)]), e, .dat (Ls l), .dat (Ls t), .dat (fillD C (FM.NF l t).1 (FM.NF l t).2), .dat (Ls t), a, b, c]) ⟨_, _, _, _, rfl⟩ (fun B1 hB k d r hk hv => ?_) (fun r hv => hv))
      (fun r hr1 => ?_)))))
  · obtain ⟨a, b, c, e, rfl⟩ := hv
    have hio1 : ∀ (i : Nat), i ≠ 0 → ∀ p ∈ B1.io, p.1 ≠ i := by rw [hB]; exact hio
    obtain ⟨x, y, la, lb, rfl, sx, sy, vw, hnfw⟩ := hw d (List.mem_of_getElem? hk)
    refine ⟨_, _, gd_tup rfl (gds_cons (gd_name (hio1 _ (by decide))) (gds_cons (gd_name (hio1 _ (by decide))) gds_nil)), ?_⟩
    refine (dss_seq (ds_set (i := 12) (d := fillD C (FM.NF l t).1 (FM.NF l t).2) scRight.nd (de_is (DO.de (do_make X5 (hr.mono (by decide)) (da_cons (de_var 10 rfl) (da_cons (e_bty M.tuple boot_tuple (da_cons (de_var 11 rfl) da_nil) (f_tuple_Sq sy)) da_nil)) ⟨_, _, la, lb, rfl, rfl, sx, .inr rfl, vw, rfl, rfl⟩)) (by rw [hnfw])) rfl (hio1 _ (by decide)))
      (dss_one (ds_if (DW.dt (dw_orF (dt_is (k' := false) (t_cmp (de_var 12 rfl) (de_var 8 rfl) (c_neOwn (r := true) X8 (hr.mono (by decide)) ⟨T.own.cl, T.nf⟩ ⟨_, _, _, rfl, vn.nL.ok, vn.nT.ok, .inl ⟨_, _, rfl, vn.nL.ok, vn.nT.ok, by simp⟩⟩)) rfl) (dw_or1 (dt_notT (dt_val (de_call X6 (hr.mono (by decide)) (da_cons (de_var 12 rfl) (da_cons (de_var 3 rfl) da_nil)) ⟨_, _, rfl, vn, hnf, rfl⟩)))))) (fun z => by cases z) (fun z => (dss_nil ⟨_, _, _, _, rfl⟩)))))
  obtain ⟨a, b, c, e, rfl⟩ := hr1
  refine (dss_seq (ds_asg (de_callI (i := 0) X3 (hr.mono (by decide)) (dai_cons 0 rfl (da_cons (de_var 2 rfl) da_nil)) rfl ⟨namesF (drawnF (someF q).2 (someF q).1).2, (someF q).1, rfl, rfl, pk2, s1, hs1000, rfl, rfl⟩) (pg_tup rfl (pgs_cons (pg_name (i := 10) scRight.nd rfl (Or.inl rfl)) (pgs_cons (pg_name (i := 11) scRight.nd rfl (Or.inl rfl)) pgs_nil))) (gs_tup rfl (gss_cons (gs_name (hio _ (by decide))) (gss_cons (gs_name (hio _ (by decide))) gss_nil))) rfl) ?_)
  show DSs _ B [.own (potD (rightF q)), .dat (Ls menu), .dat (Ls (someF q).1), .dat (.tup [Ts (FM.NF l t).1, Ts (FM.NF l t).2]), .own (.lst [.cst (.ref a0), .cst (.ref a1)]), e, .dat (Ls l), .dat (Ls t), .dat (fillD C (FM.NF l t).1 (FM.NF l t).2), .dat (Ls t), .dat (Ls (drawnF (namesF (drawnF (someF q).2 (someF q).1).2) (someF q).1).1.1), .dat (Ls (drawnF (namesF (drawnF (someF q).2 (someF q).1).2) (someF q).1).1.2), c] _ _
  rw [hg, hh]
  have vgn := vg.nf
  have vlgn := vlg.nf
  exact (dss_ifx (t_cmp (e_cmp (DO.de (do_make X5 (hr.mono (by decide)) (da_cons (de_var 10 rfl) (da_cons (de_var 11 rfl) da_nil)) ⟨_, _, g, h, rfl, rfl, .inl rfl, .inl rfl, vg, rfl, rfl⟩)) (de_var 8 rfl) (c_eqOwn X8 (hr.mono (by decide)) ⟨T.own.cl, T.nf⟩ ⟨_, _, _, rfl, vgn.nL.ok, vgn.nT.ok, .inl ⟨_, _, rfl, vn.nL.ok, vn.nT.ok, rfl⟩⟩)) (e_cmp (de_call X4 (hr.mono (by decide)) (da_cons (de_var 10 rfl) (da_cons (de_var 11 rfl) da_nil)) ⟨g, h, rfl, vg.lL, vg.lT, vg.nL.ok, vg.nT.ok, vg.ne, rfl⟩) (de_var 3 rfl) (c_eqPair hr.r.units vgn.nL.ok vgn.nT.ok vn.nL.ok vn.nT.ok)) (c_neB hr.r.units)) (fun z => by cases z) (fun z =>
    (dss_ifx (t_cmp (e_cmp (DO.de (do_make X5 (hr.mono (by decide)) (da_cons (e_bin (de_var 6 rfl) (de_var 10 rfl) (b_catS (sz _ (by omega)))) (da_cons (de_var 11 rfl) da_nil)) ⟨_, _, l ++ g, h, rfl, rfl, .inl rfl, .inl rfl, vlg, rfl, rfl⟩)) (de_var 8 rfl) (c_eqOwn X8 (hr.mono (by decide)) ⟨T.own.cl, T.nf⟩ ⟨_, _, _, rfl, vlgn.nL.ok, vlgn.nT.ok, .inl ⟨_, _, rfl, vn.nL.ok, vn.nT.ok, rfl⟩⟩)) (e_cmp (de_call X4 (hr.mono (by decide)) (da_cons (e_bin (de_var 6 rfl) (de_var 10 rfl) (b_catS (sz _ (by omega)))) (da_cons (de_var 11 rfl) da_nil)) ⟨l ++ g, h, rfl, vlg.lL, vlg.lT, vlg.nL.ok, vlg.nT.ok, vlg.ne, rfl⟩) (de_var 3 rfl) (c_eqPair hr.r.units vlgn.nL.ok vlgn.nT.ok vn.nL.ok vn.nT.ok)) (c_neB hr.r.units)) (fun z => by cases z) (fun z =>
    (dss_one (ds_ret (de_and (e_cmp (de_var 8 rfl) (de_tup (da_cons (e_bty M.tuple boot_tuple (da_cons (de_var 6 rfl) da_nil) f_tuple_lst) (da_cons (e_bty M.tuple boot_tuple (da_cons (de_var 7 rfl) da_nil) f_tuple_lst) da_nil))) (c_neOwn (r := false) X8 (hr.mono (by decide)) T.nft ⟨_, _, _, rfl, vn.nL.ok, vn.nT.ok, .inr ⟨_, rfl, rfl⟩⟩)) (fun z10 => (de_and1 (de_call X6 (hr.mono (by decide)) (da_cons (de_var 8 rfl) (da_cons (de_var 3 rfl) da_nil)) ⟨_, _, rfl, vn, hnf, rfl⟩))) (fun z => by cases z)) ⟨rfl, rfl⟩))))))
theorem scLaw : FnScope ["_law_script", "_law_k", "_law_pot_here"] ["_law_script"] (defScope sLaw) := ⟨rfl, rfl, rfl, by decide +kernel, rfl, by decide +kernel, by decide +kernel⟩
def cLaw (ds : List D) (d : D) : Prop := ∃ (xs : List Int), ds = [.frl (xs.map .int)] ∧ d = .bl true
theorem ok_law (F : Fun K "law" "law" sLaw f fd) (M : Mg K mg) (X1 : GFn P w K mg base 1 "_law_pot" (spO K cPot)) (X2 : GFn P w K mg base 8 "_law_right" (spI K cRight)) : FnG P w K mg base CX0 9 f fd ["_law_script"] (spP K cLaw) := by
  refine fn_P F scLaw (fun ds d h => by obtain ⟨_, rfl, _⟩ := h; rfl) (by decide) (fun cdv A outer s H E B ds d hr hio hC => ?_)
  obtain ⟨xs, rfl, rfl⟩ := hC
  show DSs _ B [.dat (.frl (xs.map .int)), .un, .un] _ _
  refine (dss_cons (M := fun r => ∃ a b, r = [.dat (.frl (xs.map .int)), a, b]) (ds_for PassesOwn.never rfl (di_range1 M.range (da_cons (e_blt M.max boot_max (da_cons de_int (da_cons (e_blt M.min boot_min (da_cons (e_blt M.len boot_len (da_cons (de_var 0 rfl) da_nil) f_len_frl) (da_cons de_int da_nil)) (f_min2 rfl)) da_nil)) (f_max2 rfl)) da_nil) ?_ ?_) (pg_name (i := 1) scLaw.nd rfl (Or.inl rfl)) (fun k r => ∃ a b, r = [.dat (.frl (xs.map .int)), a, b]) ⟨_, _, rfl⟩ (fun B1 hB k d r hk hv => ?_) (fun r hv => hv))
    (fun r hr1 => ?_))
  · split <;> first | exact Int.le_trans (by decide) (show (0 : Int) ≤ _ by omega) | (split <;> exact Int.le_trans (by decide) (show (0 : Int) ≤ _ by omega))
  · have : ∀ n : Int, (if (if 3 < n then (3 : Int) else n) > 1 then (if 3 < n then (3 : Int) else n) else 1) ≤ 3 := fun n => by split <;> (try split) <;> omega
    exact Int.lt_of_le_of_lt (this _) (by decide)
  · obtain ⟨a, b, rfl⟩ := hv
    have hio1 : ∀ (i : Nat), ∀ p ∈ B1.io, p.1 ≠ i := by rw [hB]; exact hio
    obtain ⟨rfl, hlt⟩ := range_get hk
    have hk3 : (k : Int) < 3 := by
      have : ∀ n : Int, (if (if 3 < n then (3 : Int) else n) > 1 then (if 3 < n then (3 : Int) else n) else 1) ≤ 3 := fun n => by split <;> (try split) <;> omega
      have := this (xs.map D.int).length
      omega
    have pk := potF_ok xs (0 + k)
    refine ⟨_, _, gd_name (hio1 _), ?_⟩
    exact (dss_seq (ds_setO (i := 2) scLaw.nd (do_call X1 (hr.mono (by decide)) (da_cons (de_var 0 rfl) (da_cons (de_var 1 rfl) da_nil)) ⟨xs, 0 + k, rfl, by omega, by omega, rfl⟩) rfl (hio1 _))
      (dss_one (ds_if (DW.dt (dw_orF (dt_notT (dt_val (de_callI (i := 2) X2 (hr.mono (by decide)) (dai_cons 2 rfl da_nil) rfl ⟨_, rfl, rfl, pk, rfl, rfl⟩))) (dw_or1 (dt_notT (dt_val (de_callI (i := 2) X2 (hr.mono (by decide)) (dai_cons 2 rfl da_nil) rfl ⟨_, rfl, rfl, rightF_ok pk, rfl, rfl⟩)))))) (fun z => by cases z) (fun z => (dss_nil ⟨_, _, rfl⟩)))))
  · obtain ⟨a, b, rfl⟩ := hr1
    exact (dss_one (ds_ret de_bl rfl))
end
end K23

set_option maxRecDepth 100000
set_option maxHeartbeats 0
namespace K23
open PySem PySem.Spec PyProof.Rows L2 DL
/-! ### the head -/
def gAt (x : Str) : PySem.W.Frag → Addr := fun K => He.ga K x
def mAt (m : Str) : PySem.W.Frag → Addr := fun K => He.ma K (He.ga K "Fill") m
/-- a property's getter -/
def pAt (m : Str) : PySem.W.Frag → Addr := fun K => match PySem.W.recIn K (He.ma K (He.ga K "Fill") m) "property" with
  | some (.ref g :: _) => g
  | _ => 0
def gD (x : Str) (st : Stmt) : FD := ⟨gAt x, x, x, st⟩
def fn : List FD := [gD "is_integer" sIsInt, gD "is_count" sIsCount, gD "is_list" sIsList, gD "is_name" sIsName, gD "want_names" sWantNames, gD "shortest_turn" sShort, gD "normal_form" sNormForm, gD "want_far_row" sWantFar,
  ⟨mAt "__init__", "__init__", "Fill.__init__", sInit⟩, ⟨pAt "lead", "lead", "Fill.lead", sLead⟩, ⟨pAt "turn", "turn", "Fill.turn", sTurn⟩, ⟨mAt "name_at", "name_at", "Fill.name_at", sNameAt⟩, ⟨mAt "kind_at", "kind_at", "Fill.kind_at", sKindAt⟩,
  ⟨mAt "first", "first", "Fill.first", sFirst⟩, ⟨mAt "behind", "behind", "Fill.behind", sBehind⟩, ⟨mAt "__eq__", "__eq__", "Fill.__eq__", sEq⟩, ⟨mAt "__str__", "__str__", "Fill.__str__", sStr⟩, ⟨mAt "__repr__", "__repr__", "Fill.__repr__", sRepr⟩,
  gD "read_fill" sRead, gD "_law_pot" sPot, gD "_law_draw" sDraw, gD "_law_pick" sPick, gD "_law_taken" sTaken, gD "_law_normal" sNormal, gD "_law_at" sAt, gD "_law_behind" sLBehind, gD "_law_text" sText, gD "_law_is" sIs,
  gD "_law_names_right" sNamesR, gD "_law_drawn" sDrawn, gD "_law_right" sRight, gD "law" sLaw]
def fa : List He.Fa := [.free "len", .free "int", .free "bool", .free "str", .free "list", .free "tuple", .free "isinstance", .free "range", .free "enumerate", .free "all", .free "abs", .free "max", .free "min", .free "divmod", .free "repr",
  .str "SMALL" small, .int "MOST_SIGNS" 8, .str "LEAD" "lead", .str "TURN" "turn", .int "FARTHEST" (10 ^ 60), .int "MOST_FIRST" 2000, .glo "RESERVED",
  .glo "is_integer", .glo "is_count", .glo "is_list", .glo "is_name", .glo "want_names", .glo "shortest_turn", .glo "normal_form", .glo "want_far_row", .glo "Fill", .glo "read_fill", .glo "_law_pot", .glo "_law_draw", .glo "_law_pick", .glo "_law_taken", .glo "_law_normal", .glo "_law_at", .glo "_law_behind", .glo "_law_text", .glo "_law_is", .glo "_law_names_right", .glo "_law_drawn", .glo "_law_right", .glo "law",
  .cls "Fill", .noat "Fill" "own_lead", .noat "Fill" "own_turn", .mkr "Fill", .meth "Fill" "name_at", .meth "Fill" "kind_at", .meth "Fill" "first", .meth "Fill" "behind", .meth "Fill" "__eq__", .meth "Fill" "__str__", .meth "Fill" "__repr__"]
def propB (K : PySem.W.Frag) (m : Str) : Bool := He.eqO (PySem.W.findIn K (.ref (He.ga K "Fill")) m) (some (some (.ref (He.ma K (He.ga K "Fill") m)))) && (He.eqO (PySem.W.specialIn K (.ref (He.ma K (He.ga K "Fill") m)) "__get__") (some (some (.builtin "property.__get__"))) && (decide (PySem.W.takesIn K (.ref (He.ma K (He.ga K "Fill") m)) = some true) && (match PySem.W.recIn K (He.ma K (He.ga K "Fill") m) "property" with
  | some (.ref g :: _) => decide (g = pAt m K)
  | _ => false)))
def ck (K : PySem.W.Frag) : Bool :=
  let C := He.ga K "Fill"
  (fa.all fun f => f.ok K) && (He.tupB K "RESERVED" (resv.map .str) && (propB K "lead" && (propB K "turn" &&
  (He.eqO (PySem.W.findIn K (.ref C) "__class__") (some (some (.builtin "object.__class__"))) && (He.eqO (PySem.W.specialIn K (.builtin "object.__class__") "__get__") (some (some (.builtin "getset_descriptor.__get__"))) && (decide (PySem.W.takesIn K (.builtin "object.__class__") = some true) && (decide (PySem.W.mroIn K C (.type "object") = some true) &&
  (decide (PySem.W.kitOne K (.ref C) (.ref C) = some true) && (decide (PySem.W.kitOne K (.type "tuple") (.ref C) = some false) && (PySem.W.notFirst K C (.ref C) && (PySem.W.notFirst K C (.type "tuple") && He.eqO (PySem.W.findIn K (.ref C) "__ne__") (some (some (.builtin "object.__ne__"))))))))))))))
abbrev R : PySem.W.OpenRow := PySem.W.OpenLaw.row PySem.Challenge.rw_belowneeds_k23_whole_fills
abbrev hk : PySem.W.Hook := hookF 6 ck fn
def ob (s : PySem.W.SharedT) : AlF := obFG 6 ck fn (HandSHeadRun.getT s)
theorem ob_eq (s : PySem.W.SharedT) : ob s = hk.obs s.abs := obFG_eq (HandSHeadRun.getT_eq s)
def loose1 : List Str := ["SheetError", "InvalidFill", "InvalidRow", "InvalidCount", "InvalidText", "SMALL", "RESERVED", "MOST_SIGNS", "is_integer", "is_count", "is_list", "is_name", "LEAD", "TURN", "FARTHEST", "MOST_FIRST", "want_names"]
def loose2 : List Str := ["shortest_turn", "normal_form", "want_far_row", "Fill", "read_fill", "_law_pot", "_law_draw", "_law_pick", "_law_taken", "_law_normal", "_law_at", "_law_behind", "_law_text", "_law_is", "_law_names_right", "_law_drawn", "_law_right"]
def loose : List Str := loose1 ++ loose2
theorem run (w : World) : HandSHeadRun.RunEq R (PySem.W.view R.prog [39]) hk ob 4000 loose w := by
  intro os
  kernel_rfl
end K23

set_option maxRecDepth 100000
set_option maxHeartbeats 4000000
namespace K23
open PySem PySem.Spec PyProof.Rows L2 DL
theorem fact {K : PySem.W.Frag} (c : ck K = true) (i : Nat) {f : He.Fa} (h : fa[i]? = some f := by rfl) : f.ok K = true :=
  List.all_eq_true.mp (He.ba c).1 f (List.mem_of_getElem? h)
theorem prop_ok {K : PySem.W.Frag} {m : Str} (c : propB K m = true) : PropOf K (He.ga K "Fill") m (He.ma K (He.ga K "Fill") m) (pAt m K) := by
  obtain ⟨c1, c⟩ := He.ba c
  obtain ⟨c2, c⟩ := He.ba c
  obtain ⟨c3, c4⟩ := He.ba c
  refine ⟨He.eqO_ok c1, He.eqO_ok c2, of_decide_eq_true c3, ?_⟩
  cases e : PySem.W.recIn K (He.ma K (He.ga K "Fill") m) "property" with
  | none => rw [e] at c4; cases c4
  | some l =>
    rw [e] at c4
    cases l with
    | nil => cases c4
    | cons v r =>
      cases v with
      | ref g =>
        have c4 : decide (g = pAt m K) = true := c4
        exact ⟨r, by rw [of_decide_eq_true c4]⟩
      | _ => cases c4
theorem facts {P : Program} {w : World} {K : PySem.W.Frag} {h : Heap} {mg : Str → Option Value} {f : Addr} (X : K.In h) (G : h.Ns mainGlobals mg) (hfa : mg ("law" : Str) = some (.ref f)) (c : SaysF ck fn K) :
    ∃ fd : FuncData, (∀ (s : Shared) (v : Value), BindsTo s fd ⟨[v], []⟩ [("_law_script", v)]) ∧ ∀ base : Heap, K.In base → base.Ns mainGlobals mg → FnG P w K mg base CX0 9 f fd ["_law_script"] (spP K cLaw) := by
  have hc := c.chk
  obtain ⟨fd0, F0⟩ := c.def_ 0 (d := gD "is_integer" sIsInt) rfl
  have b0 : Binds K fd0 ["value"] [] := F0.binds fun _ _ _ _ _ _ us hl => match us, hl with | [_], _ => rfl
  obtain ⟨fd1, F1⟩ := c.def_ 1 (d := gD "is_count" sIsCount) rfl
  have b1 : Binds K fd1 ["value"] [] := F1.binds fun _ _ _ _ _ _ us hl => match us, hl with | [_], _ => rfl
  obtain ⟨fd2, F2⟩ := c.def_ 2 (d := gD "is_list" sIsList) rfl
  have b2 : Binds K fd2 ["value"] [] := F2.binds fun _ _ _ _ _ _ us hl => match us, hl with | [_], _ => rfl
  obtain ⟨fd3, F3⟩ := c.def_ 3 (d := gD "is_name" sIsName) rfl
  have b3 : Binds K fd3 ["value"] [] := F3.binds fun _ _ _ _ _ _ us hl => match us, hl with | [_], _ => rfl
  obtain ⟨fd4, F4⟩ := c.def_ 4 (d := gD "want_names" sWantNames) rfl
  have b4 : Binds K fd4 ["part", "value"] [] := F4.binds fun _ _ _ _ _ _ us hl => match us, hl with | [_, _], _ => rfl
  obtain ⟨fd5, F5⟩ := c.def_ 5 (d := gD "shortest_turn" sShort) rfl
  have b5 : Binds K fd5 ["turn"] [] := F5.binds fun _ _ _ _ _ _ us hl => match us, hl with | [_], _ => rfl
  obtain ⟨fd6, F6⟩ := c.def_ 6 (d := gD "normal_form" sNormForm) rfl
  have b6 : Binds K fd6 ["lead", "turn"] [] := F6.binds fun _ _ _ _ _ _ us hl => match us, hl with | [_, _], _ => rfl
  obtain ⟨fd7, F7⟩ := c.def_ 7 (d := gD "want_far_row" sWantFar) rfl
  have b7 : Binds K fd7 ["row"] [] := F7.binds fun _ _ _ _ _ _ us hl => match us, hl with | [_], _ => rfl
  obtain ⟨fd8, F8⟩ := c.def_ 8 (d := ⟨mAt "__init__", "__init__", "Fill.__init__", sInit⟩) rfl
  have b8 : Binds K fd8 ["self", "lead", "turn"] [] := F8.binds fun _ _ _ _ _ _ us hl => match us, hl with | [_, _, _], _ => rfl
  obtain ⟨fd9, F9⟩ := c.def_ 9 (d := ⟨pAt "lead", "lead", "Fill.lead", sLead⟩) rfl
  have b9 : Binds K fd9 ["self"] [] := F9.binds fun _ _ _ _ _ _ us hl => match us, hl with | [_], _ => rfl
  obtain ⟨fd10, F10⟩ := c.def_ 10 (d := ⟨pAt "turn", "turn", "Fill.turn", sTurn⟩) rfl
  have b10 : Binds K fd10 ["self"] [] := F10.binds fun _ _ _ _ _ _ us hl => match us, hl with | [_], _ => rfl
  obtain ⟨fd11, F11⟩ := c.def_ 11 (d := ⟨mAt "name_at", "name_at", "Fill.name_at", sNameAt⟩) rfl
  have b11 : Binds K fd11 ["self", "position"] [] := F11.binds fun _ _ _ _ _ _ us hl => match us, hl with | [_, _], _ => rfl
  obtain ⟨fd12, F12⟩ := c.def_ 12 (d := ⟨mAt "kind_at", "kind_at", "Fill.kind_at", sKindAt⟩) rfl
  have b12 : Binds K fd12 ["self", "row"] [] := F12.binds fun _ _ _ _ _ _ us hl => match us, hl with | [_, _], _ => rfl
  obtain ⟨fd13, F13⟩ := c.def_ 13 (d := ⟨mAt "first", "first", "Fill.first", sFirst⟩) rfl
  have b13 : Binds K fd13 ["self", "many"] [] := F13.binds fun _ _ _ _ _ _ us hl => match us, hl with | [_, _], _ => rfl
  obtain ⟨fd14, F14⟩ := c.def_ 14 (d := ⟨mAt "behind", "behind", "Fill.behind", sBehind⟩) rfl
  have b14 : Binds K fd14 ["self", "many"] [] := F14.binds fun _ _ _ _ _ _ us hl => match us, hl with | [_, _], _ => rfl
  obtain ⟨fd15, F15⟩ := c.def_ 15 (d := ⟨mAt "__eq__", "__eq__", "Fill.__eq__", sEq⟩) rfl
  have b15 : Binds K fd15 ["self", "other"] [] := F15.binds fun _ _ _ _ _ _ us hl => match us, hl with | [_, _], _ => rfl
  obtain ⟨fd16, F16⟩ := c.def_ 16 (d := ⟨mAt "__str__", "__str__", "Fill.__str__", sStr⟩) rfl
  have b16 : Binds K fd16 ["self"] [] := F16.binds fun _ _ _ _ _ _ us hl => match us, hl with | [_], _ => rfl
  obtain ⟨fd17, F17⟩ := c.def_ 17 (d := ⟨mAt "__repr__", "__repr__", "Fill.__repr__", sRepr⟩) rfl
  have b17 : Binds K fd17 ["self"] [] := F17.binds fun _ _ _ _ _ _ us hl => match us, hl with | [_], _ => rfl
  obtain ⟨fd18, F18⟩ := c.def_ 18 (d := gD "read_fill" sRead) rfl
  have b18 : Binds K fd18 ["text"] [] := F18.binds fun _ _ _ _ _ _ us hl => match us, hl with | [_], _ => rfl
  obtain ⟨fd19, F19⟩ := c.def_ 19 (d := gD "_law_pot" sPot) rfl
  have b19 : Binds K fd19 ["_law_script", "_law_k"] [] := F19.binds fun _ _ _ _ _ _ us hl => match us, hl with | [_, _], _ => rfl
  obtain ⟨fd20, F20⟩ := c.def_ 20 (d := gD "_law_draw" sDraw) rfl
  have b20 : Binds K fd20 ["_law_pot_here", "_law_many"] [] := F20.binds fun _ _ _ _ _ _ us hl => match us, hl with | [_, _], _ => rfl
  obtain ⟨fd21, F21⟩ := c.def_ 21 (d := gD "_law_pick" sPick) rfl
  have b21 : Binds K fd21 ["_law_pot_here", "_law_some"] [] := F21.binds fun _ _ _ _ _ _ us hl => match us, hl with | [_, _], _ => rfl
  obtain ⟨fd22, F22⟩ := c.def_ 22 (d := gD "_law_taken" sTaken) rfl
  have b22 : Binds K fd22 ["_law_pot_here", "_law_menu", "_law_many"] [] := F22.binds fun _ _ _ _ _ _ us hl => match us, hl with | [_, _, _], _ => rfl
  obtain ⟨fd23, F23⟩ := c.def_ 23 (d := gD "_law_normal" sNormal) rfl
  have b23 : Binds K fd23 ["_law_lead", "_law_turn"] [] := F23.binds fun _ _ _ _ _ _ us hl => match us, hl with | [_, _], _ => rfl
  obtain ⟨fd24, F24⟩ := c.def_ 24 (d := gD "_law_at" sAt) rfl
  have b24 : Binds K fd24 ["_law_lead", "_law_turn", "_law_row"] [] := F24.binds fun _ _ _ _ _ _ us hl => match us, hl with | [_, _, _], _ => rfl
  obtain ⟨fd25, F25⟩ := c.def_ 25 (d := gD "_law_behind" sLBehind) rfl
  have b25 : Binds K fd25 ["_law_lead", "_law_turn", "_law_many"] [] := F25.binds fun _ _ _ _ _ _ us hl => match us, hl with | [_, _, _], _ => rfl
  obtain ⟨fd26, F26⟩ := c.def_ 26 (d := gD "_law_text" sText) rfl
  have b26 : Binds K fd26 ["_law_lead", "_law_turn"] [] := F26.binds fun _ _ _ _ _ _ us hl => match us, hl with | [_, _], _ => rfl
  obtain ⟨fd27, F27⟩ := c.def_ 27 (d := gD "_law_is" sIs) rfl
  have b27 : Binds K fd27 ["_law_fill", "_law_normal_here"] [] := F27.binds fun _ _ _ _ _ _ us hl => match us, hl with | [_, _], _ => rfl
  obtain ⟨fd28, F28⟩ := c.def_ 28 (d := gD "_law_names_right" sNamesR) rfl
  have b28 : Binds K fd28 ["_law_pot_here", "_law_fill", "_law_lead", "_law_turn"] [] := F28.binds fun _ _ _ _ _ _ us hl => match us, hl with | [_, _, _, _], _ => rfl
  obtain ⟨fd29, F29⟩ := c.def_ 29 (d := gD "_law_drawn" sDrawn) rfl
  have b29 : Binds K fd29 ["_law_pot_here", "_law_some"] [] := F29.binds fun _ _ _ _ _ _ us hl => match us, hl with | [_, _], _ => rfl
  obtain ⟨fd30, F30⟩ := c.def_ 30 (d := gD "_law_right" sRight) rfl
  have b30 : Binds K fd30 ["_law_pot_here"] [] := F30.binds fun _ _ _ _ _ _ us hl => match us, hl with | [_], _ => rfl
  obtain ⟨fd, F⟩ := c.def_ 31 (d := gD "law" sLaw) rfl
  have b : Binds K fd ["_law_script"] [] := F.binds fun _ _ _ _ _ _ us hl => match us, hl with | [_], _ => rfl
  have e := hfa.symm.trans (He.glo_ok X G (fact hc 44))
  cases e
  refine ⟨fd, ?_, fun base _ _ => ?_⟩
  · obtain ⟨oc, od, kV, doc, pm, an, cdv, ct, osl, rfl, lk, hcd⟩ := F.ex
    exact fun s v => .of_eq rfl
  · obtain ⟨_, z⟩ := He.ba hc
    obtain ⟨hres, z⟩ := He.ba z
    obtain ⟨hlead, z⟩ := He.ba z
    obtain ⟨hturn, z⟩ := He.ba z
    obtain ⟨h1, z⟩ := He.ba z
    obtain ⟨h2, z⟩ := He.ba z
    obtain ⟨h3, z⟩ := He.ba z
    obtain ⟨h4, z⟩ := He.ba z
    obtain ⟨h5, z⟩ := He.ba z
    obtain ⟨h6, z⟩ := He.ba z
    obtain ⟨h7, z⟩ := He.ba z
    obtain ⟨h8, h9⟩ := He.ba z
    have ne := He.eqO_ok h9
    have M : Mg K mg := {
    len := He.free_ok X G (fact hc 0)
    int := He.free_ok X G (fact hc 1)
    bool := He.free_ok X G (fact hc 2)
    str := He.free_ok X G (fact hc 3)
    list := He.free_ok X G (fact hc 4)
    tuple := He.free_ok X G (fact hc 5)
    isinstance := He.free_ok X G (fact hc 6)
    range := He.free_ok X G (fact hc 7)
    enumerate := He.free_ok X G (fact hc 8)
    all := He.free_ok X G (fact hc 9)
    abs := He.free_ok X G (fact hc 10)
    max := He.free_ok X G (fact hc 11)
    min := He.free_ok X G (fact hc 12)
    divmod := He.free_ok X G (fact hc 13)
    repr := He.free_ok X G (fact hc 14)
    SMALL := He.str_ok X G (fact hc 15)
    MOST_SIGNS := He.int_ok X G (fact hc 16)
    LEAD := He.str_ok X G (fact hc 17)
    TURN := He.str_ok X G (fact hc 18)
    FARTHEST := He.int_ok X G (fact hc 19)
    MOST_FIRST := He.int_ok X G (fact hc 20)
    RESERVED := ⟨_, He.glo_ok X G (fact hc 21), by have := He.tupB_ok hres (fun _ => none); rw [List.map_map] at this; exact this⟩ }
    have T : TF K mg (He.ga K "Fill") := ⟨⟨He.cls_ok (fact hc 45), He.eqO_ok h1, He.eqO_ok h2, of_decide_eq_true h3, of_decide_eq_true h4⟩, He.noat_ok (fact hc 46), He.noat_ok (fact hc 47), of_decide_eq_true h5, of_decide_eq_true h6, He.glo_ok X G (fact hc 30), h7, h8⟩
    have G0 : GFn P w K mg base 1 "is_integer" (spP K cIsInt) := ⟨_, fd0, ["value"], ok_isint F0 M, He.glo_ok X G (fact hc 22), F0.kp, b0⟩
    have G1 : GFn P w K mg base 2 "is_count" (spP K cIsCount) := ⟨_, fd1, ["value"], ok_iscount F1 G0, He.glo_ok X G (fact hc 23), F1.kp, b1⟩
    have G2 : GFn P w K mg base 1 "is_list" (spP K cIsList) := ⟨_, fd2, ["value"], ok_islist F2 M, He.glo_ok X G (fact hc 24), F2.kp, b2⟩
    have G3 : GFn P w K mg base 1 "is_name" (spP K cIsName) := ⟨_, fd3, ["value"], ok_isname F3 M, He.glo_ok X G (fact hc 25), F3.kp, b3⟩
    have G4 : GFn P w K mg base 2 "want_names" (spP K cWantNames) := ⟨_, fd4, ["part", "value"], ok_wantnames F4 M G2 G3, He.glo_ok X G (fact hc 26), F4.kp, b4⟩
    have G5 : GFn P w K mg base 1 "shortest_turn" (spP K cShort) := ⟨_, fd5, ["turn"], ok_short F5 M, He.glo_ok X G (fact hc 27), F5.kp, b5⟩
    have G6 : GFn P w K mg base 2 "normal_form" (spP K cNormForm) := ⟨_, fd6, ["lead", "turn"], ok_normform F6 M G5, He.glo_ok X G (fact hc 28), F6.kp, b6⟩
    have G7 : GFn P w K mg base 2 "want_far_row" (spP K cWantFar) := ⟨_, fd7, ["row"], ok_wantfar F7 M G0, He.glo_ok X G (fact hc 29), F7.kp, b7⟩
    have G8 : CFn P w K mg base 3 "Fill" (He.ga K "Fill") (spI K (cInit (He.ga K "Fill"))) := ⟨_, fd8, ["self", "lead", "turn"], ok_init F8 M T G4 G6, He.mkr_ok (fact hc 48), He.glo_ok X G (fact hc 30), b8⟩
    have G9 : PFn P w K mg base 1 (He.ga K "Fill") "lead" (spP K (cLead (He.ga K "Fill"))) := ⟨_, _, fd9, ["self"], ok_lead F9 T, prop_ok hlead, b9⟩
    have G10 : PFn P w K mg base 1 (He.ga K "Fill") "turn" (spP K (cTurn (He.ga K "Fill"))) := ⟨_, _, fd10, ["self"], ok_turn F10 T, prop_ok hturn, b10⟩
    have G11 : MFn P w K mg base 1 (He.ga K "Fill") "name_at" (spP K (cNameAt (He.ga K "Fill"))) := ⟨_, fd11, ["self", "position"], ok_nameat F11 M T, He.meth_ok (fact hc 49), b11⟩
    have G12 : MFn P w K mg base 3 (He.ga K "Fill") "kind_at" (spP K (cKindAt (He.ga K "Fill"))) := ⟨_, fd12, ["self", "row"], ok_kindat F12 T G7 G11, He.meth_ok (fact hc 50), b12⟩
    have G13 : MFn P w K mg base 3 (He.ga K "Fill") "first" (spO K (cFirst (He.ga K "Fill"))) := ⟨_, fd13, ["self", "many"], ok_first F13 M T G1 G11, He.meth_ok (fact hc 51), b13⟩
    have G14 : MFn P w K mg base 5 (He.ga K "Fill") "behind" (spP K (cBehind (He.ga K "Fill"))) := ⟨_, fd14, ["self", "many"], ok_behind F14 M T G1 G8, He.meth_ok (fact hc 52), b14⟩
    have G15 : EFn P w K mg base 1 (He.ga K "Fill") (spP K (cEq (He.ga K "Fill"))) := ⟨_, fd15, ["self", "other"], ok_eq F15 M T, ⟨(He.meth_ok (fact hc 53)).at_, ne, T.own.hm, (He.meth_ok (fact hc 53)).fn⟩, b15⟩
    have G16 : SFn P w K mg base 1 (He.ga K "Fill") "__str__" (spP K (cStr (He.ga K "Fill"))) := ⟨_, fd16, ["self"], ok_str F16 T, (He.meth_ok (fact hc 54)).at_, (He.meth_ok (fact hc 54)).fn, b16⟩
    have G17 : SFn P w K mg base 1 (He.ga K "Fill") "__repr__" (spP K (cRepr (He.ga K "Fill"))) := ⟨_, fd17, ["self"], ok_repr F17 T, (He.meth_ok (fact hc 55)).at_, (He.meth_ok (fact hc 55)).fn, b17⟩
    have G18 : GFn P w K mg base 5 "read_fill" (spP K (cRead (He.ga K "Fill"))) := ⟨_, fd18, ["text"], ok_read F18 M T G8 G16, He.glo_ok X G (fact hc 31), F18.kp, b18⟩
    have G19 : GFn P w K mg base 1 "_law_pot" (spO K cPot) := ⟨_, fd19, ["_law_script", "_law_k"], ok_pot F19 M, He.glo_ok X G (fact hc 32), F19.kp, b19⟩
    have G20 : GFn P w K mg base 1 "_law_draw" (spI K cDraw) := ⟨_, fd20, ["_law_pot_here", "_law_many"], ok_draw F20 M, He.glo_ok X G (fact hc 33), F20.kp, b20⟩
    have G21 : GFn P w K mg base 2 "_law_pick" (spI K cPick) := ⟨_, fd21, ["_law_pot_here", "_law_some"], ok_pick F21 M G20, He.glo_ok X G (fact hc 34), F21.kp, b21⟩
    have G22 : GFn P w K mg base 2 "_law_taken" (spI K cTaken) := ⟨_, fd22, ["_law_pot_here", "_law_menu", "_law_many"], ok_taken F22 M G20, He.glo_ok X G (fact hc 35), F22.kp, b22⟩
    have G23 : GFn P w K mg base 1 "_law_normal" (spP K cNormal) := ⟨_, fd23, ["_law_lead", "_law_turn"], ok_normal F23 M, He.glo_ok X G (fact hc 36), F23.kp, b23⟩
    have G24 : GFn P w K mg base 1 "_law_at" (spP K cAt) := ⟨_, fd24, ["_law_lead", "_law_turn", "_law_row"], ok_at F24 M, He.glo_ok X G (fact hc 37), F24.kp, b24⟩
    have G25 : GFn P w K mg base 2 "_law_behind" (spP K cLBehind) := ⟨_, fd25, ["_law_lead", "_law_turn", "_law_many"], ok_lbehind F25 M G23, He.glo_ok X G (fact hc 38), F25.kp, b25⟩
    have G26 : GFn P w K mg base 1 "_law_text" (spP K cText) := ⟨_, fd26, ["_law_lead", "_law_turn"], ok_text F26 M, He.glo_ok X G (fact hc 39), F26.kp, b26⟩
    have G27 : GFn P w K mg base 6 "_law_is" (spP K (cIs (He.ga K "Fill"))) := ⟨_, fd27, ["_law_fill", "_law_normal_here"], ok_is F27 M T G9 G10 G26 G16 G17 G18 G15, He.glo_ok X G (fact hc 40), F27.kp, b27⟩
    have G28 : GFn P w K mg base 7 "_law_names_right" (spI K (cNamesR (He.ga K "Fill"))) := ⟨_, fd28, ["_law_pot_here", "_law_fill", "_law_lead", "_law_turn"], ok_namesr F28 M T G20 G12 G24 G13 G27 G14 G25, He.glo_ok X G (fact hc 41), F28.kp, b28⟩
    have G29 : GFn P w K mg base 3 "_law_drawn" (spI K cDrawn) := ⟨_, fd29, ["_law_pot_here", "_law_some"], ok_drawn F29 M G20 G21, He.glo_ok X G (fact hc 42), F29.kp, b29⟩
    have G30 : GFn P w K mg base 8 "_law_right" (spI K cRight) := ⟨_, fd30, ["_law_pot_here"], ok_right F30 M T G20 G22 G29 G23 G8 G27 G28 G15, He.glo_ok X G (fact hc 43), F30.kp, b30⟩
    exact ok_law F M G19 G30
end K23


set_option maxRecDepth 100000
set_option maxHeartbeats 0
open PySem PySem.W PySem.Calls PyProof.Rows
theorem PySem.Challenge.cw_belowneeds_k23_whole_fills_holds : PySem.Challenge.rw_belowneeds_k23_whole_fills.Holds := by
  w_on; o_law
  refine HandSHeadRun.head_any (r := OpenLaw.row PySem.Challenge.rw_belowneeds_k23_whole_fills) (q := view (OpenLaw.row PySem.Challenge.rw_belowneeds_k23_whole_fills).prog [39]) (H := K23.hk) (ob := K23.ob) (M := 4000) (loose := K23.loose) (d := HandSHeadRun.topDef (OpenLaw.row PySem.Challenge.rw_belowneeds_k23_whole_fills).prog 39) (kwd := []) K23.ob_eq
    (by kernel_rfl) (fun s => by kernel_rfl) K23.run (by kernel_rfl) (by kernel_rfl) (by kernel_rfl) (by rfl) (by first | assumption | decide +kernel) (by decide +kernel) ⟨rfl, rfl, rfl, rfl, rfl, by decide +kernel⟩ ?hw ?hc
  case hw => w_witness2
  case hc =>
    refine DL.walkG (l := PySem.Challenge.rw_belowneeds_k23_whole_fills) (n := 63) (k := 9) (x := "_law_script") rfl (by decide) (by kernel_rfl) ⟨rfl, by decide, by decide⟩ ?F
    intro w mg fa h Y G hmg0
    obtain ⟨K, KX, c⟩ := Y
    have hmg : mg ("law" : PySem.Str) = some (.ref fa) := by
      have e : (HandSHeadRun.topDef (OpenLaw.row PySem.Challenge.rw_belowneeds_k23_whole_fills).prog 39).name = ("law" : PySem.Str) := by kernel_rfl
      rw [← e]
      exact hmg0
    obtain ⟨fd, hb, hF⟩ := K23.facts (P := (PySem.Challenge.rw_belowneeds_k23_whole_fills).prog) (w := w) KX G hmg c
    exact ⟨K, fd, K23.cLaw, KX, hb, fun ns _ => ⟨ns, rfl, rfl⟩, hF⟩

