import PyProof.Rows.All
import HandS.ForMost
import HandS.Evl
import HandS.Exc
import HandS.ExcOwn
import HandS.TryOnly
import HandS.WordsExc
import HandS.IsInst
import HandS.SortKw
import HandS.Style
import KE.DataMinMax
import HandS.SetFor
import HandS.Remove
import HandS.Zip
import KE.KSortedM
import HandS.Iter
import HandS.TryMany
import HandS.ExcIs
import HandS.SortRule
import HandS.ExcValue
import PyProof.StrOps2
import HandS.Conv
import PySem.Challenge.RW_lenthaste_k01_begun
set_option Elab.async false
set_option linter.all false
set_option maxRecDepth 100000
set_option maxHeartbeats 2000000
set_option pp.maxSteps 400
set_option autoImplicit false
namespace Y
open PySem PySem.Spec PyProof.Rows L2
open Evl (Ex)
/-- data -/
inductive D where
  | non | bl (b : Bool) | int (i : Int) | str (s : Str) | lst (xs : List D) | tup (xs : List D) | scr (ns : List Int) | dic (kvs : List (Int × Int)) | dicL (kvs : List (Int × Int)) | exc (C : Addr) | raw (v : V)
  deriving Inhabited

/-- what a name holds: nothing known, data that stands, a list or a dict of one's own -/
inductive Sl where
  | no | fz (d : D) | ow (ds : List D) | od (kvs : List (Int × Int)) | op (p : Addr) (ds : List D) | kn (v : V) (d : D)

/-- an object of the class C stands at a -/
def ExIn (C a : Addr) (h : Heap) : Prop := ∃ (oe : Obj) (vs : Array Value), h.get? a = some oe ∧ Zc (.ref C) none oe ∧ oe.data = .fields vs
def encK (kvs : List (Int × Int)) : List (Key × V) := kvs.map fun p => (Sum.inl p.1, V.int p.2)

mutual
inductive Rep (K : PySem.W.Frag) (H : Hp) : V → D → Prop
  | non : Rep K H .non .non
  | bl (b : Bool) : Rep K H (.bl b) (.bl b)
  | int (i : Int) : Rep K H (.int i) (.int i)
  | str (s : Str) : Rep K H (.str s) (.str s)
  | lst {a : Addr} {vs : List V} {ds : List D} : H a = some (.lst vs) → Reps K H vs ds → Rep K H (.ref a) (.lst ds)
  | tup {a : Addr} {vs : List V} {ds : List D} : H a = some (.tup vs) → Reps K H vs ds → Rep K H (.ref a) (.tup ds)
  | scr {a : Addr} {ns : List Int} : SqL K H a (ns.map V.int) → Rep K H (.ref a) (.scr ns)
  | dic {a : Addr} {kvs : List (Int × Int)} : H a = some (.dK (encK kvs)) → Rep K H (.ref a) (.dic kvs)
  | dicL {a : Addr} {kvs : List (Int × Int)} : Rd H a (.dK (encK kvs)) → Rep K H (.ref a) (.dicL kvs)
  | exc {a C : Addr} {φ : Heap → Prop} : H a = some (.ext φ) → (∀ h, φ h → ExIn C a h) → Rep K H (.ref a) (.exc C)
  | raw (v : V) : Rep K H v (.raw v)
inductive Reps (K : PySem.W.Frag) (H : Hp) : List V → List D → Prop
  | nil : Reps K H [] []
  | cons {v : V} {d : D} {vs : List V} {ds : List D} : Rep K H v d → Reps K H vs ds → Reps K H (v :: vs) (d :: ds)
end

theorem rd_ex {H H' : Hp} {a : Addr} {u : HO} (e : Ex H H') (h : Rd H a u) : Rd H' a u := by
  rcases h with h | ⟨o, h⟩
  · exact .inl (e _ _ h)
  · exact .inr ⟨o, e _ _ h⟩
section
variable {K : PySem.W.Frag} {H H' : Hp}
mutual
theorem Rep.mono (e : Ex H H') : ∀ (d : D) (v : V), Rep K H v d → Rep K H' v d
  | .non, _, .non => .non
  | .bl _, _, .bl b => .bl b
  | .int _, _, .int i => .int i
  | .str _, _, .str s => .str s
  | .lst ds, _, .lst h r => .lst (e _ _ h) (Reps.mono e ds _ r)
  | .tup ds, _, .tup h r => .tup (e _ _ h) (Reps.mono e ds _ r)
  | .scr _, _, .scr h => .scr (Evl.ex_l e h)
  | .dic _, _, .dic h => .dic (e _ _ h)
  | .dicL _, _, .dicL h => .dicL (rd_ex e h)
  | .exc _, _, .exc h q => .exc (e _ _ h) q
  | .raw _, _, .raw v => .raw v
theorem Reps.mono (e : Ex H H') : ∀ (ds : List D) (vs : List V), Reps K H vs ds → Reps K H' vs ds
  | [], _, .nil => .nil
  | d :: ds, _, .cons h t => .cons (Rep.mono e d _ h) (Reps.mono e ds _ t)
end
theorem Reps.length : ∀ {vs : List V} {ds : List D}, Reps K H vs ds → vs.length = ds.length
  | [], [], .nil => rfl
  | _ :: _, _ :: _, .cons _ t => by rw [List.length_cons, List.length_cons, Reps.length t]
theorem Reps.get : ∀ {vs : List V} {ds : List D} {i : Nat} {d : D}, Reps K H vs ds → ds[i]? = some d → ∃ v, vs[i]? = some v ∧ Rep K H v d
  | _, _, _, _, .nil, e => by simp at e
  | _, _, 0, _, .cons r _, e => by simp at e; subst e; exact ⟨_, rfl, r⟩
  | _, _, i + 1, d, .cons _ t, e => by
    obtain ⟨u, h1, h2⟩ := Reps.get (i := i) (d := d) t (by simpa using e)
    exact ⟨u, by simpa using h1, h2⟩
theorem Reps.getV : ∀ {vs : List V} {ds : List D} {i : Nat} {v : V}, Reps K H vs ds → vs[i]? = some v → ∃ d, ds[i]? = some d ∧ Rep K H v d
  | _, _, _, _, .nil, e => by simp at e
  | _, _, 0, _, .cons r _, e => by simp at e; subst e; exact ⟨_, rfl, r⟩
  | _, _, i + 1, v, .cons _ t, e => by
    obtain ⟨u, h1, h2⟩ := Reps.getV (i := i) (v := v) t (by simpa using e)
    exact ⟨u, by simpa using h1, h2⟩
theorem Reps.append : ∀ {vs ws : List V} {ds es : List D}, Reps K H vs ds → Reps K H ws es → Reps K H (vs ++ ws) (ds ++ es)
  | _, _, _, _, .nil, s => s
  | _, _, _, _, .cons r t, s => .cons r (Reps.append t s)
theorem Reps.set {v : V} {d : D} (r : Rep K H v d) : ∀ {vs : List V} {ds : List D} (i : Nat), Reps K H vs ds → Reps K H (vs.set i v) (ds.set i d)
  | _, _, _, .nil => .nil
  | _, _, 0, .cons _ t => .cons r t
  | _, _, i + 1, .cons q t => .cons q (Reps.set r i t)
theorem Reps.take : ∀ {vs : List V} {ds : List D} (n : Nat), Reps K H vs ds → Reps K H (vs.take n) (ds.take n)
  | _, _, 0, _ => .nil
  | _, _, _ + 1, .nil => .nil
  | _, _, n + 1, .cons r t => .cons r (Reps.take n t)
theorem Reps.drop : ∀ {vs : List V} {ds : List D} (n : Nat), Reps K H vs ds → Reps K H (vs.drop n) (ds.drop n)
  | _, _, 0, r => r
  | _, _, _ + 1, .nil => .nil
  | _, _, n + 1, .cons _ t => Reps.drop n t
theorem Reps.eraseIdx : ∀ {vs : List V} {ds : List D} (n : Nat), Reps K H vs ds → Reps K H (vs.eraseIdx n) (ds.eraseIdx n)
  | _, _, 0, .nil => .nil
  | _, _, 0, .cons _ t => t
  | _, _, _ + 1, .nil => .nil
  | _, _, n + 1, .cons r t => .cons r (Reps.eraseIdx n t)
theorem Reps.rep {vs : List V} {ds : List D} (r : Reps K H vs ds) : ∀ n : Nat, Reps K H (List.replicate n vs).flatten (List.replicate n ds).flatten
  | 0 => .nil
  | n + 1 => by
    rw [List.replicate_succ, List.replicate_succ, List.flatten_cons, List.flatten_cons]
    exact r.append (Reps.rep r n)
theorem Reps.at {vs : List V} {ds : List D} {i : Int} {d : D} (r : Reps K H vs ds) (h : atI ds i = some d) : ∃ v, atI vs i = some v ∧ Rep K H v d := by
  unfold atI at h ⊢
  rw [r.length]
  cases e : ixN ds.length i with
  | none => rw [e] at h; cases h
  | some j =>
    rw [e] at h
    exact r.get (i := j) h
end

structure Bs where
  V0 : Hp
  F : Hp

def SlotR (K : PySem.W.Frag) (F G H : Hp) : Option V → Sl → Prop
  | _, .no => True
  | x, .fz d => ∃ v, x = some v ∧ Rep K G v d
  | x, .ow ds => ∃ p vs, x = some (.ref p) ∧ G p = none ∧ F p = none ∧ H p = some (.lst vs) ∧ Reps K G vs ds
  | x, .od kvs => ∃ p, x = some (.ref p) ∧ G p = none ∧ F p = none ∧ H p = some (.dK (encK kvs))
  | x, .op p ds => ∃ vs, x = some (.ref p) ∧ G p = none ∧ F p = none ∧ H p = some (.lst vs) ∧ Reps K G vs ds
  | x, .kn w d => x = some w ∧ Rep K G w d

def Own : Sl → Prop
  | .ow _ => True
  | .od _ => True
  | .op _ _ => True
  | _ => False
def OwnAt (σ : L2.St) (ρ : List Sl) (i : Nat) (p : Addr) : Prop := σ[i]? = some (some (.ref p)) ∧ ∃ r, ρ[i]? = some r ∧ Own r

structure SR (K : PySem.W.Frag) (B : Bs) (σ : L2.St) (G H : Hp) (ρ : List Sl) : Prop where
  e1 : Ex B.V0 G
  e2 : Ex B.F H
  e3 : Ex G H
  nw : ∀ (a : Addr) (o : HO), G a = some o → B.V0 a = none → B.F a = none
  len : σ.length = ρ.length
  sl : ∀ (i : Nat) (r : Sl), ρ[i]? = some r → ∃ x : Option V, σ[i]? = some x ∧ SlotR K B.F G H x r
  ne : ∀ (i j : Nat) (p : Addr), OwnAt σ ρ i p → OwnAt σ ρ j p → i = j

def ValR (K : PySem.W.Frag) (B : Bs) (σ : L2.St) (ρ : List Sl) (G H : Hp) (v : V) (r : Sl) : Prop :=
  r ≠ .no ∧ SlotR K B.F G H (some v) r ∧ (Own r → ∀ p : Addr, v = .ref p → ∀ i : Nat, ¬ OwnAt σ ρ i p)

theorem ex_none {H H' : Hp} {p : Addr} (e : Ex H H') (h : H' p = none) : H p = none := Evl.fresh_back e h

section
variable {K : PySem.W.Frag} {B : Bs} {σ : L2.St} {G G' H H' F : Hp} {ρ : List Sl} {v : V} {d : D} {r : Sl}
theorem SlotR.own_there {x : Option V} (h : SlotR K F G H x r) (o : Own r) : ∃ p u, x = some (.ref p) ∧ G p = none ∧ F p = none ∧ H p = some u := by
  cases r with
  | no => exact False.elim o
  | fz d => exact False.elim o
  | kn w d => exact False.elim o
  | ow ds => obtain ⟨p, vs, h1, h2, h3, h4, _⟩ := h; exact ⟨p, _, h1, h2, h3, h4⟩
  | od ds => obtain ⟨p, h1, h2, h3, h4⟩ := h; exact ⟨p, _, h1, h2, h3, h4⟩
  | op p ds => obtain ⟨vs, h1, h2, h3, h4, _⟩ := h; exact ⟨p, _, h1, h2, h3, h4⟩
theorem SR.own {i : Nat} {p : Addr} (S : SR K B σ G H ρ) (o : OwnAt σ ρ i p) : G p = none ∧ B.F p = none ∧ ∃ u, H p = some u := by
  obtain ⟨h1, r, h2, o⟩ := o
  obtain ⟨x, h3, h4⟩ := S.sl i r h2
  rw [h1] at h3
  cases h3
  obtain ⟨q, u, h5, h6, h7, h8⟩ := h4.own_there o
  cases h5
  exact ⟨h6, h7, u, h8⟩
/-- a slot's fact goes on where the view grows, what the list is stays -/
theorem SlotR.grow {x : Option V} (h : SlotR K F G H x r) (e : Ex G G') (hp : ∀ p u, Own r → x = some (.ref p) → H p = some u → H' p = some u) (hn : ∀ p, Own r → x = some (.ref p) → G p = none → H p ≠ none → G' p = none) : SlotR K F G' H' x r := by
  cases r with
  | no => exact trivial
  | fz d => obtain ⟨v, h1, h2⟩ := h; exact ⟨v, h1, h2.mono e⟩
  | kn w d => exact ⟨h.1, h.2.mono e⟩
  | ow ds =>
    obtain ⟨p, vs, h1, h2, h3, h4, h5⟩ := h
    exact ⟨p, vs, h1, hn p trivial h1 h2 (by rw [h4]; exact fun z => nomatch z), h3, hp p _ trivial h1 h4, h5.mono e⟩
  | od ds =>
    obtain ⟨p, h1, h2, h3, h4⟩ := h
    exact ⟨p, h1, hn p trivial h1 h2 (by rw [h4]; exact fun z => nomatch z), h3, hp p _ trivial h1 h4⟩
  | op p ds =>
    obtain ⟨vs, h1, h2, h3, h4, h5⟩ := h
    exact ⟨vs, h1, hn p trivial h1 h2 (by rw [h4]; exact fun z => nomatch z), h3, hp p _ trivial h1 h4, h5.mono e⟩
/-- behind a call or a new object -/
theorem SR.call (S : SR K B σ G H ρ) (a : Ex G G') (b : Ex H H') (c : Ex G' H') (n : ∀ p o, G' p = some o → G p = none → H p = none) : SR K B σ G' H' ρ where
  e1 := S.e1.trans a
  e2 := S.e2.trans b
  e3 := c
  nw := fun p o h1 h2 => by
    cases e : G p with
    | some u => exact S.nw p u e h2
    | none => exact ex_none S.e2 (n p o h1 e)
  len := S.len
  sl := fun i r h => by
    obtain ⟨x, h1, h2⟩ := S.sl i r h
    refine ⟨x, h1, h2.grow a (fun p u _ _ q => b p u q) fun p _ _ h3 h4 => ?_⟩
    cases e : G' p with
    | none => rfl
    | some u => exact absurd (n p u e h3) h4
  ne := S.ne
theorem SR.alloc {p : Addr} {o : HO} (S : SR K B σ G H ρ) (h : H p = none) : SR K B σ G (upd H p o) ρ :=
  S.call (Evl.Ex.refl G) (Evl.Ex.new h) (S.e3.trans (Evl.Ex.new h)) fun _ _ h1 h2 => by rw [h2] at h1; cases h1
theorem SR.allocV {p : Addr} {o : HO} (S : SR K B σ G H ρ) (h : H p = none) : SR K B σ (upd G p o) (upd H p o) ρ :=
  S.call (Evl.Ex.new (ex_none S.e3 h)) (Evl.Ex.new h) (fun a u e => by
    by_cases ea : a = p
    · subst ea; rw [upd_same] at e ⊢; exact e
    · rw [upd_ne ea] at e ⊢; exact S.e3 a u e) fun a u h1 h2 => by
    by_cases ea : a = p
    · subst ea; exact h
    · rw [upd_ne ea, h2] at h1; cases h1
theorem SR.notOwn {p : Addr} (S : SR K B σ G H ρ) (h : H p = none) (i : Nat) : ¬ OwnAt σ ρ i p := fun o => by
  obtain ⟨_, _, u, e⟩ := S.own o
  rw [h] at e; cases e
theorem ValR.of (h : Rep K G v d) : ValR K B σ ρ G H v (.fz d) := ⟨(fun z => nomatch z), ⟨v, rfl, h⟩, fun z => False.elim z⟩
theorem ValR.rep (h : ValR K B σ ρ G H v (.fz d)) : Rep K G v d := by
  obtain ⟨_, ⟨w, e, q⟩, _⟩ := h
  cases e
  exact q
/-- a list of one's own is handed on as data -/
theorem ValR.frz {ds : List D} (h : ValR K B σ ρ G H v (.ow ds)) (S : SR K B σ G H ρ) : ∃ G', Ex G G' ∧ SR K B σ G' H ρ ∧ Rep K G' v (.lst ds) := by
  obtain ⟨_, ⟨p, vs, e, h1, h2, h3, h4⟩, h5⟩ := h
  cases e
  have ex : Ex G (upd G p (.lst vs)) := Evl.Ex.new h1
  refine ⟨upd G p (.lst vs), ex, ⟨S.e1.trans ex, S.e2, fun a u e => ?_, fun a u e n => ?_, S.len, fun i r q => ?_, S.ne⟩, .lst upd_same (h4.mono ex)⟩
  · by_cases ea : a = p
    · subst ea; rw [upd_same] at e; cases e; exact h3
    · rw [upd_ne ea] at e; exact S.e3 a u e
  · by_cases ea : a = p
    · subst ea; exact h2
    · rw [upd_ne ea] at e; exact S.nw a u e n
  · obtain ⟨x, q1, q2⟩ := S.sl i r q
    refine ⟨x, q1, q2.grow ex (fun _ _ _ _ z => z) fun a o e1 e2 e3 => ?_⟩
    rw [upd_ne ?_]
    · exact e2
    · rintro rfl
      exact h5 trivial _ rfl i ⟨by rw [q1, e1], r, q, o⟩
theorem ValR.frzD {kvs : List (Int × Int)} (h : ValR K B σ ρ G H v (.od kvs)) (S : SR K B σ G H ρ) : ∃ G', Ex G G' ∧ SR K B σ G' H ρ ∧ Rep K G' v (.dic kvs) := by
  obtain ⟨_, ⟨p, e, h1, h2, h3⟩, h5⟩ := h
  cases e
  have ex : Ex G (upd G p (.dK (encK kvs))) := Evl.Ex.new h1
  refine ⟨upd G p (.dK (encK kvs)), ex, ⟨S.e1.trans ex, S.e2, fun a u e => ?_, fun a u e n => ?_, S.len, fun i r q => ?_, S.ne⟩, .dic upd_same⟩
  · by_cases ea : a = p
    · subst ea; rw [upd_same] at e; cases e; exact h3
    · rw [upd_ne ea] at e; exact S.e3 a u e
  · by_cases ea : a = p
    · subst ea; exact h2
    · rw [upd_ne ea] at e; exact S.nw a u e n
  · obtain ⟨x, q1, q2⟩ := S.sl i r q
    refine ⟨x, q1, q2.grow ex (fun _ _ _ _ z => z) fun a o e1 e2 e3 => ?_⟩
    rw [upd_ne ?_]
    · exact e2
    · rintro rfl
      exact h5 trivial _ rfl i ⟨by rw [q1, e1], r, q, o⟩
/-- a name is stored -/
theorem SR.set {i : Nat} (S : SR K B σ G H ρ) (h : ValR K B σ ρ G H v r) : SR K B (σ.set i (some v)) G H (ρ.set i r) where
  e1 := S.e1
  e2 := S.e2
  e3 := S.e3
  nw := S.nw
  len := by rw [List.length_set, List.length_set]; exact S.len
  sl := fun j r' q => by
    by_cases e : j = i
    · subst e
      have hj : j < ρ.length := by
        have := (List.getElem?_eq_some_iff.mp q).1
        rwa [List.length_set] at this
      rw [List.getElem?_set_self hj] at q
      cases q
      exact ⟨some v, List.getElem?_set_self (by rw [S.len]; exact hj), h.2.1⟩
    · rw [List.getElem?_set_ne (Ne.symm e)] at q ⊢
      exact S.sl j r' q
  ne := fun j k p hj hk => by
    have key : ∀ j, OwnAt (σ.set i (some v)) (ρ.set i r) j p → (j = i ∧ v = .ref p ∧ Own r) ∨ OwnAt σ ρ j p := fun j hj => by
      obtain ⟨h1, r', h2, o⟩ := hj
      by_cases e : j = i
      · subst e
        have hj : j < ρ.length := by
          have := (List.getElem?_eq_some_iff.mp h2).1
          rwa [List.length_set] at this
        rw [List.getElem?_set_self hj] at h2
        rw [List.getElem?_set_self (by rw [S.len]; exact hj)] at h1
        cases h1; cases h2
        exact .inl ⟨rfl, rfl, o⟩
      · rw [List.getElem?_set_ne (Ne.symm e)] at h1 h2
        exact .inr ⟨h1, r', h2, o⟩
    rcases key j hj with ⟨e1, e2, e3⟩ | hj
    · rcases key k hk with ⟨e4, _, _⟩ | hk
      · rw [e1, e4]
      · exact absurd hk (h.2.2 e3 p e2 k)
    · rcases key k hk with ⟨e1, e2, e3⟩ | hk
      · exact absurd hj (h.2.2 e3 p e2 j)
      · exact S.ne j k p hj hk
theorem SR.getP {i : Nat} {p : Addr} {ds : List D} (S : SR K B σ G H ρ) (h : ρ[i]? = some (.op p ds)) : ∃ vs, σ[i]? = some (some (.ref p)) ∧ G p = none ∧ B.F p = none ∧ H p = some (.lst vs) ∧ Reps K G vs ds := by
  obtain ⟨x, h1, vs, rfl, h2⟩ := S.sl i _ h
  exact ⟨vs, h1, h2⟩
theorem SR.writeP {i : Nat} {p : Addr} {vs' : List V} {ds ds' : List D} (S : SR K B σ G H ρ) (h : ρ[i]? = some (.op p ds)) (q : Reps K G vs' ds') : SR K B σ G (upd H p (.lst vs')) (ρ.set i (.op p ds')) := by
  obtain ⟨vs0, hp, _⟩ := S.getP h
  have oi : OwnAt σ ρ i p := ⟨hp, _, h, trivial⟩
  obtain ⟨hV, hF, u, hH⟩ := S.own oi
  have hi : i < ρ.length := (List.getElem?_eq_some_iff.mp h).1
  have key : ∀ j p', OwnAt σ (ρ.set i (.op p ds')) j p' → OwnAt σ ρ j p' := fun j p' ⟨a1, r', a2, a3⟩ => by
    by_cases e : j = i
    · subst e; exact ⟨a1, _, h, trivial⟩
    · rw [List.getElem?_set_ne (Ne.symm e)] at a2; exact ⟨a1, r', a2, a3⟩
  refine ⟨S.e1, fun a o e => ?_, fun a o e => ?_, S.nw, by rw [List.length_set]; exact S.len, fun j r q' => ?_, fun j k p' a b => S.ne j k p' (key j p' a) (key k p' b)⟩
  · rw [upd_ne (by rintro rfl; rw [hF] at e; cases e)]; exact S.e2 a o e
  · rw [upd_ne (by rintro rfl; rw [hV] at e; cases e)]; exact S.e3 a o e
  · by_cases e : j = i
    · subst e
      rw [List.getElem?_set_self hi] at q'
      cases q'
      exact ⟨_, hp, vs', rfl, hV, hF, upd_same, q⟩
    · rw [List.getElem?_set_ne (Ne.symm e)] at q'
      obtain ⟨x, h1, h2⟩ := S.sl j r q'
      refine ⟨x, h1, h2.grow (Evl.Ex.refl G) (fun p' u o e1 e2 => ?_) fun _ _ _ z _ => z⟩
      rw [upd_ne ?_]
      · exact e2
      · rintro rfl
        exact e (S.ne j i _ ⟨by rw [h1, e1], r, q', o⟩ oi)
/-- slots are forgotten -/
theorem SR.weak {ρ' : List Sl} (S : SR K B σ G H ρ) (hl : ρ'.length = ρ.length) (h : ∀ (i : Nat) r, ρ'[i]? = some r → r = .no ∨ ρ[i]? = some r) : SR K B σ G H ρ' where
  e1 := S.e1
  e2 := S.e2
  e3 := S.e3
  nw := S.nw
  len := S.len.trans hl.symm
  sl := fun i r q => by
    rcases h i r q with z | z
    · subst z
      have hi : i < σ.length := by
        have := (List.getElem?_eq_some_iff.mp q).1
        have := S.len
        omega
      exact ⟨σ[i], List.getElem?_eq_getElem hi, trivial⟩
    · exact S.sl i r z
  ne := fun i j p ⟨a1, r1, a2, a3⟩ ⟨b1, r2, b2, b3⟩ => by
    refine S.ne i j p ⟨a1, r1, ?_, a3⟩ ⟨b1, r2, ?_, b3⟩
    · rcases h i r1 a2 with z | z
      · subst z; exact False.elim a3
      · exact z
    · rcases h j r2 b2 with z | z
      · subst z; exact False.elim b3
      · exact z
theorem SR.get {i : Nat} (S : SR K B σ G H ρ) (h : ρ[i]? = some (.fz d)) : ∃ v, σ[i]? = some (some v) ∧ Rep K G v d := by
  obtain ⟨x, h1, v, rfl, h2⟩ := S.sl i _ h
  exact ⟨v, h1, h2⟩
theorem SR.getO {i : Nat} {ds : List D} (S : SR K B σ G H ρ) (h : ρ[i]? = some (.ow ds)) : ∃ p vs, σ[i]? = some (some (.ref p)) ∧ G p = none ∧ B.F p = none ∧ H p = some (.lst vs) ∧ Reps K G vs ds := by
  obtain ⟨x, h1, p, vs, rfl, h2⟩ := S.sl i _ h
  exact ⟨p, vs, h1, h2⟩
/-- a list of one's own is changed -/
theorem SR.write {i : Nat} {p : Addr} {vs' : List V} {ds ds' : List D} (S : SR K B σ G H ρ) (h : ρ[i]? = some (.ow ds)) (hp : σ[i]? = some (some (.ref p))) (q : Reps K G vs' ds') : SR K B σ G (upd H p (.lst vs')) (ρ.set i (.ow ds')) := by
  have oi : OwnAt σ ρ i p := ⟨hp, _, h, trivial⟩
  obtain ⟨hV, hF, u, hH⟩ := S.own oi
  have hi : i < ρ.length := (List.getElem?_eq_some_iff.mp h).1
  have key : ∀ j p', OwnAt σ (ρ.set i (.ow ds')) j p' → OwnAt σ ρ j p' := fun j p' ⟨a1, r', a2, a3⟩ => by
    by_cases e : j = i
    · subst e; exact ⟨a1, _, h, trivial⟩
    · rw [List.getElem?_set_ne (Ne.symm e)] at a2; exact ⟨a1, r', a2, a3⟩
  refine ⟨S.e1, fun a o e => ?_, fun a o e => ?_, S.nw, by rw [List.length_set]; exact S.len, fun j r q' => ?_, fun j k p' a b => S.ne j k p' (key j p' a) (key k p' b)⟩
  · rw [upd_ne (by rintro rfl; rw [hF] at e; cases e)]; exact S.e2 a o e
  · rw [upd_ne (by rintro rfl; rw [hV] at e; cases e)]; exact S.e3 a o e
  · by_cases e : j = i
    · subst e
      rw [List.getElem?_set_self hi] at q'
      cases q'
      exact ⟨_, hp, p, vs', rfl, hV, hF, upd_same, q⟩
    · rw [List.getElem?_set_ne (Ne.symm e)] at q'
      obtain ⟨x, h1, h2⟩ := S.sl j r q'
      refine ⟨x, h1, h2.grow (Evl.Ex.refl G) (fun p' u o e1 e2 => ?_) fun _ _ _ z _ => z⟩
      rw [upd_ne ?_]
      · exact e2
      · rintro rfl
        exact e (S.ne j i _ ⟨by rw [h1, e1], r, q', o⟩ oi)
theorem SR.writeD {i : Nat} {p : Addr} {kvs kvs' : List (Int × Int)} (S : SR K B σ G H ρ) (h : ρ[i]? = some (.od kvs)) (hp : σ[i]? = some (some (.ref p))) : SR K B σ G (upd H p (.dK (encK kvs'))) (ρ.set i (.od kvs')) := by
  have oi : OwnAt σ ρ i p := ⟨hp, _, h, trivial⟩
  obtain ⟨hV, hF, u, hH⟩ := S.own oi
  have hi : i < ρ.length := (List.getElem?_eq_some_iff.mp h).1
  have key : ∀ j p', OwnAt σ (ρ.set i (.od kvs')) j p' → OwnAt σ ρ j p' := fun j p' ⟨a1, r', a2, a3⟩ => by
    by_cases e : j = i
    · subst e; exact ⟨a1, _, h, trivial⟩
    · rw [List.getElem?_set_ne (Ne.symm e)] at a2; exact ⟨a1, r', a2, a3⟩
  refine ⟨S.e1, fun a o e => ?_, fun a o e => ?_, S.nw, by rw [List.length_set]; exact S.len, fun j r q' => ?_, fun j k p' a b => S.ne j k p' (key j p' a) (key k p' b)⟩
  · rw [upd_ne (by rintro rfl; rw [hF] at e; cases e)]; exact S.e2 a o e
  · rw [upd_ne (by rintro rfl; rw [hV] at e; cases e)]; exact S.e3 a o e
  · by_cases e : j = i
    · subst e
      rw [List.getElem?_set_self hi] at q'
      cases q'
      exact ⟨_, hp, p, rfl, hV, hF, upd_same⟩
    · rw [List.getElem?_set_ne (Ne.symm e)] at q'
      obtain ⟨x, h1, h2⟩ := S.sl j r q'
      refine ⟨x, h1, h2.grow (Evl.Ex.refl G) (fun p' u o e1 e2 => ?_) fun _ _ _ z _ => z⟩
      rw [upd_ne ?_]
      · exact e2
      · rintro rfl
        exact e (S.ne j i _ ⟨by rw [h1, e1], r, q', o⟩ oi)
end
def wpE (X : Cx) (e : Expr) : TE := fun σ H Q => ∀ (pins : List (Addr × Obj)) (s : Shared), Inv X pins σ H s → wpAny (model X.prog X.w) X.A (eval e X.env) (EP X pins σ Q) X.xe s
def wpT (X : Cx) (e : Expr) : TT := fun σ H Q => ∀ (pins : List (Addr × Obj)) (s : Shared), Inv X pins σ H s → wpAny (model X.prog X.w) X.A (isTrue e X.env (eval e X.env)) (TP X pins σ Q) X.xe s
def wpW (X : Cx) (e : Expr) : TT := fun σ H Q => ∀ (whole : Sem Value) (pins : List (Addr × Obj)) (s : Shared), Inv X pins σ H s → wpAny (model X.prog X.w) X.A (isTrue e X.env whole) (TP X pins σ Q) X.xe s
def wpA (X : Cx) (es : List Expr) : TA := fun σ H Q => ∀ (pos : Pos) (pins : List (Addr × Obj)) (s : Shared), Inv X pins σ H s → wpAny (model X.prog X.w) X.A (spliced (backTo pos (starEach es X.env))) (AP X pins σ Q) X.xe s
def wpTs (X : Cx) (ifs : List Expr) : TT := fun σ H Q => ∀ (t : TT), PTs X ifs t → t σ H Q
section
variable {X : Cx} {e : Expr} {es : List Expr} {σ : L2.St} {H : Hp}
theorem canE : PE X e (wpE X e) := ⟨fun pins s _ _ _ I h => h pins s I⟩
theorem canT : PT X e (wpT X e) := ⟨fun pins s _ _ _ I h => h pins s I⟩
theorem canW : PW X e (wpW X e) := ⟨fun wh pins s _ _ _ I h => h wh pins s I⟩
theorem canA : PA X es (wpA X es) := ⟨fun pos pins s _ _ _ I h => h pos pins s I⟩
theorem wpE_of {t : TE} {Q : VK} (h : PE X e t) (q : t σ H Q) : wpE X e σ H Q := fun pins s I => h.run pins s σ H Q I q
theorem wpT_of {t : TT} {Q : Bool → Hp → Prop} (h : PT X e t) (q : t σ H Q) : wpT X e σ H Q := fun pins s I => h.run pins s σ H Q I q
theorem wpW_of {t : TT} {Q : Bool → Hp → Prop} (h : PW X e t) (q : t σ H Q) : wpW X e σ H Q := fun wh pins s I => h.run wh pins s σ H Q I q
theorem wpA_of {t : TA} {Q : List V → Hp → Prop} (h : PA X es t) (q : t σ H Q) : wpA X es σ H Q := fun pos pins s I => h.run pos pins s σ H Q I q
end

def PDt (X : Cx) (e : Expr) (ρ ρ' : List Sl) (r : Sl) : Prop := ∀ (B : Bs) (σ : L2.St) (G H : Hp) (Q : VK), SR X.K B σ G H ρ →
  (∀ v G' H', Ex G G' → SR X.K B σ G' H' ρ' → ValR X.K B σ ρ' G' H' v r → Q v H') → wpE X e σ H Q
def PTDt (X : Cx) (e : Expr) (ρ ρ' : List Sl) (b : Bool) : Prop := ∀ (B : Bs) (σ : L2.St) (G H : Hp) (Q : Bool → Hp → Prop), SR X.K B σ G H ρ →
  (∀ G' H', Ex G G' → SR X.K B σ G' H' ρ' → Q b H') → wpT X e σ H Q
def PWDt (X : Cx) (e : Expr) (ρ ρ' : List Sl) (b : Bool) : Prop := ∀ (B : Bs) (σ : L2.St) (G H : Hp) (Q : Bool → Hp → Prop), SR X.K B σ G H ρ →
  (∀ G' H', Ex G G' → SR X.K B σ G' H' ρ' → Q b H') → wpW X e σ H Q
def PADt (X : Cx) (es : List Expr) (ρ ρ' : List Sl) (ds : List D) : Prop := ∀ (B : Bs) (σ : L2.St) (G H : Hp) (Q : List V → Hp → Prop), SR X.K B σ G H ρ →
  (∀ vs G' H', Ex G G' → SR X.K B σ G' H' ρ' → Reps X.K G' vs ds → Q vs H') → wpA X es σ H Q

structure PD (X : Cx) (e : Expr) (ρ ρ' : List Sl) (r : Sl) : Prop where
  run : PDt X e ρ ρ' r
structure PTD (X : Cx) (e : Expr) (ρ ρ' : List Sl) (b : Bool) : Prop where
  run : PTDt X e ρ ρ' b
structure PWD (X : Cx) (e : Expr) (ρ ρ' : List Sl) (b : Bool) : Prop where
  run : PWDt X e ρ ρ' b
structure PAD (X : Cx) (es : List Expr) (ρ ρ' : List Sl) (ds : List D) : Prop where
  run : PADt X es ρ ρ' ds
instance (X : Cx) (e : Expr) (ρ ρ' : List Sl) (r : Sl) : CoeFun (PD X e ρ ρ' r) fun _ => PDt X e ρ ρ' r := ⟨PD.run⟩
instance (X : Cx) (e : Expr) (ρ ρ' : List Sl) (r : Bool) : CoeFun (PTD X e ρ ρ' r) fun _ => PTDt X e ρ ρ' r := ⟨PTD.run⟩
instance (X : Cx) (e : Expr) (ρ ρ' : List Sl) (r : Bool) : CoeFun (PWD X e ρ ρ' r) fun _ => PWDt X e ρ ρ' r := ⟨PWD.run⟩
instance (X : Cx) (e : List Expr) (ρ ρ' : List Sl) (r : List D) : CoeFun (PAD X e ρ ρ' r) fun _ => PADt X e ρ ρ' r := ⟨PAD.run⟩

/-- by values: two operands; a call's arguments; one operand -/
def RD (K : PySem.W.Frag) (r : R2) (d e : D) (o : Sl) : Prop := ∀ (B : Bs) (σ : L2.St) (ρ : List Sl) (G H : Hp) (x y : V) (Q : VK), SR K B σ G H ρ → Rep K G x d → Rep K G y e →
  (∀ v G' H', Ex G G' → SR K B σ G' H' ρ → ValR K B σ ρ G' H' v o → Q v H') → r x y H Q
def RC (K : PySem.W.Frag) (r : List V → Hp → VK → Prop) (ds : List D) (o : Sl) : Prop := ∀ (B : Bs) (σ : L2.St) (ρ : List Sl) (G H : Hp) (xs : List V) (Q : VK), SR K B σ G H ρ → Reps K G xs ds →
  (∀ v G' H', Ex G G' → SR K B σ G' H' ρ → ValR K B σ ρ G' H' v o → Q v H') → r xs H Q
def RU (K : PySem.W.Frag) (r : V → Hp → VK → Prop) (d : D) (o : Sl) : Prop := ∀ (B : Bs) (σ : L2.St) (ρ : List Sl) (G H : Hp) (x : V) (Q : VK), SR K B σ G H ρ → Rep K G x d →
  (∀ v G' H', Ex G G' → SR K B σ G' H' ρ → ValR K B σ ρ G' H' v o → Q v H') → r x H Q

theorem ValR.fresh {K : PySem.W.Frag} {B : Bs} {σ : L2.St} {G H : Hp} {ρ : List Sl} {p : Addr} {vs : List V} {ds : List D} (S : SR K B σ G H ρ) (h : H p = none) (r : Reps K G vs ds) : ValR K B σ ρ G (upd H p (.lst vs)) (.ref p) (.ow ds) :=
  ⟨(fun z => nomatch z), ⟨p, vs, rfl, ex_none S.e3 h, ex_none S.e2 h, upd_same, r⟩, fun _ q e i => by cases e; exact S.notOwn h i⟩

section
variable {X : Cx} {e a b c : Expr} {es : List Expr} {ρ ρ1 ρ2 ρ3 : List Sl} {r o : Sl} {d d1 d2 : D} {ds : List D} {x : Str} {pos p : Pos}

theorem pd_frz (h : PD X e ρ ρ1 (.ow ds)) : PD X e ρ ρ1 (.fz (.lst ds)) := .mk fun B σ G H Q S k => h B σ G H Q S fun v G1 H1 e1 S1 r1 => by
  obtain ⟨G2, e2, S2, r2⟩ := r1.frz S1
  exact k v G2 H1 (e1.trans e2) S2 (.of r2)
theorem pd_frzD {kvs : List (Int × Int)} (h : PD X e ρ ρ1 (.od kvs)) : PD X e ρ ρ1 (.fz (.dic kvs)) := .mk fun B σ G H Q S k => h B σ G H Q S fun v G1 H1 e1 S1 r1 => by
  obtain ⟨G2, e2, S2, r2⟩ := r1.frzD S1
  exact k v G2 H1 (e1.trans e2) S2 (.of r2)
theorem pd_eq {r' : Sl} (h : PD X e ρ ρ1 r) (q : r = r') : PD X e ρ ρ1 r' := q ▸ h
theorem ptd_eq {k k' : Bool} (h : PTD X e ρ ρ1 k) (q : k = k') : PTD X e ρ ρ1 k' := q ▸ h

theorem pd_name (i : Nat) (h : ρ[i]? = some (.fz d)) (hN : X.N[i]? = some x) (hv : Vis X.env.scope x) (hd : (x == ("__debug__" : Str)) = false := by decide) (hcd : (x == ("__classdict__" : Str)) = false := by decide) :
    PD X (.Name x pos) ρ ρ (.fz d) := .mk fun B σ G H Q S k => wpE_of (pe_var hN hv hd hcd) (by
  obtain ⟨v, h1, h2⟩ := S.get h
  exact ⟨v, h1, k v G H (Evl.Ex.refl G) S (.of h2)⟩)
/-- a list of one's own, handed on for good -/
theorem pd_nameM (i : Nat) (h : ρ[i]? = some (.ow ds)) (hN : X.N[i]? = some x) (hv : Vis X.env.scope x) (hd : (x == ("__debug__" : Str)) = false := by decide) (hcd : (x == ("__classdict__" : Str)) = false := by decide) :
    PD X (.Name x pos) ρ (ρ.set i .no) (.ow ds) := .mk fun B σ G H Q S k => wpE_of (pe_var hN hv hd hcd) (by
  obtain ⟨q, vs, h1, h2, h3, h4, h5⟩ := S.getO h
  refine ⟨.ref q, h1, k _ G H (Evl.Ex.refl G) (S.weak (List.length_set ..) fun j r z => ?_) ⟨(fun z => nomatch z), ⟨q, vs, rfl, h2, h3, h4, h5⟩, fun _ q' e' j oj => ?_⟩⟩
  · by_cases ej : j = i
    · subst ej
      rw [List.getElem?_set_self (List.getElem?_eq_some_iff.mp h).1] at z
      cases z
      exact .inl rfl
    · rw [List.getElem?_set_ne (Ne.symm ej)] at z
      exact .inr z
  · cases e'
    obtain ⟨o1, r, o2, o3⟩ := oj
    by_cases ej : j = i
    · subst ej
      rw [List.getElem?_set_self (List.getElem?_eq_some_iff.mp h).1] at o2
      cases o2
      exact o3
    · rw [List.getElem?_set_ne (Ne.symm ej)] at o2
      exact ej (S.ne j i q ⟨o1, r, o2, o3⟩ ⟨h1, _, h, trivial⟩))
/-- a list of one's own, read as data from now on -/
theorem pd_nameF (i : Nat) (h : ρ[i]? = some (.ow ds)) (hN : X.N[i]? = some x) (hv : Vis X.env.scope x) (hd : (x == ("__debug__" : Str)) = false := by decide) (hcd : (x == ("__classdict__" : Str)) = false := by decide) :
    PD X (.Name x pos) ρ (ρ.set i (.fz (.lst ds))) (.fz (.lst ds)) := .mk fun B σ G H Q S k => wpE_of (pe_var hN hv hd hcd) (by
  obtain ⟨q, vs, h1, h2, h3, h4, h5⟩ := S.getO h
  have hi := (List.getElem?_eq_some_iff.mp h).1
  have S0 : SR X.K B σ G H (ρ.set i .no) := S.weak (List.length_set ..) fun j r z => by
    by_cases ej : j = i
    · subst ej
      rw [List.getElem?_set_self hi] at z
      cases z
      exact .inl rfl
    · rw [List.getElem?_set_ne (Ne.symm ej)] at z
      exact .inr z
  have v0 : ValR X.K B σ (ρ.set i .no) G H (.ref q) (.ow ds) := ⟨(fun z => nomatch z), ⟨q, vs, rfl, h2, h3, h4, h5⟩, fun _ q' e' j oj => by
    cases e'
    obtain ⟨o1, r, o2, o3⟩ := oj
    by_cases ej : j = i
    · subst ej
      rw [List.getElem?_set_self hi] at o2
      cases o2
      exact o3
    · rw [List.getElem?_set_ne (Ne.symm ej)] at o2
      exact ej (S.ne j i q ⟨o1, r, o2, o3⟩ ⟨h1, _, h, trivial⟩)⟩
  obtain ⟨G2, e2, S2, r2⟩ := v0.frz S0
  have S3 := S2.set (i := i) (ValR.of (B := B) (σ := σ) (ρ := ρ.set i .no) (H := H) r2)
  rw [List.set_set] at S3
  have es : σ.set i (some (V.ref q)) = σ := by
    refine List.ext_getElem? fun j => ?_
    by_cases ej : j = i
    · subst ej
      rw [List.getElem?_set_self (by rw [S.len]; exact hi), h1]
    · rw [List.getElem?_set_ne (Ne.symm ej)]
  rw [es] at S3
  exact ⟨.ref q, h1, k _ G2 H e2 S3 (.of r2)⟩)
theorem pd_int {i : Int} {j : Nat} : PD X (.Constant (.int i) j pos) ρ ρ (.fz (.int i)) := .mk fun B σ G H Q S k => wpE_of pe_int (k _ G H (Evl.Ex.refl G) S (.of (.int i)))
theorem pd_bl {i : Bool} {j : Nat} : PD X (.Constant (.bool i) j pos) ρ ρ (.fz (.bl i)) := .mk fun B σ G H Q S k => wpE_of pe_bl (k _ G H (Evl.Ex.refl G) S (.of (.bl i)))
theorem pd_non {j : Nat} : PD X (.Constant .none j pos) ρ ρ (.fz .non) := .mk fun B σ G H Q S k => wpE_of pe_non (k _ G H (Evl.Ex.refl G) S (.of .non))
theorem pd_str {i : Str} {j : Nat} : PD X (.Constant (.str i) j pos) ρ ρ (.fz (.str i)) := .mk fun B σ G H Q S k => wpE_of pe_str (k _ G H (Evl.Ex.refl G) S (.of (.str i)))
/-- a constant, a class, a def of the module -/
theorem pd_glob {v : V} {u : Value} (hg : Gl X x) (hm : X.mg x = some u) (r : RelV v u) (q : ∀ K H, Rep K H v d) (hd : (x == ("__debug__" : Str)) = false := by decide) : PD X (.Name x pos) ρ ρ (.fz d) := .mk fun B σ G H Q S k =>
  wpE_of (pe_glob hg hm r hd) (k v G H (Evl.Ex.refl G) S (.of (q _ _)))
theorem pd_bltn {v : V} {u : Value} (hg : Gl X x) (hm : X.mg x = none) (hv : bootBuiltins x = some u) (r : RelV v u) (hn : x ≠ "__name__" := by decide) (hd : (x == ("__debug__" : Str)) = false := by decide) : PD X (.Name x pos) ρ ρ (.fz (.raw v)) := .mk fun B σ G H Q S k =>
  wpE_of (pe_bltn hg hm hv r hn hd) (k v G H (Evl.Ex.refl G) S (.of (.raw v)))

theorem bin2 {R : R2} (ha : PD X a ρ ρ1 (.fz d1)) (hb : PD X b ρ1 ρ2 (.fz d2)) (hr : RD X.K R d1 d2 o) (B : Bs) (σ : L2.St) (G H : Hp) (Q : VK) (S : SR X.K B σ G H ρ)
    (k : ∀ v G' H', Ex G G' → SR X.K B σ G' H' ρ2 → ValR X.K B σ ρ2 G' H' v o → Q v H') : tOp R (wpE X a) (wpE X b) σ H Q :=
  ha B σ G H _ S fun v G1 H1 e1 S1 r1 => hb B σ G1 H1 _ S1 fun w G2 H2 e2 S2 r2 => hr B σ ρ2 G2 H2 v w Q S2 (r1.rep.mono e2) r2.rep fun z G3 H3 e3 S3 r3 => k z G3 H3 ((e1.trans e2).trans e3) S3 r3
theorem pd_op {op : Operator} {R : R2} (ho : OpR X (binaryOp op) R) (ha : PD X a ρ ρ1 (.fz d1)) (hb : PD X b ρ1 ρ2 (.fz d2)) (hr : RD X.K R d1 d2 o) : PD X (.BinOp a op b pos) ρ ρ2 o := .mk fun B σ G H Q S k =>
  wpE_of (pe_op ho canE canE) (bin2 ha hb hr B σ G H Q S k)
theorem pd_un {op : UnaryOp} {R : V → Hp → VK → Prop} (ho : UnR X (unaryOp op) R) (ha : PD X a ρ ρ1 (.fz d1)) (hr : RU X.K R d1 o) : PD X (.UnaryOp op a pos) ρ ρ1 o := .mk fun B σ G H Q S k =>
  wpE_of (pe_un ho canE) (ha B σ G H _ S fun v G1 H1 e1 S1 r1 => hr B σ ρ1 G1 H1 v Q S1 r1.rep fun z G3 H3 e3 S3 r3 => k z G3 H3 (e1.trans e3) S3 r3)
theorem pd_ix {R : R2} (ho : IxR X R) (ha : PD X a ρ ρ1 (.fz d1)) (hb : PD X b ρ1 ρ2 (.fz d2)) (hr : RD X.K R d1 d2 o) (hs : PlainIx b := by intro _ _; rfl) : PD X (.Subscript a b pos) ρ ρ2 o := .mk fun B σ G H Q S k =>
  wpE_of (pe_ix ho canE canE hs) (bin2 ha hb hr B σ G H Q S k)
theorem pd_cmp {op : CmpOp} {R : R2} (ho : OpR X (compareOp op) R) (ha : PD X a ρ ρ1 (.fz d1)) (hb : PD X b ρ1 ρ2 (.fz d2)) (hr : RD X.K R d1 d2 o) (hm : behindInMarks op b = false := by first | exact nomark _ | rfl) : PD X (.Compare a [op] [b] pos) ρ ρ2 o := .mk fun B σ G H Q S k =>
  wpE_of (pe_cmpR ho canE canE hm) (bin2 ha hb hr B σ G H Q S k)
theorem ptd_cmp {op : CmpOp} {R : R2} {k : Bool} (ho : OpR X (compareOp op) R) (ha : PD X a ρ ρ1 (.fz d1)) (hb : PD X b ρ1 ρ2 (.fz d2)) (hr : RD X.K R d1 d2 (.fz (.bl k))) (hm : behindInMarks op b = false := by first | exact nomark _ | rfl) : PTD X (.Compare a [op] [b] pos) ρ ρ2 k := .mk fun B σ G H Q S q =>
  wpT_of (pt_cmpR ho canE canE hm) (bin2 ha hb hr B σ G H _ S fun v G1 H1 e1 S1 r1 => by
    have z := r1.rep
    cases z
    exact ⟨k, rfl, q G1 H1 e1 S1⟩)
theorem ptd_val {k : Bool} (h : PD X e ρ ρ1 (.fz (.bl k))) (he : ∀ whole, isTrue e X.env whole = (do let v ← whole; standAt e.pos; holding [v] (truthy v)) := by intro _; rfl) : PTD X e ρ ρ1 k := .mk fun B σ G H Q S q =>
  wpT_of (pt_val canE he) (h B σ G H _ S fun v G1 H1 e1 S1 r1 => by
    have z := r1.rep
    cases z
    exact ⟨k, rfl, q G1 H1 e1 S1⟩)
theorem ptd_not {k : Bool} (h : PTD X a ρ ρ1 k) : PTD X (.UnaryOp .Not a pos) ρ ρ1 (!k) := .mk fun B σ G H Q S q =>
  wpT_of (pt_not canT) (h B σ G H (fun c H1 => Q (!c) H1) S fun G1 H1 e1 S1 => q G1 H1 e1 S1)
theorem ptd_of {k : Bool} (h : PWD X e ρ ρ1 k) : PTD X e ρ ρ1 k := .mk fun B σ G H Q S q => wpT_of canW.pt (h B σ G H Q S q)
theorem pwd_and1 {k : Bool} (h : PTD X a ρ ρ1 k) : PWD X (.BoolOp .And [a] pos) ρ ρ1 k := .mk fun B σ G H Q S q => wpW_of (pw_and1 canT) (h B σ G H Q S q)
theorem pwd_or1 {k : Bool} (h : PTD X a ρ ρ1 k) : PWD X (.BoolOp .Or [a] pos) ρ ρ1 k := .mk fun B σ G H Q S q => wpW_of (pw_or1 canT) (h B σ G H Q S q)
theorem pwd_and {k l : Bool} (h : PTD X a ρ ρ k) (hb : k = true → PWD X (.BoolOp .And (b :: es) pos) ρ ρ l) : PWD X (.BoolOp .And (a :: b :: es) pos) ρ ρ (k && l) := .mk fun B σ G H Q S q =>
  wpW_of (pw_and canT canW) (h B σ G H _ S fun G1 H1 e1 S1 => by
    cases k with
    | true => exact iteT (hb rfl B σ G1 H1 Q S1 fun G2 H2 e2 S2 => q G2 H2 (e1.trans e2) S2)
    | false => exact iteF (q G1 H1 e1 S1))
theorem pwd_or {k l : Bool} (h : PTD X a ρ ρ k) (hb : k = false → PWD X (.BoolOp .Or (b :: es) pos) ρ ρ l) : PWD X (.BoolOp .Or (a :: b :: es) pos) ρ ρ (k || l) := .mk fun B σ G H Q S q =>
  wpW_of (pw_or canT canW) (h B σ G H _ S fun G1 H1 e1 S1 => by
    cases k with
    | false => exact iteF (hb rfl B σ G1 H1 Q S1 fun G2 H2 e2 S2 => q G2 H2 (e1.trans e2) S2)
    | true => exact iteT (q G1 H1 e1 S1))
theorem pd_one {op : BoolOp} (h : PD X a ρ ρ1 r) : PD X (.BoolOp op [a] pos) ρ ρ1 r := .mk fun B σ G H Q S q => wpE_of (pe_one canE) (h B σ G H Q S q)
theorem pd_and {k l : Bool} (h : PD X a ρ ρ (.fz (.bl k))) (hb : k = true → PD X (.BoolOp .And (b :: es) pos) ρ ρ (.fz (.bl l))) : PD X (.BoolOp .And (a :: b :: es) pos) ρ ρ (.fz (.bl (k && l))) := .mk fun B σ G H Q S q =>
  wpE_of (pe_and canE canE) (h B σ G H _ S fun v G1 H1 e1 S1 r1 => by
    have z := r1.rep
    cases z
    refine ⟨k, rfl, ?_⟩
    cases k with
    | true => exact iteT (hb rfl B σ G1 H1 Q S1 fun v G2 H2 e2 S2 r2 => q v G2 H2 (e1.trans e2) S2 r2)
    | false => exact iteF (q _ G1 H1 e1 S1 r1))
theorem pd_or {k l : Bool} (h : PD X a ρ ρ (.fz (.bl k))) (hb : k = false → PD X (.BoolOp .Or (b :: es) pos) ρ ρ (.fz (.bl l))) : PD X (.BoolOp .Or (a :: b :: es) pos) ρ ρ (.fz (.bl (k || l))) := .mk fun B σ G H Q S q =>
  wpE_of (pe_or canE canE) (h B σ G H _ S fun v G1 H1 e1 S1 r1 => by
    have z := r1.rep
    cases z
    refine ⟨k, rfl, ?_⟩
    cases k with
    | false => exact iteF (hb rfl B σ G1 H1 Q S1 fun v G2 H2 e2 S2 r2 => q v G2 H2 (e1.trans e2) S2 r2)
    | true => exact iteT (q _ G1 H1 e1 S1 r1))
theorem pd_not {k : Bool} (h : PD X a ρ ρ1 (.fz (.bl k))) : PD X (.UnaryOp .Not a pos) ρ ρ1 (.fz (.bl (!k))) := .mk fun B σ G H Q S q =>
  wpE_of (pe_not canE) (h B σ G H _ S fun v G1 H1 e1 S1 r1 => by
    have z := r1.rep
    cases z
    exact ⟨k, rfl, q _ G1 H1 e1 S1 (.of (.bl _))⟩)
theorem pd_ifExp {k : Bool} (h : PTD X c ρ ρ1 k) (h1 : k = true → PD X a ρ1 ρ2 r) (h2 : k = false → PD X b ρ1 ρ2 r) : PD X (.IfExp c a b pos) ρ ρ2 r := .mk fun B σ G H Q S q =>
  wpE_of (pe_ifExp canT canE canE) (h B σ G H _ S fun G1 H1 e1 S1 => by
    cases k with
    | true => exact iteT (h1 rfl B σ G1 H1 Q S1 fun v G2 H2 e2 S2 r2 => q v G2 H2 (e1.trans e2) S2 r2)
    | false => exact iteF (h2 rfl B σ G1 H1 Q S1 fun v G2 H2 e2 S2 r2 => q v G2 H2 (e1.trans e2) S2 r2))

theorem pad_nil : PAD X [] ρ ρ [] := .mk fun B σ G H Q S k => wpA_of pa_nil (k [] G H (Evl.Ex.refl G) S .nil)
theorem pad_cons (ha : PD X e ρ ρ1 (.fz d)) (hr : PAD X es ρ1 ρ2 ds) (hs : starEach (e :: es) X.env = (false, eval e X.env) :: starEach es X.env := by rfl) : PAD X (e :: es) ρ ρ2 (d :: ds) := .mk fun B σ G H Q S k =>
  wpA_of (pa_cons canE canA hs) (ha B σ G H _ S fun v G1 H1 e1 S1 r1 => hr B σ G1 H1 _ S1 fun vs G2 H2 e2 S2 r2 => k (v :: vs) G2 H2 (e1.trans e2) S2 (.cons (r1.rep.mono e2) r2))
theorem small {n : Nat} (h : n ≤ 100000) : n ≤ sizeLine := Evl.sz_of h
theorem pd_tup {x1} (h : PAD X es ρ ρ1 ds) (hl : ds.length ≤ 100000 := by decide) : PD X (.Tuple es x1 pos) ρ ρ1 (.fz (.tup ds)) := .mk fun B σ G H Q S k =>
  wpE_of (pe_tup canA) (h B σ G H _ S fun vs G1 H1 e1 S1 r1 => ⟨by rw [r1.length]; exact small hl, fun p hp => by
    have e2 : Ex G1 (upd G1 p (.tup vs)) := Evl.Ex.new (ex_none S1.e3 hp)
    exact k _ (upd G1 p (.tup vs)) _ (e1.trans e2) (S1.allocV hp) (.of (.tup upd_same (r1.mono e2)))⟩)
theorem pd_lst (h : PAD X es ρ ρ1 ds) (hl : ds.length ≤ 100000 := by decide) : PD X (.List es pos) ρ ρ1 (.ow ds) := .mk fun B σ G H Q S k =>
  wpE_of (pe_lst canA) (h B σ G H _ S fun vs G1 H1 e1 S1 r1 => ⟨by rw [r1.length]; exact small hl, fun p hp => k _ G1 _ e1 (S1.alloc hp) (ValR.fresh S1 hp r1 |> fun z => ⟨z.1, z.2.1, z.2.2⟩)⟩)
theorem pd_callB {id : String} {R : List V → Hp → VK → Prop} (hc : CallR X (.builtin id) R) (hv : bootBuiltins x = some (.builtin id)) (hg : Gl X x) (hm : X.mg x = none) (ha : PAD X (e :: es) ρ ρ1 ds) (hr : RC X.K R ds o) (hn : x ≠ "__name__" := by decide) (hdb : (x == ("__debug__" : Str)) = false := by decide)
    (he : starEach (e :: es) X.env = (false, eval e X.env) :: starEach es X.env := by rfl) (hpl : (backTo pos (starEach es X.env)).any (·.1) = false := by rfl) : PD X (.Call (.Name x p) (e :: es) [] pos) ρ ρ1 o := .mk fun B σ G H Q S k =>
  wpE_of (pe_callB hc hg hm hv canA hn hdb he hpl) (ha B σ G H _ S fun vs G1 H1 e1 S1 r1 => hr B σ ρ1 G1 H1 vs Q S1 r1 fun z G3 H3 e3 S3 r3 => k z G3 H3 (e1.trans e3) S3 r3)
theorem pd_callTy {T : String} {R : List V → Hp → VK → Prop} (hc : CallR X (.type T) R) (hv : bootBuiltins x = some (.type T)) (hg : Gl X x) (hm : X.mg x = none) (ha : PAD X (e :: es) ρ ρ1 ds) (hr : RC X.K R ds o) (hn : x ≠ "__name__" := by decide) (hdb : (x == ("__debug__" : Str)) = false := by decide)
    (he : starEach (e :: es) X.env = (false, eval e X.env) :: starEach es X.env := by rfl) (hpl : (backTo pos (starEach es X.env)).any (·.1) = false := by rfl) : PD X (.Call (.Name x p) (e :: es) [] pos) ρ ρ1 o := .mk fun B σ G H Q S k =>
  wpE_of (pe_callTy hc hg hm hv canA hn hdb he hpl) (ha B σ G H _ S fun vs G1 H1 e1 S1 r1 => hr B σ ρ1 G1 H1 vs Q S1 r1 fun z G3 H3 e3 S3 r3 => k z G3 H3 (e1.trans e3) S3 r3)
end

def lend : Sl → Sl
  | .ow ds => .fz (.lst ds)
  | .od kvs => .fz (.dic kvs)
  | .op _ ds => .fz (.lst ds)
  | r => r
inductive Flat : D → Prop
  | non : Flat .non
  | bl (b : Bool) : Flat (.bl b)
  | int (i : Int) : Flat (.int i)
  | str (s : Str) : Flat (.str s)
theorem Flat.rep {K : PySem.W.Frag} {G G' : Hp} {v : V} {d : D} (f : Flat d) (h : Rep K G v d) : Rep K G' v d := by
  cases f <;> cases h
  · exact .non
  · exact .bl _
  · exact .int _
  · exact .str _
section
open Classical
variable {K : PySem.W.Frag} {B : Bs} {σ : L2.St} {G H : Hp} {ρ : List Sl}
noncomputable def lentG (σ : L2.St) (ρ : List Sl) (G H : Hp) : Hp := fun a => if ∃ i, OwnAt σ ρ i a then H a else G a
theorem lentG_ex (S : SR K B σ G H ρ) : Ex G (lentG σ ρ G H) := fun a o e => by
  unfold lentG
  rw [if_neg]
  · exact e
  · rintro ⟨i, z⟩
    rw [(S.own z).1] at e; cases e
theorem lentG_own {i : Nat} {a : Addr} (z : OwnAt σ ρ i a) : lentG σ ρ G H a = H a := by
  unfold lentG
  rw [if_pos ⟨i, z⟩]
theorem SR.lent (S : SR K B σ G H ρ) : SR K B σ (lentG σ ρ G H) H (ρ.map lend) where
  e1 := S.e1.trans (lentG_ex S)
  e2 := S.e2
  e3 := fun a o e => by
    unfold lentG at e
    split at e
    · exact e
    · exact S.e3 a o e
  nw := fun a o e n => by
    unfold lentG at e
    split at e
    · rename_i z
      obtain ⟨i, z⟩ := z
      exact (S.own z).2.1
    · exact S.nw a o e n
  len := by rw [List.length_map]; exact S.len
  sl := fun i r h => by
    rw [List.getElem?_map] at h
    cases q : ρ[i]? with
    | none => rw [q] at h; cases h
    | some r0 =>
      rw [q] at h
      cases h
      obtain ⟨x, h1, h2⟩ := S.sl i r0 q
      refine ⟨x, h1, ?_⟩
      cases r0 with
      | no => exact trivial
      | fz d => obtain ⟨v, e, z⟩ := h2; exact ⟨v, e, z.mono (lentG_ex S)⟩
      | kn w d => exact ⟨h2.1, h2.2.mono (lentG_ex S)⟩
      | ow ds =>
        obtain ⟨p, vs, e, z1, z2, z3, z4⟩ := h2
        subst e
        exact ⟨_, rfl, .lst (by rw [lentG_own ⟨h1, _, q, trivial⟩]; exact z3) (z4.mono (lentG_ex S))⟩
      | od kvs =>
        obtain ⟨p, e, z1, z2, z3⟩ := h2
        subst e
        exact ⟨_, rfl, .dic (by rw [lentG_own ⟨h1, _, q, trivial⟩]; exact z3)⟩
      | op p ds =>
        obtain ⟨vs, e, z1, z2, z3, z4⟩ := h2
        subst e
        exact ⟨_, rfl, .lst (by rw [lentG_own ⟨h1, _, q, trivial⟩]; exact z3) (z4.mono (lentG_ex S))⟩
  ne := fun i j p z _ => by
    obtain ⟨_, r, h, o⟩ := z
    rw [List.getElem?_map] at h
    cases q : ρ[i]? with
    | none => rw [q] at h; cases h
    | some r0 =>
      rw [q] at h
      cases h
      cases r0 <;> exact False.elim o
theorem SR.back {G' H' : Hp} {ρ' : List Sl} (S : SR K B σ G H ρ) (S' : SR K B σ G' H' ρ') (e : Ex (lentG σ ρ G H) G') : SR K B σ G H' ρ where
  e1 := S.e1
  e2 := S'.e2
  e3 := (lentG_ex S).trans (e.trans S'.e3)
  nw := S.nw
  len := S.len
  sl := fun i r h => by
    obtain ⟨x, h1, h2⟩ := S.sl i r h
    refine ⟨x, h1, h2.grow (Evl.Ex.refl G) (fun p u o e1 e2 => ?_) fun _ _ _ z _ => z⟩
    refine S'.e3 _ _ (e _ _ ?_)
    rw [lentG_own ⟨by rw [h1, e1], r, h, o⟩]
    exact e2
  ne := S.ne
end
section
variable {X : Cx} {e : Expr} {ρ ρ' : List Sl} {d : D} {k : Bool}
theorem pd_lend (h : PD X e (ρ.map lend) ρ' (.fz d)) (f : Flat d) : PD X e ρ ρ (.fz d) := .mk fun B σ G H Q S q =>
  h B σ _ H Q S.lent fun v G1 H1 e1 S1 r1 => q v G H1 (Evl.Ex.refl G) (S.back S1 e1) (.of (f.rep r1.rep))
theorem ptd_lend (h : PTD X e (ρ.map lend) ρ' k) : PTD X e ρ ρ k := .mk fun B σ G H Q S q =>
  h B σ _ H Q S.lent fun G1 H1 e1 S1 => q G H1 (Evl.Ex.refl G) (S.back S1 e1)
end
def wpS (X : Cx) (st : Stmt) : TS := fun D σ H => ∀ (pins : List (Addr × Obj)) (s : Shared), Inv X pins σ H s → wpAny (model X.prog X.w) X.A (exec st X.env) (SP X pins D) X.xe s
def wpB (X : Cx) (sts : List Stmt) : TS := fun D σ H => ∀ (pins : List (Addr × Obj)) (s : Shared), Inv X pins σ H s → wpAny (model X.prog X.w) X.A (execs sts X.env) (SP X pins D) X.xe s
section
variable {X : Cx} {st : Stmt} {sts : List Stmt} {σ : L2.St} {H : Hp} {E : Ends} {t : TS}
theorem canS : PS X st (wpS X st) := ⟨fun pins s _ _ _ I h => h pins s I⟩
theorem canB : PSs X sts (wpB X sts) := ⟨fun pins s _ _ _ I h => h pins s I⟩
theorem wpS_of (h : PS X st t) (q : t E σ H) : wpS X st E σ H := fun pins s I => h.run pins s σ H E I q
theorem wpB_of (h : PSs X sts t) (q : t E σ H) : wpB X sts E σ H := fun pins s I => h.run pins s σ H E I q
end

/-- what is wanted behind a statement, by data -/
structure En where
  nx : List Sl → Prop
  rt : Sl → Prop
  bk : List Sl → Prop := fun _ => False
  ct : List Sl → Prop := fun _ => False
  rp : List Sl → Prop := fun _ => True
structure EnOk (K : PySem.W.Frag) (B : Bs) (G : Hp) (E : En) (M : Ends) : Prop where
  nx : ∀ σ' G' H' ρ', Ex G G' → SR K B σ' G' H' ρ' → E.nx ρ' → M.nx σ' H'
  rt : ∀ v σ' ρ' G' H' r, Ex G G' → SR K B σ' G' H' ρ' → ValR K B σ' ρ' G' H' v r → E.rp ρ' → E.rt r → M.rt v H'
  bk : ∀ σ' G' H' ρ', Ex G G' → SR K B σ' G' H' ρ' → E.bk ρ' → M.bk σ' H'
  ct : ∀ σ' G' H' ρ', Ex G G' → SR K B σ' G' H' ρ' → E.ct ρ' → M.ct σ' H'
theorem EnOk.mono {K : PySem.W.Frag} {B : Bs} {G G' : Hp} {E : En} {M : Ends} (h : EnOk K B G E M) (e : Ex G G') : EnOk K B G' E M :=
  ⟨fun a b c d x => h.nx a b c d (e.trans x), fun a b c d f g x => h.rt a b c d f g (e.trans x), fun a b c d x => h.bk a b c d (e.trans x), fun a b c d x => h.ct a b c d (e.trans x)⟩
def PS1t (X : Cx) (st : Stmt) (ρ : List Sl) (E : En) : Prop := ∀ (B : Bs) (σ : L2.St) (G H : Hp) (M : Ends), SR X.K B σ G H ρ → EnOk X.K B G E M → wpS X st M σ H
def PSDt (X : Cx) (sts : List Stmt) (ρ : List Sl) (E : En) : Prop := ∀ (B : Bs) (σ : L2.St) (G H : Hp) (M : Ends), SR X.K B σ G H ρ → EnOk X.K B G E M → wpB X sts M σ H

structure PS1 (X : Cx) (st : Stmt) (ρ : List Sl) (E : En) : Prop where
  run : PS1t X st ρ E
structure PSD (X : Cx) (sts : List Stmt) (ρ : List Sl) (E : En) : Prop where
  run : PSDt X sts ρ E
instance (X : Cx) (e : Stmt) (ρ : List Sl) (E : En) : CoeFun (PS1 X e ρ E) fun _ => PS1t X e ρ E := ⟨PS1.run⟩
instance (X : Cx) (e : List Stmt) (ρ : List Sl) (E : En) : CoeFun (PSD X e ρ E) fun _ => PSDt X e ρ E := ⟨PSD.run⟩

section
variable {X : Cx} {st : Stmt} {sts rest : List Stmt} {e a b c : Expr} {es : List Expr} {ρ ρ1 ρ2 ρ3 : List Sl} {r : Sl} {E : En} {d : D} {ds : List D} {x : Str} {pos p pos' : Pos}
theorem psd_nil (h : E.nx ρ) : PSD X [] ρ E := .mk fun B σ G H M S k => wpB_of pss_nil (k.nx σ G H ρ (Evl.Ex.refl G) S h)
theorem psd_one (h : PS1 X st ρ E) : PSD X [st] ρ E := .mk fun B σ G H M S k => wpB_of (pss_one canS) (h B σ G H M S k)
theorem psd_cons (h : PS1 X st ρ { E with nx := fun ρ' => PSD X rest ρ' E }) : PSD X (st :: rest) ρ E := .mk fun B σ G H M S k =>
  wpB_of (pss_cons canS canB) (h B σ G H _ S ⟨fun σ' G' H' ρ' e S' q => q B σ' G' H' M S' (k.mono e), k.rt, k.bk, k.ct⟩)
theorem psd_imp {E' : En} (h : PSD X sts ρ E) (h1 : ∀ ρ, E.nx ρ → E'.nx ρ) (h2 : ∀ r, E.rt r → E'.rt r) (h3 : ∀ ρ, E.bk ρ → E'.bk ρ) (h4 : ∀ ρ, E.ct ρ → E'.ct ρ) (h5 : ∀ ρ, E.rp ρ → E'.rp ρ) : PSD X sts ρ E' := .mk fun B σ G H M S k =>
  h B σ G H M S ⟨fun a b c d x y z => k.nx a b c d x y (h1 _ z), fun a b c d f g x y z u w => k.rt a b c d f g x y z (h5 _ u) (h2 _ w), fun a b c d x y z => k.bk a b c d x y (h3 _ z), fun a b c d x y z => k.ct a b c d x y (h4 _ z)⟩
theorem ps1_never (h : False) : PS1 X st ρ E := h.elim
theorem psd_never (h : False) : PSD X sts ρ E := h.elim
/-- x = e -/
theorem ps1_asg (i : Nat) (he : PD X e ρ ρ1 r) (h : E.nx (ρ1.set i r)) (hN : X.N.Nodup) (hi : X.N[i]? = some x) (hx : Loc X.env.scope x) (hf : X.fn x = true ∨ X.env.scope.names.lookup x = some .local := by first | exact .inl rfl | exact .inr rfl)
    (hs : swapsWithSole [.Name x p] e pos.line X.env = pure false := by rfl) (hw : swappedStores [.Name x p] e X.env = pure none := by rfl)
    (h1 : (assignEach [.Name x p] X.env).map (·.2) = [assign (.Name x p) X.env] := by rfl) : PS1 X (.Assign [.Name x p] e pos) ρ E := .mk fun B σ G H M S k =>
  wpS_of (ps_asg canE (pg_name hN hi hx hf) hs hw h1) (he B σ G H _ S fun v G1 H1 e1 S1 r1 => k.nx _ G1 H1 _ e1 (S1.set r1) h)
theorem ps1_expr (he : PD X e ρ ρ1 r) (h : E.nx ρ1) (hs : swapsWith e none pos.line X.env = pure false := by rfl) : PS1 X (.Expr e pos) ρ E := .mk fun B σ G H M S k =>
  wpS_of (ps_expr canE hs) (he B σ G H _ S fun v G1 H1 e1 S1 r1 => k.nx σ G1 H1 _ e1 S1 h)
theorem ps1_ret (he : PD X e ρ ρ1 r) (hp : E.rp ρ1) (h : E.rt r) : PS1 X (.Return (some e) pos) ρ E := .mk fun B σ G H M S k =>
  wpS_of (ps_ret canE) (he B σ G H _ S fun v G1 H1 e1 S1 r1 => k.rt v σ ρ1 G1 H1 r e1 S1 r1 hp h)
theorem ps1_pass (h : E.nx ρ) : PS1 X (.Pass pos) ρ E := .mk fun B σ G H M S k => wpS_of ps_pass (k.nx σ G H ρ (Evl.Ex.refl G) S h)
theorem ps1_break (h : E.bk ρ) : PS1 X (.Break pos) ρ E := .mk fun B σ G H M S k => wpS_of ps_break (k.bk σ G H ρ (Evl.Ex.refl G) S h)
theorem ps1_continue (h : E.ct ρ) : PS1 X (.Continue pos) ρ E := .mk fun B σ G H M S k => wpS_of ps_continue (k.ct σ G H ρ (Evl.Ex.refl G) S h)
theorem ps1_if {k : Bool} {s1 s2 : List Stmt} (hc : PTD X c ρ ρ1 k) (h1 : k = true → PSD X s1 ρ1 E) (h2 : k = false → PSD X s2 ρ1 E) : PS1 X (.If c s1 s2 pos) ρ E := .mk fun B σ G H M S q =>
  wpS_of (ps_if canT canB canB) (hc B σ G H _ S fun G1 H1 e1 S1 => by
    cases k with
    | true => exact iteT (h1 rfl B σ G1 H1 M S1 (q.mono e1))
    | false => exact iteF (h2 rfl B σ G1 H1 M S1 (q.mono e1)))
/-- xs.append(e), xs a list of one's own -/
theorem ps1_append (i : Nat) {ap : Pos} (he : PD X e ρ ρ1 (.fz d)) (ho : ρ1[i]? = some (.ow ds)) (h : E.nx (ρ1.set i (.ow (ds ++ [d])))) (hl : ds.length < 100000) (ho0 : ∃ ds0, ρ[i]? = some (.ow ds0)) (hN : X.N[i]? = some x) (hv : Vis X.env.scope x)
    (hd : (x == ("__debug__" : Str)) = false := by decide) (hcd : (x == ("__classdict__" : Str)) = false := by decide)
    (hps : ∀ (ho : PE X (.Name x p) (wpE X (.Name x p))) (ha : PA X [e] (tCons (wpE X e) tNil)), PE X (.Call (.Attribute (.Name x p) "append" ap) [e] [] pos') (tBM X.K "list" rAppend (wpE X (.Name x p)) (tCons (wpE X e) tNil)) := by
      intro ho ha; exact pe_bm PySem.F.plainAttrs_list PySem.F.slot_list_append PySem.F.type_list_append mt_append ho ha)
    (hpa : starEach [e] X.env = (false, eval e X.env) :: starEach [] X.env := by rfl)
    (hs : swapsWith (.Call (.Attribute (.Name x p) "append" ap) [e] [] pos') none pos.line X.env = pure false := by rfl) : PS1 X (.Expr (.Call (.Attribute (.Name x p) "append" ap) [e] [] pos') pos) ρ E := .mk fun B σ G H M S k => by
  refine wpS_of (ps_expr (hps canE (pa_cons canE pa_nil hpa)) hs) ?_
  obtain ⟨ds0, ho0⟩ := ho0
  obtain ⟨q0, vs0, h1, h2, h3, h4, h5⟩ := S.getO ho0
  refine wpE_of (pe_var hN hv hd hcd) ⟨.ref q0, h1, ?_⟩
  refine ⟨.inl ⟨rfl, _, .inl (.inl h4)⟩, ?_⟩
  refine he B σ G H _ S fun v G1 H1 e1 S1 r1 => ?_
  obtain ⟨q, vs, g1, g2, g3, g4, g5⟩ := S1.getO ho
  have eq : q0 = q := by rw [h1] at g1; cases g1; rfl
  subst eq
  refine ⟨q0, vs, v, rfl, rfl, g4, ?_, ?_⟩
  · rw [g5.length]; exact Evl.sz_lt hl
  · exact k.nx σ G1 _ _ e1 (S1.write ho h1 (g5.append (.cons r1.rep .nil))) h
/-- xs[j] = e -/
theorem ps1_setL (i : Nat) {ie : Expr} {n : Int} {j : Nat} (he : PD X e ρ ρ1 (.fz d)) (ho : ρ1[i]? = some (.ow ds)) (hie : PD X ie ρ1 ρ1 (.fz (.int n))) (hj : ixN ds.length n = some j) (h : E.nx (ρ1.set i (.ow (ds.set j d)))) (hN : X.N[i]? = some x) (hv : Vis X.env.scope x)
    (hd : (x == ("__debug__" : Str)) = false := by decide) (hcd : (x == ("__classdict__" : Str)) = false := by decide)
    (ha : ∀ v, assign (.Subscript (.Name x p) ie pos') X.env v = (do
      let ov ← holding [v] (eval (.Name x p) X.env)
      let iv ← holding [v, ov] (eval ie X.env)
      standAt pos'
      holding [v, ov, iv] (setItem ov iv v)
      release [v, ov, iv] []) := by intro _; rfl)
    (hs : swapsWithSole [.Subscript (.Name x p) ie pos'] e pos.line X.env = pure false := by rfl) (hw : swappedStores [.Subscript (.Name x p) ie pos'] e X.env = pure none := by rfl)
    (h1 : (assignEach [.Subscript (.Name x p) ie pos'] X.env).map (·.2) = [assign (.Subscript (.Name x p) ie pos') X.env] := by rfl) : PS1 X (.Assign [.Subscript (.Name x p) ie pos'] e pos) ρ E := .mk fun B σ G H M S k => by
  refine wpS_of (ps_asg canE (pg_sub canE canE set_list ha) hs hw h1) ?_
  refine he B σ G H _ S fun v G1 H1 e1 S1 r1 => ?_
  obtain ⟨q, vs, g1, g2, g3, g4, g5⟩ := S1.getO ho
  refine wpE_of (pe_var hN hv hd hcd) ⟨.ref q, g1, ?_⟩
  refine hie B σ G1 H1 _ S1 fun w G2 H2 e2 S2 r2 => ?_
  obtain ⟨q', vs', f1, f2, f3, f4, f5⟩ := S2.getO ho
  have eq : q = q' := by rw [g1] at f1; cases f1; rfl
  subst eq
  have z := r2.rep
  cases z
  refine ⟨q, vs', n, j, rfl, rfl, f4, by rw [f5.length]; exact hj, ?_⟩
  exact k.nx σ G2 _ _ (e1.trans e2) (S2.write ho g1 (Reps.set (r1.rep.mono e2) j f5)) h

def En.loop (E : En) (W : List Sl → Prop) : En := { nx := W, rt := E.rt, bk := E.nx, ct := W, rp := E.rp }
/-- for x in a list that stands -/
theorem ps1_forL (j : Nat) {body : List Stmt} (I : Nat → List Sl → Prop) (hi : PD X a ρ ρ1 (.fz (.lst ds))) (h0 : I 0 ρ1)
    (hs : ∀ (i : Nat) (d : D) (ρ' : List Sl), ds[i]? = some d → I i ρ' → PSD X body (ρ'.set j (.fz d)) (E.loop (I (i + 1)))) (hd : ∀ ρ', I ds.length ρ' → E.nx ρ')
    (hp : PassesOwn (model X.prog X.w) X.A X.env X.xe) (hc : X.calm = true) (hN : X.N.Nodup) (hj : X.N[j]? = some x) (hx : Loc X.env.scope x) (hf : X.fn x = true ∨ X.env.scope.names.lookup x = some .local := by first | exact .inl rfl | exact .inr rfl)
    (hfs : ∀ x, foldedSetIterable a X.env x = pure x := by intro _; rfl) : PS1 X (.For (.Name x p) a body [] pos) ρ E := .mk fun B σ G H M S k => by
  refine wpS_of (ps_for hp hc (pi_list canE) (pg_name hN hj hx hf) canB hfs) ?_
  refine hi B σ G H _ S fun v G1 H1 e1 S1 r1 => ?_
  have z := r1.rep
  cases z with
  | @lst l vs _ hl hr =>
    refine ⟨l, rfl, ⟨vs, .inl (.inl (S1.e3 _ _ hl))⟩, ?_⟩
    refine for_list (xs := vs) (fun i σ' H' => ∃ G' ρ', Ex G1 G' ∧ SR X.K B σ' G' H' ρ' ∧ I i ρ') ⟨G1, ρ1, Evl.Ex.refl G1, S1, h0⟩ (fun i σ' H' _ ⟨G', ρ', e', S', _⟩ => .inl (.inl (S'.e3 _ _ (e' _ _ hl)))) ?_ ?_
    · rintro i u σ' H' hu ⟨G', ρ', e', S', hI⟩
      obtain ⟨d, hd', hrd⟩ := hr.getV hu
      refine hs i d ρ' hd' hI B _ G' H' _ (S'.set (ValR.of (hrd.mono e'))) ⟨?_, ?_, ?_, ?_⟩
      · exact fun σ2 G2 H2 ρ2 e2 S2 q => ⟨G2, ρ2, e'.trans e2, S2, q⟩
      · exact fun v σ2 ρ2 G2 H2 r e2 S2 v2 u q => k.rt v σ2 ρ2 G2 H2 r (e1.trans (e'.trans e2)) S2 v2 u q
      · exact fun σ2 G2 H2 ρ2 e2 S2 q => k.nx σ2 G2 H2 ρ2 (e1.trans (e'.trans e2)) S2 q
      · exact fun σ2 G2 H2 ρ2 e2 S2 q => ⟨G2, ρ2, e'.trans e2, S2, q⟩
    · rintro σ' H' ⟨G', ρ', e', S', hI⟩
      rw [hr.length] at hI
      exact k.nx σ' G' H' ρ' (e1.trans e') S' (hd ρ' hI)
/-- for x in range(n) -/
theorem ps1_forR (j : Nat) {body : List Stmt} {n : Int} {rp cp : Pos} (I : Nat → List Sl → Prop) (hi : PD X a ρ ρ1 (.fz (.int n))) (hn : n ≤ 100000) (hn0 : -100000 ≤ n) (h0 : I 0 ρ1)
    (hs : ∀ (i : Nat) (ρ' : List Sl), (i : Int) < n → I i ρ' → PSD X body (ρ'.set j (.fz (.int (i : Int)))) (E.loop (I (i + 1)))) (hd : ∀ ρ', I n.toNat ρ' → E.nx ρ') (hg : Gl X "range") (hm : X.mg "range" = none)
    (hp : PassesOwn (model X.prog X.w) X.A X.env X.xe) (hc : X.calm = true) (hN : X.N.Nodup) (hj : X.N[j]? = some x) (hx : Loc X.env.scope x) (hf : X.fn x = true ∨ X.env.scope.names.lookup x = some .local := by first | exact .inl rfl | exact .inr rfl)
    (hst : starEach [a] X.env = [(false, eval a X.env)] := by rfl)
    (hfs : ∀ x, foldedSetIterable (.Call (.Name "range" rp) [a] [] cp) X.env x = pure x := by intro _; rfl) : PS1 X (.For (.Name x p) (.Call (.Name "range" rp) [a] [] cp) body [] pos) ρ E := .mk fun B σ G H M S k => by
  refine wpS_of (ps_for hp hc (pi_range1 hg hm (pa_cons canE pa_nil hst) hst) (pg_name hN hj hx hf) canB hfs) ?_
  refine hi B σ G H _ S fun v G1 H1 e1 S1 r1 => ?_
  have z := r1.rep
  cases z
  refine ⟨n, rfl, by omega, by omega, ?_⟩
  refine for_range (lo := 0) (n := n.toNat) (fun i σ' H' => ∃ G' ρ', Ex G1 G' ∧ SR X.K B σ' G' H' ρ' ∧ I i ρ') ⟨G1, ρ1, Evl.Ex.refl G1, S1, h0⟩ ?_ ?_
  · rintro i σ' H' hlt ⟨G', ρ', e', S', hI⟩
    have ez : (0 : Int) + (i : Int) = (i : Int) := Int.zero_add _
    rw [ez]
    refine hs i ρ' (by omega) hI B _ G' H' _ (S'.set (ValR.of (.int _))) ⟨?_, ?_, ?_, ?_⟩
    · exact fun σ2 G2 H2 ρ2 e2 S2 q => ⟨G2, ρ2, e'.trans e2, S2, q⟩
    · exact fun v σ2 ρ2 G2 H2 r e2 S2 v2 u q => k.rt v σ2 ρ2 G2 H2 r (e1.trans (e'.trans e2)) S2 v2 u q
    · exact fun σ2 G2 H2 ρ2 e2 S2 q => k.nx σ2 G2 H2 ρ2 (e1.trans (e'.trans e2)) S2 q
    · exact fun σ2 G2 H2 ρ2 e2 S2 q => ⟨G2, ρ2, e'.trans e2, S2, q⟩
  · rintro σ' H' ⟨G', ρ', e', S', hI⟩
    exact k.nx σ' G' H' ρ' (e1.trans e') S' (hd ρ' hI)
/-- while -/
theorem ps1_while {body : List Stmt} (I : Nat → List Sl → Prop) (m0 : Nat) (h0 : I m0 ρ)
    (hs : ∀ (m : Nat) (ρ' : List Sl), I m ρ' → ∃ k ρ2, PTD X c ρ' ρ2 k ∧ (k = true → PSD X body ρ2 (E.loop fun ρ3 => ∃ m', m' < m ∧ I m' ρ3)) ∧ (k = false → E.nx ρ2))
    (hp : PassesOwn (model X.prog X.w) X.A X.env X.xe) : PS1 X (.While c body [] pos) ρ E := .mk fun B σ G H M S k => by
  refine wpS_of (ps_while hp canT canB) ?_
  refine ⟨fun m σ' H' => ∃ G' ρ', Ex G G' ∧ SR X.K B σ' G' H' ρ' ∧ I m ρ', ⟨m0, G, ρ, Evl.Ex.refl G, S, h0⟩, ?_⟩
  rintro m σ' H' ⟨G', ρ', e', S', hI⟩
  obtain ⟨t, ρ2, hc, hb, hn⟩ := hs m ρ' hI
  refine hc B σ' G' H' _ S' fun G2 H2 e2 S2 => ?_
  cases t with
  | true =>
    refine iteT ⟨fun σ3 H3 => ∃ G3 ρ3, Ex G G3 ∧ SR X.K B σ3 G3 H3 ρ3 ∧ ∃ m', m' < m ∧ I m' ρ3, fun σ3 H3 ⟨G3, ρ3, e3, S3, m', hm, hI'⟩ => ⟨m', hm, G3, ρ3, e3, S3, hI'⟩, ?_⟩
    refine hb rfl B σ' G2 H2 _ S2 ⟨?_, ?_, ?_, ?_⟩
    · exact fun σ3 G3 H3 ρ3 e3 S3 q => ⟨G3, ρ3, (e'.trans e2).trans e3, S3, q⟩
    · exact fun v σ3 ρ3 G3 H3 r e3 S3 v3 u q => k.rt v σ3 ρ3 G3 H3 r ((e'.trans e2).trans e3) S3 v3 u q
    · exact fun σ3 G3 H3 ρ3 e3 S3 q => k.nx σ3 G3 H3 ρ3 ((e'.trans e2).trans e3) S3 q
    · exact fun σ3 G3 H3 ρ3 e3 S3 q => ⟨G3, ρ3, (e'.trans e2).trans e3, S3, q⟩
  | false => exact iteF (k.nx σ' G2 H2 ρ2 (e'.trans e2) S2 (hn rfl))
end

/-- a def's promise by data: to these arguments this answer -/
abbrev FD := List D → Sl → Prop
def SpD (K : PySem.W.Frag) (f : FD) : Sp := fun vs H Q _ => ∃ (G : Hp) (ds : List D) (r : Sl), Ex G H ∧ Reps K G vs ds ∧ f ds r ∧ r ≠ .no ∧
  ∀ v G' H', Ex G G' → Ex H H' → Ex G' H' → (∀ a o, G' a = some o → G a = none → H a = none) → SlotR K H G' H' (some v) r → Q v H'
structure Ok (P : Program) (w : World) (K : PySem.W.Frag) (mg : Str → Option Value) (base : Heap) (k : Nat) (x : Str) (f : FD) : Prop where
  ex : ∃ (fa : Addr) (fd : FuncData) (ps : List Str), FnOk P w K mg base (L2.CX P w) k fa fd ps (SpD K f) ∧ mg x = some (.ref fa) ∧ PySem.W.keepIn K (.ref fa) = true ∧ Binds K fd ps []
theorem Ok.mono {P : Program} {w : World} {K : PySem.W.Frag} {mg : Str → Option Value} {base : Heap} {j k : Nat} {x : Str} {f : FD} (h : Ok P w K mg base j x f) (l : j ≤ k) : Ok P w K mg base k x f := by
  obtain ⟨fa, fd, ps, h1, h2⟩ := h.ex
  exact ⟨fa, fd, ps, h1.mono l, h2⟩
/-- how a def stands behind the top -/
structure Def (K : PySem.W.Frag) (mg : Str → Option Value) (x : Str) (st : Stmt) (ps : List Str) : Prop where
  ex : ∃ (fa : Addr) (fd : FuncData), Fun K x x st fa fd ∧ mg x = some (.ref fa) ∧ Binds K fd ps []

def startR (N : List Str) (ds : List D) : List Sl := ds.map .fz ++ List.replicate (N.length - ds.length) .no
theorem sr_start {K : PySem.W.Frag} {N : List Str} {vs : List V} {ds : List D} {G H : Hp} (e : Ex G H) (r : Reps K G vs ds) : SR K ⟨G, H⟩ (start N vs) G H (startR N ds) where
  e1 := Evl.Ex.refl G
  e2 := Evl.Ex.refl H
  e3 := e
  nw := fun a o h1 h2 => absurd (h1.symm.trans h2) (fun z => nomatch z)
  len := by
    unfold L2.start startR
    rw [List.length_append, List.length_append, List.length_map, List.length_map, List.length_replicate, List.length_replicate, r.length]
  sl := fun i s h => by
    unfold startR at h
    unfold L2.start
    by_cases hi : i < ds.length
    · rw [List.getElem?_append_left (by rw [List.length_map]; exact hi), List.getElem?_map] at h
      rw [List.getElem?_append_left (by rw [List.length_map, r.length]; exact hi), List.getElem?_map]
      cases q : ds[i]? with
      | none => rw [q] at h; cases h
      | some d =>
        rw [q] at h
        cases h
        obtain ⟨v, h1, h2⟩ := r.get q
        rw [h1]
        exact ⟨_, rfl, v, rfl, h2⟩
    · rw [List.getElem?_append_right (by rw [List.length_map]; omega), List.length_map, List.getElem?_replicate] at h
      rw [List.getElem?_append_right (by rw [List.length_map, r.length]; omega), List.length_map, r.length, List.getElem?_replicate]
      split at h
      · rename_i hlt
        cases h
        rw [if_pos hlt]
        exact ⟨_, rfl, trivial⟩
      · cases h
  ne := fun i j p ⟨_, s, h, o⟩ _ => by
    exfalso
    unfold startR at h
    by_cases hi : i < ds.length
    · rw [List.getElem?_append_left (by rw [List.length_map]; exact hi), List.getElem?_map] at h
      cases q : ds[i]? with
      | none => rw [q] at h; cases h
      | some d => rw [q] at h; cases h; exact o
    · rw [List.getElem?_append_right (by rw [List.length_map]; omega), List.getElem?_replicate] at h
      split at h
      · cases h; exact o
      · cases h

/-- the context of a def's body in which nothing is raised -/
abbrev CxN (P : Program) (w : World) (K : PySem.W.Frag) (mg : Str → Option Value) (base : Heap) (N : List Str) (x : Str) (st : Stmt) (f : Addr) (cd : Value) (A : Around) (outer : List Env) (s : Shared) (H : Hp) (E : XK) : Cx :=
  (cxOf (L2.CX P w) P w K mg base N x (defScope st) f cd A outer s H E).nox
theorem ok_mk {P : Program} {w : World} {K : PySem.W.Frag} {mg : Str → Option Value} {base : Heap} {k : Nat} {x : Str} {st : Stmt} {N ps : List Str} {f : FD} (F : Def K mg x st ps) (S : FnScope N ps (defScope st)) (len : ∀ ds r, f ds r → ds.length = ps.length)
    (body : ∀ (fa : Addr) (cd : Value) (A : Around) (outer : List Env) (s : Shared) (H : Hp) (E : XK) (ds : List D) (r : Sl), Room k (CxN P w K mg base N x st fa cd A outer s H E).A → f ds r →
      PSD (CxN P w K mg base N x st fa cd A outer s H E) (defBody st) (startR N ds) { nx := fun _ => r = .fz .non, rt := fun r' => r' = r }) : Ok P w K mg base (k + 1) x f := by
  obtain ⟨fa, fd, F, hm, hb⟩ := F.ex
  refine ⟨fa, fd, ps, F.okX S (fun vs H Q E h => ?_) (fun cdv A outer s H vs Q E hr h => ?_), hm, F.kp, hb⟩
  · obtain ⟨G, ds, r, _, hr, hf, _⟩ := h
    rw [hr.length, len ds r hf]
  · obtain ⟨G, ds, r, eG, hrep, hf, hne, q⟩ := h
    refine ⟨_, PSs.nox (canB (X := CxN P w K mg base N x st fa cdv A outer s H E)), ?_⟩
    refine body fa cdv A outer s H E ds r hr hf ⟨G, H⟩ (start N vs) G H _ (sr_start eG hrep) ⟨?_, ?_, fun _ _ _ _ _ _ z => z.elim, fun _ _ _ _ _ _ z => z.elim⟩
    · rintro σ' G' H' ρ' e S' rfl
      exact q .non G' H' e S'.e2 S'.e3 S'.nw ⟨_, rfl, .non⟩
    · rintro v σ' ρ' G' H' r' e S' hv _ rfl
      exact q v G' H' e S'.e2 S'.e3 S'.nw hv.2.1

section
variable {X : Cx} {e a b c : Expr} {es : List Expr} {ρ ρ1 ρ2 ρ3 : List Sl} {r : Sl} {d : D} {ds : List D} {x : Str} {pos p : Pos} {f : FD} {k : Nat}
theorem pd_call (G : Ok X.prog X.w X.K X.mg X.base k x f) (hr : Room k X.A) (hg : Gl X x) (ha : PAD X (e :: es) ρ ρ1 ds) (hf : f ds r) (hne : r ≠ .no := by intro z; cases z) (hdb : (x == ("__debug__" : Str)) = false := by decide)
    (he : starEach (e :: es) X.env = (false, eval e X.env) :: starEach es X.env := by rfl) (hpl : (backTo pos (starEach es X.env)).any (·.1) = false := by rfl) : PD X (.Call (.Name x p) (e :: es) [] pos) ρ ρ1 r := .mk fun B σ G0 H Q S k => by
  obtain ⟨fa, fd, ps, F, hm, hk, hb⟩ := G.ex
  refine wpE_of (pe_call F hr hg hm hk hb .nil passL canA hdb he hpl) ?_
  refine ha B σ G0 H _ S fun vs G1 H1 e1 S1 r1 => ?_
  rw [List.append_nil]
  refine ⟨G1, ds, r, S1.e3, r1, hf, hne, fun v G' H' g1 g2 g3 g4 g5 => ?_⟩
  have S2 := S1.call g1 g2 g3 g4
  refine k v G' H' (e1.trans g1) S2 ⟨hne, ?_, fun o q eq i oi => ?_⟩
  · cases r with
    | no => exact trivial
    | fz d => exact g5
    | kn w d => exact g5
    | ow ds => obtain ⟨q, vs, z1, z2, z3, z4, z5⟩ := g5; exact ⟨q, vs, z1, z2, ex_none S1.e2 z3, z4, z5⟩
    | od kvs => obtain ⟨q, z1, z2, z3, z4⟩ := g5; exact ⟨q, z1, z2, ex_none S1.e2 z3, z4⟩
    | op p ds => obtain ⟨vs, z1, z2, z3, z4⟩ := g5; exact ⟨vs, z1, z2, ex_none S1.e2 z3, z4⟩
  · obtain ⟨q', u, z1, z2, z3, z4⟩ := g5.own_there o
    cases eq
    cases z1
    exact S1.notOwn z3 i oi
end
mutual
def toP : D → PyData
  | .non => .none
  | .bl b => .bool b
  | .int i => .int i
  | .str s => .str s
  | .lst xs => .list (toPs xs)
  | .tup xs => .tuple (toPs xs)
  | .scr ns => .list (ns.map .int)
  | .dic _ => .none
  | .dicL _ => .none
  | .exc _ => .none
  | .raw _ => .none
def toPs : List D → List PyData
  | [] => []
  | d :: ds => toP d :: toPs ds
end
mutual
def pureD : D → Bool
  | .lst xs => pureDs xs
  | .tup xs => pureDs xs
  | .scr _ => false
  | .dic _ => false
  | .dicL _ => false
  | .exc _ => false
  | .raw _ => false
  | .str s => PyData.strOk s
  | _ => true
def pureDs : List D → Bool
  | [] => true
  | d :: ds => pureD d && pureDs ds
end
theorem toPs_map : ∀ ds : List D, toPs ds = ds.map toP
  | [] => by unfold toPs; rfl
  | d :: ds => by unfold toPs; rw [toPs_map ds]; rfl
theorem pureDs_all : ∀ ds : List D, pureDs ds = ds.all pureD
  | [] => by unfold pureDs; rfl
  | d :: ds => by unfold pureDs; rw [pureDs_all ds]; rfl
mutual
theorem Rep.dp {K : PySem.W.Frag} {H : Hp} : ∀ (d : D) (v : V), Rep K H v d → pureD d = true → Dp K H v (toP d)
  | .non, _, .non, _ => by unfold toP; exact .non
  | .bl _, _, .bl b, _ => by unfold toP; exact .bl b
  | .int _, _, .int i, _ => by unfold toP; exact .int i
  | .str _, _, .str s, _ => by unfold toP; exact .str s
  | .lst ds, _, .lst h r, p => by unfold toP; unfold pureD at p; exact .lst (SqL.of h) (Reps.dp ds _ r p)
  | .tup ds, _, .tup h r, p => by unfold toP; unfold pureD at p; exact .tup (SqT.of h) (Reps.dp ds _ r p)
  | .scr _, _, .scr _, p => by unfold pureD at p; cases p
  | .dic _, _, .dic _, p => by unfold pureD at p; cases p
  | .dicL _, _, .dicL _, p => by unfold pureD at p; cases p
  | .exc _, _, .exc _ _, p => by unfold pureD at p; cases p
  | .raw _, _, .raw _, p => by unfold pureD at p; cases p
theorem Reps.dp {K : PySem.W.Frag} {H : Hp} : ∀ (ds : List D) (vs : List V), Reps K H vs ds → pureDs ds = true → DpAll K H vs (toPs ds)
  | [], _, .nil, _ => by unfold toPs; exact .nil
  | d :: ds, _, .cons h t, p => by
    unfold pureDs at p
    unfold toPs
    have q := Bool.and_eq_true_iff.mp p
    exact .cons (Rep.dp d _ h q.1) (Reps.dp ds _ t q.2)
end

/-- flat data as values -/
def toV : D → V
  | .non => .non
  | .bl b => .bl b
  | .int i => .int i
  | .str s => .str s
  | .raw v => v
  | _ => .non
def flatD : D → Bool
  | .non => true
  | .bl _ => true
  | .int _ => true
  | .str _ => true
  | _ => false
theorem Rep.flat {K : PySem.W.Frag} {H : Hp} {v : V} {d : D} (h : Rep K H v d) (f : flatD d = true) : v = toV d ∧ flatV v = true := by
  cases h <;> first | exact ⟨rfl, rfl⟩ | cases f
theorem Reps.flat {K : PySem.W.Frag} {H : Hp} : ∀ {vs : List V} {ds : List D}, Reps K H vs ds → ds.all flatD = true → vs = ds.map toV ∧ vs.all flatV = true
  | _, _, .nil, _ => ⟨rfl, rfl⟩
  | _, _, .cons h t, f => by
    rw [List.all_cons, Bool.and_eq_true] at f
    obtain ⟨e1, e2⟩ := h.flat f.1
    obtain ⟨e3, e4⟩ := Reps.flat t f.2
    rw [List.map_cons, ← e1, ← e3, List.all_cons, e2, e4]
    exact ⟨rfl, rfl⟩
theorem Reps.ints {K : PySem.W.Frag} {H : Hp} : ∀ {vs : List V} {ns : List Int}, Reps K H vs (ns.map .int) → vs = ns.map V.int
  | _, [], .nil => rfl
  | _, n :: ns, .cons h t => by
    cases h
    rw [Reps.ints t]
    rfl
theorem Reps.of_ints {K : PySem.W.Frag} {H : Hp} : ∀ (ns : List Int), Reps K H (ns.map V.int) (ns.map .int)
  | [] => .nil
  | n :: ns => .cons (.int n) (Reps.of_ints ns)
theorem Reps.of_bls {K : PySem.W.Frag} {H : Hp} : ∀ {vs : List V} {bs : List Bool}, Reps K H vs (bs.map .bl) → vs = bs.map V.bl
  | _, [], .nil => rfl
  | _, n :: ns, .cons h t => by
    cases h
    rw [Reps.of_bls t]
    rfl

section
variable {X : Cx} {e a b c : Expr} {es : List Expr} {ρ ρ1 ρ2 ρ3 : List Sl} {r o : Sl} {d d1 d2 : D} {ds xs ys : List D} {x : Str} {pos p : Pos} {i j : Int}

theorem ok0 {K : PySem.W.Frag} {B : Bs} {σ : L2.St} {ρ : List Sl} {G H : Hp} {Q : VK} {v : V} {d : D} (S : SR K B σ G H ρ) (k : ∀ v G' H', Ex G G' → SR K B σ G' H' ρ → ValR K B σ ρ G' H' v (.fz d) → Q v H') (h : Rep K G v d) : Q v H := k v G H (Evl.Ex.refl G) S (.of h)
theorem rd_I0 {K : PySem.W.Frag} {g : Int → Int → V} {d : D} (h : ∀ H, Rep K H (g i j) d) : RD K (rI0 g) (.int i) (.int j) (.fz d) := fun B σ ρ G H x y Q S hx hy k => by
  cases hx; cases hy
  exact ⟨i, j, rfl, rfl, ok0 S k (h _)⟩
theorem rd_I {K : PySem.W.Frag} {C : Int → Int → Prop} {g : Int → Int → V} {d : D} (hc : C i j) (h : ∀ H, Rep K H (g i j) d) : RD K (rI C g) (.int i) (.int j) (.fz d) := fun B σ ρ G H x y Q S hx hy k => by
  cases hx; cases hy
  exact ⟨i, j, rfl, rfl, hc, ok0 S k (h _)⟩
theorem pd_add (ha : PD X a ρ ρ1 (.fz (.int i))) (hb : PD X b ρ1 ρ2 (.fz (.int j))) : PD X (.BinOp a .Add b pos) ρ ρ2 (.fz (.int (i + j))) := pd_op op_add ha hb (rd_I0 fun _ => .int _)
theorem pd_sub (ha : PD X a ρ ρ1 (.fz (.int i))) (hb : PD X b ρ1 ρ2 (.fz (.int j))) : PD X (.BinOp a .Sub b pos) ρ ρ2 (.fz (.int (i - j))) := pd_op op_sub ha hb (rd_I0 fun _ => .int _)
theorem pd_mul (ha : PD X a ρ ρ1 (.fz (.int i))) (hb : PD X b ρ1 ρ2 (.fz (.int j))) (hc : CMul i j) : PD X (.BinOp a .Mult b pos) ρ ρ2 (.fz (.int (i * j))) := pd_op op_mul ha hb (rd_I hc fun _ => .int _)
theorem pd_mod (ha : PD X a ρ ρ1 (.fz (.int i))) (hb : PD X b ρ1 ρ2 (.fz (.int j))) (hc : 0 < j) : PD X (.BinOp a .Mod b pos) ρ ρ2 (.fz (.int (i % j))) := pd_op op_mod ha hb (rd_I hc fun _ => .int _)
theorem pd_div (ha : PD X a ρ ρ1 (.fz (.int i))) (hb : PD X b ρ1 ρ2 (.fz (.int j))) (hc : 0 < j ∧ j < 1073741824) : PD X (.BinOp a .FloorDiv b pos) ρ ρ2 (.fz (.int (i / j))) := pd_op op_fdiv ha hb (rd_I hc fun _ => .int _)
theorem pd_pow (ha : PD X a ρ ρ1 (.fz (.int i))) (hb : PD X b ρ1 ρ2 (.fz (.int j))) (hc : CPow i j) : PD X (.BinOp a .Pow b pos) ρ ρ2 (.fz (.int (i ^ j.toNat))) := pd_op op_pow ha hb (rd_I hc fun _ => .int _)
theorem pd_neg (ha : PD X a ρ ρ1 (.fz (.int i))) : PD X (.UnaryOp .USub a pos) ρ ρ1 (.fz (.int (-i))) := pd_un un_neg ha fun B σ ρ G H x Q S hx k => by
  cases hx
  exact ⟨i, rfl, ok0 S k (.int _)⟩
theorem pd_lt (ha : PD X a ρ ρ1 (.fz (.int i))) (hb : PD X b ρ1 ρ2 (.fz (.int j))) : PD X (.Compare a [.Lt] [b] pos) ρ ρ2 (.fz (.bl (decide (i < j)))) := pd_cmp op_lt ha hb (rd_I0 fun _ => .bl _)
theorem pd_le (ha : PD X a ρ ρ1 (.fz (.int i))) (hb : PD X b ρ1 ρ2 (.fz (.int j))) : PD X (.Compare a [.LtE] [b] pos) ρ ρ2 (.fz (.bl (decide (i ≤ j)))) := pd_cmp op_le ha hb (rd_I0 fun _ => .bl _)
theorem pd_gt (ha : PD X a ρ ρ1 (.fz (.int i))) (hb : PD X b ρ1 ρ2 (.fz (.int j))) : PD X (.Compare a [.Gt] [b] pos) ρ ρ2 (.fz (.bl (decide (j < i)))) := pd_cmp op_gt ha hb (rd_I0 fun _ => .bl _)
theorem pd_ge (ha : PD X a ρ ρ1 (.fz (.int i))) (hb : PD X b ρ1 ρ2 (.fz (.int j))) : PD X (.Compare a [.GtE] [b] pos) ρ ρ2 (.fz (.bl (decide (j ≤ i)))) := pd_cmp op_ge ha hb (rd_I0 fun _ => .bl _)
theorem ptd_lt (ha : PD X a ρ ρ1 (.fz (.int i))) (hb : PD X b ρ1 ρ2 (.fz (.int j))) : PTD X (.Compare a [.Lt] [b] pos) ρ ρ2 (decide (i < j)) := ptd_cmp op_lt ha hb (rd_I0 fun _ => .bl _)
theorem ptd_le (ha : PD X a ρ ρ1 (.fz (.int i))) (hb : PD X b ρ1 ρ2 (.fz (.int j))) : PTD X (.Compare a [.LtE] [b] pos) ρ ρ2 (decide (i ≤ j)) := ptd_cmp op_le ha hb (rd_I0 fun _ => .bl _)
theorem ptd_gt (ha : PD X a ρ ρ1 (.fz (.int i))) (hb : PD X b ρ1 ρ2 (.fz (.int j))) : PTD X (.Compare a [.Gt] [b] pos) ρ ρ2 (decide (j < i)) := ptd_cmp op_gt ha hb (rd_I0 fun _ => .bl _)
theorem ptd_ge (ha : PD X a ρ ρ1 (.fz (.int i))) (hb : PD X b ρ1 ρ2 (.fz (.int j))) : PTD X (.Compare a [.GtE] [b] pos) ρ ρ2 (decide (j ≤ i)) := ptd_cmp op_ge ha hb (rd_I0 fun _ => .bl _)
/-- == of two ints, two texts -/
theorem rd_eqI {K : PySem.W.Frag} : RD K rEq (.int i) (.int j) (.fz (.bl (decide (i = j)))) := fun B σ ρ G H x y Q S hx hy k => by
  cases hx; cases hy
  refine ⟨rfl, ?_⟩
  rw [dec_int, Bool.beq_eq_decide_eq]
  exact ok0 S k (.bl _)
theorem rd_neI {K : PySem.W.Frag} : RD K rNe (.int i) (.int j) (.fz (.bl (!decide (i = j)))) := fun B σ ρ G H x y Q S hx hy k => by
  cases hx; cases hy
  refine ⟨rfl, ?_⟩
  rw [dec_int, Bool.beq_eq_decide_eq]
  exact ok0 S k (.bl _)
theorem rd_eqS {K : PySem.W.Frag} {s t : Str} : RD K rEq (.str s) (.str t) (.fz (.bl (s == t))) := fun B σ ρ G H x y Q S hx hy k => by
  cases hx; cases hy
  refine ⟨rfl, ?_⟩
  rw [dec_str]
  exact ok0 S k (.bl _)
theorem rd_neS {K : PySem.W.Frag} {s t : Str} : RD K rNe (.str s) (.str t) (.fz (.bl (!(s == t)))) := fun B σ ρ G H x y Q S hx hy k => by
  cases hx; cases hy
  refine ⟨rfl, ?_⟩
  rw [dec_str]
  exact ok0 S k (.bl _)
theorem rd_eqB {K : PySem.W.Frag} {s t : Bool} : RD K rEq (.bl s) (.bl t) (.fz (.bl (s == t))) := fun B σ ρ G H x y Q S hx hy k => by
  cases hx; cases hy
  refine ⟨rfl, ?_⟩
  rw [dec_bl]
  exact ok0 S k (.bl _)
theorem rd_neB {K : PySem.W.Frag} {s t : Bool} : RD K rNe (.bl s) (.bl t) (.fz (.bl (!(s == t)))) := fun B σ ρ G H x y Q S hx hy k => by
  cases hx; cases hy
  refine ⟨rfl, ?_⟩
  rw [dec_bl]
  exact ok0 S k (.bl _)
theorem ptd_eqI (ha : PD X a ρ ρ1 (.fz (.int i))) (hb : PD X b ρ1 ρ2 (.fz (.int j))) : PTD X (.Compare a [.Eq] [b] pos) ρ ρ2 (decide (i = j)) := ptd_cmp op_eq ha hb rd_eqI
theorem ptd_neI (ha : PD X a ρ ρ1 (.fz (.int i))) (hb : PD X b ρ1 ρ2 (.fz (.int j))) : PTD X (.Compare a [.NotEq] [b] pos) ρ ρ2 (!decide (i = j)) := ptd_cmp op_ne ha hb rd_neI
theorem pd_eqI (ha : PD X a ρ ρ1 (.fz (.int i))) (hb : PD X b ρ1 ρ2 (.fz (.int j))) : PD X (.Compare a [.Eq] [b] pos) ρ ρ2 (.fz (.bl (decide (i = j)))) := pd_cmp op_eq ha hb rd_eqI
theorem pd_neI (ha : PD X a ρ ρ1 (.fz (.int i))) (hb : PD X b ρ1 ρ2 (.fz (.int j))) : PD X (.Compare a [.NotEq] [b] pos) ρ ρ2 (.fz (.bl (!decide (i = j)))) := pd_cmp op_ne ha hb rd_neI
theorem ptd_eqS {s t : Str} (ha : PD X a ρ ρ1 (.fz (.str s))) (hb : PD X b ρ1 ρ2 (.fz (.str t))) : PTD X (.Compare a [.Eq] [b] pos) ρ ρ2 (s == t) := ptd_cmp op_eq ha hb rd_eqS
theorem ptd_neS {s t : Str} (ha : PD X a ρ ρ1 (.fz (.str s))) (hb : PD X b ρ1 ρ2 (.fz (.str t))) : PTD X (.Compare a [.NotEq] [b] pos) ρ ρ2 (!(s == t)) := ptd_cmp op_ne ha hb rd_neS
theorem pd_eqS {s t : Str} (ha : PD X a ρ ρ1 (.fz (.str s))) (hb : PD X b ρ1 ρ2 (.fz (.str t))) : PD X (.Compare a [.Eq] [b] pos) ρ ρ2 (.fz (.bl (s == t))) := pd_cmp op_eq ha hb rd_eqS
theorem pd_neS {s t : Str} (ha : PD X a ρ ρ1 (.fz (.str s))) (hb : PD X b ρ1 ρ2 (.fz (.str t))) : PD X (.Compare a [.NotEq] [b] pos) ρ ρ2 (.fz (.bl (!(s == t)))) := pd_cmp op_ne ha hb rd_neS
theorem ptd_neB {s t : Bool} (ha : PD X a ρ ρ1 (.fz (.bl s))) (hb : PD X b ρ1 ρ2 (.fz (.bl t))) : PTD X (.Compare a [.NotEq] [b] pos) ρ ρ2 (!(s == t)) := ptd_cmp op_ne ha hb rd_neB
theorem pd_eqB {s t : Bool} (ha : PD X a ρ ρ1 (.fz (.bl s))) (hb : PD X b ρ1 ρ2 (.fz (.bl t))) : PD X (.Compare a [.Eq] [b] pos) ρ ρ2 (.fz (.bl (s == t))) := pd_cmp op_eq ha hb rd_eqB
/-- is None -/
def isNon : D → Bool
  | .non => true
  | .raw v => decide (v = .non)
  | _ => false
theorem Rep.isNon {K : PySem.W.Frag} {H : Hp} {v : V} {d : D} (h : Rep K H v d) : decide (v = .non) = Y.isNon d := by
  cases h <;> first | rfl | exact decide_eq_false (fun z => nomatch z)
theorem ptd_isN {j : Nat} {q : Pos} (ha : PD X a ρ ρ1 (.fz d)) : PTD X (.Compare a [.Is] [.Constant .none j q] pos) ρ ρ1 (isNon d) := ptd_cmp op_isN ha pd_non fun B σ ρ G H x y Q S hx hy k => by
  cases hy
  refine ⟨rfl, ?_⟩
  rw [hx.isNon]
  exact ok0 S k (.bl _)
theorem ptd_notN {j : Nat} {q : Pos} (ha : PD X a ρ ρ1 (.fz d)) : PTD X (.Compare a [.IsNot] [.Constant .none j q] pos) ρ ρ1 (!isNon d) := ptd_cmp op_notN ha pd_non fun B σ ρ G H x y Q S hx hy k => by
  cases hy
  refine ⟨rfl, ?_⟩
  rw [hx.isNon]
  exact ok0 S k (.bl _)
theorem pd_isN {j : Nat} {q : Pos} (ha : PD X a ρ ρ1 (.fz d)) : PD X (.Compare a [.Is] [.Constant .none j q] pos) ρ ρ1 (.fz (.bl (isNon d))) := pd_cmp op_isN ha pd_non fun B σ ρ G H x y Q S hx hy k => by
  cases hy
  refine ⟨rfl, ?_⟩
  rw [hx.isNon]
  exact ok0 S k (.bl _)
theorem pd_notN {j : Nat} {q : Pos} (ha : PD X a ρ ρ1 (.fz d)) : PD X (.Compare a [.IsNot] [.Constant .none j q] pos) ρ ρ1 (.fz (.bl (!isNon d))) := pd_cmp op_notN ha pd_non fun B σ ρ G H x y Q S hx hy k => by
  cases hy
  refine ⟨rfl, ?_⟩
  rw [hx.isNon]
  exact ok0 S k (.bl _)

theorem pd_ixL (ha : PD X a ρ ρ1 (.fz (.lst ds))) (hb : PD X b ρ1 ρ2 (.fz (.int i))) (h : atI ds i = some d) (hs : PlainIx b := by intro _ _; rfl) : PD X (.Subscript a b pos) ρ ρ2 (.fz d) := pd_ix ix_list ha hb (fun B σ ρ G H x y Q S hx hy k => by
  cases hy
  cases hx with
  | lst h1 h2 =>
    obtain ⟨v, h3, h4⟩ := h2.at h
    exact ⟨_, _, i, v, rfl, rfl, SqL.of (S.e3 _ _ h1), h3, ok0 S k h4⟩) hs
theorem pd_ixT (ha : PD X a ρ ρ1 (.fz (.tup ds))) (hb : PD X b ρ1 ρ2 (.fz (.int i))) (h : atI ds i = some d) (hs : PlainIx b := by intro _ _; rfl) : PD X (.Subscript a b pos) ρ ρ2 (.fz d) := pd_ix ix_tup ha hb (fun B σ ρ G H x y Q S hx hy k => by
  cases hy
  cases hx with
  | tup h1 h2 =>
    obtain ⟨v, h3, h4⟩ := h2.at h
    exact ⟨_, _, i, v, rfl, rfl, SqT.of (S.e3 _ _ h1), h3, ok0 S k h4⟩) hs
theorem atI_map {α β : Type} (f : α → β) {xs : List α} {i : Int} {v : α} (h : atI xs i = some v) : atI (xs.map f) i = some (f v) := by
  unfold atI at h ⊢
  rw [List.length_map]
  cases e : ixN xs.length i with
  | none => rw [e] at h; cases h
  | some j =>
    rw [e] at h
    show (xs.map f)[j]? = _
    have h' : xs[j]? = some v := h
    rw [List.getElem?_map, h']
    rfl
theorem pd_ixS {ns : List Int} {n : Int} (ha : PD X a ρ ρ1 (.fz (.scr ns))) (hb : PD X b ρ1 ρ2 (.fz (.int i))) (h : atI ns i = some n) (hs : PlainIx b := by intro _ _; rfl) : PD X (.Subscript a b pos) ρ ρ2 (.fz (.int n)) := pd_ix ix_list ha hb (fun B σ ρ G H x y Q S hx hy k => by
  cases hy
  cases hx with
  | scr h1 => exact ⟨_, _, i, _, rfl, rfl, Evl.ex_l S.e3 h1, atI_map V.int h, ok0 S k (.int n)⟩) hs
/-- len -/
theorem pd_lenL (ha : PD X a ρ ρ1 (.fz (.lst ds))) (hm : X.mg "len" = none) (hg : Gl X "len") (he : starEach [a] X.env = (false, eval a X.env) :: starEach [] X.env := by rfl) (hpl : (backTo pos (starEach [] X.env)).any (·.1) = false := by rfl) :
    PD X (.Call (.Name "len" p) [a] [] pos) ρ ρ1 (.fz (.int (ds.length : Int))) := pd_callB call_len_seq PySem.boot_len hg hm (pad_cons ha pad_nil he) (fun B σ ρ G H xs Q S hx k => by
  cases hx with
  | cons h1 h2 =>
    cases h2
    cases h1 with
    | lst h1 h2 =>
      refine ⟨_, _, rfl, .inl (SqL.of (S.e3 _ _ h1)), ?_⟩
      rw [h2.length]
      exact ok0 S k (.int _)) (by decide) (by decide) he hpl
theorem pd_lenT (ha : PD X a ρ ρ1 (.fz (.tup ds))) (hm : X.mg "len" = none) (hg : Gl X "len") (he : starEach [a] X.env = (false, eval a X.env) :: starEach [] X.env := by rfl) (hpl : (backTo pos (starEach [] X.env)).any (·.1) = false := by rfl) :
    PD X (.Call (.Name "len" p) [a] [] pos) ρ ρ1 (.fz (.int (ds.length : Int))) := pd_callB call_len_seq PySem.boot_len hg hm (pad_cons ha pad_nil he) (fun B σ ρ G H xs Q S hx k => by
  cases hx with
  | cons h1 h2 =>
    cases h2
    cases h1 with
    | tup h1 h2 =>
      refine ⟨_, _, rfl, .inr (SqT.of (S.e3 _ _ h1)), ?_⟩
      rw [h2.length]
      exact ok0 S k (.int _)) (by decide) (by decide) he hpl
theorem pd_lenS {ns : List Int} (ha : PD X a ρ ρ1 (.fz (.scr ns))) (hm : X.mg "len" = none) (hg : Gl X "len") (he : starEach [a] X.env = (false, eval a X.env) :: starEach [] X.env := by rfl) (hpl : (backTo pos (starEach [] X.env)).any (·.1) = false := by rfl) :
    PD X (.Call (.Name "len" p) [a] [] pos) ρ ρ1 (.fz (.int (ns.length : Int))) := pd_callB call_len_seq PySem.boot_len hg hm (pad_cons ha pad_nil he) (fun B σ ρ G H xs Q S hx k => by
  cases hx with
  | cons h1 h2 =>
    cases h2
    cases h1 with
    | scr h1 =>
      refine ⟨_, _, rfl, .inl (Evl.ex_l S.e3 h1), ?_⟩
      rw [List.length_map]
      exact ok0 S k (.int _)) (by decide) (by decide) he hpl
theorem okN {K : PySem.W.Frag} {B : Bs} {σ : L2.St} {ρ : List Sl} {G H : Hp} {Q : VK} {vs : List V} {ds : List D} (S : SR K B σ G H ρ) (k : ∀ v G' H', Ex G G' → SR K B σ G' H' ρ → ValR K B σ ρ G' H' v (.ow ds) → Q v H') (h : Reps K G vs ds) :
    ∀ p, H p = none → Q (.ref p) (upd H p (.lst vs)) := fun p hp => k _ G _ (Evl.Ex.refl G) (S.alloc hp) (by
  have z := ValR.fresh S hp h
  exact ⟨z.1, z.2.1, z.2.2⟩)
/-- xs + ys, xs * n, list(xs), xs[i:j] -/
theorem pd_cat (ha : PD X a ρ ρ1 (.fz (.lst xs))) (hb : PD X b ρ1 ρ2 (.fz (.lst ys))) (h : xs.length + ys.length ≤ 100000) : PD X (.BinOp a .Add b pos) ρ ρ2 (.ow (xs ++ ys)) := pd_op op_cat ha hb fun B σ ρ G H x y Q S hx hy k => by
  cases hx with
  | lst h1 h2 =>
    cases hy with
    | lst h3 h4 => exact ⟨_, _, _, _, rfl, rfl, S.e3 _ _ h1, S.e3 _ _ h3, by rw [h2.length, h4.length]; exact small h, okN S k (h2.append h4)⟩
theorem pd_rep (ha : PD X a ρ ρ1 (.fz (.lst xs))) (hb : PD X b ρ1 ρ2 (.fz (.int i))) (h : xs.length * i.toNat ≤ 100000) (h0 : -100000 ≤ i) (h1 : i ≤ 100000) : PD X (.BinOp a .Mult b pos) ρ ρ2 (.ow (List.replicate i.toNat xs).flatten) := pd_op op_rep ha hb fun B σ ρ G H x y Q S hx hy k => by
  cases hy
  cases hx with
  | lst h2 h3 => exact ⟨_, i, _, rfl, rfl, S.e3 _ _ h2, by omega, by omega, by rw [h3.length]; exact small h, okN S k (h3.rep _)⟩
theorem pd_list (ha : PD X a ρ ρ1 (.fz (.lst xs))) (hm : X.mg "list" = none) (hg : Gl X "list") (he : starEach [a] X.env = (false, eval a X.env) :: starEach [] X.env := by rfl) (hpl : (backTo pos (starEach [] X.env)).any (·.1) = false := by rfl) :
    PD X (.Call (.Name "list" p) [a] [] pos) ρ ρ1 (.ow xs) := pd_callTy call_list_of PyProof.Rows.boot_list hg hm (pad_cons ha pad_nil he) (fun B σ ρ G H us Q S hx k => by
  cases hx with
  | cons h1 h2 =>
    cases h2
    cases h1 with
    | lst h1 h2 => exact ⟨_, _, rfl, .inl (SqL.of (S.e3 _ _ h1)), okN S k h2⟩) (by decide) (by decide) he hpl
def cutD (xs : List D) (lo hi : Option Int) : List D := (xs.drop (HT.sIx xs.length 0 lo)).take (HT.sIx xs.length xs.length hi - HT.sIx xs.length 0 lo)
theorem Reps.cut {K : PySem.W.Frag} {H : Hp} {vs : List V} {ds : List D} (h : Reps K H vs ds) (lo hi : Option Int) : Reps K H (cutV vs lo hi) (cutD ds lo hi) := by
  unfold cutV cutD
  rw [h.length]
  exact (h.drop _).take _
theorem cutD_to (xs : List D) (n : Nat) : cutD xs none (some (n : Int)) = xs.take n := by
  unfold cutD
  rw [HT.sIx_none, HT.sIx_nat, List.drop_zero, Nat.sub_zero]
  by_cases h : n ≤ xs.length
  · rw [Nat.min_eq_left h]
  · rw [Nat.min_eq_right (by omega), List.take_length, List.take_of_length_le (by omega)]
theorem cutD_from (xs : List D) (n : Nat) : cutD xs (some (n : Int)) none = xs.drop n := by
  unfold cutD
  rw [HT.sIx_none, HT.sIx_nat]
  by_cases h : n ≤ xs.length
  · rw [Nat.min_eq_left h, List.take_of_length_le (by rw [List.length_drop]; omega)]
  · rw [Nat.min_eq_right (by omega), List.drop_length, List.drop_eq_nil_of_le (by omega), List.take_nil]
theorem pd_cutTo {q : Pos} (ha : PD X a ρ ρ1 (.fz (.lst xs))) (hb : PD X b ρ1 ρ2 (.fz (.int i))) : PD X (.Subscript a (.Slice none (some b) none q) pos) ρ ρ2 (.ow (cutD xs none (some i))) := .mk fun B σ G H Q S k =>
  wpE_of (pe_slice sl_list canE po_none (po_some canE)) (ha B σ G H _ S fun v G1 H1 e1 S1 r1 => by
    have z := r1.rep
    cases z with
    | lst h1 h2 =>
      refine hb B σ G1 H1 _ S1 fun w G2 H2 e2 S2 r2 => ?_
      have y := r2.rep
      cases y
      exact ⟨i, rfl, _, _, rfl, SqL.of (S2.e3 _ _ (e2 _ _ h1)), okN S2 (fun v G' H' e' => k v G' H' ((e1.trans e2).trans e')) ((h2.mono e2).cut _ _)⟩)
theorem pd_cutFrom {q : Pos} (ha : PD X a ρ ρ1 (.fz (.lst xs))) (hb : PD X b ρ1 ρ2 (.fz (.int i))) : PD X (.Subscript a (.Slice (some b) none none q) pos) ρ ρ2 (.ow (cutD xs (some i) none)) := .mk fun B σ G H Q S k =>
  wpE_of (pe_slice sl_list canE (po_some canE) po_none) (ha B σ G H _ S fun v G1 H1 e1 S1 r1 => by
    have z := r1.rep
    cases z with
    | lst h1 h2 =>
      refine hb B σ G1 H1 _ S1 fun w G2 H2 e2 S2 r2 => ?_
      have y := r2.rep
      cases y
      exact ⟨i, rfl, _, _, rfl, SqL.of (S2.e3 _ _ (e2 _ _ h1)), okN S2 (fun v G' H' e' => k v G' H' ((e1.trans e2).trans e')) ((h2.mono e2).cut _ _)⟩)
/-- x in xs -/
def inD (d : D) (ds : List D) : Bool := inV (toV d) (ds.map toV)
theorem rd_inL {K : PySem.W.Frag} {neg : Bool} (h1 : flatD d = true) (h2 : ds.all flatD = true) : RD K (rIn K neg) d (.lst ds) (.fz (.bl (if neg then !inD d ds else inD d ds))) := fun B σ ρ G H x y Q S hx hy k => by
  cases hy with
  | lst h3 h4 =>
    obtain ⟨e1, e2⟩ := hx.flat h1
    obtain ⟨e3, e4⟩ := h4.flat h2
    refine ⟨_, _, rfl, .inl (SqL.of (S.e3 _ _ h3)), e2, e4, ?_⟩
    rw [e1, e3]
    exact ok0 S k (.bl _)
theorem rd_inT {K : PySem.W.Frag} {neg : Bool} (h1 : flatD d = true) (h2 : ds.all flatD = true) : RD K (rIn K neg) d (.tup ds) (.fz (.bl (if neg then !inD d ds else inD d ds))) := fun B σ ρ G H x y Q S hx hy k => by
  cases hy with
  | tup h3 h4 =>
    obtain ⟨e1, e2⟩ := hx.flat h1
    obtain ⟨e3, e4⟩ := h4.flat h2
    refine ⟨_, _, rfl, .inr (SqT.of (S.e3 _ _ h3)), e2, e4, ?_⟩
    rw [e1, e3]
    exact ok0 S k (.bl _)
theorem ptd_inL (ha : PD X a ρ ρ1 (.fz d)) (hb : PD X b ρ1 ρ2 (.fz (.lst ds))) (h1 : flatD d = true) (h2 : ds.all flatD = true) (hm : behindInMarks .In b = false := by rfl) : PTD X (.Compare a [.In] [b] pos) ρ ρ2 (inD d ds) := ptd_cmp op_in_seq ha hb (rd_inL h1 h2) hm
theorem ptd_notInL (ha : PD X a ρ ρ1 (.fz d)) (hb : PD X b ρ1 ρ2 (.fz (.lst ds))) (h1 : flatD d = true) (h2 : ds.all flatD = true) (hm : behindInMarks .NotIn b = false := by rfl) : PTD X (.Compare a [.NotIn] [b] pos) ρ ρ2 (!inD d ds) := ptd_cmp op_notIn_seq ha hb (rd_inL h1 h2) hm
theorem pd_inL (ha : PD X a ρ ρ1 (.fz d)) (hb : PD X b ρ1 ρ2 (.fz (.lst ds))) (h1 : flatD d = true) (h2 : ds.all flatD = true) (hm : behindInMarks .In b = false := by rfl) : PD X (.Compare a [.In] [b] pos) ρ ρ2 (.fz (.bl (inD d ds))) := pd_cmp op_in_seq ha hb (rd_inL h1 h2) hm
theorem pd_inT (ha : PD X a ρ ρ1 (.fz d)) (hb : PD X b ρ1 ρ2 (.fz (.tup ds))) (h1 : flatD d = true) (h2 : ds.all flatD = true) (hm : behindInMarks .In b = false := by rfl) : PD X (.Compare a [.In] [b] pos) ρ ρ2 (.fz (.bl (inD d ds))) := pd_cmp op_in_seq ha hb (rd_inT h1 h2) hm
theorem inD_ints (n : Int) (ns : List Int) : inD (.int n) (ns.map .int) = decide (n ∈ ns) := by
  unfold inD inV
  induction ns with
  | nil => rfl
  | cons m ns ih =>
    rw [List.map_cons, List.map_cons, List.any_cons, ih]
    show ((m == n) || _) = _
    by_cases h : m = n
    · subst h; simp
    · have h' : ¬ n = m := fun e => h e.symm
      simp [h, h']
/-- == of data -/
def eqD (d e : D) : Bool := PyData.eqv (toP d) (toP e)
theorem rd_eqD {K : PySem.W.Frag} (p1 : pureD d1 = true) (p2 : pureD d2 = true) (s1 : SeqAt.shaped (toP d1) = true) (s2 : SeqAt.shaped (toP d2) = true) : RD K (rEqD K) d1 d2 (.fz (.bl (eqD d1 d2))) := fun B σ ρ G H x y Q S hx hy k =>
  ⟨_, _, Rep.dp _ _ (hx.mono S.e3) p1, Rep.dp _ _ (hy.mono S.e3) p2, s1, s2, ok0 S k (.bl _)⟩
theorem rd_neD {K : PySem.W.Frag} (p1 : pureD d1 = true) (p2 : pureD d2 = true) (s1 : SeqAt.shaped (toP d1) = true) (s2 : SeqAt.shaped (toP d2) = true) : RD K (rNeD K) d1 d2 (.fz (.bl (!eqD d1 d2))) := fun B σ ρ G H x y Q S hx hy k =>
  ⟨_, _, Rep.dp _ _ (hx.mono S.e3) p1, Rep.dp _ _ (hy.mono S.e3) p2, s1, s2, ok0 S k (.bl _)⟩
theorem ptd_eqD {k : Nat} (hr : Room k X.A) (ha : PD X a ρ ρ1 (.fz d1)) (hb : PD X b ρ1 ρ2 (.fz d2)) (p1 : pureD d1 = true) (p2 : pureD d2 = true) (s1 : SeqAt.shaped (toP d1) = true) (s2 : SeqAt.shaped (toP d2) = true) : PTD X (.Compare a [.Eq] [b] pos) ρ ρ2 (eqD d1 d2) := ptd_cmp (op_eqD hr.units) ha hb (rd_eqD p1 p2 s1 s2)
theorem ptd_neD {k : Nat} (hr : Room k X.A) (ha : PD X a ρ ρ1 (.fz d1)) (hb : PD X b ρ1 ρ2 (.fz d2)) (p1 : pureD d1 = true) (p2 : pureD d2 = true) (s1 : SeqAt.shaped (toP d1) = true) (s2 : SeqAt.shaped (toP d2) = true) : PTD X (.Compare a [.NotEq] [b] pos) ρ ρ2 (!eqD d1 d2) := ptd_cmp (op_neD hr.units) ha hb (rd_neD p1 p2 s1 s2)
theorem pd_eqD {k : Nat} (hr : Room k X.A) (ha : PD X a ρ ρ1 (.fz d1)) (hb : PD X b ρ1 ρ2 (.fz d2)) (p1 : pureD d1 = true) (p2 : pureD d2 = true) (s1 : SeqAt.shaped (toP d1) = true) (s2 : SeqAt.shaped (toP d2) = true) : PD X (.Compare a [.Eq] [b] pos) ρ ρ2 (.fz (.bl (eqD d1 d2))) := pd_cmp (op_eqD hr.units) ha hb (rd_eqD p1 p2 s1 s2)
theorem pd_neD {k : Nat} (hr : Room k X.A) (ha : PD X a ρ ρ1 (.fz d1)) (hb : PD X b ρ1 ρ2 (.fz d2)) (p1 : pureD d1 = true) (p2 : pureD d2 = true) (s1 : SeqAt.shaped (toP d1) = true) (s2 : SeqAt.shaped (toP d2) = true) : PD X (.Compare a [.NotEq] [b] pos) ρ ρ2 (.fz (.bl (!eqD d1 d2))) := pd_cmp (op_neD hr.units) ha hb (rd_neD p1 p2 s1 s2)

theorem boot_max : bootBuiltins "max" = some (.builtin "max") := by decide +kernel
theorem boot_min : bootBuiltins "min" = some (.builtin "min") := by decide +kernel
theorem boot_all : bootBuiltins "all" = some (.builtin "all") := by decide +kernel
theorem boot_sorted : bootBuiltins "sorted" = some (.builtin "sorted") := by decide +kernel
theorem boot_sum : bootBuiltins "sum" = some (.builtin "sum") := by decide +kernel
theorem boot_int : bootBuiltins "int" = some (.type "int") := by decide +kernel
theorem pd_max2 (hc : X.calm = true) (ha : PD X a ρ ρ1 (.fz (.int i))) (hb : PD X b ρ1 ρ2 (.fz (.int j))) (hm : X.mg "max" = none) (hg : Gl X "max") (he : starEach [a, b] X.env = (false, eval a X.env) :: starEach [b] X.env := by rfl) (he2 : starEach [b] X.env = (false, eval b X.env) :: starEach [] X.env := by rfl)
    (hpl : (backTo pos (starEach [b] X.env)).any (·.1) = false := by rfl) : PD X (.Call (.Name "max" p) [a, b] [] pos) ρ ρ2 (.fz (.int (max i j))) := pd_callB (call_max2 hc) boot_max hg hm (pad_cons ha (pad_cons hb pad_nil he2) he) (fun B σ ρ G H xs Q S hx k => by
  cases hx with
  | cons h1 h2 =>
    cases h2 with
    | cons h2 h3 =>
      cases h3; cases h1; cases h2
      refine ⟨i, j, rfl, ?_⟩
      have e : (if j > i then j else i) = max i j := by
        by_cases h : j > i
        · rw [if_pos h]; omega
        · rw [if_neg h]; omega
      rw [e]
      exact ok0 S k (.int _)) (by decide) (by decide) he hpl
theorem pd_min2 (hc : X.calm = true) (ha : PD X a ρ ρ1 (.fz (.int i))) (hb : PD X b ρ1 ρ2 (.fz (.int j))) (hm : X.mg "min" = none) (hg : Gl X "min") (he : starEach [a, b] X.env = (false, eval a X.env) :: starEach [b] X.env := by rfl) (he2 : starEach [b] X.env = (false, eval b X.env) :: starEach [] X.env := by rfl)
    (hpl : (backTo pos (starEach [b] X.env)).any (·.1) = false := by rfl) : PD X (.Call (.Name "min" p) [a, b] [] pos) ρ ρ2 (.fz (.int (min i j))) := pd_callB (call_min2 hc) boot_min hg hm (pad_cons ha (pad_cons hb pad_nil he2) he) (fun B σ ρ G H xs Q S hx k => by
  cases hx with
  | cons h1 h2 =>
    cases h2 with
    | cons h2 h3 =>
      cases h3; cases h1; cases h2
      refine ⟨i, j, rfl, ?_⟩
      have e : (if j < i then j else i) = min i j := by
        by_cases h : j < i
        · rw [if_pos h]; omega
        · rw [if_neg h]; omega
      rw [e]
      exact ok0 S k (.int _)) (by decide) (by decide) he hpl
/-- the greatest of some ints -/
def maxL : List Int → Int → Int
  | [], d => d
  | n :: ns, _ => ns.foldl max n
theorem maxL_ge : ∀ (ns : List Int) (n : Int), (∀ m ∈ ns, m ≤ ns.foldl max n) ∧ n ≤ ns.foldl max n ∧ (ns.foldl max n = n ∨ ns.foldl max n ∈ ns) := by
  intro ns
  induction ns with
  | nil => intro n; exact ⟨(fun m h => nomatch h), Int.le_refl _, .inl rfl⟩
  | cons k r ih =>
    intro n
    obtain ⟨h1, h2, h3⟩ := ih (max n k)
    rw [List.foldl_cons]
    refine ⟨fun m hm => ?_, by omega, ?_⟩
    · rcases List.mem_cons.mp hm with rfl | hm
      · omega
      · exact h1 m hm
    · rcases h3 with h3 | h3
      · rw [h3]
        by_cases q : k ≤ n
        · left; omega
        · right; rw [show max n k = k by omega]; exact List.mem_cons_self
      · exact .inr (List.mem_cons_of_mem _ h3)
theorem maxL_uniq {ns : List Int} {m d : Int} (h1 : m ∈ ns) (h2 : ∀ y ∈ ns, y ≤ m) : m = maxL ns d := by
  cases ns with
  | nil => cases h1
  | cons n r =>
    obtain ⟨g1, g2, g3⟩ := maxL_ge r n
    show m = r.foldl max n
    have a1 : m ≤ r.foldl max n := by
      rcases List.mem_cons.mp h1 with rfl | h
      · exact g2
      · exact g1 m h
    have a2 : r.foldl max n ≤ m := by
      rcases g3 with g3 | g3
      · rw [g3]; exact h2 n List.mem_cons_self
      · exact h2 _ (List.mem_cons_of_mem _ g3)
    omega
theorem pd_maxL {ns : List Int} (hc : X.calm = true) (ha : PD X a ρ ρ1 (.fz (.lst (ns.map .int)))) (hn : 0 < ns.length) (hm : X.mg "max" = none) (hg : Gl X "max") (he : starEach [a] X.env = (false, eval a X.env) :: starEach [] X.env := by rfl)
    (hpl : (backTo pos (starEach [] X.env)).any (·.1) = false := by rfl) : PD X (.Call (.Name "max" p) [a] [] pos) ρ ρ1 (.fz (.int (maxL ns 0))) := pd_callB (cr_max hc) boot_max hg hm (pad_cons ha pad_nil he) (fun B σ ρ G H xs Q S hx k => by
  cases hx with
  | cons h1 h2 =>
    cases h2
    cases h1 with
    | lst h1 h2 =>
      have e := h2.ints
      subst e
      refine ⟨_, ns, rfl, SqL.of (S.e3 _ _ h1), hn, fun m hm1 hm2 => ?_⟩
      rw [maxL_uniq (d := 0) hm1 hm2]
      exact ok0 S k (.int _)) (by decide) (by decide) he hpl
theorem alike_ints (ns : List Int) : PySem.W.AlikeAll (ns.map PyData.int) := by
  refine ⟨fun x hx y hy => ?_, fun x hx => ?_⟩
  · obtain ⟨i, _, rfl⟩ := List.mem_map.mp hx
    obtain ⟨j, _, rfl⟩ := List.mem_map.mp hy
    rfl
  · obtain ⟨i, _, rfl⟩ := List.mem_map.mp hx
    exact fun z => nomatch z
/-- max(xs, default=d) -/
theorem readsAll_ints {h : Heap} : ∀ {vs : List Value} {ns : List Int}, Vals (ns.map V.int) vs → ReadsAll h vs (ns.map PyData.int) []
  | _, [], .nil => .nil
  | _, n :: ns, .cons r t => by
    obtain ⟨u, rfl⟩ := r
    exact .cons (as := []) (.int n u) (readsAll_ints t)
theorem depth_ints : ∀ ns : List Int, PyData.depthAll (ns.map PyData.int) = 0
  | [] => by simp [PyData.depthAll]
  | n :: ns => by
    rw [List.map_cons]
    simp [PyData.depthAll, PyData.depth, depth_ints ns]
def rMaxD (K : PySem.W.Frag) : List V → List V → Hp → VK → Prop := fun vs zs H Q => ∃ (q : Addr) (ns : List Int) (d : Int), vs = [.ref q] ∧ zs = [.int d] ∧ SqL K H q (ns.map V.int) ∧ Q (.int (maxL ns d)) H
theorem cr_maxD {k : Nat} (hr : Room k X.A) (hc : X.calm = true) : CallRK X (.builtin "max") [Str.ofString "default"] (rMaxD X.K) := by
  intro pins s σ H vs zs us ws Q I r1 r2 h
  obtain ⟨q, ns, d, rfl, rfl, hs, h⟩ := h
  obtain ⟨its, rv, hl, _⟩ := I.list hs
  rw [Vals.ref1 r1]
  cases r2 with
  | cons r2 t2 =>
    cases t2
    obtain ⟨u, rfl⟩ := r2
    have hu := hr.units
    refine PySem.W.max_list_default (I.ok.hd hc) hl.isList (readsAll_ints rv) (alike_ints ns) (by rw [depth_ints]; omega) (fun e h' tk hk => ?_) (fun y ys i v h' tk bs e hv hR hk => ?_)
    · have e' : ns = [] := by simpa using e
      subst e'
      exact ⟨.int d, H, I.kept hk, ⟨u, rfl⟩, h⟩
    · cases ns with
      | nil => cases e
      | cons n r =>
        rw [List.map_cons] at e
        injection e with e1 e2
        subst e1; subst e2
        rw [PySem.W.maxD_ints] at hR
        cases hR
        exact ⟨.int _, H, I.kept hk, ⟨_, rfl⟩, h⟩
theorem pd_maxD {k : Nat} {q : Pos} {dd : Expr} {ns : List Int} (hr : Room k X.A) (hc : X.calm = true) (ha : PD X a ρ ρ1 (.fz (.lst (ns.map .int)))) (hd : PD X dd ρ1 ρ2 (.fz (.int i))) (hm : X.mg "max" = none) (hg : Gl X "max")
    (hst : starEach [a] X.env = (false, eval a X.env) :: starEach [] X.env := by rfl)
    (he : backTo pos (starEach [a] X.env) = (false, eval a X.env) :: backTo pos (starEach [] X.env) := by rfl) (hpl : (backTo pos (starEach [a] X.env)).any (·.1) = false := by rfl)
    (hall : (backToKw pos (keywordEach [⟨some "default", dd, q⟩] X.env)).all (·.1.isSome) = true := by rfl) (hnone : (backToKw pos (keywordEach [⟨some "default", dd, q⟩] X.env)).any (·.1.isNone) = false := by rfl) (hks : (backToKw pos (keywordEach [⟨some "default", dd, q⟩] X.env)).filterMap (·.1) = [Str.ofString "default"] := by rfl) :
    PD X (.Call (.Name "max" p) [a] [⟨some "default", dd, q⟩] pos) ρ ρ2 (.fz (.int (maxL ns i))) := .mk fun B σ G H Q S k => by
  refine wpE_of (pe_callBK (cr_maxD hr hc) hg hm boot_max (pa_cons canE pa_nil hst) (pk_cons canE pk_nil) (by decide) (by decide) he hpl hall hnone hks) ?_
  refine ha B σ G H _ S fun v G1 H1 e1 S1 r1 => ?_
  refine hd B σ G1 H1 _ S1 fun w G2 H2 e2 S2 r2 => ?_
  have z1 := r1.rep
  have z2 := r2.rep
  cases z2
  cases z1 with
  | lst g1 g2 =>
    have e := g2.ints
    subst e
    exact ⟨_, ns, i, rfl, rfl, SqL.of (S2.e3 _ _ (e2 _ _ g1)), k _ G2 H2 (e1.trans e2) S2 (.of (.int _))⟩
/-- int(flag), int(n) -/
theorem pd_intB {k : Bool} (ha : PD X a ρ ρ1 (.fz (.bl k))) (hm : X.mg "int" = none) (hg : Gl X "int") (he : starEach [a] X.env = (false, eval a X.env) :: starEach [] X.env := by rfl) (hpl : (backTo pos (starEach [] X.env)).any (·.1) = false := by rfl) :
    PD X (.Call (.Name "int" p) [a] [] pos) ρ ρ1 (.fz (.int (if k then 1 else 0))) := pd_callTy call_int1 boot_int hg hm (pad_cons ha pad_nil he) (fun B σ ρ G H us Q S hx q => by
  cases hx with
  | cons h1 h2 =>
    cases h2; cases h1
    exact .inr ⟨k, rfl, ok0 S q (.int _)⟩) (by decide) (by decide) he hpl
/-- all(xs) of truths -/
theorem pd_all {bs : List Bool} (hc : X.calm = true) (ha : PD X a ρ ρ1 (.fz (.lst (bs.map .bl)))) (hm : X.mg "all" = none) (hg : Gl X "all") (he : starEach [a] X.env = (false, eval a X.env) :: starEach [] X.env := by rfl) (hpl : (backTo pos (starEach [] X.env)).any (·.1) = false := by rfl) :
    PD X (.Call (.Name "all" p) [a] [] pos) ρ ρ1 (.fz (.bl (bs.all id))) := pd_callB (cr_all hc) boot_all hg hm (pad_cons ha pad_nil he) (fun B σ ρ G H us Q S hx q => by
  cases hx with
  | cons h1 h2 =>
    cases h2
    cases h1 with
    | lst h1 h2 =>
      have e := h2.of_bls
      subst e
      exact ⟨_, bs, rfl, SqL.of (S.e3 _ _ h1), ok0 S q (.bl _)⟩) (by decide) (by decide) he hpl
end
def wipeR (ρ : List Sl) : List Nat → List Sl
  | [] => ρ
  | v :: vs => (wipeR ρ vs).set v .no
theorem wipeR_len (ρ : List Sl) : ∀ vs, (wipeR ρ vs).length = ρ.length
  | [] => rfl
  | v :: vs => by unfold wipeR; rw [List.length_set, wipeR_len ρ vs]
theorem wipeR_in {ρ : List Sl} {i : Nat} {r : Sl} : ∀ {vs : List Nat}, (wipeR ρ vs)[i]? = some r → i ∈ vs → r = .no
  | [], _, h => nomatch h
  | v :: vs, h, m => by
    unfold wipeR at h
    by_cases e : i = v
    · subst e
      have hv : i < (wipeR ρ vs).length := by
        have := (List.getElem?_eq_some_iff.mp h).1
        rwa [List.length_set] at this
      rw [List.getElem?_set_self hv] at h
      cases h
      rfl
    · rw [List.getElem?_set_ne (Ne.symm e)] at h
      exact wipeR_in h ((List.mem_cons.mp m).resolve_left e)
theorem wipeR_out {ρ : List Sl} {i : Nat} : ∀ {vs : List Nat}, i ∉ vs → (wipeR ρ vs)[i]? = ρ[i]?
  | [], _ => rfl
  | v :: vs, h => by
    have h1 : v ≠ i := fun e => h (by rw [e]; exact List.mem_cons_self)
    have h2 : i ∉ vs := fun m => h (List.mem_cons_of_mem _ m)
    unfold wipeR
    rw [List.getElem?_set_ne h1]
    exact wipeR_out h2
theorem wipe_at {σ : L2.St} {i : Nat} (hi : i < σ.length) : ∀ {vs : List Nat}, i ∈ vs → (wipe σ vs)[i]? = some none
  | [], h => nomatch h
  | v :: vs, m => by
    unfold wipe
    by_cases e : i = v
    · subst e
      exact List.getElem?_set_self (by rw [wipe_length]; exact hi)
    · rw [List.getElem?_set_ne (Ne.symm e)]
      exact wipe_at hi ((List.mem_cons.mp m).resolve_left e)
theorem wipe_set {σ : L2.St} {j : Nat} {x : Option V} {vs : List Nat} (hj : j ∈ vs) : wipe ((wipe σ vs).set j x) vs = wipe σ vs := by
  refine List.ext_getElem? fun i => ?_
  by_cases hi : i ∈ vs
  · by_cases hl : i < σ.length
    · rw [wipe_at (by rw [List.length_set, wipe_length]; exact hl) hi, wipe_at hl hi]
    · rw [List.getElem?_eq_none (by rw [wipe_length, List.length_set, wipe_length]; omega), List.getElem?_eq_none (by rw [wipe_length]; omega)]
  · rw [wipe_out hi, List.getElem?_set_ne (by rintro rfl; exact hi hj)]

section
open Classical
variable {K : PySem.W.Frag} {B : Bs} {σ : L2.St} {G H : Hp} {ρ : List Sl}
/-- the heap less one's own -/
noncomputable def less (σ : L2.St) (ρ : List Sl) (H : Hp) : Hp := fun a => if ∃ i, OwnAt σ ρ i a then none else H a
theorem less_ex : Ex (less σ ρ H) H := fun a o e => by
  unfold less at e
  split at e
  · cases e
  · exact e
theorem less_own {i : Nat} {a : Addr} (z : OwnAt σ ρ i a) : less σ ρ H a = none := by
  unfold less
  rw [if_pos ⟨i, z⟩]
theorem less_not {a : Addr} (z : ∀ i, ¬ OwnAt σ ρ i a) : less σ ρ H a = H a := by
  unfold less
  rw [if_neg]
  rintro ⟨i, q⟩
  exact z i q
theorem SR.wipe (S : SR K B σ G H ρ) (vs : List Nat) : SR K B (wipe σ vs) G H (wipeR ρ vs) where
  e1 := S.e1
  e2 := S.e2
  e3 := S.e3
  nw := S.nw
  len := by rw [wipe_length, wipeR_len]; exact S.len
  sl := fun i r h => by
    by_cases hi : i ∈ vs
    · have e := wipeR_in h hi
      subst e
      refine ⟨none, wipe_at ?_ hi, trivial⟩
      have := (List.getElem?_eq_some_iff.mp h).1
      rw [wipeR_len] at this
      rw [S.len]
      exact this
    · rw [wipeR_out hi] at h
      rw [wipe_out hi]
      exact S.sl i r h
  ne := fun i j p a b => by
    have key : ∀ i, OwnAt (L2.wipe σ vs) (wipeR ρ vs) i p → OwnAt σ ρ i p := fun i ⟨h1, r, h2, o⟩ => by
      by_cases hi : i ∈ vs
      · have e := wipeR_in h2 hi
        subst e
        exact False.elim o
      · rw [wipeR_out hi] at h2
        rw [wipe_out hi] at h1
        exact ⟨h1, r, h2, o⟩
    exact S.ne i j p (key i a) (key j b)
/-- the base renewed -/
theorem SR.re {F : Hp} (S : SR K B σ G H ρ) (h1 : Ex F H) (h2 : ∀ i p, OwnAt σ ρ i p → F p = none) : SR K ⟨G, F⟩ σ G H ρ where
  e1 := Evl.Ex.refl G
  e2 := h1
  e3 := S.e3
  nw := fun a o e n => by
    have n' : G a = none := n
    rw [n'] at e; cases e
  len := S.len
  sl := fun i r h => by
    obtain ⟨x, q1, q2⟩ := S.sl i r h
    refine ⟨x, q1, ?_⟩
    cases r with
    | no => exact trivial
    | fz d => exact q2
    | kn w d => exact q2
    | ow ds => obtain ⟨p, vs, e, z1, z2, z3⟩ := q2; subst e; exact ⟨p, vs, rfl, z1, h2 i p ⟨q1, _, h, trivial⟩, z3⟩
    | od kvs => obtain ⟨p, e, z1, z2, z3⟩ := q2; subst e; exact ⟨p, rfl, z1, h2 i p ⟨q1, _, h, trivial⟩, z3⟩
    | op p ds => obtain ⟨vs, e, z1, z2, z3⟩ := q2; subst e; exact ⟨vs, rfl, z1, h2 i p ⟨q1, _, h, trivial⟩, z3⟩
  ne := S.ne
/-- .. and given back -/
theorem SR.unre {F G' H' : Hp} {σ' : L2.St} {ρ' : List Sl} (S : SR K B σ G H ρ) (S' : SR K ⟨G, F⟩ σ' G' H' ρ') (h : Ex B.F F) : SR K B σ' G' H' ρ' where
  e1 := S.e1.trans S'.e1
  e2 := h.trans S'.e2
  e3 := S'.e3
  nw := fun a o e n => by
    cases q : G a with
    | some u => exact S.nw a u q n
    | none => exact ex_none h (S'.nw a o e q)
  len := S'.len
  sl := fun i r h2 => by
    obtain ⟨x, q1, q2⟩ := S'.sl i r h2
    refine ⟨x, q1, ?_⟩
    cases r with
    | no => exact trivial
    | fz d => exact q2
    | kn w d => exact q2
    | ow ds => obtain ⟨p, vs, e, z1, z2, z3⟩ := q2; exact ⟨p, vs, e, z1, ex_none h z2, z3⟩
    | od kvs => obtain ⟨p, e, z1, z2, z3⟩ := q2; exact ⟨p, e, z1, ex_none h z2, z3⟩
    | op p ds => obtain ⟨vs, e, z1, z2, z3⟩ := q2; exact ⟨vs, e, z1, ex_none h z2, z3⟩
  ne := S'.ne
end

/-- the state between two turns of a comprehension: the list so far at Dl -/
def Cm (K : PySem.W.Frag) (σ : L2.St) (ρ : List Sl) (G1 F0 : Hp) (Dl : Addr) (ds : List D) (H' : Hp) : Prop :=
  ∃ G' acc, Ex G1 G' ∧ SR K ⟨G1, F0⟩ σ G' H' ρ ∧ G' Dl = none ∧ H' Dl = some (.lst acc) ∧ Reps K G' acc ds

section
variable {K : PySem.W.Frag} {σ : L2.St} {ρ : List Sl} {G1 F0 H' : Hp} {Dl : Addr} {ds : List D}
/-- what a turn's evaluation leans on -/
theorem cm_in (h : Cm K σ ρ G1 F0 Dl ds H') (nD : ∀ i, ¬ OwnAt σ ρ i Dl) (f0 : ∀ i p, OwnAt σ ρ i p → F0 p = none) (fD : F0 Dl = none) :
    ∃ G' acc, Ex G1 G' ∧ H' Dl = some (.lst acc) ∧ Reps K G' acc ds ∧ SR K ⟨G', upd F0 Dl (.lst acc)⟩ σ G' H' ρ ∧
      ∀ (σ2 : L2.St) (ρ2 : List Sl) (G2 H2 : Hp), SR K ⟨G', upd F0 Dl (.lst acc)⟩ σ2 G2 H2 ρ2 → Ex G1 G2 ∧ SR K ⟨G1, F0⟩ σ2 G2 H2 ρ2 ∧ G2 Dl = none ∧ H2 Dl = some (.lst acc) ∧ Ex G' G2 := by
  obtain ⟨G', acc, e, S, g, hD, r⟩ := h
  have exF : Ex F0 (upd F0 Dl (.lst acc)) := Evl.Ex.new fD
  refine ⟨G', acc, e, hD, r, S.re (fun a o q => ?_) (fun i p o => ?_), fun σ2 ρ2 G2 H2 S2 => ⟨e.trans S2.e1, S.unre S2 exF, ?_, S2.e2 _ _ upd_same, S2.e1⟩⟩
  · by_cases ea : a = Dl
    · subst ea; rw [upd_same] at q; cases q; exact hD
    · rw [upd_ne ea] at q; exact S.e2 a o q
  · rw [upd_ne (by rintro rfl; exact nD i o)]
    exact f0 i p o
  · cases q : G2 Dl with
    | none => rfl
    | some o =>
      have z := S2.nw Dl o q g
      have z' : upd F0 Dl (.lst acc) Dl = none := z
      rw [upd_same] at z'; cases z'
theorem cm_step {σ2 : L2.St} {ρ2 : List Sl} {G2 H2 : Hp} {acc : List V} {v : V} {d : D} (S : SR K ⟨G1, F0⟩ σ2 G2 H2 ρ2) (fD : F0 Dl = none) (g : G2 Dl = none) (r : Reps K G2 acc ds) (h : Rep K G2 v d)
    (hl : σ.length = ρ.length) (k1 : ∀ (i : Nat) (r : Sl), ρ[i]? = some r → σ[i]? = σ2[i]? ∧ (ρ2[i]? = some r ∨ r = .no)) (e : Ex G1 G2) (nD : ∀ i, ¬ OwnAt σ2 ρ2 i Dl) :
    Cm K σ ρ G1 F0 Dl (ds ++ [d]) (upd H2 Dl (.lst (acc ++ [v]))) := by
  refine ⟨G2, acc ++ [v], e, ⟨S.e1, fun a o q => ?_, fun a o q => ?_, S.nw, hl, fun i r q => ?_, fun i j p a b => ?_⟩, g, upd_same, r.append (.cons h .nil)⟩
  · have q' : F0 a = some o := q
    rw [upd_ne (by rintro rfl; rw [fD] at q'; cases q')]
    exact S.e2 a o q
  · rw [upd_ne (by rintro rfl; rw [g] at q; cases q)]
    exact S.e3 a o q
  · obtain ⟨h1, h2⟩ := k1 i r q
    have hi : i < σ.length := by rw [hl]; exact (List.getElem?_eq_some_iff.mp q).1
    rcases h2 with h2 | h2
    · obtain ⟨x, q1, q2⟩ := S.sl i r h2
      refine ⟨x, by rw [h1]; exact q1, q2.grow (Evl.Ex.refl G2) (fun p u o ex z => ?_) fun _ _ _ z _ => z⟩
      subst ex
      rw [upd_ne (by rintro rfl; exact nD i ⟨q1, r, h2, o⟩)]
      exact z
    · subst h2
      exact ⟨σ[i], List.getElem?_eq_getElem hi, trivial⟩
  · have key : ∀ i, OwnAt σ ρ i p → OwnAt σ2 ρ2 i p := fun i ⟨z1, r, z2, o⟩ => by
      obtain ⟨h1, h2⟩ := k1 i r z2
      rcases h2 with h2 | h2
      · exact ⟨by rw [← h1]; exact z1, r, h2, o⟩
      · subst h2; exact False.elim o
    exact S.ne i j p (key i a) (key j b)
end

def wpF (X : Cx) (ifs : List Expr) : TT := fun σ H Q => ∀ (pins : List (Addr × Obj)) (s : Shared), Inv X pins σ H s →
  wpAny (model X.prog X.w) X.A (forIn ifs true fun c r => if r = true then do let ok ← isTrue c X.env (eval c X.env); pure (ForInStep.yield ok) else pure (ForInStep.yield r)) (TP X pins σ Q) X.xe s
def TSDt (X : Cx) (ifs : List Expr) (ρ : List Sl) (b : Bool) : Prop := ∀ (B : Bs) (σ : L2.St) (G H : Hp) (Q : Bool → Hp → Prop), SR X.K B σ G H ρ → (∀ G' H', Ex G G' → SR X.K B σ G' H' ρ → Q b H') → wpF X ifs σ H Q
structure TSD (X : Cx) (ifs : List Expr) (ρ : List Sl) (b : Bool) : Prop where
  run : TSDt X ifs ρ b
instance (X : Cx) (e : List Expr) (ρ : List Sl) (r : Bool) : CoeFun (TSD X e ρ r) fun _ => TSDt X e ρ r := ⟨TSD.run⟩
theorem tsd_nil {X : Cx} {ρ : List Sl} : TSD X [] ρ true := .mk fun B σ G H Q S k pins s I => pts_nil.run pins s σ H Q I (k G H (Evl.Ex.refl G) S)
theorem tsd_one {X : Cx} {c : Expr} {ρ : List Sl} {b : Bool} (h : PTD X c ρ ρ b) : TSD X [c] ρ b := .mk fun B σ G H Q S k pins s I => (pts_one canT).run pins s σ H Q I (h B σ G H Q S k)

/-- a block's context -/
abbrev Blk (X : Cx) (scope : Scope) (s : Shared) (H : Hp) (C : Addr) (cl : List (Str × Addr)) (fp : List Addr) : Cx := X.blk s H scope (compEnvC scope cl C X.env) fp
section
variable {X : Cx} {ρ ρ0 : List Sl} {elt src : Expr} {ifs : List Expr} {scope : Scope} {x : Str} {tp pos : Pos}
/-- in every block -/
def allF (X : Cx) (scope : Scope) (ifs : List Expr) : TT := fun σ H Q => ∀ (s : Shared) (H0 : Hp) (C : Addr) (cl : List (Str × Addr)) (fp : List Addr), wpF (Blk X scope s H0 C cl fp) ifs σ H Q
def allE (X : Cx) (scope : Scope) (elt : Expr) : TE := fun σ H Q => ∀ (s : Shared) (H0 : Hp) (C : Addr) (cl : List (Str × Addr)) (fp : List Addr), wpE (Blk X scope s H0 C cl fp) elt σ H Q
/-- one turn -/
theorem cm_turn {own : List (Str × Nat)} {j : Nat} {σ : L2.St} {G1 F0 H' : Hp} {Dl : Addr} {ds : List D} {b : Bool} {d y : D} {u : V}
    (hc : Cm X.K (wipe σ (own.map (·.2))) (wipeR ρ0 (own.map (·.2))) G1 F0 Dl ds H') (nD : ∀ i, ¬ OwnAt (wipe σ (own.map (·.2))) (wipeR ρ0 (own.map (·.2))) i Dl) (f0 : ∀ i p, OwnAt (wipe σ (own.map (·.2))) (wipeR ρ0 (own.map (·.2))) i p → F0 p = none) (fD : F0 Dl = none)
    (hj : j ∈ own.map (·.2)) (hu : Rep X.K G1 u d) (hz : ds.length < 100000)
    (ht : ∀ (s : Shared) (H : Hp) (C : Addr) (cl : List (Str × Addr)) (fp : List Addr), TSD (Blk X scope s H C cl fp) ifs ((wipeR ρ0 (own.map (·.2))).set j (.fz d)) b)
    (he : b = true → ∀ (s : Shared) (H : Hp) (C : Addr) (cl : List (Str × Addr)) (fp : List Addr), PD (Blk X scope s H C cl fp) elt ((wipeR ρ0 (own.map (·.2))).set j (.fz d)) ((wipeR ρ0 (own.map (·.2))).set j (.fz d)) (.fz y)) :
    wipe ((wipe σ (own.map (·.2))).set j (some u)) (own.map (·.2)) = wipe σ (own.map (·.2)) ∧
    (∀ (s : Shared) (H : Hp) (C : Addr) (cl : List (Str × Addr)) (fp : List Addr), wpF (Blk X scope s H C cl fp) ifs ((wipe σ (own.map (·.2))).set j (some u)) H' fun b' H3 =>
      if b' = true then (∀ (s : Shared) (H : Hp) (C : Addr) (cl : List (Str × Addr)) (fp : List Addr), wpE (Blk X scope s H C cl fp) elt ((wipe σ (own.map (·.2))).set j (some u)) H3 fun z H4 => ∃ acc, H4 Dl = some (.lst acc) ∧ acc.length < sizeLine ∧
        Cm X.K (wipe σ (own.map (·.2))) (wipeR ρ0 (own.map (·.2))) G1 F0 Dl (ds ++ if b = true then [y] else []) (upd H4 Dl (.lst (acc ++ [z]))))
      else Cm X.K (wipe σ (own.map (·.2))) (wipeR ρ0 (own.map (·.2))) G1 F0 Dl (ds ++ if b = true then [y] else []) H3) := by
  refine ⟨wipe_set hj, fun s H C cl fp => ?_⟩
  obtain ⟨G', acc, e, hD, r, S, back⟩ := cm_in hc nD f0 fD
  have hlen : (wipe σ (own.map (·.2))).length = (wipeR ρ0 (own.map (·.2))).length := S.len
  have S1 := S.set (i := j) (ValR.of (B := ⟨G', upd F0 Dl (.lst acc)⟩) (σ := wipe σ (own.map (·.2))) (ρ := wipeR ρ0 (own.map (·.2))) (H := H') (hu.mono e))
  have own1 : ∀ i p, OwnAt ((wipe σ (own.map (·.2))).set j (some u)) ((wipeR ρ0 (own.map (·.2))).set j (.fz d)) i p → OwnAt (wipe σ (own.map (·.2))) (wipeR ρ0 (own.map (·.2))) i p := fun i p ⟨h1, r, h2, o⟩ => by
    by_cases ei : i = j
    · subst ei
      have hi : i < (wipeR ρ0 (own.map (·.2))).length := by
        have := (List.getElem?_eq_some_iff.mp h2).1
        rwa [List.length_set] at this
      rw [List.getElem?_set_self hi] at h2
      cases h2
      exact False.elim o
    · rw [List.getElem?_set_ne (Ne.symm ei)] at h1 h2
      exact ⟨h1, r, h2, o⟩
  have slots : ∀ (i : Nat) (r : Sl), (wipeR ρ0 (own.map (·.2)))[i]? = some r → (wipe σ (own.map (·.2)))[i]? = ((wipe σ (own.map (·.2))).set j (some u))[i]? ∧ (((wipeR ρ0 (own.map (·.2))).set j (.fz d))[i]? = some r ∨ r = .no) ∨ (i = j ∧ r = .no) := fun i r h => by
    by_cases ei : i = j
    · subst ei
      exact .inr ⟨rfl, wipeR_in h hj⟩
    · refine .inl ⟨by rw [List.getElem?_set_ne (Ne.symm ei)], .inl ?_⟩
      rw [List.getElem?_set_ne (Ne.symm ei)]
      exact h
  -- what is kept behind the turn
  have keep : ∀ {G2 H2 : Hp}, SR X.K ⟨G1, F0⟩ ((wipe σ (own.map (·.2))).set j (some u)) G2 H2 ((wipeR ρ0 (own.map (·.2))).set j (.fz d)) → SR X.K ⟨G1, F0⟩ (wipe σ (own.map (·.2))) G2 H2 (wipeR ρ0 (own.map (·.2))) := fun {G2 H2} S2 => by
    refine ⟨S2.e1, S2.e2, S2.e3, S2.nw, hlen, fun i r h => ?_, fun i k p a b => ?_⟩
    · by_cases ei : i = j
      · subst ei
        have z := wipeR_in h hj
        subst z
        have hi : i < (wipe σ (own.map (·.2))).length := by rw [hlen]; exact (List.getElem?_eq_some_iff.mp h).1
        exact ⟨_, List.getElem?_eq_getElem hi, trivial⟩
      · have q := S2.sl i r (by rw [List.getElem?_set_ne (Ne.symm ei)]; exact h)
        rw [List.getElem?_set_ne (Ne.symm ei)] at q
        exact q
    · have up : ∀ i, OwnAt (wipe σ (own.map (·.2))) (wipeR ρ0 (own.map (·.2))) i p → OwnAt ((wipe σ (own.map (·.2))).set j (some u)) ((wipeR ρ0 (own.map (·.2))).set j (.fz d)) i p := fun i ⟨h1, r, h2, o⟩ => by
        have ei : i ≠ j := by
          rintro rfl
          have z := wipeR_in h2 hj
          subst z
          exact False.elim o
        exact ⟨by rw [List.getElem?_set_ne (Ne.symm ei)]; exact h1, r, by rw [List.getElem?_set_ne (Ne.symm ei)]; exact h2, o⟩
      exact S2.ne i k p (up i a) (up k b)
  refine ht s H C cl fp ⟨G', upd F0 Dl (.lst acc)⟩ _ G' H' _ S1 fun G2 H2 e2 S2 => ?_
  cases b with
  | false =>
    show (if false = true then _ else _)
    rw [if_neg Bool.false_ne_true, if_neg Bool.false_ne_true, List.append_nil]
    obtain ⟨b1, b2, b3, b4, b5⟩ := back _ _ _ _ S2
    exact ⟨G2, acc, b1, keep b2, b3, b4, r.mono e2⟩
  | true =>
    show (if true = true then _ else _)
    rw [if_pos rfl, if_pos rfl]
    intro s' H0 C' cl' fp'
    refine he rfl s' H0 C' cl' fp' ⟨G', upd F0 Dl (.lst acc)⟩ _ G2 H2 _ S2 fun z G3 H3 e3 S3 r3 => ?_
    obtain ⟨b1, b2, b3, b4, b5⟩ := back _ _ _ _ S3
    have r4 := r.mono b5
    refine ⟨acc, b4, by rw [r4.length]; exact Evl.sz_lt hz, ?_⟩
    have S4 := keep b2
    refine cm_step (σ := wipe σ (own.map (·.2))) (ρ := wipeR ρ0 (own.map (·.2))) S4 fD b3 r4 r3.rep hlen (fun i r h => ⟨rfl, .inl h⟩) b1 nD

theorem take_filter {α : Type} (f : α → Bool) (v : α → D) {xs : List α} {i : Nat} {a : α} (h : xs[i]? = some a) : ((xs.take (i + 1)).filter f).map v = ((xs.take i).filter f).map v ++ if f a = true then [v a] else [] := by
  rw [List.take_add_one, h, List.filter_append, List.map_append]
  congr 1
  show (List.filter f [a]).map v = _
  by_cases e : f a = true
  · rw [List.filter_cons_of_pos e, if_pos e]; rfl
  · rw [List.filter_cons_of_neg e, if_neg e]; rfl

/-- the end of a comprehension: the def's own state again -/
theorem cm_fin {B : Bs} {own : List Nat} {σ : L2.St} {G1 G' H1 H' : Hp} {Dl : Addr} {acc : List V} {ds : List D} (S1 : SR X.K B σ G1 H1 ρ0) (hD : H1 Dl = none)
    (e : Ex G1 G') (S : SR X.K ⟨G1, less (wipe σ own) (wipeR ρ0 own) H1⟩ (wipe σ own) G' H' (wipeR ρ0 own)) (g : G' Dl = none) (h : H' Dl = some (.lst acc)) (r : Reps X.K G' acc ds) : SR X.K B σ G' H' ρ0 ∧ ValR X.K B σ ρ0 G' H' (.ref Dl) (.ow ds) := by
  have ex0 : Ex B.F (less (wipe σ own) (wipeR ρ0 own) H1) := fun a o q => by
    rw [less_not]
    · exact S1.e2 a o q
    · intro i z
      have := ((S1.wipe own).own z).2.1
      rw [this] at q; cases q
  have fin : ∀ i p (r : Sl), ρ0[i]? = some r → Own r → σ[i]? = some (some (.ref p)) → ∀ u, H1 p = some u → (i ∉ own → H' p ≠ none) ∧ (i ∈ own → H' p = some u ∧ G' p = none) := fun i p r h1 o h2 u h3 => by
    constructor
    · intro hi
      have z : OwnAt (wipe σ own) (wipeR ρ0 own) i p := ⟨by rw [wipe_out hi]; exact h2, r, by rw [wipeR_out hi]; exact h1, o⟩
      obtain ⟨_, _, w, q⟩ := S.own z
      rw [q]; exact fun z => nomatch z
    · intro hi
      have hn : ∀ k, ¬ OwnAt (wipe σ own) (wipeR ρ0 own) k p := fun k ⟨k1, r', k2, o'⟩ => by
        by_cases hk : k ∈ own
        · have z := wipeR_in k2 hk
          subst z
          exact False.elim o'
        · rw [wipe_out hk] at k1
          rw [wipeR_out hk] at k2
          have := S1.ne i k p ⟨h2, r, h1, o⟩ ⟨k1, r', k2, o'⟩
          subst this
          exact hk hi
      have z : less (wipe σ own) (wipeR ρ0 own) H1 p = some u := by rw [less_not hn]; exact h3
      refine ⟨S.e2 p u z, ?_⟩
      cases q : G' p with
      | none => rfl
      | some w =>
        have y := S.nw p w q (S1.own ⟨h2, r, h1, o⟩).1
        have y' : less (wipe σ own) (wipeR ρ0 own) H1 p = none := y
        rw [z] at y'; cases y'
  refine ⟨⟨S1.e1.trans e, ex0.trans S.e2, S.e3, fun a o q n => ?_, S1.len, fun i r q => ?_, S1.ne⟩, (fun z => nomatch z), ⟨Dl, acc, rfl, g, ex_none S1.e2 hD, h, r⟩, fun _ q eq i oi => ?_⟩
  · cases q1 : G1 a with
    | some u => exact S1.nw a u q1 n
    | none => exact ex_none ex0 (S.nw a o q q1)
  · obtain ⟨y, h1, h2⟩ := S1.sl i r q
    refine ⟨y, h1, ?_⟩
    by_cases hi : i ∈ own
    · refine h2.grow e (fun p u o ey z => ?_) (fun p o ey z1 z2 => ?_)
      · subst ey
        exact ((fin i p r q o h1 u z).2 hi).1
      · subst ey
        cases z3 : H1 p with
        | none => exact absurd z3 z2
        | some u => exact ((fin i p r q o h1 u z3).2 hi).2
    · obtain ⟨y', g1, g2⟩ := S.sl i r (by rw [wipeR_out hi]; exact q)
      rw [wipe_out hi, h1] at g1
      cases g1
      cases r with
      | no => exact trivial
      | fz d => exact g2
      | kn w d => exact g2
      | ow ds =>
        obtain ⟨p, vs, z1, z2, z3, z4⟩ := g2
        obtain ⟨p', vs', w1, w2, w3, w4⟩ := h2
        subst z1
        cases w1
        exact ⟨p, vs, rfl, z2, w3, z4⟩
      | od kvs =>
        obtain ⟨p, z1, z2, z3, z4⟩ := g2
        obtain ⟨p', w1, w2, w3, w4⟩ := h2
        subst z1
        cases w1
        exact ⟨p, rfl, z2, w3, z4⟩
      | op p ds =>
        obtain ⟨vs, z1, z2, z3, z4⟩ := g2
        obtain ⟨vs', w1, w2, w3, w4⟩ := h2
        subst z1
        cases w1
        exact ⟨vs, rfl, z2, w3, z4⟩
  · cases eq
    exact S1.notOwn hD i oi

theorem cm_end {B : Bs} {own : List Nat} {σ : L2.St} {G1 H1 H' : Hp} {Dl : Addr} {ds : List D} (S1 : SR X.K B σ G1 H1 ρ0) (hD : H1 Dl = none)
    (hc : Cm X.K (wipe σ own) (wipeR ρ0 own) G1 (less (wipe σ own) (wipeR ρ0 own) H1) Dl ds H') : ∃ G', Ex G1 G' ∧ SR X.K B σ G' H' ρ0 ∧ ValR X.K B σ ρ0 G' H' (.ref Dl) (.ow ds) := by
  obtain ⟨G', acc, e, S, g, h, r⟩ := hc
  exact ⟨G', e, cm_fin S1 hD e S g h r⟩

/-- [elt for x in src if ..], src a list that stands -/
theorem pd_lcL {α : Type} (j : Nat) (own : List (Str × Nat)) {xs : List α} (enc : α → D) (f : α → Bool) (v : α → D) (hsrc : PD X src ρ ρ0 (.fz (.lst (xs.map enc)))) (hl : xs.length ≤ 50000) (hj : j ∈ own.map (·.2))
    (ht : ∀ (s : Shared) (H : Hp) (C : Addr) (cl : List (Str × Addr)) (fp : List Addr) (i : Nat) (a : α), xs[i]? = some a → TSD (Blk X scope s H C cl fp) ifs ((wipeR ρ0 (own.map (·.2))).set j (.fz (enc a))) (f a))
    (he : ∀ (s : Shared) (H : Hp) (C : Addr) (cl : List (Str × Addr)) (fp : List Addr) (i : Nat) (a : α), xs[i]? = some a → f a = true → PD (Blk X scope s H C cl fp) elt ((wipeR ρ0 (own.map (·.2))).set j (.fz (enc a))) ((wipeR ρ0 (own.map (·.2))).set j (.fz (enc a))) (.fz (v a)))
    (hc : X.calm = true) (hN : X.N.Nodup) (ok : BlkOk X.N X.env.scope scope own) (hx : X.N[j]? = some x)
    (hloc : ∀ (s : Shared) (H : Hp) (C : Addr) (cl : List (Str × Addr)) (fp : List Addr), Loc (Blk X scope s H C cl fp).env.scope x)
    (hf : ∀ (s : Shared) (H : Hp) (C : Addr) (cl : List (Str × Addr)) (fp : List Addr), (Blk X scope s H C cl fp).fn x = true ∨ (Blk X scope s H C cl fp).env.scope.names.lookup x = some .local)
    (hs : ∀ x, foldedSetIterable src X.env x = pure x := by intro _; rfl) :
    PD X (.ListComp elt [⟨.Name x tp, src, ifs, 0⟩] scope pos) ρ ρ0 (.ow ((xs.filter f).map v)) := .mk fun B σ G H Q S k => by
  refine wpE_of (pe_lc (own := own) (g := gName j) (tt := allF X scope ifs)
    (te := allE X scope elt) hc hN (pi_list canE) ok
    (fun s H C cl fp => pg_name hN hx (hloc s H C cl fp) (hf s H C cl fp)) (fun s H C cl fp => ⟨fun pins s' σ' H' Q' I h => h s H C cl fp pins s' I⟩) (fun s H C cl fp => ⟨fun pins s' σ' H' Q' I h => h s H C cl fp pins s' I⟩) hs) ?_
  refine hsrc B σ G H _ S fun vv G1 H1 e1 S1 r1 => ?_
  have z := r1.rep
  cases z with
  | @lst l vs _ hlst hr =>
    refine ⟨l, rfl, ⟨vs, .inl (.inl (S1.e3 _ _ hlst))⟩, fun Dl hD => ?_⟩
    have nD : ∀ i, ¬ OwnAt (wipe σ (own.map (·.2))) (wipeR ρ0 (own.map (·.2))) i Dl := (S1.wipe _).notOwn hD
    have f0 : ∀ i p, OwnAt (wipe σ (own.map (·.2))) (wipeR ρ0 (own.map (·.2))) i p → less (wipe σ (own.map (·.2))) (wipeR ρ0 (own.map (·.2))) H1 p = none := fun i p o => less_own o
    have fD : less (wipe σ (own.map (·.2))) (wipeR ρ0 (own.map (·.2))) H1 Dl = none := by rw [less_not nD]; exact hD
    have h0 : Cm X.K (wipe σ (own.map (·.2))) (wipeR ρ0 (own.map (·.2))) G1 (less (wipe σ (own.map (·.2))) (wipeR ρ0 (own.map (·.2))) H1) Dl [] (upd H1 Dl (.lst [])) :=
      ⟨G1, [], Evl.Ex.refl G1, ((S1.wipe _).re less_ex f0).alloc hD, ex_none S1.e3 hD, upd_same, .nil⟩
    refine lc_list (K := X.K) (a := l) (g := gName j) (tt := allF X scope ifs) (te := allE X scope elt) (vs := own.map (·.2)) (σ := σ) (Qd := Q (.ref Dl)) (xs := vs) (fun i H' => Cm X.K (wipe σ (own.map (·.2))) (wipeR ρ0 (own.map (·.2))) G1 (less (wipe σ (own.map (·.2))) (wipeR ρ0 (own.map (·.2))) H1) Dl (((xs.take i).filter f).map v) H') h0
      (fun i H' _ p => ?_) (fun i u H' hu p => ?_) (fun H' p => ?_)
    · obtain ⟨G', acc, e, S', _⟩ := p
      exact .inl (.inl (S'.e3 _ _ (e _ _ hlst)))
    · obtain ⟨d, hd, hrd⟩ := hr.getV hu
      rw [List.getElem?_map] at hd
      cases q : xs[i]? with
      | none => rw [q] at hd; cases hd
      | some a =>
        rw [q] at hd
        cases hd
        have hi : i < xs.length := (List.getElem?_eq_some_iff.mp q).1
        have hz : (((xs.take i).filter f).map v).length < 100000 := by
          rw [List.length_map]
          have h1 := List.length_filter_le f (xs.take i)
          rw [List.length_take] at h1
          omega
        have t := cm_turn (X := X) (ρ0 := ρ0) (elt := elt) (ifs := ifs) (scope := scope) (own := own) (j := j) (b := f a) (d := enc a) (y := v a) p nD f0 fD hj hrd hz (fun s H C cl fp => ht s H C cl fp i a q) (fun hb s H C cl fp => he s H C cl fp i a q hb)
        refine ⟨t.1, fun s H0 C cl fp pins s' I => ?_⟩
        rw [take_filter f v q]
        exact t.2 s H0 C cl fp pins s' I
    · rw [hr.length, List.length_map, List.take_length] at p
      obtain ⟨G', e2, S2, v2⟩ := cm_end S1 hD p
      exact k _ G' H' (e1.trans e2) S2 v2
/-- [elt for x in range(n) if ..] -/
theorem pd_lcR {a : Expr} {n : Int} {rp cp : Pos} (j : Nat) (own : List (Str × Nat)) (f : Nat → Bool) (v : Nat → D) (hsrc : PD X a ρ ρ0 (.fz (.int n))) (hl : n ≤ 50000) (hl0 : -50000 ≤ n) (hj : j ∈ own.map (·.2)) (hg : Gl X "range") (hm : X.mg "range" = none)
    (ht : ∀ (s : Shared) (H : Hp) (C : Addr) (cl : List (Str × Addr)) (fp : List Addr) (i : Nat), (i : Int) < n → TSD (Blk X scope s H C cl fp) ifs ((wipeR ρ0 (own.map (·.2))).set j (.fz (.int (i : Int)))) (f i))
    (he : ∀ (s : Shared) (H : Hp) (C : Addr) (cl : List (Str × Addr)) (fp : List Addr) (i : Nat), (i : Int) < n → f i = true → PD (Blk X scope s H C cl fp) elt ((wipeR ρ0 (own.map (·.2))).set j (.fz (.int (i : Int)))) ((wipeR ρ0 (own.map (·.2))).set j (.fz (.int (i : Int)))) (.fz (v i)))
    (hc : X.calm = true) (hN : X.N.Nodup) (ok : BlkOk X.N X.env.scope scope own) (hx : X.N[j]? = some x)
    (hloc : ∀ (s : Shared) (H : Hp) (C : Addr) (cl : List (Str × Addr)) (fp : List Addr), Loc (Blk X scope s H C cl fp).env.scope x)
    (hf : ∀ (s : Shared) (H : Hp) (C : Addr) (cl : List (Str × Addr)) (fp : List Addr), (Blk X scope s H C cl fp).fn x = true ∨ (Blk X scope s H C cl fp).env.scope.names.lookup x = some .local)
    (hst : starEach [a] X.env = [(false, eval a X.env)] := by rfl)
    (hs : ∀ x, foldedSetIterable (.Call (.Name "range" rp) [a] [] cp) X.env x = pure x := by intro _; rfl) :
    PD X (.ListComp elt [⟨.Name x tp, .Call (.Name "range" rp) [a] [] cp, ifs, 0⟩] scope pos) ρ ρ0 (.ow (((List.range n.toNat).filter f).map v)) := .mk fun B σ G H Q S k => by
  refine wpE_of (pe_lc (own := own) (g := gName j) (tt := allF X scope ifs)
    (te := allE X scope elt) hc hN (pi_range1 hg hm (pa_cons canE pa_nil hst) hst) ok
    (fun s H C cl fp => pg_name hN hx (hloc s H C cl fp) (hf s H C cl fp)) (fun s H C cl fp => ⟨fun pins s' σ' H' Q' I h => h s H C cl fp pins s' I⟩) (fun s H C cl fp => ⟨fun pins s' σ' H' Q' I h => h s H C cl fp pins s' I⟩) hs) ?_
  refine hsrc B σ G H _ S fun vv G1 H1 e1 S1 r1 => ?_
  have z := r1.rep
  cases z
  refine ⟨n, rfl, by omega, by omega, fun Dl hD => ?_⟩
  have nD : ∀ i, ¬ OwnAt (wipe σ (own.map (·.2))) (wipeR ρ0 (own.map (·.2))) i Dl := (S1.wipe _).notOwn hD
  have f0 : ∀ i p, OwnAt (wipe σ (own.map (·.2))) (wipeR ρ0 (own.map (·.2))) i p → less (wipe σ (own.map (·.2))) (wipeR ρ0 (own.map (·.2))) H1 p = none := fun i p o => less_own o
  have fD : less (wipe σ (own.map (·.2))) (wipeR ρ0 (own.map (·.2))) H1 Dl = none := by rw [less_not nD]; exact hD
  have h0 : Cm X.K (wipe σ (own.map (·.2))) (wipeR ρ0 (own.map (·.2))) G1 (less (wipe σ (own.map (·.2))) (wipeR ρ0 (own.map (·.2))) H1) Dl [] (upd H1 Dl (.lst [])) :=
    ⟨G1, [], Evl.Ex.refl G1, ((S1.wipe _).re less_ex f0).alloc hD, ex_none S1.e3 hD, upd_same, .nil⟩
  refine lc_range (g := gName j) (tt := allF X scope ifs) (te := allE X scope elt) (vs := own.map (·.2)) (σ := σ) (Qd := Q (.ref Dl)) (lo := 0) (n := n.toNat) (fun i H' => Cm X.K (wipe σ (own.map (·.2))) (wipeR ρ0 (own.map (·.2))) G1 (less (wipe σ (own.map (·.2))) (wipeR ρ0 (own.map (·.2))) H1) Dl ((((List.range n.toNat).take i).filter f).map v) H') h0
    (fun i H' hi p => ?_) (fun H' p => ?_)
  · have ez : (0 : Int) + (i : Int) = (i : Int) := Int.zero_add _
    rw [ez]
    have q : (List.range n.toNat)[i]? = some i := by rw [List.getElem?_range hi]
    have hz : ((((List.range n.toNat).take i).filter f).map v).length < 100000 := by
      rw [List.length_map]
      have h1 := List.length_filter_le f ((List.range n.toNat).take i)
      rw [List.length_take] at h1
      omega
    have t := cm_turn (X := X) (ρ0 := ρ0) (elt := elt) (ifs := ifs) (scope := scope) (own := own) (j := j) (u := .int (i : Int)) (b := f i) (d := .int (i : Int)) (y := v i) p nD f0 fD hj (.int _) hz (fun s H C cl fp => ht s H C cl fp i (by omega)) (fun hb s H C cl fp => he s H C cl fp i (by omega) hb)
    refine ⟨t.1, fun s H0 C cl fp pins s' I => ?_⟩
    rw [take_filter f v q]
    exact t.2 s H0 C cl fp pins s' I
  · rw [List.take_of_length_le (by rw [List.length_range]; exact Nat.le_refl _)] at p
    obtain ⟨G', e2, S2, v2⟩ := cm_end S1 hD p
    exact k _ G' H' (e1.trans e2) S2 v2
end
def ixD : D → D → Option D
  | .lst ds, .int i => atI ds i
  | .tup ds, .int i => atI ds i
  | .scr ns, .int i => (atI ns i).map .int
  | _, _ => none
def lenD : D → Option Int
  | .lst ds => some ds.length
  | .tup ds => some ds.length
  | .scr ns => some ns.length
  | _ => none
section
variable {X : Cx} {e a b c : Expr} {es : List Expr} {ρ ρ1 ρ2 ρ3 : List Sl} {r o : Sl} {d d1 d2 : D} {ds xs ys : List D} {x : Str} {pos p : Pos} {i j : Int} {E : En} {s1 s2 : List Stmt} {k : Bool}
theorem pd_ixG (ha : PD X a ρ ρ1 (.fz d1)) (hb : PD X b ρ1 ρ2 (.fz d2)) (h : ixD d1 d2 = some d) (hs : PlainIx b := by intro _ _; rfl) : PD X (.Subscript a b pos) ρ ρ2 (.fz d) := by
  unfold ixD at h
  split at h
  · exact pd_ixL ha hb h hs
  · exact pd_ixT ha hb h hs
  · rename_i ns i
    cases q : atI ns i with
    | none => rw [q] at h; cases h
    | some n => rw [q] at h; cases h; exact pd_ixS ha hb q hs
  · cases h
theorem pd_lenG {n : Int} (ha : PD X a ρ ρ1 (.fz d)) (hm : X.mg "len" = none) (hg : Gl X "len") (h : lenD d = some n) (he : starEach [a] X.env = (false, eval a X.env) :: starEach [] X.env := by rfl) (hpl : (backTo pos (starEach [] X.env)).any (·.1) = false := by rfl) :
    PD X (.Call (.Name "len" p) [a] [] pos) ρ ρ1 (.fz (.int n)) := by
  unfold lenD at h
  split at h
  · cases h; exact pd_lenL ha hm hg he hpl
  · cases h; exact pd_lenT ha hm hg he hpl
  · cases h; exact pd_lenS ha hm hg he hpl
  · cases h
theorem ixD_map {α : Type} {enc : α → D} {ws : List α} {k : Nat} {w : α} (h : ws[k]? = some w) : ixD (.lst (ws.map enc)) (.int (k : Int)) = some (enc w) := by
  show atI (ws.map enc) (k : Int) = _
  refine atI_nat ?_
  rw [List.getElem?_map, h]
  rfl
theorem ixD_mapI {α : Type} {enc : α → D} {ws : List α} {z : Int} {k : Nat} {w : α} (e : z = (k : Int)) (h : ws[k]? = some w) : ixD (.lst (ws.map enc)) (.int z) = some (enc w) := by
  rw [e]; exact ixD_map h
theorem lenD_map {α : Type} {enc : α → D} {ws : List α} : lenD (.lst (ws.map enc)) = some (ws.length : Int) := by
  show some (((ws.map enc).length : Nat) : Int) = _
  rw [List.length_map]
/-- what an operator gives -/
inductive BinR : Operator → D → D → Sl → Prop
  | add {i j : Int} : BinR .Add (.int i) (.int j) (.fz (.int (i + j)))
  | sub {i j : Int} : BinR .Sub (.int i) (.int j) (.fz (.int (i - j)))
  | mul {i j : Int} (h : CMul i j) : BinR .Mult (.int i) (.int j) (.fz (.int (i * j)))
  | mod {i j : Int} (h : 0 < j) : BinR .Mod (.int i) (.int j) (.fz (.int (i % j)))
  | div {i j : Int} (h : 0 < j ∧ j < 1073741824) : BinR .FloorDiv (.int i) (.int j) (.fz (.int (i / j)))
  | pow {i j : Int} (h : CPow i j) : BinR .Pow (.int i) (.int j) (.fz (.int (i ^ j.toNat)))
  | cat {xs ys : List D} (h : xs.length + ys.length ≤ 100000) : BinR .Add (.lst xs) (.lst ys) (.ow (xs ++ ys))
  | rep {xs : List D} {i : Int} (h : xs.length * i.toNat ≤ 100000) (h0 : -100000 ≤ i) (h1 : i ≤ 100000) : BinR .Mult (.lst xs) (.int i) (.ow (List.replicate i.toNat xs).flatten)
theorem pd_bin {op : Operator} (ha : PD X a ρ ρ1 (.fz d1)) (hb : PD X b ρ1 ρ2 (.fz d2)) (h : BinR op d1 d2 r) : PD X (.BinOp a op b pos) ρ ρ2 r := by
  cases h with
  | add => exact pd_add ha hb
  | sub => exact pd_sub ha hb
  | mul h => exact pd_mul ha hb h
  | mod h => exact pd_mod ha hb h
  | div h => exact pd_div ha hb h
  | pow h => exact pd_pow ha hb h
  | cat h => exact pd_cat ha hb h
  | rep h h0 h1 => exact pd_rep ha hb h h0 h1
/-- what a comparison gives -/
inductive CmpR : CmpOp → D → D → Bool → Prop
  | lt {i j : Int} : CmpR .Lt (.int i) (.int j) (decide (i < j))
  | le {i j : Int} : CmpR .LtE (.int i) (.int j) (decide (i ≤ j))
  | gt {i j : Int} : CmpR .Gt (.int i) (.int j) (decide (j < i))
  | ge {i j : Int} : CmpR .GtE (.int i) (.int j) (decide (j ≤ i))
  | eqI {i j : Int} : CmpR .Eq (.int i) (.int j) (decide (i = j))
  | neI {i j : Int} : CmpR .NotEq (.int i) (.int j) (!decide (i = j))
  | eqS {s t : Str} : CmpR .Eq (.str s) (.str t) (s == t)
  | neS {s t : Str} : CmpR .NotEq (.str s) (.str t) (!(s == t))
  | eqB {s t : Bool} : CmpR .Eq (.bl s) (.bl t) (s == t)
  | neB {s t : Bool} : CmpR .NotEq (.bl s) (.bl t) (!(s == t))
  | isN {d : D} : CmpR .Is d .non (isNon d)
  | notN {d : D} : CmpR .IsNot d .non (!isNon d)
  | inL {d : D} {ds : List D} (h1 : flatD d = true) (h2 : ds.all flatD = true) : CmpR .In d (.lst ds) (inD d ds)
  | inT {d : D} {ds : List D} (h1 : flatD d = true) (h2 : ds.all flatD = true) : CmpR .In d (.tup ds) (inD d ds)
  | notInL {d : D} {ds : List D} (h1 : flatD d = true) (h2 : ds.all flatD = true) : CmpR .NotIn d (.lst ds) (!inD d ds)
theorem rd_isN {K : PySem.W.Frag} : RD K (fun x y H Q => y = .non ∧ Q (.bl (decide (x = .non))) H) d .non (.fz (.bl (isNon d))) := fun B σ ρ G H x y Q S hx hy k => by
  cases hy
  refine ⟨rfl, ?_⟩
  rw [hx.isNon]
  exact ok0 S k (.bl _)
theorem rd_notN {K : PySem.W.Frag} : RD K (fun x y H Q => y = .non ∧ Q (.bl (!decide (x = .non))) H) d .non (.fz (.bl (!isNon d))) := fun B σ ρ G H x y Q S hx hy k => by
  cases hy
  refine ⟨rfl, ?_⟩
  rw [hx.isNon]
  exact ok0 S k (.bl _)
theorem pd_cmpG {op : CmpOp} (ha : PD X a ρ ρ1 (.fz d1)) (hb : PD X b ρ1 ρ2 (.fz d2)) (h : CmpR op d1 d2 k) (hm : behindInMarks op b = false := by first | exact nomark _ | rfl) : PD X (.Compare a [op] [b] pos) ρ ρ2 (.fz (.bl k)) := by
  cases h with
  | lt => exact pd_lt ha hb
  | le => exact pd_le ha hb
  | gt => exact pd_gt ha hb
  | ge => exact pd_ge ha hb
  | eqI => exact pd_eqI ha hb
  | neI => exact pd_neI ha hb
  | eqS => exact pd_eqS ha hb
  | neS => exact pd_neS ha hb
  | eqB => exact pd_eqB ha hb
  | neB => exact pd_cmp op_ne ha hb rd_neB
  | isN => exact pd_cmp op_isN ha hb rd_isN
  | notN => exact pd_cmp op_notN ha hb rd_notN
  | inL h1 h2 => exact pd_cmp op_in_seq ha hb (rd_inL h1 h2) hm
  | inT h1 h2 => exact pd_cmp op_in_seq ha hb (rd_inT h1 h2) hm
  | notInL h1 h2 => exact pd_cmp op_notIn_seq ha hb (rd_inL h1 h2) hm
theorem ptd_cmpG {op : CmpOp} (ha : PD X a ρ ρ1 (.fz d1)) (hb : PD X b ρ1 ρ2 (.fz d2)) (h : CmpR op d1 d2 k) (hm : behindInMarks op b = false := by first | exact nomark _ | rfl) : PTD X (.Compare a [op] [b] pos) ρ ρ2 k := by
  cases h with
  | lt => exact ptd_lt ha hb
  | le => exact ptd_le ha hb
  | gt => exact ptd_gt ha hb
  | ge => exact ptd_ge ha hb
  | eqI => exact ptd_eqI ha hb
  | neI => exact ptd_neI ha hb
  | eqS => exact ptd_eqS ha hb
  | neS => exact ptd_neS ha hb
  | eqB => exact ptd_cmp op_eq ha hb rd_eqB
  | neB => exact ptd_neB ha hb
  | isN => exact ptd_cmp op_isN ha hb rd_isN
  | notN => exact ptd_cmp op_notN ha hb rd_notN
  | inL h1 h2 => exact ptd_cmp op_in_seq ha hb (rd_inL h1 h2) hm
  | inT h1 h2 => exact ptd_cmp op_in_seq ha hb (rd_inT h1 h2) hm
  | notInL h1 h2 => exact ptd_cmp op_notIn_seq ha hb (rd_inL h1 h2) hm
theorem pd_slTo {q : Pos} (ha : PD X a ρ ρ1 (.fz (.lst xs))) (hb : PD X b ρ1 ρ2 (.fz (.int i))) {n : Nat} (h : i = (n : Int)) : PD X (.Subscript a (.Slice none (some b) none q) pos) ρ ρ2 (.ow (xs.take n)) := by
  have z := pd_cutTo (q := q) (pos := pos) ha hb
  rw [h, cutD_to] at z
  exact z
theorem pd_slFrom {q : Pos} (ha : PD X a ρ ρ1 (.fz (.lst xs))) (hb : PD X b ρ1 ρ2 (.fz (.int i))) {n : Nat} (h : i = (n : Int)) : PD X (.Subscript a (.Slice (some b) none none q) pos) ρ ρ2 (.ow (xs.drop n)) := by
  have z := pd_cutFrom (q := q) (pos := pos) ha hb
  rw [h, cutD_from] at z
  exact z
theorem ps1_ifT (hc : PTD X c ρ ρ1 true) (h1 : PSD X s1 ρ1 E) : PS1 X (.If c s1 s2 pos) ρ E := ps1_if hc (fun _ => h1) (fun h => nomatch h)
theorem ps1_ifF (hc : PTD X c ρ ρ1 false) (h1 : PSD X s2 ρ1 E) : PS1 X (.If c s1 s2 pos) ρ E := ps1_if hc (fun h => nomatch h) (fun _ => h1)
/-- with the answer's own words -/
theorem ps1_if2 {P : Prop} {inst : Decidable P} (hc : PTD X c ρ ρ1 (decide P)) (h1 : P → PSD X s1 ρ1 E) (h2 : ¬ P → PSD X s2 ρ1 E) : PS1 X (.If c s1 s2 pos) ρ E :=
  ps1_if hc (fun h => h1 (of_decide_eq_true h)) (fun h => h2 (of_decide_eq_false h))
theorem ps1_imp {st : Stmt} {E' : En} (h : PS1 X st ρ E) (h1 : ∀ ρ, E.nx ρ → E'.nx ρ) (h2 : ∀ r, E.rt r → E'.rt r) (h3 : ∀ ρ, E.bk ρ → E'.bk ρ) (h4 : ∀ ρ, E.ct ρ → E'.ct ρ) (h5 : ∀ ρ, E.rp ρ → E'.rp ρ) : PS1 X st ρ E' := .mk fun B σ G H M S k =>
  h B σ G H M S ⟨fun a b c d x y z => k.nx a b c d x y (h1 _ z), fun a b c d f g x y z u w => k.rt a b c d f g x y z (h5 _ u) (h2 _ w), fun a b c d x y z => k.bk a b c d x y (h3 _ z), fun a b c d x y z => k.ct a b c d x y (h4 _ z)⟩
theorem ps1_cut {st : Stmt} (M : List Sl → Prop) (h : PS1 X st ρ { E with nx := M }) (k : ∀ ρ', M ρ' → E.nx ρ') : PS1 X st ρ E := ps1_imp h k (fun _ z => z) (fun _ z => z) (fun _ z => z) (fun _ z => z)
/-- slots are forgotten ahead of a piece of code -/
def leR : List Sl → List Sl → Prop
  | [], [] => True
  | a :: as, b :: bs => (b = .no ∨ b = a) ∧ leR as bs
  | _, _ => False
theorem leR_len : ∀ {as bs : List Sl}, leR as bs → bs.length = as.length
  | [], [], _ => rfl
  | _ :: _, _ :: _, h => by rw [List.length_cons, List.length_cons, leR_len h.2]
  | [], _ :: _, h => h.elim
  | _ :: _, [], h => h.elim
theorem leR_get : ∀ {as bs : List Sl} {i : Nat} {r : Sl}, leR as bs → bs[i]? = some r → r = .no ∨ as[i]? = some r
  | [], [], _, _, _, h => nomatch h
  | a :: as, b :: bs, 0, r, h, q => by
    cases q
    rcases h.1 with z | z
    · exact .inl z
    · right; rw [z]; rfl
  | a :: as, b :: bs, i + 1, r, h, q => leR_get (i := i) h.2 q
  | [], _ :: _, _, _, h, _ => h.elim
  | _ :: _, [], _, _, h, _ => h.elim
theorem psd_weak {sts : List Stmt} (h : PSD X sts ρ1 E) (l : leR ρ ρ1) : PSD X sts ρ E := .mk fun B σ G H M S k =>
  h B σ G H M (S.weak (leR_len l) fun i r q => leR_get l q) k

inductive At : List Str → Nat → Str → Prop
  | z {x : Str} {xs : List Str} : At (x :: xs) 0 x
  | s {x y : Str} {xs : List Str} {i : Nat} : At xs i x → At (y :: xs) (i + 1) x
theorem At.get : ∀ {N : List Str} {i : Nat} {x : Str}, At N i x → N[i]? = some x
  | _, _, _, .z => rfl
  | _, _, _, .s h => h.get
theorem pd_at {N : List Str} {i : Nat} (hX : X.N = N) (hA : At N i x) (h : ρ[i]? = some (.fz d)) (hv : Vis X.env.scope x) (hd : (x == ("__debug__" : Str)) = false := by decide) (hcd : (x == ("__classdict__" : Str)) = false := by decide) : PD X (.Name x pos) ρ ρ (.fz d) :=
  pd_name i h (by rw [hX]; exact hA.get) hv hd hcd
theorem pd_atM {N : List Str} {i : Nat} (hX : X.N = N) (hA : At N i x) (h : ρ[i]? = some (.ow ds)) (hv : Vis X.env.scope x) (hd : (x == ("__debug__" : Str)) = false := by decide) (hcd : (x == ("__classdict__" : Str)) = false := by decide) : PD X (.Name x pos) ρ (ρ.set i .no) (.ow ds) :=
  pd_nameM i h (by rw [hX]; exact hA.get) hv hd hcd
theorem pd_atF {N : List Str} {i : Nat} (hX : X.N = N) (hA : At N i x) (h : ρ[i]? = some (.ow ds)) (hv : Vis X.env.scope x) (hd : (x == ("__debug__" : Str)) = false := by decide) (hcd : (x == ("__classdict__" : Str)) = false := by decide) : PD X (.Name x pos) ρ (ρ.set i (.fz (.lst ds))) (.fz (.lst ds)) :=
  pd_nameF i h (by rw [hX]; exact hA.get) hv hd hcd
theorem ps1_let {N : List Str} {i : Nat} (hX : X.N = N) (hA : At N i x) (he : PD X e ρ ρ1 r) (h : E.nx (ρ1.set i r)) (hN : N.Nodup) (hx : Loc X.env.scope x) (hf : X.fn x = true ∨ X.env.scope.names.lookup x = some .local := by first | exact .inl rfl | exact .inr rfl)
    (hs : swapsWithSole [.Name x p] e pos.line X.env = pure false := by rfl) (hw : swappedStores [.Name x p] e X.env = pure none := by rfl)
    (h1 : (assignEach [.Name x p] X.env).map (·.2) = [assign (.Name x p) X.env] := by rfl) : PS1 X (.Assign [.Name x p] e pos) ρ E :=
  ps1_asg i he h (by rw [hX]; exact hN) (by rw [hX]; exact hA.get) hx hf hs hw h1
end
theorem CxN_N {P : Program} {w : World} {K : PySem.W.Frag} {mg : Str → Option Value} {base : Heap} {N : List Str} {x : Str} {st : Stmt} {f : Addr} {cd : Value} {A : Around} {outer : List Env} {s : Shared} {H : Hp} {E : XK} : (CxN P w K mg base N x st f cd A outer s H E).N = N := rfl
theorem Blk_N {X : Cx} {N : List Str} {scope : Scope} {s : Shared} {H : Hp} {C : Addr} {cl : List (Str × Addr)} {fp : List Addr} (h : X.N = N) : (Blk X scope s H C cl fp).N = N := h
def getI (kvs : List (Int × Int)) (k : Int) : Option Int := (kvs.find? fun kv => decide (kv.1 = k)).map (·.2)
def putI (kvs : List (Int × Int)) (k v : Int) : List (Int × Int) :=
  if (kvs.any fun kv => decide (kv.1 = k)) = true then kvs.map (fun kv => if kv.1 = k then (kv.1, v) else kv) else kvs ++ [(k, v)]
theorem inl_eq (a b : Int) : decide ((Sum.inl a : Key) = Sum.inl b) = decide (a = b) := by
  by_cases h : a = b
  · subst h; simp
  · rw [decide_eq_false h, decide_eq_false (fun e => h (Sum.inl.inj e))]
theorem valV_enc (kvs : List (Int × Int)) (k : Int) : valV (encK kvs) (Sum.inl k) = (getI kvs k).map V.int := by
  unfold valV encK getI
  induction kvs with
  | nil => rfl
  | cons p r ih =>
    rw [List.map_cons, List.find?_cons, List.find?_cons]
    show (match decide ((Sum.inl p.1 : Key) = Sum.inl k) with | true => _ | false => _ : Option (Key × V)).map _ = _
    rw [inl_eq]
    cases decide (p.1 = k) with
    | true => rfl
    | false => exact ih
theorem putK_enc (kvs : List (Int × Int)) (k v : Int) : putK (encK kvs) (Sum.inl k) (V.int v) = encK (putI kvs k v) := by
  unfold putK putI encK
  have h1 : ((kvs.map fun p => ((Sum.inl p.1 : Key), V.int p.2)).any fun kv => decide (kv.1 = Sum.inl k)) = kvs.any fun kv => decide (kv.1 = k) := by
    rw [List.any_map]
    congr 1
    funext p
    exact inl_eq p.1 k
  rw [h1]
  split
  · rw [List.map_map, List.map_map]
    congr 1
    funext p
    show (if (Sum.inl p.1 : Key) = Sum.inl k then ((Sum.inl p.1 : Key), V.int v) else (Sum.inl p.1, V.int p.2)) = _
    by_cases h : p.1 = k
    · have h' : (Sum.inl p.1 : Key) = Sum.inl k := by rw [h]
      rw [if_pos h']
      show _ = (Sum.inl (if p.1 = k then (p.1, v) else p).1, V.int (if p.1 = k then (p.1, v) else p).2)
      rw [if_pos h]
    · have h' : ¬ (Sum.inl p.1 : Key) = Sum.inl k := fun e => h (Sum.inl.inj e)
      rw [if_neg h']
      show _ = (Sum.inl (if p.1 = k then (p.1, v) else p).1, V.int (if p.1 = k then (p.1, v) else p).2)
      rw [if_neg h]
  · rw [List.map_append]; rfl
def optI : Option Int → D
  | none => .non
  | some n => .int n
section
variable {X : Cx} {e a b c : Expr} {es : List Expr} {ρ ρ1 ρ2 ρ3 : List Sl} {r o : Sl} {d d1 d2 : D} {ds xs ys : List D} {x : Str} {pos p q : Pos} {i j : Int} {E : En} {kvs : List (Int × Int)}
theorem pd_dict0 : PD X (.Dict [] [] pos) ρ ρ (.od []) := .mk fun B σ G H Q S k => wpE_of pe_dnewK fun l hl =>
  k _ G _ (Evl.Ex.refl G) (S.alloc hl) ⟨(fun z => nomatch z), ⟨l, rfl, ex_none S.e3 hl, ex_none S.e2 hl, upd_same⟩, fun _ q' e' i oi => by cases e'; exact S.notOwn hl i oi⟩
/-- d.get(k) -/
theorem pd_get {apos cpos : Pos} {k : Nat} (hr : Room k X.A) (ha : PD X a ρ ρ1 (.fz (.dic kvs))) (hb : PD X b ρ1 ρ2 (.fz (.int i))) (m : M1 X a "get" apos b cpos) : PD X (.Call (.Attribute a "get" apos) [b] [] cpos) ρ ρ2 (.fz (optI (getI kvs i))) := .mk fun B σ G H Q S k =>
  wpE_of (pe_dget1 (by have := hr.units; omega) canE canE m) (ha B σ G H _ S fun v G1 H1 e1 S1 r1 => by
    have z := r1.rep
    cases z with
    | dic h1 =>
      refine ⟨_, rfl, .inl ⟨_, .inl (S1.e3 _ _ h1)⟩, ?_⟩
      refine hb B σ G1 H1 _ S1 fun w G2 H2 e2 S2 r2 => ?_
      have y := r2.rep
      cases y
      refine ⟨_, DGet.k (k := Sum.inl i) (S2.e3 _ _ (e2 _ _ h1)), ?_⟩
      rw [valV_enc]
      refine k _ G2 H2 (e1.trans e2) S2 (.of ?_)
      cases getI kvs i with
      | none => exact .non
      | some n => exact .int n)
/-- d[k] -/
theorem pd_dix {k : Nat} {n : Int} (hr : Room k X.A) (ha : PD X a ρ ρ1 (.fz (.dic kvs))) (hb : PD X b ρ1 ρ2 (.fz (.int i))) (hs : NoSl b) (h : getI kvs i = some n) : PD X (.Subscript a b pos) ρ ρ2 (.fz (.int n)) := .mk fun B σ G H Q S k =>
  wpE_of (pe_dget (by have := hr.units; omega) canE canE hs) (ha B σ G H _ S fun v G1 H1 e1 S1 r1 => by
    have z := r1.rep
    cases z with
    | dic h1 =>
      refine hb B σ G1 H1 _ S1 fun w G2 H2 e2 S2 r2 => ?_
      have y := r2.rep
      cases y
      refine ⟨_, .int n, rfl, ?_, k _ G2 H2 (e1.trans e2) S2 (.of (.int n))⟩
      have z := DGet.k (k := Sum.inl i) (S2.e3 _ _ (e2 _ _ h1))
      rw [valV_enc, h] at z
      exact z)
/-- d[k] = v, d a dict of one's own -/
theorem ps1_dput {k : Nat} {N : List Str} {l : Nat} {ie : Expr} {n m : Int} (hr : Room k X.A) (hX : X.N = N) (hA : At N l x) (he : PD X e ρ ρ1 (.fz (.int m))) (ho : ρ1[l]? = some (.od kvs)) (hie : PD X ie ρ1 ρ1 (.fz (.int n))) (hz : kvs.length < 100000) (h : E.nx (ρ1.set l (.od (putI kvs n m)))) (hv : Vis X.env.scope x)
    (hd : (x == ("__debug__" : Str)) = false) (hcd : (x == ("__classdict__" : Str)) = false)
    (hs : swapsWith e (some (.Subscript (.Name x p) ie q)) pos.line X.env = pure false) : PS1 X (.Assign [.Subscript (.Name x p) ie q] e pos) ρ E := .mk fun B σ G H M S k => by
  refine wpS_of (ps_dput (by have := hr.units; omega) canE canE canE hs) ?_
  refine he B σ G H _ S fun v G1 H1 e1 S1 r1 => ?_
  obtain ⟨y, g1, l1, eq, g2, g3, g4⟩ := S1.sl l _ ho
  subst eq
  refine wpE_of (pe_var (by rw [hX]; exact hA.get) hv hd hcd) ⟨.ref l1, g1, ?_⟩
  refine hie B σ G1 H1 _ S1 fun w G2 H2 e2 S2 r2 => ?_
  obtain ⟨y', f1, l2, eq', f2, f3, f4⟩ := S2.sl l _ ho
  rw [g1] at f1
  cases f1
  cases eq'
  have z1 := r1.rep
  have z2 := r2.rep
  cases z1; cases z2
  refine ⟨l1, _, rfl, DPut.k (k := Sum.inl n) f4 (by unfold encK; rw [List.length_map]; exact Evl.sz_lt hz), ?_⟩
  rw [putK_enc]
  exact k.nx σ G2 _ _ (e1.trans e2) (S2.writeD ho g1) h

def tyD : D → String
  | .non => "NoneType" | .bl _ => "bool" | .int _ => "int" | .str _ => "str" | .lst _ => "list" | .tup _ => "tuple" | .scr _ => "list" | .dic _ => "dict" | .dicL _ => "dict" | .exc _ => "NoneType" | .raw _ => "NoneType"
def knownD : D → Bool
  | .scr _ => false | .raw _ => false | .dicL _ => false | .exc _ => false | _ => true
theorem Rep.ty {K : PySem.W.Frag} {H : Hp} {v : V} {d : D} (h : Rep K H v d) (k : knownD d = true) : TyX K H v (.type (tyD d)) := by
  cases h with
  | non => exact .base .non
  | bl b => exact .base (.bl b)
  | int b => exact .base (.int b)
  | str b => exact .base (.str b)
  | lst h _ => exact .base (.lst h)
  | tup h _ => exact .base (.tup h)
  | scr h => cases k
  | dic h => exact .base (.dK h)
  | dicL h => cases k
  | exc h q => cases k
  | raw v => cases k
def isIntD : D → Bool
  | .int _ => true | .bl _ => true | _ => false
def isBoolD : D → Bool
  | .bl _ => true | _ => false
def isStrD : D → Bool
  | .str _ => true | _ => false
def isListD : D → Bool
  | .lst _ => true | .scr _ => true | _ => false
def isTupD : D → Bool
  | .tup _ => true | _ => false
def isDictD : D → Bool
  | .dic _ => true | .dicL _ => true | _ => false
theorem kits : (kitB "NoneType" "int" = some false ∧ kitB "bool" "int" = some true ∧ kitB "int" "int" = some true ∧ kitB "str" "int" = some false ∧ kitB "list" "int" = some false ∧ kitB "tuple" "int" = some false ∧ kitB "dict" "int" = some false) ∧
  (kitB "NoneType" "bool" = some false ∧ kitB "bool" "bool" = some true ∧ kitB "int" "bool" = some false ∧ kitB "str" "bool" = some false ∧ kitB "list" "bool" = some false ∧ kitB "tuple" "bool" = some false ∧ kitB "dict" "bool" = some false) ∧
  (kitB "NoneType" "str" = some false ∧ kitB "bool" "str" = some false ∧ kitB "int" "str" = some false ∧ kitB "str" "str" = some true ∧ kitB "list" "str" = some false ∧ kitB "tuple" "str" = some false ∧ kitB "dict" "str" = some false) ∧
  (kitB "NoneType" "list" = some false ∧ kitB "bool" "list" = some false ∧ kitB "int" "list" = some false ∧ kitB "str" "list" = some false ∧ kitB "list" "list" = some true ∧ kitB "tuple" "list" = some false ∧ kitB "dict" "list" = some false) ∧
  (kitB "NoneType" "tuple" = some false ∧ kitB "bool" "tuple" = some false ∧ kitB "int" "tuple" = some false ∧ kitB "str" "tuple" = some false ∧ kitB "list" "tuple" = some false ∧ kitB "tuple" "tuple" = some true ∧ kitB "dict" "tuple" = some false) ∧
  (kitB "NoneType" "dict" = some false ∧ kitB "bool" "dict" = some false ∧ kitB "int" "dict" = some false ∧ kitB "str" "dict" = some false ∧ kitB "list" "dict" = some false ∧ kitB "tuple" "dict" = some false ∧ kitB "dict" "dict" = some true) := by decide +kernel
theorem kit_int (d : D) : kitB (tyD d) "int" = some (isIntD d) := by
  obtain ⟨⟨a1, a2, a3, a4, a5, a6, a7⟩, _⟩ := kits
  cases d <;> assumption
theorem kit_bool (d : D) : kitB (tyD d) "bool" = some (isBoolD d) := by
  obtain ⟨_, ⟨a1, a2, a3, a4, a5, a6, a7⟩, _⟩ := kits
  cases d <;> assumption
theorem kit_str (d : D) : kitB (tyD d) "str" = some (isStrD d) := by
  obtain ⟨_, _, ⟨a1, a2, a3, a4, a5, a6, a7⟩, _⟩ := kits
  cases d <;> assumption
theorem kit_list (d : D) : kitB (tyD d) "list" = some (isListD d) := by
  obtain ⟨_, _, _, ⟨a1, a2, a3, a4, a5, a6, a7⟩, _⟩ := kits
  cases d <;> assumption
theorem kit_tuple (d : D) : kitB (tyD d) "tuple" = some (isTupD d) := by
  obtain ⟨_, _, _, _, ⟨a1, a2, a3, a4, a5, a6, a7⟩, _⟩ := kits
  cases d <;> assumption
theorem kit_dict (d : D) : kitB (tyD d) "dict" = some (isDictD d) := by
  obtain ⟨_, _, _, _, _, ⟨a1, a2, a3, a4, a5, a6, a7⟩⟩ := kits
  cases d <;> assumption
theorem boot_bool : bootBuiltins "bool" = some (.type "bool") := by decide +kernel
theorem boot_str : bootBuiltins "str" = some (.type "str") := by decide +kernel
theorem boot_list : bootBuiltins "list" = some (.type "list") := by decide +kernel
theorem boot_tuple : bootBuiltins "tuple" = some (.type "tuple") := by decide +kernel
theorem boot_dict : bootBuiltins "dict" = some (.type "dict") := by decide +kernel
theorem boot_isinstance : bootBuiltins "isinstance" = some (.builtin "isinstance") := by decide +kernel
theorem pd_isi {T : String} {nm : Str} {k : Bool} (ha : PD X a ρ ρ1 (.fz d)) (hkn : knownD d = true) (hb : bootBuiltins nm = some (.type T)) (hk : kitB (tyD d) T = some k) (hmn : X.mg nm = none) (hgn : Gl X nm) (hm : X.mg "isinstance" = none) (hg : Gl X "isinstance")
    (hnn : nm ≠ "__name__") (hnd : (nm == ("__debug__" : Str)) = false) (he : starEach [a, .Name nm q] X.env = (false, eval a X.env) :: starEach [.Name nm q] X.env) (he2 : starEach [.Name nm q] X.env = (false, eval (.Name nm q) X.env) :: starEach [] X.env)
    (hpl : (backTo pos (starEach [.Name nm q] X.env)).any (·.1) = false) : PD X (.Call (.Name "isinstance" p) [a, .Name nm q] [] pos) ρ ρ1 (.fz (.bl k)) :=
  pd_callB call_isi boot_isinstance hg hm (pad_cons ha (pad_cons (pd_bltn (v := .ty T) hgn hmn hb rfl hnn hnd) pad_nil he2) he) (fun B σ ρ G H xs Q S hx k => by
    cases hx with
    | cons h1 h2 =>
      cases h2 with
      | cons h2 h3 =>
        cases h3; cases h2
        exact ⟨_, _, _, _, _, rfl, .ty T, (h1.mono S.e3).ty hkn, kit_ty hk, ok0 S k (.bl _)⟩) (by decide) (by decide) he hpl
end

section
variable {P : Program} {w : World} {K : PySem.W.Frag} {mg : Str → Option Value} {base : Heap} {N : List Str} {y : Str} {st : Stmt} {fa : Addr} {cd : Value} {A : Around} {outer : List Env} {s : Shared} {H : Hp} {E0 : XK}
  {e a b c : Expr} {es : List Expr} {ρ ρ1 ρ2 ρ3 : List Sl} {r : Sl} {ds : List D} {x : Str} {pos p : Pos} {f : FD} {k : Nat}
theorem pd_callN (G : Ok P w K mg base k x f) (ha : PAD (CxN P w K mg base N y st fa cd A outer s H E0) (e :: es) ρ ρ1 ds) (hf : f ds r) (hr : Room k (CxN P w K mg base N y st fa cd A outer s H E0).A) (hg : Gl (CxN P w K mg base N y st fa cd A outer s H E0) x) (hne : r ≠ .no)
    (hdb : (x == ("__debug__" : Str)) = false) (he : starEach (e :: es) (CxN P w K mg base N y st fa cd A outer s H E0).env = (false, eval e (CxN P w K mg base N y st fa cd A outer s H E0).env) :: starEach es (CxN P w K mg base N y st fa cd A outer s H E0).env)
    (hpl : (backTo pos (starEach es (CxN P w K mg base N y st fa cd A outer s H E0).env)).any (·.1) = false) : PD (CxN P w K mg base N y st fa cd A outer s H E0) (.Call (.Name x p) (e :: es) [] pos) ρ ρ1 r :=
  pd_call G hr hg ha hf hne hdb he hpl
theorem pd_callM {scope : Scope} {s' : Shared} {H' : Hp} {C : Addr} {cl : List (Str × Addr)} {fp : List Addr} (G : Ok P w K mg base k x f) (ha : PAD (Blk (CxN P w K mg base N y st fa cd A outer s H E0) scope s' H' C cl fp) (e :: es) ρ ρ1 ds) (hf : f ds r)
    (hr : Room k (CxN P w K mg base N y st fa cd A outer s H E0).A) (hg : Gl (Blk (CxN P w K mg base N y st fa cd A outer s H E0) scope s' H' C cl fp) x) (hne : r ≠ .no)
    (hdb : (x == ("__debug__" : Str)) = false) (he : starEach (e :: es) (Blk (CxN P w K mg base N y st fa cd A outer s H E0) scope s' H' C cl fp).env = (false, eval e (Blk (CxN P w K mg base N y st fa cd A outer s H E0) scope s' H' C cl fp).env) :: starEach es (Blk (CxN P w K mg base N y st fa cd A outer s H E0) scope s' H' C cl fp).env)
    (hpl : (backTo pos (starEach es (Blk (CxN P w K mg base N y st fa cd A outer s H E0) scope s' H' C cl fp).env)).any (·.1) = false) : PD (Blk (CxN P w K mg base N y st fa cd A outer s H E0) scope s' H' C cl fp) (.Call (.Name x p) (e :: es) [] pos) ρ ρ1 r :=
  pd_call G hr hg ha hf hne hdb he hpl
end

section
variable {X : Cx} {e a b c : Expr} {es : List Expr} {ρ ρ1 ρ2 ρ3 : List Sl} {r : Sl} {d : D} {ds : List D} {x : Str} {pos p : Pos} {E : En} {N : List Str} {j : Nat}
theorem ps1_eachL {body : List Stmt} (hX : X.N = N) (hA : At N j x) (hi : PD X a ρ ρ1 (.fz (.lst ds))) (I : Nat → List Sl → Prop) (h0 : I 0 ρ1)
    (hs : ∀ (i : Nat) (d : D) (ρ' : List Sl), ds[i]? = some d → I i ρ' → PSD X body (ρ'.set j (.fz d)) (E.loop (I (i + 1)))) (hd : ∀ ρ', I ds.length ρ' → E.nx ρ')
    (hp : PassesOwn (model X.prog X.w) X.A X.env X.xe) (hc : X.calm = true) (hN : N.Nodup) (hx : Loc X.env.scope x) (hf : X.fn x = true ∨ X.env.scope.names.lookup x = some .local)
    (hfs : ∀ x, foldedSetIterable a X.env x = pure x) : PS1 X (.For (.Name x p) a body [] pos) ρ E :=
  ps1_forL j I hi h0 hs hd hp hc (by rw [hX]; exact hN) (by rw [hX]; exact hA.get) hx hf hfs
theorem ps1_eachR {body : List Stmt} {n : Int} {rp cp : Pos} (hX : X.N = N) (hA : At N j x) (hi : PD X a ρ ρ1 (.fz (.int n))) (I : Nat → List Sl → Prop) (hn : n ≤ 100000 ∧ -100000 ≤ n) (h0 : I 0 ρ1)
    (hs : ∀ (i : Nat) (ρ' : List Sl), (i : Int) < n → I i ρ' → PSD X body (ρ'.set j (.fz (.int (i : Int)))) (E.loop (I (i + 1)))) (hd : ∀ ρ', I n.toNat ρ' → E.nx ρ') (hg : Gl X "range") (hm : X.mg "range" = none)
    (hp : PassesOwn (model X.prog X.w) X.A X.env X.xe) (hc : X.calm = true) (hN : N.Nodup) (hx : Loc X.env.scope x) (hf : X.fn x = true ∨ X.env.scope.names.lookup x = some .local)
    (hst : starEach [a] X.env = [(false, eval a X.env)])
    (hfs : ∀ x, foldedSetIterable (.Call (.Name "range" rp) [a] [] cp) X.env x = pure x) : PS1 X (.For (.Name x p) (.Call (.Name "range" rp) [a] [] cp) body [] pos) ρ E :=
  ps1_forR j I hi hn.1 hn.2 h0 hs hd hg hm hp hc (by rw [hX]; exact hN) (by rw [hX]; exact hA.get) hx hf hst hfs
theorem ps1_app {ap pos' : Pos} {i : Nat} (hX : X.N = N) (hA : At N i x) (he : PD X e ρ ρ1 (.fz d)) (ho : ρ1[i]? = some (.ow ds)) (h : E.nx (ρ1.set i (.ow (ds ++ [d])))) (hl : ds.length < 100000) (ho0 : ∃ ds0, ρ[i]? = some (.ow ds0)) (hv : Vis X.env.scope x)
    (hd : (x == ("__debug__" : Str)) = false) (hcd : (x == ("__classdict__" : Str)) = false)
    (hps : ∀ (ho : PE X (.Name x p) (wpE X (.Name x p))) (ha : PA X [e] (tCons (wpE X e) tNil)), PE X (.Call (.Attribute (.Name x p) "append" ap) [e] [] pos') (tBM X.K "list" rAppend (wpE X (.Name x p)) (tCons (wpE X e) tNil)))
    (hpa : starEach [e] X.env = (false, eval e X.env) :: starEach [] X.env)
    (hs : swapsWith (.Call (.Attribute (.Name x p) "append" ap) [e] [] pos') none pos.line X.env = pure false) : PS1 X (.Expr (.Call (.Attribute (.Name x p) "append" ap) [e] [] pos') pos) ρ E :=
  ps1_append i he ho h hl ho0 (by rw [hX]; exact hA.get) hv hd hcd hps hpa hs
end

section
variable {X : Cx} {e a b c : Expr} {es : List Expr} {ρ ρ1 ρ2 ρ3 : List Sl} {r : Sl} {d : D} {ds : List D} {x : Str} {pos p : Pos} {E : En} {N : List Str} {j : Nat}
theorem pd_atMD {N : List Str} {i : Nat} {kvs : List (Int × Int)} (hX : X.N = N) (hA : At N i x) (h : ρ[i]? = some (.od kvs)) (hv : Vis X.env.scope x) (hd : (x == ("__debug__" : Str)) = false) (hcd : (x == ("__classdict__" : Str)) = false) :
    PD X (.Name x pos) ρ (ρ.set i .no) (.od kvs) := .mk fun B σ G H Q S k => wpE_of (pe_var (by rw [hX]; exact hA.get) hv hd hcd) (by
  obtain ⟨y, h1, q, eq, h2, h3, h4⟩ := S.sl i _ h
  subst eq
  refine ⟨.ref q, h1, k _ G H (Evl.Ex.refl G) (S.weak (List.length_set ..) fun j r z => ?_) ⟨(fun z => nomatch z), ⟨q, rfl, h2, h3, h4⟩, fun _ q' e' j oj => ?_⟩⟩
  · by_cases ej : j = i
    · subst ej
      rw [List.getElem?_set_self (List.getElem?_eq_some_iff.mp h).1] at z
      cases z
      exact .inl rfl
    · rw [List.getElem?_set_ne (Ne.symm ej)] at z
      exact .inr z
  · cases e'
    obtain ⟨o1, r, o2, o3⟩ := oj
    by_cases ej : j = i
    · subst ej
      rw [List.getElem?_set_self (List.getElem?_eq_some_iff.mp h).1] at o2
      cases o2
      exact o3
    · rw [List.getElem?_set_ne (Ne.symm ej)] at o2
      exact ej (S.ne j i q ⟨o1, r, o2, o3⟩ ⟨h1, _, h, trivial⟩))
theorem pwd_andF (h : PTD X a ρ ρ false) : PWD X (.BoolOp .And (a :: b :: es) pos) ρ ρ false := pwd_and (l := false) h (fun z => nomatch z)
theorem pwd_orT (h : PTD X a ρ ρ true) : PWD X (.BoolOp .Or (a :: b :: es) pos) ρ ρ true := pwd_or (l := false) h (fun z => nomatch z)
theorem pd_andF (h : PD X a ρ ρ (.fz (.bl false))) : PD X (.BoolOp .And (a :: b :: es) pos) ρ ρ (.fz (.bl false)) := pd_and (l := false) h (fun z => nomatch z)
theorem pd_orT (h : PD X a ρ ρ (.fz (.bl true))) : PD X (.BoolOp .Or (a :: b :: es) pos) ρ ρ (.fz (.bl true)) := pd_or (l := false) h (fun z => nomatch z)
theorem ixD_last {ds : List D} {d : D} : ixD (.lst (ds ++ [d])) (.int (-1)) = some d := atI_last ds d
end

section
variable {P : Program} {w : World} {K : PySem.W.Frag} {mg : Str → Option Value} {base : Heap} {N : List Str} {y : Str} {st : Stmt} {fa : Addr} {cd : Value} {A : Around} {outer : List Env} {s : Shared} {H : Hp} {E0 : XK}
  {ρ ρ0 : List Sl} {elt src : Expr} {ifs : List Expr} {scope : Scope} {x : Str} {tp pos : Pos} {j : Nat}
theorem pd_compR {a : Expr} {n : Int} {rp cp : Pos} (f : Nat → Bool) (v : Nat → D) (hA : At N j x) (hsrc : PD (CxN P w K mg base N y st fa cd A outer s H E0) a ρ ρ0 (.fz (.int n))) (hg : Gl (CxN P w K mg base N y st fa cd A outer s H E0) "range") (hm : mg "range" = none)
    (hb : blkC N (defScope st) scope [(x, j)] = true) (hloc : ∀ (s' : Shared) (H' : Hp) (C : Addr) (cl : List (Str × Addr)) (fp : List Addr), Loc (Blk (CxN P w K mg base N y st fa cd A outer s H E0) scope s' H' C cl fp).env.scope x)
    (hf : ∀ (s' : Shared) (H' : Hp) (C : Addr) (cl : List (Str × Addr)) (fp : List Addr), (Blk (CxN P w K mg base N y st fa cd A outer s H E0) scope s' H' C cl fp).fn x = true ∨ (Blk (CxN P w K mg base N y st fa cd A outer s H E0) scope s' H' C cl fp).env.scope.names.lookup x = some .local)
    (hst : starEach [a] (CxN P w K mg base N y st fa cd A outer s H E0).env = [(false, eval a (CxN P w K mg base N y st fa cd A outer s H E0).env)])
    (hs : ∀ x, foldedSetIterable (.Call (.Name "range" rp) [a] [] cp) (CxN P w K mg base N y st fa cd A outer s H E0).env x = pure x) (hN : N.Nodup) (hl : n ≤ 50000 ∧ -50000 ≤ n)
    (ht : ∀ (s' : Shared) (H' : Hp) (C : Addr) (cl : List (Str × Addr)) (fp : List Addr) (i : Nat), (i : Int) < n → TSD (Blk (CxN P w K mg base N y st fa cd A outer s H E0) scope s' H' C cl fp) ifs ((wipeR ρ0 [j]).set j (.fz (.int (i : Int)))) (f i))
    (he : ∀ (s' : Shared) (H' : Hp) (C : Addr) (cl : List (Str × Addr)) (fp : List Addr) (i : Nat), (i : Int) < n → f i = true → PD (Blk (CxN P w K mg base N y st fa cd A outer s H E0) scope s' H' C cl fp) elt ((wipeR ρ0 [j]).set j (.fz (.int (i : Int)))) ((wipeR ρ0 [j]).set j (.fz (.int (i : Int)))) (.fz (v i))) :
    PD (CxN P w K mg base N y st fa cd A outer s H E0) (.ListComp elt [⟨.Name x tp, .Call (.Name "range" rp) [a] [] cp, ifs, 0⟩] scope pos) ρ ρ0 (.ow (((List.range n.toNat).filter f).map v)) :=
  pd_lcR j [(x, j)] f v hsrc hl.1 hl.2 List.mem_cons_self hg hm ht he rfl hN (blkOk_by (N := N) (sc := defScope st) hb) hA.get hloc hf hst hs
theorem pd_compL {α : Type} {xs : List α} (enc : α → D) (f : α → Bool) (v : α → D) (hA : At N j x) (hsrc : PD (CxN P w K mg base N y st fa cd A outer s H E0) src ρ ρ0 (.fz (.lst (xs.map enc))))
    (hb : blkC N (defScope st) scope [(x, j)] = true) (hloc : ∀ (s' : Shared) (H' : Hp) (C : Addr) (cl : List (Str × Addr)) (fp : List Addr), Loc (Blk (CxN P w K mg base N y st fa cd A outer s H E0) scope s' H' C cl fp).env.scope x)
    (hf : ∀ (s' : Shared) (H' : Hp) (C : Addr) (cl : List (Str × Addr)) (fp : List Addr), (Blk (CxN P w K mg base N y st fa cd A outer s H E0) scope s' H' C cl fp).fn x = true ∨ (Blk (CxN P w K mg base N y st fa cd A outer s H E0) scope s' H' C cl fp).env.scope.names.lookup x = some .local)
    (hs : ∀ x, foldedSetIterable src (CxN P w K mg base N y st fa cd A outer s H E0).env x = pure x) (hN : N.Nodup) (hl : xs.length ≤ 50000)
    (ht : ∀ (s' : Shared) (H' : Hp) (C : Addr) (cl : List (Str × Addr)) (fp : List Addr) (i : Nat) (a : α), xs[i]? = some a → TSD (Blk (CxN P w K mg base N y st fa cd A outer s H E0) scope s' H' C cl fp) ifs ((wipeR ρ0 [j]).set j (.fz (enc a))) (f a))
    (he : ∀ (s' : Shared) (H' : Hp) (C : Addr) (cl : List (Str × Addr)) (fp : List Addr) (i : Nat) (a : α), xs[i]? = some a → f a = true → PD (Blk (CxN P w K mg base N y st fa cd A outer s H E0) scope s' H' C cl fp) elt ((wipeR ρ0 [j]).set j (.fz (enc a))) ((wipeR ρ0 [j]).set j (.fz (enc a))) (.fz (v a))) :
    PD (CxN P w K mg base N y st fa cd A outer s H E0) (.ListComp elt [⟨.Name x tp, src, ifs, 0⟩] scope pos) ρ ρ0 (.ow ((xs.filter f).map v)) :=
  pd_lcL j [(x, j)] enc f v hsrc hl List.mem_cons_self ht he rfl hN (blkOk_by (N := N) (sc := defScope st) hb) hA.get hloc hf hs
end
inductive Step where
  | work (n : Int) | hold (t : Int) | free (t : Int)
  deriving DecidableEq
def kindOf : Step → Str
  | .work _ => "work" | .hold _ => "hold" | .free _ => "free"
def numOf : Step → Int
  | .work n => n | .hold n => n | .free n => n
def isWork : Step → Bool
  | .work _ => true | _ => false
def isHold : Step → Bool
  | .hold _ => true | _ => false
def isFree : Step → Bool
  | .free _ => true | _ => false
theorem kWork (s : Step) : (kindOf s == ("work" : Str)) = isWork s := by
  cases s with
  | work n => exact (by decide +kernel : (("work" : Str) == ("work" : Str)) = true)
  | hold n => exact (by decide +kernel : (("hold" : Str) == ("work" : Str)) = false)
  | free n => exact (by decide +kernel : (("free" : Str) == ("work" : Str)) = false)
theorem kHold (s : Step) : (kindOf s == ("hold" : Str)) = isHold s := by
  cases s with
  | work n => exact (by decide +kernel : (("work" : Str) == ("hold" : Str)) = false)
  | hold n => exact (by decide +kernel : (("hold" : Str) == ("hold" : Str)) = true)
  | free n => exact (by decide +kernel : (("free" : Str) == ("hold" : Str)) = false)
theorem kFree (s : Step) : (kindOf s == ("free" : Str)) = isFree s := by
  cases s with
  | work n => exact (by decide +kernel : (("work" : Str) == ("free" : Str)) = false)
  | hold n => exact (by decide +kernel : (("hold" : Str) == ("free" : Str)) = false)
  | free n => exact (by decide +kernel : (("free" : Str) == ("free" : Str)) = true)
abbrev Plan := List Step
def encStep (s : Step) : D := .tup [.str (kindOf s), .int (numOf s)]
def encInts (ns : List Int) : D := .lst (ns.map .int)
def encPlan (p : Plan) : D := .lst (p.map encStep)
structure Worker where
  rank : Int
  start : Int
  plan : Plan
structure Spot where
  place : Nat
  gone : Int
  deriving DecidableEq
structure Shop where
  ws : List Worker
  now : Int
  sp : List Spot
def encW (w : Worker) : D := .tup [.int w.rank, .int w.start, encPlan w.plan]
def encS (s : Spot) : D := .tup [.int (s.place : Int), .int s.gone]
def encShop (s : Shop) : D := .tup [.lst (s.ws.map encW), .int s.now, .lst (s.sp.map encS)]
def encOpt : Option Nat → D
  | none => .non
  | some k => .int (k : Int)

def toolsBehind (ts : List Int) : Step → List Int
  | .work _ => ts
  | .hold t => ts ++ [t]
  | .free t => ts.filter fun x => !decide (x = t)
def toolsAt (p : Plan) (n : Nat) : List Int := (p.take n).foldl toolsBehind []
theorem toolsBehind_len (ts : List Int) (s : Step) : (toolsBehind ts s).length ≤ ts.length + 1 := by
  cases s with
  | work n => exact Nat.le_succ _
  | hold t => unfold toolsBehind; rw [List.length_append]; exact Nat.le_refl _
  | free t => exact Nat.le_succ_of_le (List.length_filter_le _ _)
theorem toolsFold_len (ts : List Int) (p : Plan) : (p.foldl toolsBehind ts).length ≤ ts.length + p.length := by
  induction p generalizing ts with
  | nil => exact Nat.le_refl _
  | cons s p ih =>
    have h1 := ih (toolsBehind ts s)
    have h2 := toolsBehind_len ts s
    rw [List.foldl_cons, List.length_cons]
    omega
theorem toolsAt_len (p : Plan) (n : Nat) : (toolsAt p n).length ≤ n := by
  have h := toolsFold_len [] (p.take n)
  unfold toolsAt
  rw [List.length_take, List.length_nil] at h
  omega
theorem toolsAt_succ {p : Plan} {n : Nat} {s : Step} (h : p[n]? = some s) : toolsAt p (n + 1) = toolsBehind (toolsAt p n) s := by
  unfold toolsAt
  rw [List.take_add_one, h, List.foldl_append]
  rfl

def there (s : Shop) (k : Nat) : Bool :=
  match s.ws[k]?, s.sp[k]? with
  | some w, some p => decide (w.start ≤ s.now) && decide (p.place < w.plan.length)
  | _, _ => false
def thereL (s : Shop) : List Nat := (List.range s.ws.length).filter (there s)
def stepAt (s : Shop) (k : Nat) : Option Step := (s.ws[k]?).bind fun w => (s.sp[k]?).bind fun p => w.plan[p.place]?
def encStepO : Option Step → D
  | none => .non
  | some st => encStep st
def toolsOf (s : Shop) (k : Nat) : List Int :=
  match s.ws[k]?, s.sp[k]? with
  | some w, some p => toolsAt w.plan p.place
  | _, _ => []
/-- who holds each tool, as the dict has it -/
def heldN (s : Shop) : Nat → List (Int × Int)
  | 0 => []
  | k + 1 => (toolsOf s k).foldl (fun d t => putI d t (k : Int)) (heldN s k)
def held (s : Shop) : List (Int × Int) := heldN s s.ws.length
def waitFor (s : Shop) (k : Nat) : Option Int :=
  if there s k then match stepAt s k with
    | some (.hold t) => getI (held s) t
    | _ => none
  else none
def after (s : Shop) : List (Option Int) := (List.range s.ws.length).map (waitFor s)
def encAfter (as : List (Option Int)) : D := .lst (as.map optI)
/-- sizes -/
structure Siz (s : Shop) : Prop where
  len : s.sp.length = s.ws.length
  many : s.ws.length ≤ 100
  plans : ∀ w ∈ s.ws, w.plan.length ≤ 200
  places : ∀ (k : Nat) (w : Worker) (p : Spot), s.ws[k]? = some w → s.sp[k]? = some p → p.place ≤ w.plan.length
theorem Siz.get {s : Shop} (h : Siz s) {k : Nat} (hk : k < s.ws.length) : ∃ w p, s.ws[k]? = some w ∧ s.sp[k]? = some p ∧ p.place ≤ w.plan.length ∧ w.plan.length ≤ 200 := by
  have h1 : s.ws[k]? = some s.ws[k] := List.getElem?_eq_getElem hk
  have hk2 : k < s.sp.length := by rw [h.len]; exact hk
  have h2 : s.sp[k]? = some s.sp[k] := List.getElem?_eq_getElem hk2
  exact ⟨_, _, h1, h2, h.places k _ _ h1 h2, h.plans _ (List.getElem_mem hk)⟩
theorem putI_len (d : List (Int × Int)) (a b : Int) : (putI d a b).length ≤ d.length + 1 := by
  unfold putI
  split
  · rw [List.length_map]; omega
  · rw [List.length_append]; exact Nat.le_refl _
theorem putF_len (k : Int) : ∀ (ts : List Int) (d : List (Int × Int)), (ts.foldl (fun d t => putI d t k) d).length ≤ d.length + ts.length
  | [], d => Nat.le_refl _
  | t :: ts, d => by
    have h1 := putF_len k ts (putI d t k)
    have h2 := putI_len d t k
    rw [List.foldl_cons, List.length_cons]
    omega

def natD (n : Nat) : D := .int (n : Int)
inductive IsChain (as : List (Option Int)) : Nat → List Nat → Prop
  | stop {k : Nat} (h : as[k]? = some none) : IsChain as k [k]
  | step {k j : Nat} {c : List Nat} (h : as[k]? = some (some (j : Int))) (t : IsChain as j c) : IsChain as k (k :: c)
theorem IsChain.ne {as : List (Option Int)} {k : Nat} {c : List Nat} (h : IsChain as k c) : ∃ r, c = k :: r := by
  cases h
  · exact ⟨_, rfl⟩
  · exact ⟨_, rfl⟩
theorem IsChain.uniq {as : List (Option Int)} {k : Nat} {c d : List Nat} (h : IsChain as k c) (g : IsChain as k d) : c = d := by
  induction h generalizing d with
  | stop h => cases g with
    | stop h2 => rfl
    | step h2 t => rw [h] at h2; cases h2
  | step h t ih => cases g with
    | stop h2 => rw [h] at h2; cases h2
    | step h2 t2 =>
      rw [h] at h2
      injection h2 with h2
      injection h2 with h2
      have h3 := Int.ofNat.inj h2
      subst h3
      rw [ih t2]
theorem there_step {s : Shop} {k : Nat} (h : there s k = true) : ∃ w p st, s.ws[k]? = some w ∧ s.sp[k]? = some p ∧ w.plan[p.place]? = some st ∧ stepAt s k = some st ∧ w.start ≤ s.now ∧ p.place < w.plan.length := by
  unfold there at h
  split at h
  · rename_i w p e1 e2
    rw [Bool.and_eq_true] at h
    have h1 := of_decide_eq_true h.1
    have h2 := of_decide_eq_true h.2
    have e5 := List.getElem?_eq_getElem (l := w.plan) (i := p.place) h2
    refine ⟨w, p, _, e1, e2, e5, ?_, h1, h2⟩
    simp only [stepAt, e1, e2, Option.bind_some, e5]
  · cases h

def ranksOf (s : Shop) (cs : Nat → List Nat) : Nat → List Int
  | 0 => s.ws.map (·.rank)
  | k + 1 => (cs k).foldl (fun (l : List Int) (one : Nat) => l.set one (max (l.getD one 0) ((s.ws.map (·.rank)).getD k 0))) (ranksOf s cs k)
def ranksL (s : Shop) (cs : Nat → List Nat) : List Int := ranksOf s cs s.ws.length
/-- every chain comes to an end -/
structure Ch (s : Shop) (cs : Nat → List Nat) : Prop where
  ch : ∀ k, k < s.ws.length → IsChain (after s) k (cs k)
  small : ∀ k, k < s.ws.length → (cs k).length ≤ 100
def lendersL (s : Shop) (cs : Nat → List Nat) (k : Nat) : List Nat := (List.range s.ws.length).filter fun one => !decide (one = k) && decide (k ∈ cs one)
def chosenF (s : Shop) (rk : List Int) : List Nat → Option Nat → Option Nat
  | [], b => b
  | k :: ks, b => chosenF s rk ks (if waitFor s k = none ∧ (b = none ∨ rk.getD (b.getD 0) 0 < rk.getD k 0) then some k else b)
def chosenL (s : Shop) (cs : Nat → List Nat) : Option Nat := chosenF s (ranksL s cs) (thereL s) none
theorem after_at {s : Shop} {k : Nat} (h : k < s.ws.length) : (after s)[k]? = some (waitFor s k) := by
  unfold after
  rw [List.getElem?_map, List.getElem?_range h]
  rfl
theorem ranksOf_len (s : Shop) (cs : Nat → List Nat) : ∀ k, (ranksOf s cs k).length = s.ws.length
  | 0 => by unfold ranksOf; rw [List.length_map]
  | k + 1 => by
    have ih := ranksOf_len s cs k
    unfold ranksOf
    generalize ranksOf s cs k = l at ih
    induction cs k generalizing l with
    | nil => exact ih
    | cons a r ih2 =>
      rw [List.foldl_cons]
      exact ih2 _ (by rw [List.length_set]; exact ih)

def cellN (ns : List Int) (k : Nat) : Int := ns.getD k 0
def mixNum (c k : Int) : Int := (c * 48271 + k * 7919 + 1) % 1000003
def mixed (c k : Int) : Int := mixNum c k * (mixNum c k + 2 * k + 5) % 999983
theorem mixNum_bd (c k : Int) : 0 ≤ mixNum c k ∧ mixNum c k < 1000003 := ⟨Int.emod_nonneg _ (by decide), Int.emod_lt_of_pos _ (by decide)⟩
theorem mixed_bd (c k : Int) : 0 ≤ mixed c k ∧ mixed c k < 999983 := ⟨Int.emod_nonneg _ (by decide), Int.emod_lt_of_pos _ (by decide)⟩
mutual
def depD : D → Nat
  | .lst xs => depDs xs + 1
  | .tup xs => depDs xs + 1
  | _ => 0
def depDs : List D → Nat
  | [] => 0
  | d :: ds => max (depD d) (depDs ds)
end
theorem depDs_le {ds : List D} {n : Nat} : depDs ds ≤ n ↔ ∀ d ∈ ds, depD d ≤ n := by
  induction ds with
  | nil => unfold depDs; simp
  | cons d ds ih =>
    unfold depDs
    rw [Nat.max_le, ih]
    constructor
    · rintro ⟨h1, h2⟩ e he
      rcases List.mem_cons.mp he with rfl | he
      · exact h1
      · exact h2 e he
    · intro h
      exact ⟨h d List.mem_cons_self, fun e he => h e (List.mem_cons_of_mem _ he)⟩

mutual
def widD : D → Nat
  | .lst xs => max xs.length (widDs xs)
  | .tup xs => max xs.length (widDs xs)
  | _ => 0
def widDs : List D → Nat
  | [] => 0
  | d :: ds => max (widD d) (widDs ds)
end
theorem widDs_le {ds : List D} {n : Nat} : widDs ds ≤ n ↔ ∀ d ∈ ds, widD d ≤ n := by
  induction ds with
  | nil => unfold widDs; simp
  | cons d ds ih =>
    unfold widDs
    rw [Nat.max_le, ih]
    constructor
    · rintro ⟨h1, h2⟩ e he
      rcases List.mem_cons.mp he with rfl | he
      · exact h1
      · exact h2 e he
    · intro h
      exact ⟨h d List.mem_cons_self, fun e he => h e (List.mem_cons_of_mem _ he)⟩
/-- data that may be told alike: plain, not deep, not wide -/
def Fine (n : Nat) (d : D) : Prop := pureD d = true ∧ depD d ≤ n ∧ widD d ≤ 1000
theorem Fine.lst {n : Nat} {ds : List D} (h : ∀ d ∈ ds, Fine n d) (hl : ds.length ≤ 1000) : Fine (n + 1) (.lst ds) := by
  refine ⟨?_, ?_, ?_⟩
  · unfold pureD; rw [pureDs_all, List.all_eq_true]; exact fun d hd => (h d hd).1
  · unfold depD; exact Nat.succ_le_succ (depDs_le.mpr fun d hd => (h d hd).2.1)
  · unfold widD; exact Nat.max_le.mpr ⟨hl, widDs_le.mpr fun d hd => (h d hd).2.2⟩
theorem Fine.tup {n : Nat} {ds : List D} (h : ∀ d ∈ ds, Fine n d) (hl : ds.length ≤ 1000) : Fine (n + 1) (.tup ds) := by
  refine ⟨?_, ?_, ?_⟩
  · unfold pureD; rw [pureDs_all, List.all_eq_true]; exact fun d hd => (h d hd).1
  · unfold depD; exact Nat.succ_le_succ (depDs_le.mpr fun d hd => (h d hd).2.1)
  · unfold widD; exact Nat.max_le.mpr ⟨hl, widDs_le.mpr fun d hd => (h d hd).2.2⟩
theorem Fine.lst_inv {n : Nat} {ds : List D} (h : Fine (n + 1) (.lst ds)) : (∀ d ∈ ds, Fine n d) ∧ ds.length ≤ 1000 := by
  obtain ⟨h1, h2, h3⟩ := h
  unfold pureD at h1; rw [pureDs_all, List.all_eq_true] at h1
  unfold depD at h2
  unfold widD at h3
  have h4 := Nat.max_le.mp h3
  exact ⟨fun d hd => ⟨h1 d hd, depDs_le.mp (Nat.le_of_succ_le_succ h2) d hd, widDs_le.mp h4.2 d hd⟩, h4.1⟩
theorem Fine.tup_inv {n : Nat} {ds : List D} (h : Fine (n + 1) (.tup ds)) : (∀ d ∈ ds, Fine n d) ∧ ds.length ≤ 1000 := by
  obtain ⟨h1, h2, h3⟩ := h
  unfold pureD at h1; rw [pureDs_all, List.all_eq_true] at h1
  unfold depD at h2
  unfold widD at h3
  have h4 := Nat.max_le.mp h3
  exact ⟨fun d hd => ⟨h1 d hd, depDs_le.mp (Nat.le_of_succ_le_succ h2) d hd, widDs_le.mp h4.2 d hd⟩, h4.1⟩
theorem Fine.int (n : Nat) (i : Int) : Fine n (.int i) := ⟨by unfold pureD; rfl, by unfold depD; exact Nat.zero_le _, by unfold widD; exact Nat.zero_le _⟩
theorem Fine.str (n : Nat) (s : Str) (h : PyData.strOk s = true) : Fine n (.str s) := ⟨by unfold pureD; exact h, by unfold depD; exact Nat.zero_le _, by unfold widD; exact Nat.zero_le _⟩
theorem Fine.non (n : Nat) : Fine n .non := ⟨by unfold pureD; rfl, by unfold depD; exact Nat.zero_le _, by unfold widD; exact Nat.zero_le _⟩
theorem Fine.bl (n : Nat) (b : Bool) : Fine n (.bl b) := ⟨by unfold pureD; rfl, by unfold depD; exact Nat.zero_le _, by unfold widD; exact Nat.zero_le _⟩

mutual
theorem lay_of : ∀ d : D, pureD d = true → (toP d).canLay0 = true ∧ (toP d).depth = depD d
  | .non, _ => by simp [toP, depD, PyData.canLay0, PyData.depth]
  | .bl b, _ => by simp [toP, depD, PyData.canLay0, PyData.depth]
  | .int i, _ => by simp [toP, depD, PyData.canLay0, PyData.depth]
  | .str s, h => by unfold pureD at h; simp [toP, depD, PyData.canLay0, PyData.depth, h]
  | .lst xs, h => by
    unfold pureD at h
    obtain ⟨h1, h2⟩ := lays_of xs h
    simp [toP, depD, PyData.canLay0, PyData.depth, h1, h2]
  | .tup xs, h => by
    unfold pureD at h
    obtain ⟨h1, h2⟩ := lays_of xs h
    simp [toP, depD, PyData.canLay0, PyData.depth, h1, h2]
  | .scr _, h => by unfold pureD at h; cases h
  | .dic _, h => by unfold pureD at h; cases h
  | .dicL _, h => by unfold pureD at h; cases h
  | .exc _, h => by unfold pureD at h; cases h
  | .raw _, h => by unfold pureD at h; cases h
theorem lays_of : ∀ ds : List D, pureDs ds = true → PyData.canLayAll0 (toPs ds) = true ∧ PyData.depthAll (toPs ds) = depDs ds
  | [], _ => by simp [toPs, depDs, PyData.canLayAll0, PyData.depthAll]
  | d :: ds, h => by
    unfold pureDs at h
    have h' := Bool.and_eq_true_iff.mp h
    obtain ⟨h1, h2⟩ := lay_of d h'.1
    obtain ⟨h3, h4⟩ := lays_of ds h'.2
    simp [toPs, depDs, PyData.canLayAll0, PyData.depthAll, h1, h2, h3, h4]
end
theorem Fine.shaped {d : D} (h : Fine 60 d) : SeqAt.shaped (toP d) = true := by
  obtain ⟨h1, h2⟩ := lay_of d h.1
  unfold SeqAt.shaped
  rw [h1, h2, decide_eq_true (by have := h.2.1; omega)]
  rfl
theorem Fine.mono {n m : Nat} {d : D} (h : Fine n d) (l : n ≤ m) : Fine m d := ⟨h.1, Nat.le_trans h.2.1 l, h.2.2⟩
theorem eqvAll_nil (xs : List PyData) : PyData.eqvAll xs [] = xs.isEmpty := by
  cases xs with
  | nil => simp [PyData.eqvAll]
  | cons x xs => simp [PyData.eqvAll]
theorem eqD_nil (ds : List D) : eqD (.lst ds) (.lst []) = ds.isEmpty := by
  unfold eqD toP
  simp only [PyData.eqv]
  rw [show toPs [] = [] by unfold toPs; rfl, eqvAll_nil]
  cases ds with
  | nil => unfold toPs; rfl
  | cons d ds => unfold toPs; rfl
mutual
theorem eqD_refl : ∀ d : D, pureD d = true → eqD d d = true
  | .non, _ => by unfold eqD toP; simp only [PyData.eqv]
  | .bl b, _ => by unfold eqD toP; simp only [PyData.eqv]; exact beq_self_eq_true b
  | .int i, _ => by unfold eqD toP; simp only [PyData.eqv]; exact beq_self_eq_true i
  | .str s, _ => by unfold eqD toP; simp only [PyData.eqv]; exact beq_self_eq_true s
  | .lst xs, h => by unfold pureD at h; unfold eqD toP; simp only [PyData.eqv]; exact eqDs_refl xs h
  | .tup xs, h => by unfold pureD at h; unfold eqD toP; simp only [PyData.eqv]; exact eqDs_refl xs h
  | .scr _, h => by unfold pureD at h; cases h
  | .dic _, h => by unfold pureD at h; cases h
  | .dicL _, h => by unfold pureD at h; cases h
  | .exc _, h => by unfold pureD at h; cases h
  | .raw _, h => by unfold pureD at h; cases h
theorem eqDs_refl : ∀ ds : List D, pureDs ds = true → PyData.eqvAll (toPs ds) (toPs ds) = true
  | [], _ => by unfold toPs; simp only [PyData.eqvAll]
  | d :: ds, h => by
    unfold pureDs at h
    have h' := Bool.and_eq_true_iff.mp h
    unfold toPs
    simp only [PyData.eqvAll]
    rw [eqDs_refl ds h'.2, show PyData.eqv (toP d) (toP d) = true from eqD_refl d h'.1]
    rfl
end
theorem Fine.ints (n : Nat) (ns : List Int) (h : ns.length ≤ 1000) : Fine (n + 1) (.lst (ns.map .int)) := Fine.lst (fun d hd => by
  obtain ⟨i, _, rfl⟩ := List.mem_map.mp hd
  exact Fine.int n i) (by rw [List.length_map]; exact h)
theorem Fine.nil (n : Nat) : Fine (n + 1) (.lst []) := Fine.lst (fun _ h => nomatch h) (Nat.zero_le _)
section
variable {P : Program} {w : World} {K : PySem.W.Frag} {mg : Str → Option Value} {base : Heap} {N : List Str} {y : Str} {st : Stmt} {fa : Addr} {cd : Value} {A : Around} {outer : List Env} {s : Shared} {H : Hp} {E0 : XK}
  {e a b c : Expr} {es : List Expr} {ρ ρ1 ρ2 ρ3 : List Sl} {r : Sl} {ds : List D} {x : Str} {pos p : Pos} {k : Nat} {d1 d2 : D}
/-- == and != of data -/
theorem ptd_eqN {X : Cx} (hr : Room k X.A) (ha : PD X a ρ ρ1 (.fz d1)) (hb : PD X b ρ1 ρ2 (.fz d2)) (h1 : Fine 60 d1) (h2 : Fine 60 d2) : PTD X (.Compare a [.Eq] [b] pos) ρ ρ2 (eqD d1 d2) := ptd_eqD hr ha hb h1.1 h2.1 h1.shaped h2.shaped
theorem ptd_neN {X : Cx} (hr : Room k X.A) (ha : PD X a ρ ρ1 (.fz d1)) (hb : PD X b ρ1 ρ2 (.fz d2)) (h1 : Fine 60 d1) (h2 : Fine 60 d2) : PTD X (.Compare a [.NotEq] [b] pos) ρ ρ2 (!eqD d1 d2) := ptd_neD hr ha hb h1.1 h2.1 h1.shaped h2.shaped
theorem pd_eqN {X : Cx} (hr : Room k X.A) (ha : PD X a ρ ρ1 (.fz d1)) (hb : PD X b ρ1 ρ2 (.fz d2)) (h1 : Fine 60 d1) (h2 : Fine 60 d2) : PD X (.Compare a [.Eq] [b] pos) ρ ρ2 (.fz (.bl (eqD d1 d2))) := pd_eqD hr ha hb h1.1 h2.1 h1.shaped h2.shaped
theorem pd_neN {X : Cx} (hr : Room k X.A) (ha : PD X a ρ ρ1 (.fz d1)) (hb : PD X b ρ1 ρ2 (.fz d2)) (h1 : Fine 60 d1) (h2 : Fine 60 d2) : PD X (.Compare a [.NotEq] [b] pos) ρ ρ2 (.fz (.bl (!eqD d1 d2))) := pd_neD hr ha hb h1.1 h2.1 h1.shaped h2.shaped
end

section
variable {X : Cx} {e a b c : Expr} {es : List Expr} {ρ ρ1 ρ2 ρ3 : List Sl} {r : Sl} {d : D} {ds xs : List D} {x : Str} {pos p : Pos} {E : En} {N : List Str} {i j : Int}
/-- an item of a list of one's own, its length -/
theorem pd_ixO {l : Nat} {n : Int} (hX : X.N = N) (hA : At N l x) (h : ρ[l]? = some (.ow ds)) (hb : PD X b ρ ρ (.fz (.int n))) (hi : ixD (.lst ds) (.int n) = some d) (hv : Vis X.env.scope x) (hd : (x == ("__debug__" : Str)) = false) (hcd : (x == ("__classdict__" : Str)) = false) (hs : PlainIx b) :
    PD X (.Subscript (.Name x p) b pos) ρ ρ (.fz d) := .mk fun B σ G H Q S k => wpE_of (pe_ix ix_list canE canE hs) (by
  obtain ⟨q, vs, h1, h2, h3, h4, h5⟩ := S.getO h
  refine wpE_of (pe_var (by rw [hX]; exact hA.get) hv hd hcd) ⟨.ref q, h1, ?_⟩
  refine hb B σ G H _ S fun w G2 H2 e2 S2 r2 => ?_
  obtain ⟨q', vs', g1, g2, g3, g4, g5⟩ := S2.getO h
  rw [h1] at g1
  cases g1
  have y := r2.rep
  cases y
  obtain ⟨v, h6, h7⟩ := g5.at (show atI ds n = some d from hi)
  exact ⟨q, vs', n, v, rfl, rfl, SqL.of g4, h6, k _ G2 H2 e2 S2 (.of h7)⟩)
theorem pd_lenO {l : Nat} {p' : Pos} (hX : X.N = N) (hA : At N l x) (h : ρ[l]? = some (.ow ds)) (hv : Vis X.env.scope x) (hd : (x == ("__debug__" : Str)) = false) (hcd : (x == ("__classdict__" : Str)) = false) (hm : X.mg "len" = none) (hg : Gl X "len")
    (he : starEach [.Name x p] X.env = (false, eval (.Name x p) X.env) :: starEach [] X.env) (hpl : (backTo pos (starEach [] X.env)).any (·.1) = false) : PD X (.Call (.Name "len" p') [.Name x p] [] pos) ρ ρ (.fz (.int (ds.length : Int))) := .mk fun B σ G H Q S k =>
  wpE_of (pe_callB call_len_seq hg hm PySem.boot_len (pa_cons canE pa_nil he) (by decide) (by decide) he hpl) (by
  obtain ⟨q, vs, h1, h2, h3, h4, h5⟩ := S.getO h
  refine wpE_of (pe_var (by rw [hX]; exact hA.get) hv hd hcd) ⟨.ref q, h1, ?_⟩
  refine ⟨q, vs, rfl, .inl (SqL.of h4), ?_⟩
  rw [h5.length]
  exact k _ G H (Evl.Ex.refl G) S (.of (.int _)))
/-- xs.pop(i) of a list of one's own -/
theorem pd_popO {l m : Nat} {ap : Pos} {n : Int} (hX : X.N = N) (hA : At N l x) (h : ρ[l]? = some (.ow ds)) (hb : PD X b ρ ρ (.fz (.int n))) (hn : n = (m : Int)) (hm : ds[m]? = some d) (hm2 : m ≤ 100000) (hv : Vis X.env.scope x) (hd : (x == ("__debug__" : Str)) = false) (hcd : (x == ("__classdict__" : Str)) = false)
    (hps : ∀ (ho : PE X (.Name x p) (wpE X (.Name x p))) (ha : PA X [b] (tCons (wpE X b) tNil)), PE X (.Call (.Attribute (.Name x p) "pop" ap) [b] [] pos) (tBM X.K "list" rPopAt (wpE X (.Name x p)) (tCons (wpE X b) tNil)))
    (hpa : starEach [b] X.env = (false, eval b X.env) :: starEach [] X.env) :
    PD X (.Call (.Attribute (.Name x p) "pop" ap) [b] [] pos) ρ (ρ.set l (.ow (ds.eraseIdx m))) (.fz d) := .mk fun B σ G H Q S k =>
  wpE_of (hps canE (pa_cons canE pa_nil hpa)) (by
  obtain ⟨q, vs, h1, h2, h3, h4, h5⟩ := S.getO h
  refine wpE_of (pe_var (by rw [hX]; exact hA.get) hv hd hcd) ⟨.ref q, h1, ?_⟩
  refine ⟨.inl ⟨rfl, _, .inl (.inl h4)⟩, ?_⟩
  refine hb B σ G H _ S fun w G2 H2 e2 S2 r2 => ?_
  obtain ⟨q', vs', g1, g2, g3, g4, g5⟩ := S2.getO h
  rw [h1] at g1
  cases g1
  have y := r2.rep
  cases y
  subst hn
  obtain ⟨v, h6, h7⟩ := g5.get hm
  have hlt : m < vs'.length := (List.getElem?_eq_some_iff.mp h6).1
  refine ⟨q, vs', (m : Int), m, v, rfl, rfl, g4, by omega, by omega, ?_, h6, ?_⟩
  · have z : ixN vs'.length (m : Int) = some m := by
      unfold ixN
      rw [if_pos (Int.natCast_nonneg m), if_pos (by omega)]
      rfl
    exact (ixN_seq z).1
  · exact k _ G2 _ e2 (S2.write h h1 (g5.eraseIdx m)) (.of h7))
theorem pd_maxDN {k : Nat} {q : Pos} {dd : Expr} {ns : List Int} (hr : Room k X.A) (hc : X.calm = true) (ha : PD X a ρ ρ1 (.fz (.lst (ns.map .int)))) (hd : PD X dd ρ1 ρ2 (.fz (.int i))) (hm : X.mg "max" = none) (hg : Gl X "max")
    (hst : starEach [a] X.env = (false, eval a X.env) :: starEach [] X.env)
    (he : backTo pos (starEach [a] X.env) = (false, eval a X.env) :: backTo pos (starEach [] X.env)) (hpl : (backTo pos (starEach [a] X.env)).any (·.1) = false)
    (hall : (backToKw pos (keywordEach [⟨some "default", dd, q⟩] X.env)).all (·.1.isSome) = true) (hnone : (backToKw pos (keywordEach [⟨some "default", dd, q⟩] X.env)).any (·.1.isNone) = false) (hks : (backToKw pos (keywordEach [⟨some "default", dd, q⟩] X.env)).filterMap (·.1) = [Str.ofString "default"]) :
    PD X (.Call (.Name "max" p) [a] [⟨some "default", dd, q⟩] pos) ρ ρ2 (.fz (.int (maxL ns i))) := pd_maxD hr hc ha hd hm hg hst he hpl hall hnone hks
theorem pd_minN (hc : X.calm = true) (ha : PD X a ρ ρ1 (.fz (.int i))) (hb : PD X b ρ1 ρ2 (.fz (.int j))) (hm : X.mg "min" = none) (hg : Gl X "min") (he : starEach [a, b] X.env = (false, eval a X.env) :: starEach [b] X.env) (he2 : starEach [b] X.env = (false, eval b X.env) :: starEach [] X.env)
    (hpl : (backTo pos (starEach [b] X.env)).any (·.1) = false) : PD X (.Call (.Name "min" p) [a, b] [] pos) ρ ρ2 (.fz (.int (min i j))) := pd_min2 hc ha hb hm hg he he2 hpl
theorem pd_maxN (hc : X.calm = true) (ha : PD X a ρ ρ1 (.fz (.int i))) (hb : PD X b ρ1 ρ2 (.fz (.int j))) (hm : X.mg "max" = none) (hg : Gl X "max") (he : starEach [a, b] X.env = (false, eval a X.env) :: starEach [b] X.env) (he2 : starEach [b] X.env = (false, eval b X.env) :: starEach [] X.env)
    (hpl : (backTo pos (starEach [b] X.env)).any (·.1) = false) : PD X (.Call (.Name "max" p) [a, b] [] pos) ρ ρ2 (.fz (.int (max i j))) := pd_max2 hc ha hb hm hg he he2 hpl
theorem pd_maxLN {ns : List Int} (hc : X.calm = true) (ha : PD X a ρ ρ1 (.fz (.lst (ns.map .int)))) (hn : 0 < ns.length) (hm : X.mg "max" = none) (hg : Gl X "max") (he : starEach [a] X.env = (false, eval a X.env) :: starEach [] X.env)
    (hpl : (backTo pos (starEach [] X.env)).any (·.1) = false) : PD X (.Call (.Name "max" p) [a] [] pos) ρ ρ1 (.fz (.int (maxL ns 0))) := pd_maxL hc ha hn hm hg he hpl
theorem pd_intN {k : Bool} (ha : PD X a ρ ρ1 (.fz (.bl k))) (hm : X.mg "int" = none) (hg : Gl X "int") (he : starEach [a] X.env = (false, eval a X.env) :: starEach [] X.env) (hpl : (backTo pos (starEach [] X.env)).any (·.1) = false) :
    PD X (.Call (.Name "int" p) [a] [] pos) ρ ρ1 (.fz (.int (if k then 1 else 0))) := pd_intB ha hm hg he hpl
theorem pd_listN (ha : PD X a ρ ρ1 (.fz (.lst xs))) (hm : X.mg "list" = none) (hg : Gl X "list") (he : starEach [a] X.env = (false, eval a X.env) :: starEach [] X.env) (hpl : (backTo pos (starEach [] X.env)).any (·.1) = false) :
    PD X (.Call (.Name "list" p) [a] [] pos) ρ ρ1 (.ow xs) := pd_list ha hm hg he hpl
/-- sorted(xs) of ints; xs[::-1] -/
theorem pd_sortedN {ns ms : List Int} (ha : PD X a ρ ρ1 (.fz (.lst (ns.map .int)))) (hl : ns.length < 64) (hu : ∀ ns' : List Int, ns'.Perm ns → ns'.Pairwise (· ≤ ·) → ns' = ms) (hm : X.mg "sorted" = none) (hg : Gl X "sorted") (he : starEach [a] X.env = (false, eval a X.env) :: starEach [] X.env)
    (hpl : (backTo pos (starEach [] X.env)).any (·.1) = false) : PD X (.Call (.Name "sorted" p) [a] [] pos) ρ ρ1 (.ow (ms.map .int)) := pd_callB cr_sorted boot_sorted hg hm (pad_cons ha pad_nil he) (fun B σ ρ G H us Q S hx k => by
  cases hx with
  | cons h1 h2 =>
    cases h2
    cases h1 with
    | lst h1 h2 =>
      have e := h2.ints
      subst e
      refine ⟨_, ns, rfl, SqL.of (S.e3 _ _ h1), hl, fun ns' q g1 g2 hq => ?_⟩
      have e := hu ns' g1 g2
      subst e
      exact okN S k (Reps.of_ints _) q hq) (by decide) (by decide) he hpl
theorem Reps.reverse {K : PySem.W.Frag} {H : Hp} : ∀ {vs : List V} {ds : List D}, Reps K H vs ds → Reps K H vs.reverse ds.reverse
  | _, _, .nil => .nil
  | _, _, .cons r t => by
    rw [List.reverse_cons, List.reverse_cons]
    exact (Reps.reverse t).append (.cons r .nil)
theorem pd_revN {k : Nat} {p1 p2 p3 : Pos} (ha : PD X a ρ ρ1 (.fz (.lst xs))) : PD X (.Subscript a (.Slice none none (some (.UnaryOp .USub (.Constant (.int 1) k p1) p2)) p3) pos) ρ ρ1 (.ow xs.reverse) := .mk fun B σ G H Q S k =>
  wpE_of (pe_revL canE) (ha B σ G H _ S fun v G1 H1 e1 S1 r1 => by
    have z := r1.rep
    cases z with
    | lst h1 h2 => exact ⟨_, _, rfl, SqL.of (S1.e3 _ _ h1), okN S1 (fun v G' H' e' => k v G' H' (e1.trans e')) h2.reverse⟩)
/-- xs.remove(k), ints, k there -/
theorem ps1_rem {l : Nat} {ap pos' : Pos} {n : Int} {ns : List Int} (hX : X.N = N) (hA : At N l x) (he : PD X e ρ ρ1 (.fz (.int n))) (ho : ρ1[l]? = some (.ow (ns.map .int))) (h : E.nx (ρ1.set l (.ow ((ns.erase n).map .int)))) (hn : n ∈ ns) (ho0 : ∃ ds0, ρ[l]? = some (.ow ds0)) (hv : Vis X.env.scope x)
    (hd : (x == ("__debug__" : Str)) = false) (hcd : (x == ("__classdict__" : Str)) = false)
    (hps : ∀ (ho : PE X (.Name x p) (wpE X (.Name x p))) (ha : PA X [e] (tCons (wpE X e) tNil)), PE X (.Call (.Attribute (.Name x p) "remove" ap) [e] [] pos') (tBM X.K "list" rRemI (wpE X (.Name x p)) (tCons (wpE X e) tNil)))
    (hpa : starEach [e] X.env = (false, eval e X.env) :: starEach [] X.env)
    (hs : swapsWith (.Call (.Attribute (.Name x p) "remove" ap) [e] [] pos') none pos.line X.env = pure false) : PS1 X (.Expr (.Call (.Attribute (.Name x p) "remove" ap) [e] [] pos') pos) ρ E := .mk fun B σ G H M S k => by
  refine wpS_of (ps_expr (hps canE (pa_cons canE pa_nil hpa)) hs) ?_
  obtain ⟨ds0, ho0⟩ := ho0
  obtain ⟨q0, vs0, h1, h2, h3, h4, h5⟩ := S.getO ho0
  refine wpE_of (pe_var (by rw [hX]; exact hA.get) hv hd hcd) ⟨.ref q0, h1, ?_⟩
  refine ⟨.inl ⟨rfl, _, .inl (.inl h4)⟩, ?_⟩
  refine he B σ G H _ S fun v G1 H1 e1 S1 r1 => ?_
  obtain ⟨q, vs, g1, g2, g3, g4, g5⟩ := S1.getO ho
  have eq : q0 = q := by rw [h1] at g1; cases g1; rfl
  subst eq
  have z := r1.rep
  cases z
  have e := g5.ints
  subst e
  obtain ⟨j, hj, hj1, hj2, hj3⟩ := first_at hn
  refine ⟨q0, ns, n, j, rfl, rfl, g4, hj1, fun m hm => hj2 m hm, ?_⟩
  rw [hj3]
  exact k.nx σ G1 _ _ e1 (S1.write ho h1 (Reps.of_ints _)) h
end

section
variable {X : Cx} {c : Expr} {ρ ρ2 : List Sl} {E : En} {body : List Stmt} {W : List Sl → Prop} {pos : Pos}
/-- a turn of a while: on, or out -/
def Turn (X : Cx) (c : Expr) (body : List Stmt) (ρ : List Sl) (E : En) (W : List Sl → Prop) : Prop :=
  ∃ k ρ2, PTD X c ρ ρ2 k ∧ (k = true → PSD X body ρ2 (E.loop W)) ∧ (k = false → E.nx ρ2)
theorem turn_yes {k : Bool} (h : PTD X c ρ ρ2 k) (hk : k = true) (hb : PSD X body ρ2 (E.loop W)) : Turn X c body ρ E W := ⟨k, ρ2, h, fun _ => hb, fun z => by rw [hk] at z; cases z⟩
theorem turn_no {k : Bool} (h : PTD X c ρ ρ2 k) (hk : k = false) (hn : E.nx ρ2) : Turn X c body ρ E W := ⟨k, ρ2, h, (fun z => by rw [hk] at z; cases z), fun _ => hn⟩
theorem ps1_loop (I : Nat → List Sl → Prop) (m0 : Nat) (h0 : I m0 ρ) (hs : ∀ (m : Nat) (ρ' : List Sl), I m ρ' → Turn X c body ρ' E (fun ρ3 => ∃ m', m' < m ∧ I m' ρ3)) (hp : PassesOwn (model X.prog X.w) X.A X.env X.xe) : PS1 X (.While c body [] pos) ρ E :=
  ps1_while I m0 h0 (fun m ρ' h => hs m ρ' h) hp
end
/-- without one place -/
def but (H : Hp) (p : Addr) : Hp := fun a => if a = p then none else H a
theorem but_ex (H : Hp) (p : Addr) : Ex (but H p) H := fun a o e => by
  unfold but at e
  split at e
  · cases e
  · exact e
theorem but_none {H : Hp} {p : Addr} : but H p p = none := if_pos rfl
theorem but_ne {H : Hp} {p a : Addr} (h : a ≠ p) : but H p a = H a := if_neg h
/-- a def's promise, where a list that is handed in last is changed: from xs to ys -/
abbrev FM := List D → List D → List D → Sl → Prop
def SpDM (K : PySem.W.Frag) (f : FM) : Sp := fun vs H Q _ => ∃ (G : Hp) (ds xs ys : List D) (r : Sl) (us ws : List V) (p : Addr), vs = us ++ [.ref p] ∧ Ex G H ∧ Reps K G us ds ∧ G p = none ∧ H p = some (.lst ws) ∧ Reps K G ws xs ∧ f ds xs ys r ∧ r ≠ .no ∧
  ∀ v G' H' ws', Ex G G' → Ex (but H p) H' → Ex G' H' → (∀ a o, G' a = some o → G a = none → H a = none) → G' p = none → H' p = some (.lst ws') → Reps K G' ws' ys → SlotR K H G' H' (some v) r → Q v H'
structure OkM (P : Program) (w : World) (K : PySem.W.Frag) (mg : Str → Option Value) (base : Heap) (k : Nat) (x : Str) (f : FM) : Prop where
  ex : ∃ (fa : Addr) (fd : FuncData) (ps : List Str), FnOk P w K mg base (L2.CX P w) k fa fd ps (SpDM K f) ∧ mg x = some (.ref fa) ∧ PySem.W.keepIn K (.ref fa) = true ∧ Binds K fd ps []
theorem OkM.mono {P : Program} {w : World} {K : PySem.W.Frag} {mg : Str → Option Value} {base : Heap} {j k : Nat} {x : Str} {f : FM} (h : OkM P w K mg base j x f) (l : j ≤ k) : OkM P w K mg base k x f := by
  obtain ⟨fa, fd, ps, h1, h2⟩ := h.ex
  exact ⟨fa, fd, ps, h1.mono l, h2⟩
def startM (N : List Str) (ds : List D) (p : Addr) (xs : List D) : List Sl := ds.map .fz ++ .op p xs :: List.replicate (N.length - (ds.length + 1)) .no
theorem sr_startM {K : PySem.W.Frag} {N : List Str} {vs ws : List V} {ds xs : List D} {G H : Hp} {p : Addr} (e : Ex G H) (r : Reps K G vs ds) (gp : G p = none) (hp : H p = some (.lst ws)) (rw' : Reps K G ws xs) : SR K ⟨G, but H p⟩ (start N (vs ++ [.ref p])) G H (startM N ds p xs) where
  e1 := Evl.Ex.refl G
  e2 := but_ex H p
  e3 := e
  nw := fun a o h1 h2 => absurd (h1.symm.trans h2) (fun z => nomatch z)
  len := by
    unfold L2.start startM
    simp only [List.length_append, List.length_map, List.length_replicate, List.length_cons, List.length_nil, r.length]
    omega
  sl := fun i s h => by
    unfold startM at h
    unfold L2.start
    rw [List.map_append, List.append_assoc]
    by_cases hi : i < ds.length
    · rw [List.getElem?_append_left (by rw [List.length_map]; exact hi), List.getElem?_map] at h
      rw [List.getElem?_append_left (by rw [List.length_map, r.length]; exact hi), List.getElem?_map]
      cases q : ds[i]? with
      | none => rw [q] at h; cases h
      | some d =>
        rw [q] at h
        cases h
        obtain ⟨v, h1, h2⟩ := r.get q
        rw [h1]
        exact ⟨_, rfl, v, rfl, h2⟩
    · rw [List.getElem?_append_right (by rw [List.length_map]; omega), List.length_map] at h
      rw [List.getElem?_append_right (by rw [List.length_map, r.length]; omega), List.length_map, r.length]
      show ∃ x, (some (V.ref p) :: List.replicate (N.length - (vs ++ [V.ref p]).length) none)[i - ds.length]? = some x ∧ _
      rw [List.length_append, r.length, List.length_singleton]
      cases q : i - ds.length with
      | zero =>
        rw [q] at h
        cases h
        exact ⟨_, rfl, ws, rfl, gp, but_none, hp, rw'⟩
      | succ n =>
        rw [q, List.getElem?_cons_succ, List.getElem?_replicate] at h
        rw [List.getElem?_cons_succ, List.getElem?_replicate]
        split at h
        · rename_i hlt
          cases h
          rw [if_pos hlt]
          exact ⟨_, rfl, trivial⟩
        · cases h
  ne := fun i j q ⟨_, s, h, o⟩ ⟨_, t, g, u⟩ => by
    have key : ∀ (i : Nat) (s : Sl), (startM N ds p xs)[i]? = some s → Own s → i = ds.length := fun i s h o => by
      unfold startM at h
      by_cases hi : i < ds.length
      · rw [List.getElem?_append_left (by rw [List.length_map]; exact hi), List.getElem?_map] at h
        cases q : ds[i]? with
        | none => rw [q] at h; cases h
        | some d => rw [q] at h; cases h; exact False.elim o
      · rw [List.getElem?_append_right (by rw [List.length_map]; omega), List.length_map] at h
        cases q : i - ds.length with
        | zero => omega
        | succ n =>
          rw [q, List.getElem?_cons_succ, List.getElem?_replicate] at h
          split at h
          · cases h; exact False.elim o
          · cases h
    rw [key i s h o, key j t g u]
theorem ok_mkM {P : Program} {w : World} {K : PySem.W.Frag} {mg : Str → Option Value} {base : Heap} {k : Nat} {x : Str} {st : Stmt} {N ps : List Str} {f : FM} (j : Nat) (F : Def K mg x st ps) (S : FnScope N ps (defScope st)) (len : ∀ ds xs ys r, f ds xs ys r → ds.length + 1 = ps.length ∧ ds.length = j)
    (body : ∀ (fa : Addr) (cd : Value) (A : Around) (outer : List Env) (s : Shared) (H : Hp) (E : XK) (ds xs ys : List D) (r : Sl) (p : Addr), Room k (CxN P w K mg base N x st fa cd A outer s H E).A → f ds xs ys r →
      PSD (CxN P w K mg base N x st fa cd A outer s H E) (defBody st) (startM N ds p xs) { nx := fun ρ => ρ[j]? = some (.op p ys) ∧ r = .fz .non, rt := fun r' => r' = r, rp := fun ρ => ρ[j]? = some (.op p ys) }) : OkM P w K mg base (k + 1) x f := by
  obtain ⟨fa, fd, F, hm, hb⟩ := F.ex
  refine ⟨fa, fd, ps, F.okX S (fun vs H Q E h => ?_) (fun cdv A outer s H vs Q E hr h => ?_), hm, F.kp, hb⟩
  · obtain ⟨G, ds, xs, ys, r, us, ws, p, rfl, _, hr, _, _, _, hf, _⟩ := h
    rw [List.length_append, hr.length, List.length_singleton, (len _ _ _ _ hf).1]
  · obtain ⟨G, ds, xs, ys, r, us, ws, p, rfl, eG, hrep, gp, hp, hws, hf, hne, q⟩ := h
    refine ⟨_, PSs.nox (canB (X := CxN P w K mg base N x st fa cdv A outer s H E)), ?_⟩
    have fresh : ∀ (σ' : L2.St) (G' H' : Hp) (ρ' : List Sl), SR K ⟨G, but H p⟩ σ' G' H' ρ' → ρ'[j]? = some (.op p ys) → G' p = none ∧ (∃ ws', H' p = some (.lst ws') ∧ Reps K G' ws' ys) ∧ ∀ a o, G' a = some o → G a = none → H a = none := fun σ' G' H' ρ' S' h => by
      obtain ⟨ws', _, z1, _, z2, z3⟩ := S'.getP h
      refine ⟨z1, ⟨ws', z2, z3⟩, fun a o e1 e2 => ?_⟩
      have z : but H p a = none := S'.nw a o e1 e2
      rw [show but H p a = H a from but_ne (by rintro rfl; rw [z1] at e1; cases e1)] at z
      exact z
    refine body fa cdv A outer s H E ds xs ys r p hr hf ⟨G, but H p⟩ (L2.start N (us ++ [V.ref p])) G H _ (sr_startM (N := N) eG hrep gp hp hws) ⟨?_, ?_, fun _ _ _ _ _ _ z => z.elim, fun _ _ _ _ _ _ z => z.elim⟩
    · rintro σ' G' H' ρ' e S' ⟨h1, rfl⟩
      obtain ⟨z1, ⟨ws', z2, z3⟩, z4⟩ := fresh σ' G' H' ρ' S' h1
      exact q .non G' H' ws' e S'.e2 S'.e3 z4 z1 z2 z3 ⟨_, rfl, .non⟩
    · rintro v σ' ρ' G' H' r' e S' hv h1 rfl
      obtain ⟨z1, ⟨ws', z2, z3⟩, z4⟩ := fresh σ' G' H' ρ' S' h1
      refine q v G' H' ws' e S'.e2 S'.e3 z4 z1 z2 z3 ?_
      have o := (S'.getP h1).choose_spec.1
      have hg := hv.2.1
      have hneP : Own r' → ∀ b : Addr, v = .ref b → b ≠ p := fun ow b e' e2 => by
        subst e2
        exact hv.2.2 ow b e' j ⟨o, _, h1, trivial⟩
      cases r' with
      | no => exact trivial
      | fz d => exact hg
      | kn w d => exact hg
      | ow ds => obtain ⟨b, vs, z1, z2, z3, z4, z5⟩ := hg; cases z1; exact ⟨b, vs, rfl, z2, (but_ne (hneP trivial b rfl)).symm.trans z3, z4, z5⟩
      | od kvs => obtain ⟨b, z1, z2, z3, z4⟩ := hg; cases z1; exact ⟨b, rfl, z2, (but_ne (hneP trivial b rfl)).symm.trans z3, z4⟩
      | op b ds => obtain ⟨vs, z1, z2, z3, z4, z5⟩ := hg; cases z1; exact ⟨vs, rfl, z2, (but_ne (hneP trivial b rfl)).symm.trans z3, z4, z5⟩

section
variable {X : Cx} {e a b c : Expr} {es : List Expr} {ρ ρ1 ρ2 ρ3 : List Sl} {r : Sl} {d d1 d2 : D} {ds xs ys : List D} {x y : Str} {pos p p2 : Pos} {E : En} {N : List Str} {f : FM} {k : Nat}
theorem upd_back {H : Hp} {p : Addr} {o o' : HO} (h : H p = some o) : upd (upd H p o') p o = H := by
  funext a
  by_cases e : a = p
  · subst e; rw [upd_same, h]
  · rw [upd_ne e, upd_ne e]
theorem pd_call3 {j : Nat} (G : OkM X.prog X.w X.K X.mg X.base k x f) (hX : X.N = N) (hA : At N j y) (h1 : PD X a ρ ρ1 (.fz d1)) (h2 : PD X b ρ1 ρ2 (.fz d2)) (ho : ρ2[j]? = some (.ow xs)) (hf : f [d1, d2] xs ys r) (hr : Room k X.A) (hg : Gl X x) (hne : r ≠ .no) (hno : ¬ Own r)
    (hdb : (x == ("__debug__" : Str)) = false) (hv : Vis X.env.scope y) (hd : (y == ("__debug__" : Str)) = false) (hcd : (y == ("__classdict__" : Str)) = false)
    (he : starEach [a, b, .Name y p2] X.env = (false, eval a X.env) :: starEach [b, .Name y p2] X.env) (he2 : starEach [b, .Name y p2] X.env = (false, eval b X.env) :: starEach [.Name y p2] X.env)
    (he3 : starEach [.Name y p2] X.env = (false, eval (.Name y p2) X.env) :: starEach [] X.env)
    (hpl : (backTo pos (starEach [b, .Name y p2] X.env)).any (·.1) = false) : PD X (.Call (.Name x p) [a, b, .Name y p2] [] pos) ρ (ρ2.set j (.ow ys)) r := .mk fun B σ G0 H Q S q => by
  obtain ⟨fa, fd, ps, F, hm, hk, hb⟩ := G.ex
  refine wpE_of (pe_call F hr hg hm hk hb .nil passL (pa_cons canE (pa_cons canE (pa_cons canE pa_nil he3) he2) he) hdb he hpl) ?_
  refine h1 B σ G0 H _ S fun v1 G1 H1 e1 S1 r1 => ?_
  refine h2 B σ G1 H1 _ S1 fun v2 G2 H2 e2 S2 r2 => ?_
  obtain ⟨l, ws, g1, g2, g3, g4, g5⟩ := S2.getO ho
  refine wpE_of (pe_var (by rw [hX]; exact hA.get) hv hd hcd) ⟨.ref l, g1, ?_⟩
  refine ⟨G2, [d1, d2], xs, ys, r, [v1, v2], ws, l, rfl, S2.e3, .cons (r1.rep.mono e2) (.cons r2.rep .nil), g2, g4, g5, hf, hne, fun v G' H' ws' f1 f2 f3 f4 f5 f6 f7 f8 => ?_⟩
  have exb : Ex H2 (upd H' l (.lst ws)) := fun a o e => by
    by_cases ea : a = l
    · subst ea; rw [upd_same]; rw [g4] at e; exact e
    · rw [upd_ne ea]; exact f2 a o (by rw [but_ne ea]; exact e)
  have exc : Ex G' (upd H' l (.lst ws)) := fun a o e => by
    rw [upd_ne (by rintro rfl; rw [f5] at e; cases e)]
    exact f3 a o e
  have S3 := S2.call f1 exb exc f4
  have S4 := S3.write ho g1 f7
  rw [upd_back f6] at S4
  refine q v G' H' (e1.trans (e2.trans f1)) S4 ⟨hne, ?_, fun o => absurd o hno⟩
  cases r with
  | no => exact trivial
  | fz d => exact f8
  | kn w d => exact f8
  | ow ds => exact absurd trivial hno
  | od kvs => exact absurd trivial hno
  | op p ds => exact absurd trivial hno
/-- xs.extend(e), xs handed in -/
theorem ps1_extP {i : Nat} {l : Addr} {ap pos' : Pos} (hX : X.N = N) (hA : At N i x) (he : PD X e ρ ρ (.fz (.lst ys))) (ho : ρ[i]? = some (.op l xs)) (hl : xs.length + ys.length ≤ 100000) (h : E.nx (ρ.set i (.op l (xs ++ ys)))) (hv : Vis X.env.scope x)
    (hd : (x == ("__debug__" : Str)) = false) (hcd : (x == ("__classdict__" : Str)) = false)
    (hps : ∀ (ho : PE X (.Name x p) (wpE X (.Name x p))) (ha : PA X [e] (tCons (wpE X e) tNil)), PE X (.Call (.Attribute (.Name x p) "extend" ap) [e] [] pos') (tBM X.K "list" rExtend (wpE X (.Name x p)) (tCons (wpE X e) tNil)))
    (hpa : starEach [e] X.env = (false, eval e X.env) :: starEach [] X.env)
    (hs : swapsWith (.Call (.Attribute (.Name x p) "extend" ap) [e] [] pos') none pos.line X.env = pure false) : PS1 X (.Expr (.Call (.Attribute (.Name x p) "extend" ap) [e] [] pos') pos) ρ E := .mk fun B σ G H M S k => by
  refine wpS_of (ps_expr (hps canE (pa_cons canE pa_nil hpa)) hs) ?_
  obtain ⟨vs0, h1, h2, h3, h4, h5⟩ := S.getP ho
  refine wpE_of (pe_var (by rw [hX]; exact hA.get) hv hd hcd) ⟨.ref l, h1, ?_⟩
  refine ⟨.inl ⟨rfl, _, .inl (.inl h4)⟩, ?_⟩
  refine he B σ G H _ S fun v G1 H1 e1 S1 r1 => ?_
  obtain ⟨vs, g1, g2, g3, g4, g5⟩ := S1.getP ho
  have z := r1.rep
  cases z with
  | lst z1 z2 =>
    refine ⟨l, _, vs, _, rfl, rfl, g4, S1.e3 _ _ z1, ?_, ?_⟩
    · rw [g5.length, z2.length]; exact small hl
    · exact k.nx σ G1 _ _ e1 (S1.writeP ho (g5.append z2)) h
/-- len(set(xs)), unlike ints -/
theorem pd_lenSet {p3 q : Pos} {ns : List Int} (ha : PD X a ρ ρ1 (.fz (.lst (ns.map .int)))) (hn : ns.Nodup) (hl : ns.length ≤ 4000) (hc : X.calm = true) (hm : X.mg "len" = none) (hg : Gl X "len") (hm2 : X.mg "set" = none) (hg2 : Gl X "set") (he : starEach [a] X.env = (false, eval a X.env) :: starEach [] X.env) :
    PD X (.Call (.Name "len" p) [.Call (.Name "set" p3) [a] [] q] [] pos) ρ ρ1 (.fz (.int (ns.length : Int))) := .mk fun B σ G H Q S k =>
  wpE_of (RZ.pe_lenSetI hg hm hg2 hm2 canE hc he) (ha B σ G H _ S fun v G1 H1 e1 S1 r1 => by
    have z := r1.rep
    cases z with
    | lst z1 z2 =>
      have e := z2.ints
      subst e
      exact ⟨_, ns, rfl, SqL.of (S1.e3 _ _ z1), hn, hl, k _ G1 H1 e1 S1 (.of (.int _))⟩)
end
section
variable {X : Cx} {ρ ρ0 : List Sl} {elt src : Expr} {ifs : List Expr} {scope : Scope} {x : Str} {tp pos : Pos}
theorem ps1_lcL {α : Type} (j : Nat) (own : List (Str × Nat)) {xs : List α} (enc : α → D) (f : α → Bool) (v : α → D) (hsrc : PD X src ρ ρ0 (.fz (.lst (xs.map enc)))) (hl : xs.length ≤ 50000) (hj : j ∈ own.map (·.2))
    (ht : ∀ (s : Shared) (H : Hp) (C : Addr) (cl : List (Str × Addr)) (fp : List Addr) (i : Nat) (a : α), xs[i]? = some a → TSD (Blk X scope s H C cl fp) ifs ((wipeR ρ0 (own.map (·.2))).set j (.fz (enc a))) (f a))
    (he : ∀ (s : Shared) (H : Hp) (C : Addr) (cl : List (Str × Addr)) (fp : List Addr) (i : Nat) (a : α), xs[i]? = some a → f a = true → PD (Blk X scope s H C cl fp) elt ((wipeR ρ0 (own.map (·.2))).set j (.fz (enc a))) ((wipeR ρ0 (own.map (·.2))).set j (.fz (enc a))) (.fz (v a)))
    (hc : X.calm = true) (hN : X.N.Nodup) (ok : BlkOk X.N X.env.scope scope own) (hx : X.N[j]? = some x)
    (hloc : ∀ (s : Shared) (H : Hp) (C : Addr) (cl : List (Str × Addr)) (fp : List Addr), Loc (Blk X scope s H C cl fp).env.scope x)
    (hf : ∀ (s : Shared) (H : Hp) (C : Addr) (cl : List (Str × Addr)) (fp : List Addr), (Blk X scope s H C cl fp).fn x = true ∨ (Blk X scope s H C cl fp).env.scope.names.lookup x = some .local)
    (hs : ∀ x, foldedSetIterable src X.env x = pure x) 
    {i : Nat} {y : Str} {py spos : Pos} {E : En} (hy : X.N[i]? = some y) (hyl : X.env.scope.names.lookup y = some .local) (hsw : swapsWith (.ListComp elt [⟨.Name x tp, src, ifs, 0⟩] scope pos) (some (.Name y py)) spos.line X.env = pure true) (h : E.nx (ρ0.set i (.ow ((xs.filter f).map v)))) :
    PS1 X (.Assign [.Name y py] (.ListComp elt [⟨.Name x tp, src, ifs, 0⟩] scope pos) spos) ρ E := .mk fun B σ G H M S k => by
  refine wpS_of (ps_setLc (i := i) (own := own) (g := gName j) (tt := allF X scope ifs)
    (te := allE X scope elt) hc hN hy hyl hsw (pi_list canE) ok
    (fun s H C cl fp => pg_name hN hx (hloc s H C cl fp) (hf s H C cl fp)) (fun s H C cl fp => ⟨fun pins s' σ' H' Q' I h => h s H C cl fp pins s' I⟩) (fun s H C cl fp => ⟨fun pins s' σ' H' Q' I h => h s H C cl fp pins s' I⟩) hs) ?_
  refine hsrc B σ G H _ S fun vv G1 H1 e1 S1 r1 => ?_
  have z := r1.rep
  cases z with
  | @lst l vs _ hlst hr =>
    refine ⟨l, rfl, ⟨vs, .inl (.inl (S1.e3 _ _ hlst))⟩, fun Dl hD => ?_⟩
    have nD : ∀ i, ¬ OwnAt (wipe σ (own.map (·.2))) (wipeR ρ0 (own.map (·.2))) i Dl := (S1.wipe _).notOwn hD
    have f0 : ∀ i p, OwnAt (wipe σ (own.map (·.2))) (wipeR ρ0 (own.map (·.2))) i p → less (wipe σ (own.map (·.2))) (wipeR ρ0 (own.map (·.2))) H1 p = none := fun i p o => less_own o
    have fD : less (wipe σ (own.map (·.2))) (wipeR ρ0 (own.map (·.2))) H1 Dl = none := by rw [less_not nD]; exact hD
    have h0 : Cm X.K (wipe σ (own.map (·.2))) (wipeR ρ0 (own.map (·.2))) G1 (less (wipe σ (own.map (·.2))) (wipeR ρ0 (own.map (·.2))) H1) Dl [] (upd H1 Dl (.lst [])) :=
      ⟨G1, [], Evl.Ex.refl G1, ((S1.wipe _).re less_ex f0).alloc hD, ex_none S1.e3 hD, upd_same, .nil⟩
    refine lc_list (K := X.K) (a := l) (g := gName j) (tt := allF X scope ifs) (te := allE X scope elt) (vs := own.map (·.2)) (σ := σ) (Qd := fun H1 => gName i (.ref Dl) σ H1 M.nx) (xs := vs) (fun i H' => Cm X.K (wipe σ (own.map (·.2))) (wipeR ρ0 (own.map (·.2))) G1 (less (wipe σ (own.map (·.2))) (wipeR ρ0 (own.map (·.2))) H1) Dl (((xs.take i).filter f).map v) H') h0
      (fun i H' _ p => ?_) (fun i u H' hu p => ?_) (fun H' p => ?_)
    · obtain ⟨G', acc, e, S', _⟩ := p
      exact .inl (.inl (S'.e3 _ _ (e _ _ hlst)))
    · obtain ⟨d, hd, hrd⟩ := hr.getV hu
      rw [List.getElem?_map] at hd
      cases q : xs[i]? with
      | none => rw [q] at hd; cases hd
      | some a =>
        rw [q] at hd
        cases hd
        have hi : i < xs.length := (List.getElem?_eq_some_iff.mp q).1
        have hz : (((xs.take i).filter f).map v).length < 100000 := by
          rw [List.length_map]
          have h1 := List.length_filter_le f (xs.take i)
          rw [List.length_take] at h1
          omega
        have t := cm_turn (X := X) (ρ0 := ρ0) (elt := elt) (ifs := ifs) (scope := scope) (own := own) (j := j) (b := f a) (d := enc a) (y := v a) p nD f0 fD hj hrd hz (fun s H C cl fp => ht s H C cl fp i a q) (fun hb s H C cl fp => he s H C cl fp i a q hb)
        refine ⟨t.1, fun s H0 C cl fp pins s' I => ?_⟩
        rw [take_filter f v q]
        exact t.2 s H0 C cl fp pins s' I
    · rw [hr.length, List.length_map, List.take_length] at p
      obtain ⟨G', e2, S2, v2⟩ := cm_end S1 hD p
      exact k.nx _ G' H' _ (e1.trans e2) (S2.set v2) h

theorem ps1_lcLz {α : Type} (j : Nat) (own : List (Str × Nat)) {xs : List α} (enc : α → D) (f : α → Bool) (v : α → D) (hsrc : PD X src ρ ρ0 (.fz (.lst (xs.map enc)))) (hl : xs.length ≤ 50000) (hj : j ∈ own.map (·.2))
    (ht : ∀ (s : Shared) (H : Hp) (C : Addr) (cl : List (Str × Addr)) (fp : List Addr) (i : Nat) (a : α), xs[i]? = some a → TSD (Blk X scope s H C cl fp) ifs ((wipeR ρ0 (own.map (·.2))).set j (.fz (enc a))) (f a))
    (he : ∀ (s : Shared) (H : Hp) (C : Addr) (cl : List (Str × Addr)) (fp : List Addr) (i : Nat) (a : α), xs[i]? = some a → f a = true → PD (Blk X scope s H C cl fp) elt ((wipeR ρ0 (own.map (·.2))).set j (.fz (enc a))) ((wipeR ρ0 (own.map (·.2))).set j (.fz (enc a))) (.fz (v a)))
    (hc : X.calm = true) (hN : X.N.Nodup) (ok : BlkOk X.N X.env.scope scope own) (hx : X.N[j]? = some x)
    (hloc : ∀ (s : Shared) (H : Hp) (C : Addr) (cl : List (Str × Addr)) (fp : List Addr), Loc (Blk X scope s H C cl fp).env.scope x)
    (hf : ∀ (s : Shared) (H : Hp) (C : Addr) (cl : List (Str × Addr)) (fp : List Addr), (Blk X scope s H C cl fp).fn x = true ∨ (Blk X scope s H C cl fp).env.scope.names.lookup x = some .local)
    (hs : ∀ x, foldedSetIterable src X.env x = pure x) 
    {i : Nat} {y : Str} {py spos : Pos} {E : En} (hy : X.N[i]? = some y) (hyl : X.env.scope.names.lookup y = some .local) (hsw : swapsWith (.ListComp elt [⟨.Name x tp, src, ifs, 0⟩] scope pos) (some (.Name y py)) spos.line X.env = pure true) (h : E.nx (ρ0.set i (.fz (.lst ((xs.filter f).map v))))) :
    PS1 X (.Assign [.Name y py] (.ListComp elt [⟨.Name x tp, src, ifs, 0⟩] scope pos) spos) ρ E := .mk fun B σ G H M S k => by
  refine wpS_of (ps_setLc (i := i) (own := own) (g := gName j) (tt := allF X scope ifs)
    (te := allE X scope elt) hc hN hy hyl hsw (pi_list canE) ok
    (fun s H C cl fp => pg_name hN hx (hloc s H C cl fp) (hf s H C cl fp)) (fun s H C cl fp => ⟨fun pins s' σ' H' Q' I h => h s H C cl fp pins s' I⟩) (fun s H C cl fp => ⟨fun pins s' σ' H' Q' I h => h s H C cl fp pins s' I⟩) hs) ?_
  refine hsrc B σ G H _ S fun vv G1 H1 e1 S1 r1 => ?_
  have z := r1.rep
  cases z with
  | @lst l vs _ hlst hr =>
    refine ⟨l, rfl, ⟨vs, .inl (.inl (S1.e3 _ _ hlst))⟩, fun Dl hD => ?_⟩
    have nD : ∀ i, ¬ OwnAt (wipe σ (own.map (·.2))) (wipeR ρ0 (own.map (·.2))) i Dl := (S1.wipe _).notOwn hD
    have f0 : ∀ i p, OwnAt (wipe σ (own.map (·.2))) (wipeR ρ0 (own.map (·.2))) i p → less (wipe σ (own.map (·.2))) (wipeR ρ0 (own.map (·.2))) H1 p = none := fun i p o => less_own o
    have fD : less (wipe σ (own.map (·.2))) (wipeR ρ0 (own.map (·.2))) H1 Dl = none := by rw [less_not nD]; exact hD
    have h0 : Cm X.K (wipe σ (own.map (·.2))) (wipeR ρ0 (own.map (·.2))) G1 (less (wipe σ (own.map (·.2))) (wipeR ρ0 (own.map (·.2))) H1) Dl [] (upd H1 Dl (.lst [])) :=
      ⟨G1, [], Evl.Ex.refl G1, ((S1.wipe _).re less_ex f0).alloc hD, ex_none S1.e3 hD, upd_same, .nil⟩
    refine lc_list (K := X.K) (a := l) (g := gName j) (tt := allF X scope ifs) (te := allE X scope elt) (vs := own.map (·.2)) (σ := σ) (Qd := fun H1 => gName i (.ref Dl) σ H1 M.nx) (xs := vs) (fun i H' => Cm X.K (wipe σ (own.map (·.2))) (wipeR ρ0 (own.map (·.2))) G1 (less (wipe σ (own.map (·.2))) (wipeR ρ0 (own.map (·.2))) H1) Dl (((xs.take i).filter f).map v) H') h0
      (fun i H' _ p => ?_) (fun i u H' hu p => ?_) (fun H' p => ?_)
    · obtain ⟨G', acc, e, S', _⟩ := p
      exact .inl (.inl (S'.e3 _ _ (e _ _ hlst)))
    · obtain ⟨d, hd, hrd⟩ := hr.getV hu
      rw [List.getElem?_map] at hd
      cases q : xs[i]? with
      | none => rw [q] at hd; cases hd
      | some a =>
        rw [q] at hd
        cases hd
        have hi : i < xs.length := (List.getElem?_eq_some_iff.mp q).1
        have hz : (((xs.take i).filter f).map v).length < 100000 := by
          rw [List.length_map]
          have h1 := List.length_filter_le f (xs.take i)
          rw [List.length_take] at h1
          omega
        have t := cm_turn (X := X) (ρ0 := ρ0) (elt := elt) (ifs := ifs) (scope := scope) (own := own) (j := j) (b := f a) (d := enc a) (y := v a) p nD f0 fD hj hrd hz (fun s H C cl fp => ht s H C cl fp i a q) (fun hb s H C cl fp => he s H C cl fp i a q hb)
        refine ⟨t.1, fun s H0 C cl fp pins s' I => ?_⟩
        rw [take_filter f v q]
        exact t.2 s H0 C cl fp pins s' I
    · rw [hr.length, List.length_map, List.take_length] at p
      obtain ⟨G', e2, S2, v2⟩ := cm_end S1 hD p
      obtain ⟨G3, e3, S3, r3⟩ := v2.frz S2
      exact k.nx _ G3 H' _ (e1.trans (e2.trans e3)) (S3.set (.of r3)) h

theorem ps1_lcR {a : Expr} {n : Int} {rp cp : Pos} (j : Nat) (own : List (Str × Nat)) (f : Nat → Bool) (v : Nat → D) (hsrc : PD X a ρ ρ0 (.fz (.int n))) (hl : n ≤ 50000) (hl0 : -50000 ≤ n) (hj : j ∈ own.map (·.2)) (hg : Gl X "range") (hm : X.mg "range" = none)
    (ht : ∀ (s : Shared) (H : Hp) (C : Addr) (cl : List (Str × Addr)) (fp : List Addr) (i : Nat), (i : Int) < n → TSD (Blk X scope s H C cl fp) ifs ((wipeR ρ0 (own.map (·.2))).set j (.fz (.int (i : Int)))) (f i))
    (he : ∀ (s : Shared) (H : Hp) (C : Addr) (cl : List (Str × Addr)) (fp : List Addr) (i : Nat), (i : Int) < n → f i = true → PD (Blk X scope s H C cl fp) elt ((wipeR ρ0 (own.map (·.2))).set j (.fz (.int (i : Int)))) ((wipeR ρ0 (own.map (·.2))).set j (.fz (.int (i : Int)))) (.fz (v i)))
    (hc : X.calm = true) (hN : X.N.Nodup) (ok : BlkOk X.N X.env.scope scope own) (hx : X.N[j]? = some x)
    (hloc : ∀ (s : Shared) (H : Hp) (C : Addr) (cl : List (Str × Addr)) (fp : List Addr), Loc (Blk X scope s H C cl fp).env.scope x)
    (hf : ∀ (s : Shared) (H : Hp) (C : Addr) (cl : List (Str × Addr)) (fp : List Addr), (Blk X scope s H C cl fp).fn x = true ∨ (Blk X scope s H C cl fp).env.scope.names.lookup x = some .local)
    (hst : starEach [a] X.env = [(false, eval a X.env)])
    (hs : ∀ x, foldedSetIterable (.Call (.Name "range" rp) [a] [] cp) X.env x = pure x) 
    {i : Nat} {y : Str} {py spos : Pos} {E : En} (hy : X.N[i]? = some y) (hyl : X.env.scope.names.lookup y = some .local) (hsw : swapsWith (.ListComp elt [⟨.Name x tp, .Call (.Name "range" rp) [a] [] cp, ifs, 0⟩] scope pos) (some (.Name y py)) spos.line X.env = pure true) (h : E.nx (ρ0.set i (.ow (((List.range n.toNat).filter f).map v)))) :
    PS1 X (.Assign [.Name y py] (.ListComp elt [⟨.Name x tp, .Call (.Name "range" rp) [a] [] cp, ifs, 0⟩] scope pos) spos) ρ E := .mk fun B σ G H M S k => by
  refine wpS_of (ps_setLc (i := i) (own := own) (g := gName j) (tt := allF X scope ifs)
    (te := allE X scope elt) hc hN hy hyl hsw (pi_range1 hg hm (pa_cons canE pa_nil hst) hst) ok
    (fun s H C cl fp => pg_name hN hx (hloc s H C cl fp) (hf s H C cl fp)) (fun s H C cl fp => ⟨fun pins s' σ' H' Q' I h => h s H C cl fp pins s' I⟩) (fun s H C cl fp => ⟨fun pins s' σ' H' Q' I h => h s H C cl fp pins s' I⟩) hs) ?_
  refine hsrc B σ G H _ S fun vv G1 H1 e1 S1 r1 => ?_
  have z := r1.rep
  cases z
  refine ⟨n, rfl, by omega, by omega, fun Dl hD => ?_⟩
  have nD : ∀ i, ¬ OwnAt (wipe σ (own.map (·.2))) (wipeR ρ0 (own.map (·.2))) i Dl := (S1.wipe _).notOwn hD
  have f0 : ∀ i p, OwnAt (wipe σ (own.map (·.2))) (wipeR ρ0 (own.map (·.2))) i p → less (wipe σ (own.map (·.2))) (wipeR ρ0 (own.map (·.2))) H1 p = none := fun i p o => less_own o
  have fD : less (wipe σ (own.map (·.2))) (wipeR ρ0 (own.map (·.2))) H1 Dl = none := by rw [less_not nD]; exact hD
  have h0 : Cm X.K (wipe σ (own.map (·.2))) (wipeR ρ0 (own.map (·.2))) G1 (less (wipe σ (own.map (·.2))) (wipeR ρ0 (own.map (·.2))) H1) Dl [] (upd H1 Dl (.lst [])) :=
    ⟨G1, [], Evl.Ex.refl G1, ((S1.wipe _).re less_ex f0).alloc hD, ex_none S1.e3 hD, upd_same, .nil⟩
  refine lc_range (g := gName j) (tt := allF X scope ifs) (te := allE X scope elt) (vs := own.map (·.2)) (σ := σ) (Qd := fun H1 => gName i (.ref Dl) σ H1 M.nx) (lo := 0) (n := n.toNat) (fun i H' => Cm X.K (wipe σ (own.map (·.2))) (wipeR ρ0 (own.map (·.2))) G1 (less (wipe σ (own.map (·.2))) (wipeR ρ0 (own.map (·.2))) H1) Dl ((((List.range n.toNat).take i).filter f).map v) H') h0
    (fun i H' hi p => ?_) (fun H' p => ?_)
  · have ez : (0 : Int) + (i : Int) = (i : Int) := Int.zero_add _
    rw [ez]
    have q : (List.range n.toNat)[i]? = some i := by rw [List.getElem?_range hi]
    have hz : ((((List.range n.toNat).take i).filter f).map v).length < 100000 := by
      rw [List.length_map]
      have h1 := List.length_filter_le f ((List.range n.toNat).take i)
      rw [List.length_take] at h1
      omega
    have t := cm_turn (X := X) (ρ0 := ρ0) (elt := elt) (ifs := ifs) (scope := scope) (own := own) (j := j) (u := .int (i : Int)) (b := f i) (d := .int (i : Int)) (y := v i) p nD f0 fD hj (.int _) hz (fun s H C cl fp => ht s H C cl fp i (by omega)) (fun hb s H C cl fp => he s H C cl fp i (by omega) hb)
    refine ⟨t.1, fun s H0 C cl fp pins s' I => ?_⟩
    rw [take_filter f v q]
    exact t.2 s H0 C cl fp pins s' I
  · rw [List.take_of_length_le (by rw [List.length_range]; exact Nat.le_refl _)] at p
    obtain ⟨G', e2, S2, v2⟩ := cm_end S1 hD p
    exact k.nx _ G' H' _ (e1.trans e2) (S2.set v2) h

theorem ps1_lcRz {a : Expr} {n : Int} {rp cp : Pos} (j : Nat) (own : List (Str × Nat)) (f : Nat → Bool) (v : Nat → D) (hsrc : PD X a ρ ρ0 (.fz (.int n))) (hl : n ≤ 50000) (hl0 : -50000 ≤ n) (hj : j ∈ own.map (·.2)) (hg : Gl X "range") (hm : X.mg "range" = none)
    (ht : ∀ (s : Shared) (H : Hp) (C : Addr) (cl : List (Str × Addr)) (fp : List Addr) (i : Nat), (i : Int) < n → TSD (Blk X scope s H C cl fp) ifs ((wipeR ρ0 (own.map (·.2))).set j (.fz (.int (i : Int)))) (f i))
    (he : ∀ (s : Shared) (H : Hp) (C : Addr) (cl : List (Str × Addr)) (fp : List Addr) (i : Nat), (i : Int) < n → f i = true → PD (Blk X scope s H C cl fp) elt ((wipeR ρ0 (own.map (·.2))).set j (.fz (.int (i : Int)))) ((wipeR ρ0 (own.map (·.2))).set j (.fz (.int (i : Int)))) (.fz (v i)))
    (hc : X.calm = true) (hN : X.N.Nodup) (ok : BlkOk X.N X.env.scope scope own) (hx : X.N[j]? = some x)
    (hloc : ∀ (s : Shared) (H : Hp) (C : Addr) (cl : List (Str × Addr)) (fp : List Addr), Loc (Blk X scope s H C cl fp).env.scope x)
    (hf : ∀ (s : Shared) (H : Hp) (C : Addr) (cl : List (Str × Addr)) (fp : List Addr), (Blk X scope s H C cl fp).fn x = true ∨ (Blk X scope s H C cl fp).env.scope.names.lookup x = some .local)
    (hst : starEach [a] X.env = [(false, eval a X.env)])
    (hs : ∀ x, foldedSetIterable (.Call (.Name "range" rp) [a] [] cp) X.env x = pure x) 
    {i : Nat} {y : Str} {py spos : Pos} {E : En} (hy : X.N[i]? = some y) (hyl : X.env.scope.names.lookup y = some .local) (hsw : swapsWith (.ListComp elt [⟨.Name x tp, .Call (.Name "range" rp) [a] [] cp, ifs, 0⟩] scope pos) (some (.Name y py)) spos.line X.env = pure true) (h : E.nx (ρ0.set i (.fz (.lst (((List.range n.toNat).filter f).map v))))) :
    PS1 X (.Assign [.Name y py] (.ListComp elt [⟨.Name x tp, .Call (.Name "range" rp) [a] [] cp, ifs, 0⟩] scope pos) spos) ρ E := .mk fun B σ G H M S k => by
  refine wpS_of (ps_setLc (i := i) (own := own) (g := gName j) (tt := allF X scope ifs)
    (te := allE X scope elt) hc hN hy hyl hsw (pi_range1 hg hm (pa_cons canE pa_nil hst) hst) ok
    (fun s H C cl fp => pg_name hN hx (hloc s H C cl fp) (hf s H C cl fp)) (fun s H C cl fp => ⟨fun pins s' σ' H' Q' I h => h s H C cl fp pins s' I⟩) (fun s H C cl fp => ⟨fun pins s' σ' H' Q' I h => h s H C cl fp pins s' I⟩) hs) ?_
  refine hsrc B σ G H _ S fun vv G1 H1 e1 S1 r1 => ?_
  have z := r1.rep
  cases z
  refine ⟨n, rfl, by omega, by omega, fun Dl hD => ?_⟩
  have nD : ∀ i, ¬ OwnAt (wipe σ (own.map (·.2))) (wipeR ρ0 (own.map (·.2))) i Dl := (S1.wipe _).notOwn hD
  have f0 : ∀ i p, OwnAt (wipe σ (own.map (·.2))) (wipeR ρ0 (own.map (·.2))) i p → less (wipe σ (own.map (·.2))) (wipeR ρ0 (own.map (·.2))) H1 p = none := fun i p o => less_own o
  have fD : less (wipe σ (own.map (·.2))) (wipeR ρ0 (own.map (·.2))) H1 Dl = none := by rw [less_not nD]; exact hD
  have h0 : Cm X.K (wipe σ (own.map (·.2))) (wipeR ρ0 (own.map (·.2))) G1 (less (wipe σ (own.map (·.2))) (wipeR ρ0 (own.map (·.2))) H1) Dl [] (upd H1 Dl (.lst [])) :=
    ⟨G1, [], Evl.Ex.refl G1, ((S1.wipe _).re less_ex f0).alloc hD, ex_none S1.e3 hD, upd_same, .nil⟩
  refine lc_range (g := gName j) (tt := allF X scope ifs) (te := allE X scope elt) (vs := own.map (·.2)) (σ := σ) (Qd := fun H1 => gName i (.ref Dl) σ H1 M.nx) (lo := 0) (n := n.toNat) (fun i H' => Cm X.K (wipe σ (own.map (·.2))) (wipeR ρ0 (own.map (·.2))) G1 (less (wipe σ (own.map (·.2))) (wipeR ρ0 (own.map (·.2))) H1) Dl ((((List.range n.toNat).take i).filter f).map v) H') h0
    (fun i H' hi p => ?_) (fun H' p => ?_)
  · have ez : (0 : Int) + (i : Int) = (i : Int) := Int.zero_add _
    rw [ez]
    have q : (List.range n.toNat)[i]? = some i := by rw [List.getElem?_range hi]
    have hz : ((((List.range n.toNat).take i).filter f).map v).length < 100000 := by
      rw [List.length_map]
      have h1 := List.length_filter_le f ((List.range n.toNat).take i)
      rw [List.length_take] at h1
      omega
    have t := cm_turn (X := X) (ρ0 := ρ0) (elt := elt) (ifs := ifs) (scope := scope) (own := own) (j := j) (u := .int (i : Int)) (b := f i) (d := .int (i : Int)) (y := v i) p nD f0 fD hj (.int _) hz (fun s H C cl fp => ht s H C cl fp i (by omega)) (fun hb s H C cl fp => he s H C cl fp i (by omega) hb)
    refine ⟨t.1, fun s H0 C cl fp pins s' I => ?_⟩
    rw [take_filter f v q]
    exact t.2 s H0 C cl fp pins s' I
  · rw [List.take_of_length_le (by rw [List.length_range]; exact Nat.le_refl _)] at p
    obtain ⟨G', e2, S2, v2⟩ := cm_end S1 hD p
    obtain ⟨G3, e3, S3, r3⟩ := v2.frz S2
    exact k.nx _ G3 H' _ (e1.trans (e2.trans e3)) (S3.set (.of r3)) h

end
section
variable {P : Program} {w : World} {K : PySem.W.Frag} {mg : Str → Option Value} {base : Heap} {N : List Str} {y : Str} {st : Stmt} {fa : Addr} {cd : Value} {A : Around} {outer : List Env} {s : Shared} {H : Hp} {E0 : XK}
  {ρ ρ0 : List Sl} {elt src : Expr} {ifs : List Expr} {scope : Scope} {x : Str} {tp pos : Pos} {j : Nat}

theorem ps1_compR {a : Expr} {n : Int} {rp cp : Pos} (f : Nat → Bool) (v : Nat → D) (hA : At N j x) (hsrc : PD (CxN P w K mg base N y st fa cd A outer s H E0) a ρ ρ0 (.fz (.int n))) (hg : Gl (CxN P w K mg base N y st fa cd A outer s H E0) "range") (hm : mg "range" = none)
    (hb : blkC N (defScope st) scope [(x, j)] = true) (hloc : ∀ (s' : Shared) (H' : Hp) (C : Addr) (cl : List (Str × Addr)) (fp : List Addr), Loc (Blk (CxN P w K mg base N y st fa cd A outer s H E0) scope s' H' C cl fp).env.scope x)
    (hf : ∀ (s' : Shared) (H' : Hp) (C : Addr) (cl : List (Str × Addr)) (fp : List Addr), (Blk (CxN P w K mg base N y st fa cd A outer s H E0) scope s' H' C cl fp).fn x = true ∨ (Blk (CxN P w K mg base N y st fa cd A outer s H E0) scope s' H' C cl fp).env.scope.names.lookup x = some .local)
    (hst : starEach [a] (CxN P w K mg base N y st fa cd A outer s H E0).env = [(false, eval a (CxN P w K mg base N y st fa cd A outer s H E0).env)])
    (hs : ∀ x, foldedSetIterable (.Call (.Name "range" rp) [a] [] cp) (CxN P w K mg base N y st fa cd A outer s H E0).env x = pure x) (hN : N.Nodup) (hl : n ≤ 50000 ∧ -50000 ≤ n)
    (ht : ∀ (s' : Shared) (H' : Hp) (C : Addr) (cl : List (Str × Addr)) (fp : List Addr) (i : Nat), (i : Int) < n → TSD (Blk (CxN P w K mg base N y st fa cd A outer s H E0) scope s' H' C cl fp) ifs ((wipeR ρ0 [j]).set j (.fz (.int (i : Int)))) (f i))
    (he : ∀ (s' : Shared) (H' : Hp) (C : Addr) (cl : List (Str × Addr)) (fp : List Addr) (i : Nat), (i : Int) < n → f i = true → PD (Blk (CxN P w K mg base N y st fa cd A outer s H E0) scope s' H' C cl fp) elt ((wipeR ρ0 [j]).set j (.fz (.int (i : Int)))) ((wipeR ρ0 [j]).set j (.fz (.int (i : Int)))) (.fz (v i))) 
    {i : Nat} {u : Str} {py spos : Pos} {E : En} (hA2 : At N i u) (h : E.nx (ρ0.set i (.ow (((List.range n.toNat).filter f).map v)))) (hyl : (CxN P w K mg base N y st fa cd A outer s H E0).env.scope.names.lookup u = some .local) (hk : (CxN P w K mg base N y st fa cd A outer s H E0).env.scope.kind = .function) (hln : (py.line == pos.line) = true) (hno : (scope.names.any fun (n, k) => n == u && (k == .local || k == .cell)) = false) :
    PS1 (CxN P w K mg base N y st fa cd A outer s H E0) (.Assign [.Name u py] (.ListComp elt [⟨.Name x tp, .Call (.Name "range" rp) [a] [] cp, ifs, 0⟩] scope pos) spos) ρ E :=
  ps1_lcR j [(x, j)] f v hsrc hl.1 hl.2 List.mem_cons_self hg hm ht he rfl hN (blkOk_by (N := N) (sc := defScope st) hb) hA.get hloc hf hst hs hA2.get hyl (sw_true hk hyl hln hno) h
theorem ps1_compRz {a : Expr} {n : Int} {rp cp : Pos} (f : Nat → Bool) (v : Nat → D) (hA : At N j x) (hsrc : PD (CxN P w K mg base N y st fa cd A outer s H E0) a ρ ρ0 (.fz (.int n))) (hg : Gl (CxN P w K mg base N y st fa cd A outer s H E0) "range") (hm : mg "range" = none)
    (hb : blkC N (defScope st) scope [(x, j)] = true) (hloc : ∀ (s' : Shared) (H' : Hp) (C : Addr) (cl : List (Str × Addr)) (fp : List Addr), Loc (Blk (CxN P w K mg base N y st fa cd A outer s H E0) scope s' H' C cl fp).env.scope x)
    (hf : ∀ (s' : Shared) (H' : Hp) (C : Addr) (cl : List (Str × Addr)) (fp : List Addr), (Blk (CxN P w K mg base N y st fa cd A outer s H E0) scope s' H' C cl fp).fn x = true ∨ (Blk (CxN P w K mg base N y st fa cd A outer s H E0) scope s' H' C cl fp).env.scope.names.lookup x = some .local)
    (hst : starEach [a] (CxN P w K mg base N y st fa cd A outer s H E0).env = [(false, eval a (CxN P w K mg base N y st fa cd A outer s H E0).env)])
    (hs : ∀ x, foldedSetIterable (.Call (.Name "range" rp) [a] [] cp) (CxN P w K mg base N y st fa cd A outer s H E0).env x = pure x) (hN : N.Nodup) (hl : n ≤ 50000 ∧ -50000 ≤ n)
    (ht : ∀ (s' : Shared) (H' : Hp) (C : Addr) (cl : List (Str × Addr)) (fp : List Addr) (i : Nat), (i : Int) < n → TSD (Blk (CxN P w K mg base N y st fa cd A outer s H E0) scope s' H' C cl fp) ifs ((wipeR ρ0 [j]).set j (.fz (.int (i : Int)))) (f i))
    (he : ∀ (s' : Shared) (H' : Hp) (C : Addr) (cl : List (Str × Addr)) (fp : List Addr) (i : Nat), (i : Int) < n → f i = true → PD (Blk (CxN P w K mg base N y st fa cd A outer s H E0) scope s' H' C cl fp) elt ((wipeR ρ0 [j]).set j (.fz (.int (i : Int)))) ((wipeR ρ0 [j]).set j (.fz (.int (i : Int)))) (.fz (v i))) 
    {i : Nat} {u : Str} {py spos : Pos} {E : En} (hA2 : At N i u) (h : E.nx (ρ0.set i (.fz (.lst (((List.range n.toNat).filter f).map v))))) (hyl : (CxN P w K mg base N y st fa cd A outer s H E0).env.scope.names.lookup u = some .local) (hk : (CxN P w K mg base N y st fa cd A outer s H E0).env.scope.kind = .function) (hln : (py.line == pos.line) = true) (hno : (scope.names.any fun (n, k) => n == u && (k == .local || k == .cell)) = false) :
    PS1 (CxN P w K mg base N y st fa cd A outer s H E0) (.Assign [.Name u py] (.ListComp elt [⟨.Name x tp, .Call (.Name "range" rp) [a] [] cp, ifs, 0⟩] scope pos) spos) ρ E :=
  ps1_lcRz j [(x, j)] f v hsrc hl.1 hl.2 List.mem_cons_self hg hm ht he rfl hN (blkOk_by (N := N) (sc := defScope st) hb) hA.get hloc hf hst hs hA2.get hyl (sw_true hk hyl hln hno) h
theorem ps1_compL {α : Type} {xs : List α} (enc : α → D) (f : α → Bool) (v : α → D) (hA : At N j x) (hsrc : PD (CxN P w K mg base N y st fa cd A outer s H E0) src ρ ρ0 (.fz (.lst (xs.map enc))))
    (hb : blkC N (defScope st) scope [(x, j)] = true) (hloc : ∀ (s' : Shared) (H' : Hp) (C : Addr) (cl : List (Str × Addr)) (fp : List Addr), Loc (Blk (CxN P w K mg base N y st fa cd A outer s H E0) scope s' H' C cl fp).env.scope x)
    (hf : ∀ (s' : Shared) (H' : Hp) (C : Addr) (cl : List (Str × Addr)) (fp : List Addr), (Blk (CxN P w K mg base N y st fa cd A outer s H E0) scope s' H' C cl fp).fn x = true ∨ (Blk (CxN P w K mg base N y st fa cd A outer s H E0) scope s' H' C cl fp).env.scope.names.lookup x = some .local)
    (hs : ∀ x, foldedSetIterable src (CxN P w K mg base N y st fa cd A outer s H E0).env x = pure x) (hN : N.Nodup) (hl : xs.length ≤ 50000)
    (ht : ∀ (s' : Shared) (H' : Hp) (C : Addr) (cl : List (Str × Addr)) (fp : List Addr) (i : Nat) (a : α), xs[i]? = some a → TSD (Blk (CxN P w K mg base N y st fa cd A outer s H E0) scope s' H' C cl fp) ifs ((wipeR ρ0 [j]).set j (.fz (enc a))) (f a))
    (he : ∀ (s' : Shared) (H' : Hp) (C : Addr) (cl : List (Str × Addr)) (fp : List Addr) (i : Nat) (a : α), xs[i]? = some a → f a = true → PD (Blk (CxN P w K mg base N y st fa cd A outer s H E0) scope s' H' C cl fp) elt ((wipeR ρ0 [j]).set j (.fz (enc a))) ((wipeR ρ0 [j]).set j (.fz (enc a))) (.fz (v a))) 
    {i : Nat} {u : Str} {py spos : Pos} {E : En} (hA2 : At N i u) (h : E.nx (ρ0.set i (.ow ((xs.filter f).map v)))) (hyl : (CxN P w K mg base N y st fa cd A outer s H E0).env.scope.names.lookup u = some .local) (hk : (CxN P w K mg base N y st fa cd A outer s H E0).env.scope.kind = .function) (hln : (py.line == pos.line) = true) (hno : (scope.names.any fun (n, k) => n == u && (k == .local || k == .cell)) = false) :
    PS1 (CxN P w K mg base N y st fa cd A outer s H E0) (.Assign [.Name u py] (.ListComp elt [⟨.Name x tp, src, ifs, 0⟩] scope pos) spos) ρ E :=
  ps1_lcL j [(x, j)] enc f v hsrc hl List.mem_cons_self ht he rfl hN (blkOk_by (N := N) (sc := defScope st) hb) hA.get hloc hf hs hA2.get hyl (sw_true hk hyl hln hno) h
theorem ps1_compLz {α : Type} {xs : List α} (enc : α → D) (f : α → Bool) (v : α → D) (hA : At N j x) (hsrc : PD (CxN P w K mg base N y st fa cd A outer s H E0) src ρ ρ0 (.fz (.lst (xs.map enc))))
    (hb : blkC N (defScope st) scope [(x, j)] = true) (hloc : ∀ (s' : Shared) (H' : Hp) (C : Addr) (cl : List (Str × Addr)) (fp : List Addr), Loc (Blk (CxN P w K mg base N y st fa cd A outer s H E0) scope s' H' C cl fp).env.scope x)
    (hf : ∀ (s' : Shared) (H' : Hp) (C : Addr) (cl : List (Str × Addr)) (fp : List Addr), (Blk (CxN P w K mg base N y st fa cd A outer s H E0) scope s' H' C cl fp).fn x = true ∨ (Blk (CxN P w K mg base N y st fa cd A outer s H E0) scope s' H' C cl fp).env.scope.names.lookup x = some .local)
    (hs : ∀ x, foldedSetIterable src (CxN P w K mg base N y st fa cd A outer s H E0).env x = pure x) (hN : N.Nodup) (hl : xs.length ≤ 50000)
    (ht : ∀ (s' : Shared) (H' : Hp) (C : Addr) (cl : List (Str × Addr)) (fp : List Addr) (i : Nat) (a : α), xs[i]? = some a → TSD (Blk (CxN P w K mg base N y st fa cd A outer s H E0) scope s' H' C cl fp) ifs ((wipeR ρ0 [j]).set j (.fz (enc a))) (f a))
    (he : ∀ (s' : Shared) (H' : Hp) (C : Addr) (cl : List (Str × Addr)) (fp : List Addr) (i : Nat) (a : α), xs[i]? = some a → f a = true → PD (Blk (CxN P w K mg base N y st fa cd A outer s H E0) scope s' H' C cl fp) elt ((wipeR ρ0 [j]).set j (.fz (enc a))) ((wipeR ρ0 [j]).set j (.fz (enc a))) (.fz (v a))) 
    {i : Nat} {u : Str} {py spos : Pos} {E : En} (hA2 : At N i u) (h : E.nx (ρ0.set i (.fz (.lst ((xs.filter f).map v))))) (hyl : (CxN P w K mg base N y st fa cd A outer s H E0).env.scope.names.lookup u = some .local) (hk : (CxN P w K mg base N y st fa cd A outer s H E0).env.scope.kind = .function) (hln : (py.line == pos.line) = true) (hno : (scope.names.any fun (n, k) => n == u && (k == .local || k == .cell)) = false) :
    PS1 (CxN P w K mg base N y st fa cd A outer s H E0) (.Assign [.Name u py] (.ListComp elt [⟨.Name x tp, src, ifs, 0⟩] scope pos) spos) ρ E :=
  ps1_lcLz j [(x, j)] enc f v hsrc hl List.mem_cons_self ht he rfl hN (blkOk_by (N := N) (sc := defScope st) hb) hA.get hloc hf hs hA2.get hyl (sw_true hk hyl hln hno) h
end
/-- steps and tools so far -/
abbrev PS := List Step × List Int
def planStep (C : Int) (number : Int) (st : PS) (k : Nat) : PS :=
  if mixed number (10 + (k : Int)) % 5 < 2 ∧ maxL st.2 (-1) + 1 < 10 then
    (st.1 ++ [.hold (min 9 (maxL st.2 (-1) + 1 + mixed number (10 + (k : Int)) / 5 % 2 + 5 * (if decide (mixed number (10 + (k : Int)) / 10 % 9 = 1) = true then 1 else 0)))],
     st.2 ++ [min 9 (maxL st.2 (-1) + 1 + mixed number (10 + (k : Int)) / 5 % 2 + 5 * (if decide (mixed number (10 + (k : Int)) / 10 % 9 = 1) = true then 1 else 0))])
  else if mixed number (10 + (k : Int)) % 5 = 2 ∧ st.2 ≠ [] then
    (st.1 ++ [.free (st.2.getD (mixed number (10 + (k : Int)) / 5 % (st.2.length : Int)).toNat 0)], st.2.eraseIdx (mixed number (10 + (k : Int)) / 5 % (st.2.length : Int)).toNat)
  else (st.1 ++ [.work (1 + mixed number (10 + (k : Int)) / 5 % 3 + C * (if decide (mixed number (10 + (k : Int)) / 15 % 40 = 7) = true then 1 else 0))], st.2)
def planDrain (number : Int) : Nat → PS → List Step
  | 0, st => st.1
  | n + 1, st => if st.2 = [] then st.1 else planDrain number n (st.1 ++ [.free (st.2.getD (number / 7 % (st.2.length : Int)).toNat 0)], st.2.eraseIdx (number / 7 % (st.2.length : Int)).toNat)
def planLoop (C number : Int) (n : Nat) : PS := (List.range n).foldl (planStep C number) ([], [])
def planF (C number most : Int) : Plan := planDrain number (planLoop C number (1 + number % most).toNat).2.length (planLoop C number (1 + number % most).toNat)
theorem planLoop_succ (C number : Int) (n : Nat) : planLoop C number (n + 1) = planStep C number (planLoop C number n) n := by
  unfold planLoop
  rw [List.range_succ, List.foldl_append]
  rfl
/-- tools rise -/
def Rising (ts : List Int) : Prop := ts.Pairwise (· < ·)
theorem maxL_all {ts : List Int} {d : Int} {t : Int} (h : t ∈ ts) : t ≤ maxL ts d := by
  cases ts with
  | nil => cases h
  | cons n r =>
    obtain ⟨g1, g2, _⟩ := maxL_ge r n
    rcases List.mem_cons.mp h with rfl | h
    · exact g2
    · exact g1 t h
theorem maxL_ne {ts : List Int} {d : Int} (h : ts ≠ []) : maxL ts d ∈ ts := by
  cases ts with
  | nil => exact absurd rfl h
  | cons n r =>
    obtain ⟨_, _, g3⟩ := maxL_ge r n
    rcases g3 with g3 | g3
    · show r.foldl max n ∈ _
      rw [g3]; exact List.mem_cons_self
    · exact List.mem_cons_of_mem _ g3
/-- what holds of steps and tools so far -/
structure PSok (C : Int) (st : PS) (n : Nat) : Prop where
  len : st.1.length = n
  few : st.2.length ≤ n
  rise : Rising st.2
  low : ∀ t ∈ st.2, 0 ≤ t ∧ t ≤ 9
  tools : toolsAt st.1 st.1.length = st.2
theorem planStep_len (C number : Int) (st : PS) (k : Nat) : (planStep C number st k).1.length = st.1.length + 1 ∧ (planStep C number st k).2.length ≤ st.2.length + 1 := by
  unfold planStep
  split
  · simp
  · split
    · refine ⟨by simp, ?_⟩
      have := List.length_eraseIdx_le st.2 (mixed number (10 + (k : Int)) / 5 % (st.2.length : Int)).toNat
      show (st.2.eraseIdx _).length ≤ _
      omega
    · simp
theorem planLoop_len (C number : Int) : ∀ n, (planLoop C number n).1.length = n ∧ (planLoop C number n).2.length ≤ n
  | 0 => ⟨rfl, Nat.le_refl _⟩
  | n + 1 => by
    have ih := planLoop_len C number n
    have h := planStep_len C number (planLoop C number n) n
    rw [planLoop_succ]
    omega
theorem meI {α β : Type} (f : α → β) : ∀ (xs : List α) (j : Nat), (xs.map f).eraseIdx j = (xs.eraseIdx j).map f
  | [], _ => rfl
  | _ :: _, 0 => rfl
  | x :: xs, j + 1 => by
    show f x :: (xs.map f).eraseIdx j = f x :: (xs.eraseIdx j).map f
    rw [meI f xs j]
def nxt (r : Int) : Int := r % 1000000 + 1
def iter (r : Int) : Nat → Int
  | 0 => r
  | n + 1 => nxt (iter r n)
/-- the first of r, the next one .. that is not yet there -/
def freeFrom (found : List Int) : Nat → Int → Int
  | 0, r => r
  | n + 1, r => if r ∈ found then freeFrom found n (nxt r) else r
def rank0 (number : Int) (k : Nat) : Int := 1 + (if number % 2 = 0 then mixed number (40 + (k : Int)) % 9 else mixed number (40 + (k : Int)) % 1000000)
def ranksF (number : Int) : Nat → List Int
  | 0 => []
  | k + 1 => ranksF number k ++ [freeFrom (ranksF number k) (ranksF number k).length (rank0 number k)]
theorem ranksF_len (number : Int) : ∀ k, (ranksF number k).length = k
  | 0 => rfl
  | k + 1 => by unfold ranksF; rw [List.length_append, ranksF_len number k]; rfl
theorem iter_eq (r : Int) (h : 1 ≤ r ∧ r ≤ 1000000) : ∀ n : Nat, iter r n = (r - 1 + n) % 1000000 + 1
  | 0 => by
    show r = _
    omega
  | n + 1 => by
    show nxt (iter r n) = _
    rw [iter_eq r h n]
    unfold nxt
    omega
/-- more names than places -/
theorem nodup_le : ∀ {xs ys : List Int}, xs.Nodup → (∀ x ∈ xs, x ∈ ys) → xs.length ≤ ys.length
  | [], _, _, _ => Nat.zero_le _
  | x :: xs, ys, hn, hs => by
    have hx := hs x List.mem_cons_self
    have h1 : ∀ z ∈ xs, z ∈ ys.erase x := fun z hz => by
      have hne : z ≠ x := fun e => (List.nodup_cons.mp hn).1 (e ▸ hz)
      exact (List.mem_erase_of_ne hne).mpr (hs z (List.mem_cons_of_mem _ hz))
    have h2 := nodup_le (List.nodup_cons.mp hn).2 h1
    rw [List.length_erase_of_mem hx] at h2
    have h3 : 0 < ys.length := List.length_pos_of_mem hx
    rw [List.length_cons]
    omega
theorem freeFrom_iter (found : List Int) : ∀ (n : Nat) (r : Int), (∃ m, m ≤ n ∧ freeFrom found n r = iter r m ∧ (∀ j, j < m → iter r j ∈ found) ∧ (iter r m ∉ found ∨ m = n))
  | 0, r => ⟨0, Nat.le_refl _, rfl, (fun j h => nomatch h), .inr rfl⟩
  | n + 1, r => by
    unfold freeFrom
    by_cases h : r ∈ found
    · rw [if_pos h]
      obtain ⟨m, h1, h2, h3, h4⟩ := freeFrom_iter found n (nxt r)
      have e : ∀ j, iter (nxt r) j = iter r (j + 1) := by
        intro j
        induction j with
        | zero => rfl
        | succ j ih => show nxt (iter (nxt r) j) = nxt (iter r (j + 1)); rw [ih]
      refine ⟨m + 1, by omega, by rw [h2, e], fun j hj => ?_, ?_⟩
      · cases j with
        | zero => exact h
        | succ j => rw [← e]; exact h3 j (by omega)
      · rcases h4 with h4 | h4
        · left; rw [← e]; exact h4
        · right; omega
    · rw [if_neg h]
      exact ⟨0, Nat.zero_le _, rfl, (fun j h => nomatch h), .inl h⟩
theorem iter_nodup (r : Int) (h : 1 ≤ r ∧ r ≤ 1000000) (n : Nat) (hn : n ≤ 1000) : ((List.range n).map (iter r)).Nodup := by
  rw [List.nodup_iff_pairwise_ne, List.pairwise_map]
  refine List.Pairwise.imp_of_mem (fun {a b} ha hb hab => ?_) (List.nodup_iff_pairwise_ne.mp List.nodup_range)
  have h1 := List.mem_range.mp ha
  have h2 := List.mem_range.mp hb
  rw [iter_eq r h, iter_eq r h]
  omega
/-- it is found in time -/
theorem freeFrom_not (found : List Int) (r : Int) (h : 1 ≤ r ∧ r ≤ 1000000) (hl : found.length ≤ 900) : freeFrom found found.length r ∉ found ∧ 1 ≤ freeFrom found found.length r ∧ freeFrom found found.length r ≤ 1000000 := by
  obtain ⟨m, h1, h2, h3, h4⟩ := freeFrom_iter found found.length r
  have hr : 1 ≤ iter r m ∧ iter r m ≤ 1000000 := by
    rw [iter_eq r h]; omega
  rw [h2]
  refine ⟨?_, hr⟩
  rcases h4 with h4 | h4
  · exact h4
  · intro h5
    have h6 : ∀ x ∈ (List.range (m + 1)).map (iter r), x ∈ found := fun x hx => by
      obtain ⟨j, hj, rfl⟩ := List.mem_map.mp hx
      have hj' := List.mem_range.mp hj
      by_cases e : j = m
      · subst e; exact h5
      · exact h3 j (by omega)
    have h7 := nodup_le (iter_nodup r h (m + 1) (by omega)) h6
    rw [List.length_map, List.length_range] at h7
    omega
theorem rank0_bd (number : Int) (k : Nat) : 1 ≤ rank0 number k ∧ rank0 number k ≤ 1000000 := by
  unfold rank0
  split <;> omega
theorem ranksF_ok (number : Int) : ∀ k, k ≤ 100 → (ranksF number k).Nodup ∧ ∀ r ∈ ranksF number k, 1 ≤ r ∧ r ≤ 1000000
  | 0, _ => ⟨List.nodup_nil, (fun r h => nomatch h)⟩
  | k + 1, h => by
    obtain ⟨h1, h2⟩ := ranksF_ok number k (by omega)
    obtain ⟨h3, h4⟩ := freeFrom_not (ranksF number k) (rank0 number k) (rank0_bd number k) (by rw [ranksF_len]; omega)
    unfold ranksF
    refine ⟨?_, fun r hr => ?_⟩
    · rw [List.nodup_append]
      refine ⟨h1, by simp, fun a ha b hb => ?_⟩
      rw [List.mem_singleton.mp hb]
      exact fun e => h3 (e ▸ ha)
    · rcases List.mem_append.mp hr with hr | hr
      · exact h2 r hr
      · rw [List.mem_singleton.mp hr]; exact h4
def rep (n : Int) (s : Step) : List Step := List.replicate n.toNat s
def ladderF (k many number : Int) : Plan :=
  (if k + 1 < many then
    (if number / 36 % 2 = 1 then
      rep (number / 2 % 2) (.work (1 + number % 2)) ++ [.hold k, .work (1 + number / 4 % 3)] ++ [.hold (k + 1), .work (1 + number / 12 % 3)] ++ [.free (k + 1)] ++ rep (number / 72 % 2) (.work 2) ++ [.free k]
    else
      rep (number / 2 % 2) (.work (1 + number % 2)) ++ [.hold k, .work (1 + number / 4 % 3)] ++ [.hold (k + 1), .work (1 + number / 12 % 3)] ++ [.free k] ++ rep (number / 72 % 2) (.work 1) ++ [.free (k + 1)])
   else rep (number / 2 % 2) (.work (1 + number % 2)) ++ [.hold k, .work (1 + number / 4 % 3)] ++ [.work (1 + number / 12 % 5), .free k]) ++ rep (number / 288 % 2) (.work (1 + number / 144 % 2))

theorem flat_rep {α : Type} (x : α) : ∀ n : Nat, (List.replicate n [x]).flatten = List.replicate n x
  | 0 => rfl
  | n + 1 => by rw [List.replicate_succ, List.flatten_cons, flat_rep x n, List.replicate_succ]; rfl
theorem binR_rep1 {x : D} {i : Int} (h : 0 ≤ i ∧ i ≤ 1000) : BinR .Mult (.lst [x]) (.int i) (.ow (List.replicate i.toNat x)) := by
  have z := BinR.rep (xs := [x]) (i := i) (by simp; omega) (by omega) (by omega)
  rw [flat_rep] at z
  exact z
theorem em2 (a b : Int) (h : 0 < b) : 0 ≤ a % b ∧ a % b < b := ⟨Int.emod_nonneg _ (by omega), Int.emod_lt_of_pos _ h⟩
def insI (x : Int) : List Int → List Int
  | [] => [x]
  | y :: ys => if x ≤ y then x :: y :: ys else y :: insI x ys
def sortI : List Int → List Int
  | [] => []
  | x :: xs => insI x (sortI xs)
theorem insI_perm (x : Int) : ∀ ys, (insI x ys).Perm (x :: ys)
  | [] => List.Perm.refl _
  | y :: ys => by
    unfold insI
    split
    · exact List.Perm.refl _
    · exact ((insI_perm x ys).cons y).trans (List.Perm.swap x y ys)
theorem sortI_perm : ∀ xs, (sortI xs).Perm xs
  | [] => List.Perm.refl _
  | x :: xs => (insI_perm x (sortI xs)).trans ((sortI_perm xs).cons x)
theorem insI_pair (x : Int) : ∀ ys : List Int, ys.Pairwise (· ≤ ·) → (insI x ys).Pairwise (· ≤ ·)
  | [], _ => List.pairwise_singleton _ _
  | y :: ys, h => by
    unfold insI
    have h1 := List.pairwise_cons.mp h
    split
    · rename_i hxy
      refine List.pairwise_cons.mpr ⟨fun z hz => ?_, h⟩
      rcases List.mem_cons.mp hz with rfl | hz
      · exact hxy
      · exact Int.le_trans hxy (h1.1 z hz)
    · rename_i hxy
      refine List.pairwise_cons.mpr ⟨fun z hz => ?_, insI_pair x ys h1.2⟩
      rcases List.mem_cons.mp ((insI_perm x ys).mem_iff.mp hz) with rfl | hz
      · omega
      · exact h1.1 z hz
theorem sortI_pair : ∀ xs : List Int, (sortI xs).Pairwise (· ≤ ·)
  | [] => List.Pairwise.nil
  | x :: xs => insI_pair x _ (sortI_pair xs)
theorem sortI_uniq (xs ys : List Int) (h : ys.Perm xs) (hp : ys.Pairwise (· ≤ ·)) : ys = sortI xs :=
  PySem.W.ksm_same (h.trans (sortI_perm xs).symm) hp (sortI_pair xs)
theorem sortI_len (xs : List Int) : (sortI xs).length = xs.length := (sortI_perm xs).length_eq
def manyI (ns : List Int) : Int := if cellN ns 0 / 5 % 8 = 1 then 1 + cellN ns 0 / 40 % 8 else 1 + cellN ns 0 % 5
def manyF (ns : List Int) : Nat := (manyI ns).toNat
theorem manyF_eq (ns : List Int) : manyI ns = (manyF ns : Int) ∧ 1 ≤ manyF ns ∧ manyF ns ≤ 8 := by
  unfold manyF manyI
  split <;> omega
def degreesF (ns : List Int) : List Int :=
  if cellN ns 1 % 3 = 1 then (sortI (ranksF (mixed (cellN ns 1) 1) (manyF ns))).reverse else ranksF (mixed (cellN ns 1) 1) (manyF ns)
theorem degreesF_len (ns : List Int) : (degreesF ns).length = manyF ns := by
  unfold degreesF
  split
  · rw [List.length_reverse, sortI_len, ranksF_len]
  · rw [ranksF_len]
def numF (ns : List Int) (k : Nat) : Int := mixed (cellN ns (3 + 2 * k)) (80 + (k : Int))
def startF (late : Int) (ns : List Int) (k : Nat) : Int :=
  if cellN ns 1 % 3 = 1 then ((manyF ns : Int) - 1 - (k : Int)) * (1 + cellN ns 1 / 3 % 3) + mixed (cellN ns (2 + 2 * k)) (60 + (k : Int)) % late % 2
  else mixed (cellN ns (2 + 2 * k)) (60 + (k : Int)) % late
def workerF (C most late : Int) (ns : List Int) (k : Nat) : Worker :=
  { rank := (degreesF ns).getD k 0, start := startF late ns k, plan := if cellN ns 1 % 3 = 1 then ladderF (k : Int) (manyF ns : Int) (numF ns k) else planF C (numF ns k) most }
def workersF (C most late : Int) (ns : List Int) : List Worker := (List.range (manyF ns)).map (workerF C most late ns)
theorem workersF_len (C most late : Int) (ns : List Int) : (workersF C most late ns).length = manyF ns := by
  unfold workersF
  rw [List.length_map, List.length_range]
def fitsS (ts : List Int) : Step → Prop
  | .work n => 1 ≤ n ∧ n ≤ 100
  | .hold t => 0 ≤ t ∧ t ≤ 9 ∧ ∀ u ∈ ts, u < t
  | .free t => t ∈ ts
/-- from some tools by some steps to some tools -/
def okPre : List Int → Plan → List Int → Prop
  | ts, [], us => us = ts
  | ts, s :: p, us => fitsS ts s ∧ okPre (toolsBehind ts s) p us
theorem okPre_app {ts us vs : List Int} {p q : Plan} (h : okPre ts p us) (g : okPre us q vs) : okPre ts (p ++ q) vs := by
  induction p generalizing ts with
  | nil =>
    have e : us = ts := h
    subst e
    exact g
  | cons s p ih => exact ⟨h.1, ih h.2⟩
theorem okPre_one {ts : List Int} {s : Step} (h : fitsS ts s) : okPre ts [s] (toolsBehind ts s) := ⟨h, rfl⟩
theorem okPre_tools {ts us : List Int} {p : Plan} (h : okPre ts p us) : p.foldl toolsBehind ts = us := by
  induction p generalizing ts with
  | nil => exact Eq.symm h
  | cons s p ih => exact ih h.2
theorem okPre_split {ts us : List Int} {p q : Plan} (h : okPre ts (p ++ q) us) : ∃ vs, okPre ts p vs ∧ okPre vs q us := by
  induction p generalizing ts with
  | nil => exact ⟨ts, rfl, h⟩
  | cons s p ih =>
    obtain ⟨vs, h1, h2⟩ := ih h.2
    exact ⟨vs, ⟨h.1, h1⟩, h2⟩
/-- tools that rise, from 0 to 9 -/
structure RT (ts : List Int) : Prop where
  rise : Rising ts
  low : ∀ t ∈ ts, 0 ≤ t ∧ t ≤ 9
theorem RT.nil : RT [] := ⟨List.Pairwise.nil, (fun t h => nomatch h)⟩
theorem RT.behind {ts : List Int} {s : Step} (h : RT ts) (f : fitsS ts s) : RT (toolsBehind ts s) := by
  cases s with
  | work n => exact h
  | hold t =>
    refine ⟨?_, fun u hu => ?_⟩
    · show (ts ++ [t]).Pairwise (· < ·)
      rw [List.pairwise_append]
      exact ⟨h.rise, List.pairwise_singleton _ _, fun a ha b hb => by rw [List.mem_singleton.mp hb]; exact f.2.2 a ha⟩
    · rcases List.mem_append.mp hu with hu | hu
      · exact h.low u hu
      · rw [List.mem_singleton.mp hu]; exact ⟨f.1, f.2.1⟩
  | free t => exact ⟨List.Pairwise.filter _ h.rise, fun u hu => h.low u (List.mem_filter.mp hu).1⟩
theorem okPre_RT {ts us : List Int} {p : Plan} (h : okPre ts p us) (r : RT ts) : RT us := by
  induction p generalizing ts with
  | nil =>
    have e : us = ts := h
    subst e
    exact r
  | cons s p ih => exact ih h.2 (r.behind h.1)
theorem RT.nodup {ts : List Int} (h : RT ts) : ts.Nodup := List.nodup_iff_pairwise_ne.mpr (h.rise.imp fun hab => by omega)
theorem RT.len {ts : List Int} (h : RT ts) : ts.length ≤ 10 := by
  have := nodup_le (ys := [0, 1, 2, 3, 4, 5, 6, 7, 8, 9]) h.nodup fun x hx => by
    have := h.low x hx
    simp
    omega
  simpa using this
theorem erase_filter : ∀ {ts : List Int} {t : Int}, ts.Nodup → ts.erase t = ts.filter fun x => !decide (x = t)
  | [], t, _ => rfl
  | x :: xs, t, h => by
    have h' := List.nodup_cons.mp h
    by_cases e : x = t
    · subst e
      rw [List.erase_cons_head, List.filter_cons_of_neg (by simp)]
      refine (List.filter_eq_self.mpr fun a ha => ?_).symm
      have hne : a ≠ x := fun e => h'.1 (e ▸ ha)
      simp [hne]
    · rw [List.erase_cons_tail (by simpa using e), List.filter_cons_of_pos (by simp [e]), erase_filter h'.2]
theorem eraseIdx_filter : ∀ {ts : List Int} {j : Nat}, ts.Nodup → j < ts.length → ts.eraseIdx j = ts.filter fun x => !decide (x = ts.getD j 0)
  | [], j, _, h => nomatch h
  | x :: xs, 0, h, _ => by
    have h' := List.nodup_cons.mp h
    show xs = _
    rw [List.filter_cons_of_neg (by simp)]
    refine (List.filter_eq_self.mpr fun a ha => ?_).symm
    have hne : a ≠ x := fun e => h'.1 (e ▸ ha)
    simp [hne]
  | x :: xs, j + 1, h, hj => by
    have h' := List.nodup_cons.mp h
    have hj' : j < xs.length := by simpa using hj
    have hne : x ≠ xs.getD j 0 := by
      rw [List.getD_eq_getElem?_getD, List.getElem?_eq_getElem hj']
      exact fun e => h'.1 (e ▸ List.getElem_mem hj')
    show x :: xs.eraseIdx j = List.filter (fun y => !decide (y = xs.getD j 0)) (x :: xs)
    rw [List.filter_cons_of_pos (by simpa using hne), eraseIdx_filter h'.2 hj']
theorem getD_mem' {ts : List Int} {j : Nat} (h : j < ts.length) : ts.getD j 0 ∈ ts := by
  rw [List.getD_eq_getElem?_getD, List.getElem?_eq_getElem h]
  exact List.getElem_mem h
/-- how a drawn plan grows -/
theorem planStep_ok {C number : Int} (hC : 0 ≤ C ∧ C ≤ 97) {st : PS} {k : Nat} (h : okPre [] st.1 st.2) : okPre [] (planStep C number st k).1 (planStep C number st k).2 := by
  have r := okPre_RT h RT.nil
  unfold planStep
  split
  · rename_i hc
    refine okPre_app h (okPre_one (s := .hold _) ⟨?_, by omega, fun u hu => ?_⟩)
    · have h1 : -1 ≤ maxL st.2 (-1) := by
        by_cases e : st.2 = []
        · rw [e]; exact Int.le_refl _
        · have := r.low _ (maxL_ne (d := -1) e); omega
      split <;> omega
    · have h1 := maxL_all (d := -1) hu
      have h2 := r.low u hu
      split <;> omega
  · split
    · rename_i hc
      have hpos : 0 < st.2.length := List.length_pos_iff.mpr hc.2
      have hlt : (mixed number (10 + (k : Int)) / 5 % (st.2.length : Int)).toNat < st.2.length := by
        have h1 := Int.emod_nonneg (mixed number (10 + (k : Int)) / 5) (show (st.2.length : Int) ≠ 0 by omega)
        have h2 := Int.emod_lt_of_pos (mixed number (10 + (k : Int)) / 5) (show (0 : Int) < st.2.length by omega)
        omega
      have z := okPre_app h (okPre_one (s := .free (st.2.getD (mixed number (10 + (k : Int)) / 5 % (st.2.length : Int)).toNat 0)) (getD_mem' hlt))
      show okPre [] _ (st.2.eraseIdx _)
      rw [eraseIdx_filter r.nodup hlt]
      exact z
    · refine okPre_app h (okPre_one (s := .work _) ⟨?_, ?_⟩)
      · split <;> omega
      · split <;> omega
theorem planLoop_ok {C number : Int} (hC : 0 ≤ C ∧ C ≤ 97) : ∀ n, okPre [] (planLoop C number n).1 (planLoop C number n).2
  | 0 => rfl
  | n + 1 => by
    rw [planLoop_succ]
    exact planStep_ok hC (planLoop_ok hC n)
theorem planDrain_ok {number : Int} : ∀ (n : Nat) {st : PS}, okPre [] st.1 st.2 → st.2.length = n → okPre [] (planDrain number n st) [] ∧ (planDrain number n st).length = st.1.length + n
  | 0, st, h, hn => by
    have e := List.eq_nil_of_length_eq_zero hn
    rw [e] at h
    exact ⟨h, rfl⟩
  | n + 1, st, h, hn => by
    have r := okPre_RT h RT.nil
    have hne : st.2 ≠ [] := fun e => by rw [e] at hn; cases hn
    have hlt : (number / 7 % (st.2.length : Int)).toNat < st.2.length := by
      have h1 := Int.emod_nonneg (number / 7) (show (st.2.length : Int) ≠ 0 by omega)
      have h2 := Int.emod_lt_of_pos (number / 7) (show (0 : Int) < st.2.length by omega)
      omega
    have z := okPre_app h (okPre_one (s := .free (st.2.getD (number / 7 % (st.2.length : Int)).toNat 0)) (getD_mem' hlt))
    have e : planDrain number (n + 1) st = planDrain number n (st.1 ++ [.free (st.2.getD (number / 7 % (st.2.length : Int)).toNat 0)], st.2.eraseIdx (number / 7 % (st.2.length : Int)).toNat) := if_neg hne
    rw [e]
    obtain ⟨h1, h2⟩ := planDrain_ok (number := number) n (st := (st.1 ++ [.free (st.2.getD (number / 7 % (st.2.length : Int)).toNat 0)], st.2.eraseIdx (number / 7 % (st.2.length : Int)).toNat)) (by
      show okPre [] _ (st.2.eraseIdx _)
      rw [eraseIdx_filter r.nodup hlt]
      exact z) (by
      show (st.2.eraseIdx _).length = n
      rw [List.length_eraseIdx_of_lt hlt]; omega)
    refine ⟨h1, ?_⟩
    rw [h2, List.length_append]
    simp
    omega
/-- a plan that is right -/
structure PlanOk (p : Plan) : Prop where
  ok : okPre [] p []
  len1 : 1 ≤ p.length
  len : p.length ≤ 40
theorem planF_ok {C number most : Int} (hC : 0 ≤ C ∧ C ≤ 97) (hm : 0 < most ∧ most ≤ 20) : PlanOk (planF C number most) := by
  have q1 := Int.emod_nonneg number (show most ≠ 0 by omega)
  have q2 := Int.emod_lt_of_pos number hm.1
  have h := planLoop_ok (number := number) hC (1 + number % most).toNat
  have hl := planLoop_len C number (1 + number % most).toNat
  have r := okPre_RT h RT.nil
  obtain ⟨h1, h2⟩ := planDrain_ok (number := number) _ h rfl
  have := r.len
  exact ⟨h1, by unfold planF; rw [h2]; omega, by unfold planF; rw [h2]; omega⟩
theorem okPre_rep {ts : List Int} {n : Int} (h : 1 ≤ n ∧ n ≤ 100) : ∀ m : Nat, okPre ts (List.replicate m (.work n)) ts
  | 0 => rfl
  | m + 1 => ⟨h, okPre_rep h m⟩
theorem ladderF_ok {k many number : Int} (hk : 0 ≤ k ∧ k < many ∧ many ≤ 8) : PlanOk (ladderF k many number) := by
  have b1 := em2 (number / 2) 2 (by decide)
  have b2 := em2 (number / 72) 2 (by decide)
  have b3 := em2 (number / 288) 2 (by decide)
  have w1 : ∀ (ts : List Int) a b, (1 ≤ a ∧ a ≤ 100) → okPre ts (rep b (.work a)) ts := fun ts a b h => okPre_rep h _
  have hk1 : fitsS [] (.hold k) := ⟨hk.1, by omega, (fun u h => nomatch h)⟩
  have hw : ∀ (ts : List Int) a, (1 ≤ a ∧ a ≤ 100) → okPre ts [.work a] ts := fun ts a h => ⟨h, rfl⟩
  have hne : ¬ (k = k + 1) := by omega
  have start : okPre [] (rep (number / 2 % 2) (.work (1 + number % 2)) ++ [.hold k, .work (1 + number / 4 % 3)]) [k] :=
    okPre_app (w1 _ _ _ (by omega)) ⟨hk1, ⟨by omega, by omega⟩, rfl⟩
  have fin : ∀ p, okPre [] p [] → okPre [] (p ++ rep (number / 288 % 2) (.work (1 + number / 144 % 2))) [] := fun p h => okPre_app h (w1 _ _ _ (by omega))
  refine ⟨?_, ?_, ?_⟩
  · unfold ladderF
    refine fin _ ?_
    split
    · have mid : okPre [] (rep (number / 2 % 2) (.work (1 + number % 2)) ++ [.hold k, .work (1 + number / 4 % 3)] ++ [.hold (k + 1), .work (1 + number / 12 % 3)]) [k, k + 1] :=
        okPre_app start ⟨⟨by omega, by omega, fun u hu => by rw [List.mem_singleton.mp hu]; omega⟩, ⟨by omega, by omega⟩, rfl⟩
      split
      · refine okPre_app (okPre_app (okPre_app mid (us := [k, k + 1]) (vs := [k]) ?_) (w1 _ _ _ (by omega))) ?_
        · refine ⟨by show k + 1 ∈ [k, k + 1]; simp, ?_⟩
          show ([k] : List Int) = [k, k + 1].filter fun x => !decide (x = k + 1)
          simp [hne]
        · refine ⟨by show k ∈ [k]; simp, ?_⟩
          show ([] : List Int) = [k].filter fun x => !decide (x = k)
          simp
      · refine okPre_app (okPre_app (okPre_app mid (us := [k, k + 1]) (vs := [k + 1]) ?_) (w1 _ _ _ (by omega))) ?_
        · refine ⟨by show k ∈ [k, k + 1]; simp, ?_⟩
          show ([k + 1] : List Int) = [k, k + 1].filter fun x => !decide (x = k)
          have : ¬ (k + 1 = k) := by omega
          simp [this]
        · refine ⟨by show k + 1 ∈ [k + 1]; simp, ?_⟩
          show ([] : List Int) = [k + 1].filter fun x => !decide (x = k + 1)
          simp
    · refine okPre_app start ⟨⟨by omega, by omega⟩, by show k ∈ [k]; simp, ?_⟩
      show ([] : List Int) = [k].filter fun x => !decide (x = k)
      simp
  · unfold ladderF
    split
    · split <;> simp [rep] <;> omega
    · simp [rep]; omega
  · unfold ladderF
    split
    · split <;> simp [rep] <;> omega
    · simp [rep]; omega
theorem PlanOk.split {p : Plan} (h : PlanOk p) (n : Nat) : okPre [] (p.take n) (toolsAt p n) ∧ okPre (toolsAt p n) (p.drop n) [] := by
  have h1 := h.ok
  rw [← List.take_append_drop n p] at h1
  obtain ⟨vs, h2, h3⟩ := okPre_split h1
  have e : toolsAt p n = vs := okPre_tools h2
  rw [e]
  exact ⟨h2, h3⟩
theorem PlanOk.RT {p : Plan} (h : PlanOk p) (n : Nat) : RT (toolsAt p n) := okPre_RT (h.split n).1 RT.nil
theorem PlanOk.fits {p : Plan} (h : PlanOk p) {n : Nat} {s : Step} (e : p[n]? = some s) : fitsS (toolsAt p n) s := by
  have h1 := (h.split n).2
  have hn : n < p.length := (List.getElem?_eq_some_iff.mp e).1
  rw [List.drop_eq_getElem_cons hn] at h1
  have e2 : p[n] = s := (List.getElem?_eq_some_iff.mp e).2
  rw [e2] at h1
  exact h1.1
/-- how many frees stand next -/
def skipL : Plan → Nat
  | [] => 0
  | s :: p => if isFree s = true then skipL p + 1 else 0
theorem skipL_yes {s : Step} {p : Plan} (h : isFree s = true) : skipL (s :: p) = skipL p + 1 := if_pos h
theorem skipL_no {s : Step} {p : Plan} (h : isFree s = false) : skipL (s :: p) = 0 := if_neg (by rw [h]; decide)
def skipF (p : Plan) (n : Nat) : Nat := n + skipL (p.drop n)
theorem skipF_yes {p : Plan} {n : Nat} {s : Step} (h : p[n]? = some s) (hf : isFree s = true) : skipF p n = skipF p (n + 1) := by
  have hn : n < p.length := (List.getElem?_eq_some_iff.mp h).1
  have e2 : p[n] = s := (List.getElem?_eq_some_iff.mp h).2
  unfold skipF
  rw [List.drop_eq_getElem_cons hn, e2, skipL_yes hf]
  omega
theorem skipF_no {p : Plan} {n : Nat} {s : Step} (h : p[n]? = some s) (hf : isFree s = false) : skipF p n = n := by
  have hn : n < p.length := (List.getElem?_eq_some_iff.mp h).1
  have e2 : p[n] = s := (List.getElem?_eq_some_iff.mp h).2
  unfold skipF
  rw [List.drop_eq_getElem_cons hn, e2, skipL_no hf]
  rfl
theorem skipF_end {p : Plan} {n : Nat} (h : p.length ≤ n) : skipF p n = n := by
  unfold skipF
  rw [List.drop_of_length_le h]
  rfl
theorem skipL_le : ∀ p : Plan, skipL p ≤ p.length
  | [] => Nat.le_refl _
  | s :: p => by
    unfold skipL
    have := skipL_le p
    split
    · rw [List.length_cons]; omega
    · exact Nat.zero_le _
theorem skipF_le {p : Plan} {n : Nat} (h : n ≤ p.length) : n ≤ skipF p n ∧ skipF p n ≤ p.length := by
  have := skipL_le (p.drop n)
  rw [List.length_drop] at this
  unfold skipF
  omega
theorem skipL_at : ∀ (p : Plan) (s : Step), p[skipL p]? = some s → isFree s = false
  | [], s, h => by simp at h
  | a :: p, s, h => by
    unfold skipL at h
    split at h
    · exact skipL_at p s (by simpa using h)
    · rename_i hf
      simp at h
      subst h
      simpa using hf
theorem skipF_at {p : Plan} {n : Nat} {s : Step} (h : p[skipF p n]? = some s) : isFree s = false := by
  refine skipL_at (p.drop n) s ?_
  rw [List.getElem?_drop]
  exact h
def holdsL (p : Plan) : List Nat := (List.range p.length).filter fun i => match p[i]? with | some s => isHold s | none => false
def firstF (p : Plan) (number : Int) : Nat :=
  if number / 997 % 2 = 1 ∧ holdsL p ≠ [] then (holdsL p).getLastD 0 else (number % ((p.length : Int) + 1)).toNat
theorem firstF_le (p : Plan) (number : Int) : firstF p number ≤ p.length := by
  unfold firstF
  split
  · rename_i h
    cases e : (holdsL p).getLast? with
    | none => exact absurd (List.getLast?_eq_none_iff.mp e) h.2
    | some x =>
      rw [List.getLastD_eq_getLast?, e]
      have := List.mem_of_getLast? e
      unfold holdsL at this
      have := List.mem_range.mp (List.mem_filter.mp this).1
      show x ≤ _
      omega
  · have h1 := Int.emod_nonneg number (show (p.length : Int) + 1 ≠ 0 by omega)
    have h2 := Int.emod_lt_of_pos number (show (0 : Int) < (p.length : Int) + 1 by omega)
    omega
def placeF (p : Plan) (number : Int) : Nat := skipF p (firstF p number)
theorem placeF_le (p : Plan) (number : Int) : placeF p number ≤ p.length := (skipF_le (firstF_le p number)).2
def clash (ts taken : List Int) : Bool := ts.any fun t => decide (t ∈ taken)
def goneF (p : Plan) (number : Int) (n : Nat) : Int := match p[n]? with
  | some (.work m) => number / 41 % m
  | _ => 0
def spotF (p : Plan) (number : Int) (taken : List Int) : Spot × List Int :=
  if clash (toolsAt p (placeF p number)) taken = true then (⟨0, 0⟩, taken)
  else (⟨placeF p number, goneF p number (placeF p number)⟩, taken ++ toolsAt p (placeF p number))
/-- a spot that is right for a plan -/
structure SpotOk (p : Plan) (s : Spot) : Prop where
  le : s.place ≤ p.length
  nofree : ∀ st, p[s.place]? = some st → isFree st = false
  gone0 : 0 ≤ s.gone
  gone : ∀ n, p[s.place]? = some (.work n) → s.gone < n
  goneZ : (∀ n, p[s.place]? ≠ some (.work n)) → s.gone = 0
theorem SpotOk.zero {p : Plan} (h : PlanOk p) : SpotOk p ⟨0, 0⟩ where
  le := Nat.zero_le _
  nofree := fun st e => by
    have := h.fits e
    cases st with
    | free t => exact absurd this (fun z => nomatch z)
    | work n => rfl
    | hold n => rfl
  gone0 := Int.le_refl _
  gone := fun n e => by
    have : 1 ≤ n ∧ n ≤ 100 := h.fits e
    show 0 < n
    omega
  goneZ := fun _ => rfl
theorem spotF_ok {p : Plan} (h : PlanOk p) (number : Int) (taken : List Int) : SpotOk p (spotF p number taken).1 := by
  unfold spotF
  split
  · exact .zero h
  · refine ⟨placeF_le p number, fun st e => skipF_at e, ?_, fun n e => ?_, fun e => ?_⟩
    · show 0 ≤ goneF _ _ _
      unfold goneF
      split
      · rename_i m e
        have : 1 ≤ m ∧ m ≤ 100 := h.fits e
        exact Int.emod_nonneg _ (by omega)
      · exact Int.le_refl _
    · show goneF _ _ _ < n
      unfold goneF
      rw [show p[placeF p number]? = some (.work n) from e]
      have : 1 ≤ n ∧ n ≤ 100 := h.fits e
      exact Int.emod_lt_of_pos _ (by omega)
    · show goneF _ _ _ = 0
      unfold goneF
      split
      · rename_i m e2
        exact absurd e2 (e m)
      · rfl
/-- the spots of workers one by one, and the tools taken by them -/
def nowF (ns : List Int) : Int := cellN ns 18 % 12
def drawS (ns : List Int) (k : Nat) : Int := mixed (cellN ns (19 + k)) (20 + (k : Int))
def spotStep (now : Int) (ns : List Int) (st : List Spot × List Int) (k : Nat) (w : Worker) : List Spot × List Int :=
  if w.start ≤ now then (st.1 ++ [(spotF w.plan (drawS ns k) st.2).1], (spotF w.plan (drawS ns k) st.2).2) else (st.1 ++ [⟨0, 0⟩], st.2)
def spotsL (now : Int) (ns : List Int) (ws : List Worker) : Nat → List Spot × List Int
  | 0 => ([], [])
  | n + 1 => match ws[n]? with
    | some w => spotStep now ns (spotsL now ns ws n) n w
    | none => spotsL now ns ws n
def shopF (C most : Int) (ns : List Int) : Shop := ⟨workersF C most 9 ns, nowF ns, (spotsL (nowF ns) ns (workersF C most 9 ns) (manyF ns)).1⟩
theorem spotsL_succ {now : Int} {ns : List Int} {ws : List Worker} {n : Nat} {w : Worker} (h : ws[n]? = some w) : spotsL now ns ws (n + 1) = spotStep now ns (spotsL now ns ws n) n w := by
  show (match ws[n]? with | some w => _ | none => _) = _
  rw [h]
/-- tools are with one worker alone -/
def Apart (s : Shop) : Prop := ∀ (i j : Nat) (t : Int), t ∈ toolsOf s i → t ∈ toolsOf s j → i = j
structure ShopOk (s : Shop) : Prop where
  len : s.sp.length = s.ws.length
  many1 : 1 ≤ s.ws.length
  many : s.ws.length ≤ 8
  plans : ∀ (k : Nat) (w : Worker), s.ws[k]? = some w → PlanOk w.plan
  ranks : (s.ws.map (·.rank)).Nodup
  rank : ∀ (k : Nat) (w : Worker), s.ws[k]? = some w → 1 ≤ w.rank ∧ w.rank ≤ 1000000
  start : ∀ (k : Nat) (w : Worker), s.ws[k]? = some w → 0 ≤ w.start ∧ w.start ≤ 1000
  spots : ∀ (k : Nat) (w : Worker) (p : Spot), s.ws[k]? = some w → s.sp[k]? = some p → SpotOk w.plan p
  early : ∀ (k : Nat) (w : Worker) (p : Spot), s.ws[k]? = some w → s.sp[k]? = some p → s.now < w.start → p = ⟨0, 0⟩
  apart : Apart s
  now0 : 0 ≤ s.now
theorem ShopOk.siz {s : Shop} (h : ShopOk s) : Siz s where
  len := h.len
  many := by have := h.many; omega
  plans := fun w hw => by
    obtain ⟨k, hk, e⟩ := List.getElem_of_mem hw
    have := (h.plans k w (by rw [← e]; exact List.getElem?_eq_getElem hk)).len
    omega
  places := fun k w p e1 e2 => (h.spots k w p e1 e2).le

theorem spotsL_len (now : Int) (ns : List Int) (ws : List Worker) : ∀ n, n ≤ ws.length → (spotsL now ns ws n).1.length = n
  | 0, _ => rfl
  | n + 1, h => by
    have e : ws[n]? = some ws[n] := List.getElem?_eq_getElem (by omega)
    rw [spotsL_succ e]
    have ih := spotsL_len now ns ws n (by omega)
    unfold spotStep
    split <;> rw [List.length_append, ih] <;> rfl
theorem toolsAt_zero (p : Plan) : toolsAt p 0 = [] := rfl
/-- the tools of the spots: apart, all among the taken ones -/
theorem spotF_tools (p : Plan) (number : Int) (taken : List Int) : (∀ t ∈ toolsAt p (spotF p number taken).1.place, t ∉ taken) ∧ (∀ t, t ∈ (spotF p number taken).2 ↔ t ∈ taken ∨ t ∈ toolsAt p (spotF p number taken).1.place) := by
  unfold spotF
  split
  · refine ⟨fun t h => ?_, fun t => ?_⟩
    · rw [toolsAt_zero] at h; exact nomatch h
    · rw [toolsAt_zero]; simp
  · rename_i hc
    refine ⟨fun t h ht => hc ?_, fun t => List.mem_append⟩
    unfold clash
    rw [List.any_eq_true]
    exact ⟨t, h, decide_eq_true ht⟩
def toolsSp (ws : List Worker) (sp : List Spot) (k : Nat) : List Int := match ws[k]?, sp[k]? with
  | some w, some p => toolsAt w.plan p.place
  | _, _ => []
structure SpL (now : Int) (ws : List Worker) (sp : List Spot) (taken : List Int) : Prop where
  apart : ∀ (i j : Nat) (t : Int), t ∈ toolsSp ws sp i → t ∈ toolsSp ws sp j → i = j
  all : ∀ (i : Nat) (t : Int), t ∈ toolsSp ws sp i → t ∈ taken
  ok : ∀ (k : Nat) (w : Worker) (p : Spot), ws[k]? = some w → sp[k]? = some p → SpotOk w.plan p
  early : ∀ (k : Nat) (w : Worker) (p : Spot), ws[k]? = some w → sp[k]? = some p → now < w.start → p = ⟨0, 0⟩
theorem getElem?_snoc {α : Type} {xs : List α} {x : α} {i : Nat} {y : α} (h : (xs ++ [x])[i]? = some y) : xs[i]? = some y ∨ (i = xs.length ∧ y = x) := by
  by_cases hi : i < xs.length
  · rw [List.getElem?_append_left hi] at h; exact .inl h
  · rw [List.getElem?_append_right (by omega)] at h
    cases q : i - xs.length with
    | zero => rw [q] at h; cases h; exact .inr ⟨by omega, rfl⟩
    | succ n => rw [q] at h; simp at h
theorem spotsL_ok {now : Int} {ns : List Int} {ws : List Worker} (hp : ∀ (k : Nat) (w : Worker), ws[k]? = some w → PlanOk w.plan) : ∀ n, n ≤ ws.length → SpL now ws (spotsL now ns ws n).1 (spotsL now ns ws n).2
  | 0, _ => by
    have z : ∀ i t, ¬ t ∈ toolsSp ws [] i := fun i t h => by
      unfold toolsSp at h
      split at h
      · rename_i e; simp at e
      · exact nomatch h
    exact ⟨fun i j t h => absurd h (z i t), fun i t h => absurd h (z i t), (fun k w p _ h => by simp [spotsL] at h), (fun k w p _ h => by simp [spotsL] at h)⟩
  | n + 1, h => by
    have e : ws[n]? = some ws[n] := List.getElem?_eq_getElem (by omega)
    rw [spotsL_succ e]
    have ih := spotsL_ok (now := now) (ns := ns) hp n (by omega)
    have hl := spotsL_len now ns ws n (by omega)
    generalize spotsL now ns ws n = st at ih hl
    -- what a new spot must be
    have key : ∀ (p : Spot) (tk : List Int), SpotOk (ws[n]).plan p → (now < (ws[n]).start → p = ⟨0, 0⟩) → (∀ t ∈ toolsAt (ws[n]).plan p.place, t ∉ st.2) → (∀ t, t ∈ tk ↔ t ∈ st.2 ∨ t ∈ toolsAt (ws[n]).plan p.place) → SpL now ws (st.1 ++ [p]) tk := fun p tk h1 h2 h3 h4 => by
      have tools : ∀ i t, t ∈ toolsSp ws (st.1 ++ [p]) i → (t ∈ toolsSp ws st.1 i) ∨ (i = n ∧ t ∈ toolsAt (ws[n]).plan p.place) := fun i t h => by
        unfold toolsSp at h
        split at h
        · rename_i w p' e1 e2
          rcases getElem?_snoc e2 with e2 | ⟨e2, e3⟩
          · left
            unfold toolsSp
            rw [e1, e2]
            exact h
          · right
            have ei : i = n := by omega
            subst ei
            rw [e] at e1
            cases e1
            subst e3
            exact ⟨rfl, h⟩
        · exact nomatch h
      refine ⟨fun i j t a b => ?_, fun i t a => ?_, fun k w q e1 e2 => ?_, fun k w q e1 e2 e3 => ?_⟩
      · rcases tools i t a with a | ⟨a1, a2⟩
        · rcases tools j t b with b | ⟨b1, b2⟩
          · exact ih.apart i j t a b
          · exact absurd (ih.all i t a) (h3 t b2)
        · rcases tools j t b with b | ⟨b1, b2⟩
          · exact absurd (ih.all j t b) (h3 t a2)
          · omega
      · rw [h4]
        rcases tools i t a with a | ⟨_, a⟩
        · exact .inl (ih.all i t a)
        · exact .inr a
      · rcases getElem?_snoc e2 with e2 | ⟨e2, e3⟩
        · exact ih.ok k w q e1 e2
        · have ek : k = n := by omega
          subst ek
          rw [e] at e1
          cases e1
          rw [e3]
          exact h1
      · rcases getElem?_snoc e2 with e2 | ⟨e2, e4⟩
        · exact ih.early k w q e1 e2 e3
        · have ek : k = n := by omega
          subst ek
          rw [e] at e1
          cases e1
          rw [e4]
          exact h2 e3
    unfold spotStep
    split
    · rename_i hs
      obtain ⟨z1, z2⟩ := spotF_tools (ws[n]).plan (drawS ns n) st.2
      exact key _ _ (spotF_ok (hp n _ e) _ _) (fun z => by omega) z1 z2
    · refine key _ _ (.zero (hp n _ e)) (fun _ => rfl) (fun t h => ?_) (fun t => ?_)
      · rw [toolsAt_zero] at h; exact nomatch h
      · rw [toolsAt_zero]; simp
theorem degreesF_ok (ns : List Int) : (degreesF ns).Nodup ∧ ∀ r ∈ degreesF ns, 1 ≤ r ∧ r ≤ 1000000 := by
  obtain ⟨_, _, h8⟩ := manyF_eq ns
  obtain ⟨h1, h2⟩ := ranksF_ok (mixed (cellN ns 1) 1) (manyF ns) (by omega)
  unfold degreesF
  split
  · refine ⟨?_, fun r hr => h2 r ((sortI_perm _).mem_iff.mp (List.mem_reverse.mp hr))⟩
    exact ((List.reverse_perm _).trans (sortI_perm _)).nodup_iff.mpr h1
  · exact ⟨h1, h2⟩
theorem workersF_at {C most late : Int} {ns : List Int} {k : Nat} {w : Worker} (h : (workersF C most late ns)[k]? = some w) : k < manyF ns ∧ w = workerF C most late ns k := by
  unfold workersF at h
  rw [List.getElem?_map] at h
  cases q : (List.range (manyF ns))[k]? with
  | none => rw [q] at h; cases h
  | some j =>
    rw [q] at h
    obtain ⟨h1, h2⟩ := List.getElem?_eq_some_iff.mp q
    rw [List.getElem_range] at h2
    rw [List.length_range] at h1
    subst h2
    exact ⟨h1, (Option.some.inj h).symm⟩
theorem workersF_rank (C most late : Int) (ns : List Int) : (workersF C most late ns).map (·.rank) = degreesF ns := by
  apply List.ext_getElem
  · rw [List.length_map, workersF_len, degreesF_len]
  · intro i h1 h2
    have e : (workersF C most late ns)[i]'(by rw [List.length_map] at h1; exact h1) = workerF C most late ns i := by
      simp [workersF]
    rw [List.getElem_map, e]
    show (degreesF ns).getD i 0 = _
    rw [List.getD_eq_getElem?_getD, List.getElem?_eq_getElem h2]
    rfl
theorem startF_bd {late : Int} {ns : List Int} {k : Nat} (hl : 0 < late ∧ late ≤ 1001) (hk : k < manyF ns) : 0 ≤ startF late ns k ∧ startF late ns k ≤ 1000 := by
  obtain ⟨_, _, h8⟩ := manyF_eq ns
  unfold startF
  split
  · have b1 := em2 (cellN ns 1 / 3) 3 (by decide)
    have b2 := em2 (mixed (cellN ns (2 + 2 * k)) (60 + (k : Int)) % late) 2 (by decide)
    have h1 : (0 : Int) ≤ (manyF ns : Int) - 1 - (k : Int) := by omega
    have h2 : (manyF ns : Int) - 1 - (k : Int) ≤ 7 := by omega
    generalize (manyF ns : Int) - 1 - (k : Int) = a at h1 h2
    generalize cellN ns 1 / 3 % 3 = b at b1
    have m1 : 0 ≤ a * (1 + b) := Int.mul_nonneg h1 (by omega)
    have m2 : a * (1 + b) ≤ 7 * 3 := Int.mul_le_mul h2 (by omega) (by omega) (by omega)
    omega
  · have b := em2 (mixed (cellN ns (2 + 2 * k)) (60 + (k : Int))) late hl.1
    omega
theorem workerF_ok {C most late : Int} {ns : List Int} {k : Nat} (hC : 0 ≤ C ∧ C ≤ 97) (hm : 0 < most ∧ most ≤ 20) (hk : k < manyF ns) : PlanOk (workerF C most late ns k).plan := by
  obtain ⟨_, _, h8⟩ := manyF_eq ns
  show PlanOk (if cellN ns 1 % 3 = 1 then _ else _)
  split
  · exact ladderF_ok ⟨by omega, by omega, by omega⟩
  · exact planF_ok hC hm
theorem shopF_ok {C most : Int} {ns : List Int} (hC : 0 ≤ C ∧ C ≤ 97) (hm : 0 < most ∧ most ≤ 20) : ShopOk (shopF C most ns) := by
  obtain ⟨_, h1, h8⟩ := manyF_eq ns
  have hp : ∀ (k : Nat) (w : Worker), (workersF C most 9 ns)[k]? = some w → PlanOk w.plan := fun k w e => by
    obtain ⟨a, b⟩ := workersF_at e
    rw [b]
    exact workerF_ok hC hm a
  have hl := workersF_len C most 9 ns
  have z := spotsL_ok (now := nowF ns) (ns := ns) hp (manyF ns) (by omega)
  have d := degreesF_ok ns
  refine ⟨?_, ?_, ?_, hp, ?_, fun k w e => ?_, fun k w e => ?_, z.ok, z.early, z.apart, ?_⟩
  · show (spotsL _ _ _ _).1.length = (workersF C most 9 ns).length
    rw [spotsL_len _ _ _ _ (by omega), hl]
  · show 1 ≤ (workersF C most 9 ns).length
    omega
  · show (workersF C most 9 ns).length ≤ 8
    omega
  · show ((workersF C most 9 ns).map (·.rank)).Nodup
    rw [workersF_rank]
    exact d.1
  · refine d.2 _ ?_
    rw [← workersF_rank C most 9 ns]
    exact List.mem_map.mpr ⟨w, List.mem_of_getElem? e, rfl⟩
  · obtain ⟨a, b⟩ := workersF_at e
    rw [b]
    exact startF_bd (by omega) a
  · exact Int.emod_nonneg _ (by decide)
theorem getI_put (d : List (Int × Int)) (a b c : Int) : getI (putI d a b) c = if c = a then some b else getI d c := by
  unfold putI
  split
  · rename_i h
    induction d with
    | nil => exact absurd h (by simp)
    | cons p r ih =>
      rw [List.map_cons]
      unfold getI
      rw [List.find?_cons, List.find?_cons]
      by_cases hp : p.1 = a
      · rw [if_pos hp]
        by_cases hc : c = a
        · subst hc
          rw [if_pos rfl]
          show (match decide (p.1 = c) with | true => _ | false => _ : Option (Int × Int)).map _ = _
          rw [decide_eq_true hp]
          rfl
        · rw [if_neg hc]
          have hpc : ¬ p.1 = c := fun e => hc (e ▸ hp)
          show (match decide (p.1 = c) with | true => _ | false => _ : Option (Int × Int)).map _ = (match decide (p.1 = c) with | true => _ | false => _ : Option (Int × Int)).map _
          rw [decide_eq_false hpc]
          show getI (r.map _) c = getI r c
          by_cases hr : (r.any fun kv => decide (kv.1 = a)) = true
          · rw [ih hr, if_neg hc]
          · unfold getI
            congr 1
            have e : r.map (fun kv => if kv.1 = a then (kv.1, b) else kv) = r := by
              refine (List.map_congr_left fun x hx => ?_).trans (List.map_id _)
              rw [if_neg]
              · rfl
              · intro e
                exact hr (List.any_eq_true.mpr ⟨x, hx, decide_eq_true e⟩)
            rw [e]
      · rw [if_neg hp]
        have hr : (r.any fun kv => decide (kv.1 = a)) = true := by
          rw [List.any_cons, decide_eq_false hp, Bool.false_or] at h
          exact h
        cases hk : decide (p.1 = c) with
        | true =>
          have e := of_decide_eq_true hk
          rw [if_neg (fun e2 => hp (e.trans e2))]
        | false => exact ih hr
  · rename_i h
    unfold getI
    rw [List.find?_append]
    have h1 : ∀ e : c = a, d.find? (fun kv => decide (kv.1 = c)) = none := fun e => by
      rw [List.find?_eq_none]
      intro x hx hd
      exact h (List.any_eq_true.mpr ⟨x, hx, by rw [← e]; exact hd⟩)
    by_cases hc : c = a
    · rw [if_pos hc, h1 hc, hc]
      simp
    · rw [if_neg hc]
      have hc' : ¬ a = c := fun e => hc e.symm
      simp [hc']
theorem getI_puts (k : Int) (c : Int) : ∀ (ts : List Int) (d : List (Int × Int)), getI (ts.foldl (fun d t => putI d t k) d) c = if c ∈ ts then some k else getI d c
  | [], d => (if_neg (by simp)).symm
  | t :: ts, d => by
    rw [List.foldl_cons, getI_puts k c ts, getI_put]
    by_cases h1 : c ∈ ts
    · rw [if_pos h1, if_pos (List.mem_cons_of_mem _ h1)]
    · rw [if_neg h1]
      by_cases h2 : c = t
      · rw [if_pos h2, if_pos (by rw [h2]; exact List.mem_cons_self)]
      · rw [if_neg h2, if_neg]
        intro h
        rcases List.mem_cons.mp h with h | h
        · exact h2 h
        · exact h1 h
/-- the holder of a tool -/
theorem heldN_at {s : Shop} (ha : Apart s) (t : Int) : ∀ n, (∃ i, i < n ∧ t ∈ toolsOf s i ∧ getI (heldN s n) t = some (i : Int)) ∨ ((∀ i, i < n → t ∉ toolsOf s i) ∧ getI (heldN s n) t = none)
  | 0 => .inr ⟨(fun i h => nomatch h), rfl⟩
  | n + 1 => by
    unfold heldN
    rw [getI_puts]
    by_cases h : t ∈ toolsOf s n
    · rw [if_pos h]; exact .inl ⟨n, by omega, h, rfl⟩
    · rw [if_neg h]
      rcases heldN_at ha t n with ⟨i, h1, h2, h3⟩ | ⟨h1, h2⟩
      · exact .inl ⟨i, by omega, h2, h3⟩
      · refine .inr ⟨fun i hi => ?_, h2⟩
        by_cases e : i = n
        · rw [e]; exact h
        · exact h1 i (by omega)
/-- for whom one waits, as the law looks for it -/
def afterF (s : Shop) (k : Nat) : Option Nat :=
  if there s k = true then match stepAt s k with
    | some (.hold t) => (List.range s.ws.length).find? fun i => decide (t ∈ toolsOf s i)
    | _ => none
  else none
theorem afterF_lt {s : Shop} {k j : Nat} (h : afterF s k = some j) : j < s.ws.length := by
  unfold afterF at h
  split at h
  · split at h
    · exact List.mem_range.mp (List.mem_of_find?_eq_some h)
    · cases h
  · cases h
def optN : Option Nat → Option Int
  | none => none
  | some k => some (k : Int)
theorem wait_eq {s : Shop} (ha : Apart s) (k : Nat) : waitFor s k = optN (afterF s k) := by
  unfold waitFor afterF
  by_cases ht : there s k = true
  · rw [if_pos ht, if_pos ht]
    cases e : stepAt s k with
    | none => rfl
    | some st =>
      cases st with
      | work t => rfl
      | free t => rfl
      | hold t =>
        show getI (heldN s s.ws.length) t = optN ((List.range s.ws.length).find? fun i => decide (t ∈ toolsOf s i))
        rcases heldN_at ha t s.ws.length with ⟨i, h1, h2, h3⟩ | ⟨h1, h2⟩
        · rw [h3]
          cases q : (List.range s.ws.length).find? fun i => decide (t ∈ toolsOf s i) with
          | none => exact absurd (decide_eq_true h2) (List.find?_eq_none.mp q i (List.mem_range.mpr h1))
          | some j =>
            have := of_decide_eq_true (p := t ∈ toolsOf s j) (List.find?_some (p := fun i => decide (t ∈ toolsOf s i)) q)
            rw [ha i j t h2 this]
            rfl
        · rw [h2]
          cases q : (List.range s.ws.length).find? fun i => decide (t ∈ toolsOf s i) with
          | none => rfl
          | some j => exact absurd (of_decide_eq_true (p := t ∈ toolsOf s j) (List.find?_some (p := fun i => decide (t ∈ toolsOf s i)) q)) (h1 j (List.mem_range.mp (List.mem_of_find?_eq_some q)))
  · rw [if_neg ht, if_neg ht]
    rfl
/-- the tool that one wants, 10 where it doesn't wait -/
def wantF (s : Shop) (k : Nat) : Int := match afterF s k, stepAt s k with
  | some _, some (.hold t) => t
  | _, _ => 10
theorem want_bd {s : Shop} (h : ShopOk s) (k : Nat) : 0 ≤ wantF s k ∧ wantF s k ≤ 10 := by
  unfold wantF
  split
  · rename_i j t e1 e2
    unfold stepAt at e2
    cases q1 : s.ws[k]? with
    | none => rw [q1] at e2; cases e2
    | some w =>
      rw [q1] at e2
      cases q2 : s.sp[k]? with
      | none => rw [q2] at e2; cases e2
      | some p =>
        rw [q2] at e2
        have : 0 ≤ t ∧ t ≤ 9 ∧ ∀ u ∈ toolsAt w.plan p.place, u < t := (h.plans k w q1).fits (show w.plan[p.place]? = some (.hold t) from e2)
        omega
  · omega
theorem want_lt {s : Shop} (h : ShopOk s) {k j : Nat} (e : afterF s k = some j) : wantF s k < wantF s j := by
  have e0 := e
  unfold afterF at e
  split at e
  · split at e
    · rename_i t e1
      have hj := of_decide_eq_true (p := t ∈ toolsOf s j) (List.find?_some (p := fun i => decide (t ∈ toolsOf s i)) e)
      have hw : wantF s k = t := by
        unfold wantF
        rw [e0, e1]
      rw [hw]
      unfold toolsOf at hj
      split at hj
      · rename_i w p q1 q2
        have hp := h.plans j w q1
        unfold wantF
        split
        · rename_i i u f1 f2
          unfold stepAt at f2
          rw [q1, q2] at f2
          have : 0 ≤ u ∧ u ≤ 9 ∧ ∀ v ∈ toolsAt w.plan p.place, v < u := hp.fits (show w.plan[p.place]? = some (.hold u) from f2)
          exact this.2.2 t hj
        · have := (hp.RT p.place).low t hj
          omega
      · exact nomatch hj
    · cases e
  · cases e
def chainN (s : Shop) : Nat → Nat → List Nat
  | 0, k => [k]
  | n + 1, k => match afterF s k with
    | none => [k]
    | some j => k :: chainN s n j
def chainF (s : Shop) (k : Nat) : List Nat := chainN s 11 k
theorem after_get {s : Shop} (h : ShopOk s) {k : Nat} (hk : k < s.ws.length) : (after s)[k]? = some (optN (afterF s k)) := by
  rw [after_at hk, wait_eq h.apart]
theorem chainN_ok {s : Shop} (h : ShopOk s) : ∀ (n k : Nat), k < s.ws.length → 10 - wantF s k ≤ n → IsChain (after s) k (chainN s n k)
  | 0, k, hk, hw => by
    have e : afterF s k = none := by
      cases q : afterF s k with
      | none => rfl
      | some j =>
        have := want_lt h q
        have := want_bd h j
        omega
    refine .stop ?_
    rw [after_get h hk, e]
    rfl
  | n + 1, k, hk, hw => by
    unfold chainN
    cases q : afterF s k with
    | none =>
      refine .stop ?_
      rw [after_get h hk, q]
      rfl
    | some j =>
      have h1 := want_lt h q
      refine .step ?_ (chainN_ok h n j (afterF_lt q) (by omega))
      rw [after_get h hk, q]
      rfl
theorem chainF_ok {s : Shop} (h : ShopOk s) {k : Nat} (hk : k < s.ws.length) : IsChain (after s) k (chainF s k) :=
  chainN_ok h 11 k hk (by have := want_bd h k; omega)
theorem chain_facts {s : Shop} (h : ShopOk s) {k : Nat} {c : List Nat} (hc : IsChain (after s) k c) (hk : k < s.ws.length) : c.Pairwise (fun a b => wantF s a < wantF s b) ∧ (∀ x ∈ c, x < s.ws.length ∧ wantF s k ≤ wantF s x) := by
  induction hc with
  | stop e => exact ⟨List.pairwise_singleton _ _, fun x hx => by rw [List.mem_singleton.mp hx]; exact ⟨hk, Int.le_refl _⟩⟩
  | @step k j c e t ih =>
    rw [after_get h hk] at e
    have e2 : afterF s k = some j := by
      cases q : afterF s k with
      | none => rw [q] at e; cases e
      | some i =>
        rw [q] at e
        injection e with e
        injection e with e
        rw [Int.ofNat.inj e]
    have hj := afterF_lt e2
    have hw := want_lt h e2
    obtain ⟨i1, i2⟩ := ih hj
    refine ⟨List.pairwise_cons.mpr ⟨fun x hx => ?_, i1⟩, fun x hx => ?_⟩
    · have := (i2 x hx).2; omega
    · rcases List.mem_cons.mp hx with rfl | hx
      · exact ⟨hk, Int.le_refl _⟩
      · have := i2 x hx
        exact ⟨this.1, by omega⟩
theorem chain_nodup {s : Shop} (h : ShopOk s) {k : Nat} {c : List Nat} (hc : IsChain (after s) k c) (hk : k < s.ws.length) : c.Nodup ∧ c.length ≤ s.ws.length := by
  obtain ⟨h1, h2⟩ := chain_facts h hc hk
  have hn : c.Nodup := List.nodup_iff_pairwise_ne.mpr (h1.imp fun {a b} hab e => by subst e; omega)
  refine ⟨hn, ?_⟩
  have h3 := nodup_le (xs := c.map Int.ofNat) (ys := (List.range s.ws.length).map Int.ofNat) (by
    rw [List.nodup_iff_pairwise_ne, List.pairwise_map]
    exact (List.nodup_iff_pairwise_ne.mp hn).imp fun {a b} hab e => hab (Int.ofNat.inj e)) (fun x hx => by
    obtain ⟨a, ha, rfl⟩ := List.mem_map.mp hx
    exact List.mem_map.mpr ⟨a, List.mem_range.mpr (h2 a ha).1, rfl⟩)
  rw [List.length_map, List.length_map, List.length_range] at h3
  exact h3
theorem chain_last {as : List (Option Int)} {k : Nat} {c : List Nat} (h : IsChain as k c) : ∃ r e, c = r ++ [e] ∧ as[e]? = some none := by
  induction h with
  | @stop k h => exact ⟨[], k, rfl, h⟩
  | @step k j c h t ih =>
    obtain ⟨r, e, h1, h2⟩ := ih
    exact ⟨k :: r, e, by rw [h1]; rfl, h2⟩
theorem ShopOk.ch {s : Shop} (h : ShopOk s) : Ch s (chainF s) := ⟨fun k hk => chainF_ok h hk, fun k hk => by
  have := (chain_nodup h (chainF_ok h hk) hk).2
  have := h.many
  omega⟩
def workOf : Step → Int
  | .work n => n
  | _ => 0
/-- the ticks of work till nothing is held -/
def restL : List Int → Plan → Int
  | _, [] => 0
  | ts, s :: p => if ts = [] then 0 else workOf s + restL (toolsBehind ts s) p
def restF (s : Shop) (k : Nat) : Int := match s.ws[k]?, s.sp[k]? with
  | some w, some p => if toolsAt w.plan p.place = [] then 0 else restL (toolsAt w.plan p.place) (w.plan.drop p.place) - p.gone
  | _, _ => 0
theorem restL_nil (p : Plan) : restL [] p = 0 := by
  cases p with
  | nil => rfl
  | cons s p => exact if_pos rfl
theorem restL_at {p : Plan} {n : Nat} {s : Step} (h : p[n]? = some s) (hne : toolsAt p n ≠ []) : restL (toolsAt p n) (p.drop n) = workOf s + restL (toolsAt p (n + 1)) (p.drop (n + 1)) := by
  have hn : n < p.length := (List.getElem?_eq_some_iff.mp h).1
  have e2 : p[n] = s := (List.getElem?_eq_some_iff.mp h).2
  rw [List.drop_eq_getElem_cons hn, e2, toolsAt_succ h]
  exact if_neg hne
theorem PlanOk.fin {p : Plan} (h : PlanOk p) {n : Nat} (hn : p.length ≤ n) : toolsAt p n = [] := by
  have h1 := (h.split n).2
  rw [List.drop_of_length_le hn] at h1
  exact Eq.symm h1
theorem PlanOk.lt {p : Plan} (h : PlanOk p) {n : Nat} (hn : toolsAt p n ≠ []) : n < p.length := by
  by_cases e : n < p.length
  · exact e
  · exact absurd (h.fin (by omega)) hn
theorem tools_count {ts : List Int} {s : Step} (r : RT ts) (f : fitsS ts s) : ((toolsBehind ts s).length : Int) = (ts.length : Int) + (if isHold s = true then 1 else 0) - (if isFree s = true then 1 else 0) := by
  cases s with
  | work n => show (ts.length : Int) = _; simp [isHold, isFree]
  | hold t => show ((ts ++ [t]).length : Int) = _; simp [isHold, isFree]
  | free t =>
    have h : t ∈ ts := f
    have hp : 0 < ts.length := List.length_pos_of_mem h
    show ((ts.filter fun x => !decide (x = t)).length : Int) = _
    rw [← erase_filter r.nodup, List.length_erase_of_mem h]
    simp [isHold, isFree]
    omega
/-- the greatest of some ranks -/
structure Top (rank : Nat → Int) (S : Nat → Prop) (v : Int) : Prop where
  one : ∃ j, S j ∧ rank j = v
  all : ∀ j, S j → rank j ≤ v
theorem Top.uniq {rank : Nat → Int} {S : Nat → Prop} {u v : Int} (h : Top rank S u) (g : Top rank S v) : u = v := by
  obtain ⟨i, h1, h2⟩ := h.one
  obtain ⟨j, g1, g2⟩ := g.one
  have := h.all j g1
  have := g.all i h1
  omega
theorem Top.iff {rank : Nat → Int} {S T : Nat → Prop} {v : Int} (h : Top rank S v) (e : ∀ j, S j ↔ T j) : Top rank T v := by
  obtain ⟨i, h1, h2⟩ := h.one
  exact ⟨⟨i, (e i).mp h1, h2⟩, fun j hj => h.all j ((e j).mpr hj)⟩
theorem Top.max {rank : Nat → Int} {S : Nat → Prop} {v : Int} (h : Top rank S v) (m : Nat) : Top rank (fun j => S j ∨ j = m) (max v (rank m)) := by
  refine ⟨?_, fun j hj => ?_⟩
  · by_cases hl : rank m ≤ v
    · obtain ⟨i, h1, h2⟩ := h.one
      exact ⟨i, .inl h1, by omega⟩
    · exact ⟨m, .inr rfl, by omega⟩
  · rcases hj with hj | hj
    · have := h.all j hj; omega
    · rw [hj]; omega
theorem max_top {rank : Nat → Int} {js : List Nat} (h : js ≠ []) : Top rank (fun j => j ∈ js) (maxL (js.map rank) 0) := by
  have hne : js.map rank ≠ [] := fun e => h (List.map_eq_nil_iff.mp e)
  obtain ⟨j, h1, h2⟩ := List.mem_map.mp (maxL_ne (d := 0) hne)
  exact ⟨⟨j, h1, h2⟩, fun i hi => maxL_all (List.mem_map.mpr ⟨i, hi, rfl⟩)⟩
def rankAt (s : Shop) (k : Nat) : Int := (s.ws.map (·.rank)).getD k 0
theorem raise_at (r : Int) : ∀ (c : List Nat) (l : List Int) (x : Nat), x < l.length → (c.foldl (fun (l : List Int) (one : Nat) => l.set one (max (l.getD one 0) r)) l).getD x 0 = if x ∈ c then max (l.getD x 0) r else l.getD x 0
  | [], l, x, _ => (if_neg (by simp)).symm
  | a :: c, l, x, hx => by
    rw [List.foldl_cons, raise_at r c _ x (by rw [List.length_set]; exact hx)]
    have e : (l.set a (max (l.getD a 0) r)).getD x 0 = if x = a then max (l.getD x 0) r else l.getD x 0 := by
      rw [List.getD_eq_getElem?_getD, List.getD_eq_getElem?_getD]
      by_cases h : x = a
      · rw [if_pos h, ← h, List.getElem?_set_self hx, List.getD_eq_getElem?_getD]; rfl
      · rw [if_neg h, List.getElem?_set_ne (Ne.symm h), List.getD_eq_getElem?_getD]
    rw [e]
    by_cases h1 : x = a
    · subst h1
      rw [if_pos rfl, if_pos List.mem_cons_self]
      split <;> omega
    · rw [if_neg h1]
      by_cases h2 : x ∈ c
      · rw [if_pos h2, if_pos (List.mem_cons_of_mem _ h2)]
      · rw [if_neg h2, if_neg]
        intro h
        rcases List.mem_cons.mp h with h | h
        · exact h1 h
        · exact h2 h
theorem ranksOf_top (s : Shop) (cs : Nat → List Nat) {x : Nat} (hx : x < s.ws.length) : ∀ m, Top (rankAt s) (fun j => j = x ∨ (j < m ∧ x ∈ cs j)) ((ranksOf s cs m).getD x 0)
  | 0 => ⟨⟨x, .inl rfl, rfl⟩, fun j hj => by
    rcases hj with hj | ⟨hj, _⟩
    · rw [hj]; exact Int.le_refl _
    · exact absurd hj (Nat.not_lt_zero j)⟩
  | m + 1 => by
    have ih := ranksOf_top s cs hx m
    show Top _ _ (((cs m).foldl (fun (l : List Int) (one : Nat) => l.set one (max (l.getD one 0) (rankAt s m))) (ranksOf s cs m)).getD x 0)
    rw [raise_at _ _ _ _ (by rw [ranksOf_len]; exact hx)]
    by_cases h : x ∈ cs m
    · rw [if_pos h]
      refine (ih.max m).iff fun j => ?_
      constructor
      · rintro ((h1 | ⟨h1, h2⟩) | h1)
        · exact .inl h1
        · exact .inr ⟨by omega, h2⟩
        · exact .inr ⟨by omega, by rw [h1]; exact h⟩
      · rintro (h1 | ⟨h1, h2⟩)
        · exact .inl (.inl h1)
        · by_cases e : j = m
          · exact .inr e
          · exact .inl (.inr ⟨by omega, h2⟩)
    · rw [if_neg h]
      refine ih.iff fun j => ?_
      constructor
      · rintro (h1 | ⟨h1, h2⟩)
        · exact .inl h1
        · exact .inr ⟨by omega, h2⟩
      · rintro (h1 | ⟨h1, h2⟩)
        · exact .inl h1
        · refine .inr ⟨?_, h2⟩
          by_cases e : j = m
          · rw [e] at h2; exact absurd h2 h
          · omega
def rankL (s : Shop) (k : Nat) : Int := (ranksL s (chainF s)).getD k 0
theorem chain_self {s : Shop} (h : ShopOk s) {k : Nat} (hk : k < s.ws.length) : k ∈ chainF s k := by
  obtain ⟨r, e⟩ := (chainF_ok h hk).ne
  rw [e]
  exact List.mem_cons_self
/-- a rank, own or lent, is the greatest of those in whose chain it stands -/
theorem rankL_top {s : Shop} (h : ShopOk s) {k : Nat} (hk : k < s.ws.length) : Top (rankAt s) (fun j => j < s.ws.length ∧ k ∈ chainF s j) (rankL s k) := by
  refine (ranksOf_top s (chainF s) hk s.ws.length).iff fun j => ?_
  constructor
  · rintro (h1 | h1)
    · rw [h1]; exact ⟨hk, chain_self h hk⟩
    · exact h1
  · exact fun h => .inr h
theorem ranksL_len (s : Shop) (cs : Nat → List Nat) : (ranksL s cs).length = s.ws.length := ranksOf_len s cs _
theorem ranksL_at {s : Shop} {k : Nat} (hk : k < s.ws.length) : (ranksL s (chainF s))[k]? = some (rankL s k) := by
  unfold rankL
  rw [List.getD_eq_getElem?_getD, List.getElem?_eq_getElem (by rw [ranksL_len]; exact hk)]
  rfl
def chD (s : Shop) (k : Nat) : D := .lst ((chainF s k).map natD)
theorem range_at {n i : Nat} (h : i < n) : (List.range n)[i]? = some i := List.getElem?_range h
theorem rankAt_of {s : Shop} {k : Nat} {w : Worker} (e : s.ws[k]? = some w) : rankAt s k = w.rank := by
  unfold rankAt
  rw [List.getD_eq_getElem?_getD, List.getElem?_map, e]
  rfl
/-- who doesn't wait is at most the end of a chain -/
theorem chain_end {s : Shop} {j : Nat} {c : List Nat} (hc : IsChain (after s) j c) {k : Nat} (hk : k ∈ c) (hw : (after s)[k]? = some none) : c.getLast? = some k := by
  induction hc with
  | stop e =>
    rw [List.mem_singleton.mp hk]
    rfl
  | @step j i c e t ih =>
    rcases List.mem_cons.mp hk with rfl | hk
    · rw [e] at hw; cases hw
    · obtain ⟨r, er⟩ := t.ne
      rw [er] at ih hk ⊢
      rw [List.getLast?_cons_cons]
      exact ih hk
theorem there_lt {s : Shop} {k : Nat} (h : there s k = true) : k < s.ws.length := by
  obtain ⟨w, p, st, e1, _⟩ := there_step h
  exact (List.getElem?_eq_some_iff.mp e1).1
/-- who holds a tool is there -/
theorem holds_there {s : Shop} (h : ShopOk s) {k : Nat} {t : Int} (ht : t ∈ toolsOf s k) : there s k = true := by
  unfold toolsOf at ht
  cases e1 : s.ws[k]? with
  | none => rw [e1] at ht; exact nomatch ht
  | some w =>
    cases e2 : s.sp[k]? with
    | none => rw [e1, e2] at ht; exact nomatch ht
    | some p =>
      rw [e1, e2] at ht
      have ht' : t ∈ toolsAt w.plan p.place := ht
      have hp := h.plans k w e1
      have hlt := hp.lt (n := p.place) (fun e => by rw [e] at ht'; exact nomatch ht')
      have hst : w.start ≤ s.now := by
        by_cases hs : w.start ≤ s.now
        · exact hs
        · have := h.early k w p e1 e2 (by omega)
          rw [this] at ht'
          exact nomatch ht'
      unfold there
      rw [e1, e2]
      show (decide (w.start ≤ s.now) && decide (p.place < w.plan.length)) = true
      rw [decide_eq_true hst, decide_eq_true hlt]
      rfl
theorem afterF_facts {s : Shop} {k j : Nat} (h : afterF s k = some j) : there s k = true ∧ ∃ t, t ∈ toolsOf s j := by
  unfold afterF at h
  by_cases ht : there s k = true
  · rw [if_pos ht] at h
    refine ⟨ht, ?_⟩
    cases e : stepAt s k with
    | none => rw [e] at h; cases h
    | some st =>
      rw [e] at h
      cases st with
      | work n => cases h
      | free n => cases h
      | hold t => exact ⟨t, of_decide_eq_true (p := t ∈ toolsOf s j) (List.find?_some (p := fun i => decide (t ∈ toolsOf s i)) h)⟩
  · rw [if_neg ht] at h; cases h
theorem afterF_of {s : Shop} (h : ShopOk s) {k j : Nat} (hk : k < s.ws.length) (e : (after s)[k]? = some (some (j : Int))) : afterF s k = some j := by
  rw [after_get h hk] at e
  cases q : afterF s k with
  | none => rw [q] at e; cases e
  | some i =>
    rw [q] at e
    injection e with e
    injection e with e
    rw [Int.ofNat.inj e]
/-- all along a chain are there -/
theorem chain_there {s : Shop} (h : ShopOk s) {j : Nat} {c : List Nat} (hc : IsChain (after s) j c) (hj : there s j = true) : ∀ x ∈ c, there s x = true := by
  induction hc with
  | stop e => intro x hx; rw [List.mem_singleton.mp hx]; exact hj
  | @step j i c e t ih =>
    intro x hx
    rcases List.mem_cons.mp hx with rfl | hx
    · exact hj
    · obtain ⟨_, t', ht'⟩ := afterF_facts (afterF_of h (there_lt hj) e)
      exact ih (holds_there h ht') x hx
/-- in whose chain another stands, that one is there -/
theorem chain_from {s : Shop} (h : ShopOk s) {j k : Nat} {c : List Nat} (hc : IsChain (after s) j c) (hj : j < s.ws.length) (hk : k ∈ c) (hkt : there s k = true) : there s j = true := by
  cases hc with
  | stop e => rw [← List.mem_singleton.mp hk]; exact hkt
  | @step _ i c e t => exact (afterF_facts (afterF_of h hj e)).1
def endF (s : Shop) (j : Nat) : Nat := (chainF s j).getLastD 0
theorem end_of {s : Shop} (h : ShopOk s) {j : Nat} (hj : j < s.ws.length) : endF s j ∈ chainF s j ∧ (after s)[endF s j]? = some none := by
  obtain ⟨r, e, h1, h2⟩ := chain_last (chainF_ok h hj)
  unfold endF
  rw [h1, List.getLastD_eq_getLast?, List.getLast?_concat]
  exact ⟨List.mem_append_right _ List.mem_cons_self, h2⟩
theorem end_iff {s : Shop} (h : ShopOk s) {j k : Nat} (hj : j < s.ws.length) (hw : (after s)[k]? = some none) : k ∈ chainF s j ↔ endF s j = k := by
  constructor
  · intro hk
    unfold endF
    rw [List.getLastD_eq_getLast?, chain_end (chainF_ok h hj) hk hw]
    rfl
  · intro e
    rw [← e]
    exact (end_of h hj).1
/-- ready: there, and waits for nobody -/
def Ready (s : Shop) (k : Nat) : Prop := there s k = true ∧ afterF s k = none
theorem ready_after {s : Shop} (h : ShopOk s) {k : Nat} (r : Ready s k) : (after s)[k]? = some none := by
  rw [after_get h (there_lt r.1), r.2]
  rfl
theorem end_ready {s : Shop} (h : ShopOk s) {j : Nat} (hj : there s j = true) : Ready s (endF s j) := by
  have hl := there_lt hj
  obtain ⟨h1, h2⟩ := end_of h hl
  have h3 := chain_there h (chainF_ok h hl) hj _ h1
  refine ⟨h3, ?_⟩
  rw [after_get h (there_lt h3)] at h2
  cases q : afterF s (endF s j) with
  | none => rfl
  | some i => rw [q] at h2; cases h2
/-- a ready one's rank is the greatest of those there whose chains end with it -/
theorem ready_top {s : Shop} (h : ShopOk s) {k : Nat} (r : Ready s k) : Top (rankAt s) (fun j => there s j = true ∧ endF s j = k) (rankL s k) := by
  refine (rankL_top h (there_lt r.1)).iff fun j => ?_
  constructor
  · rintro ⟨h1, h2⟩
    exact ⟨chain_from h (chainF_ok h h1) h1 h2 r.1, (end_iff h h1 (ready_after h r)).mp h2⟩
  · rintro ⟨h1, h2⟩
    exact ⟨there_lt h1, (end_iff h (there_lt h1) (ready_after h r)).mpr h2⟩
theorem rank_inj {s : Shop} (h : ShopOk s) {i j : Nat} (hi : i < s.ws.length) (hj : j < s.ws.length) (e : rankAt s i = rankAt s j) : i = j := by
  unfold rankAt at e
  rw [List.getD_eq_getElem?_getD, List.getD_eq_getElem?_getD, List.getElem?_eq_getElem (by rw [List.length_map]; exact hi), List.getElem?_eq_getElem (by rw [List.length_map]; exact hj)] at e
  have hp := List.pairwise_iff_getElem.mp (List.nodup_iff_pairwise_ne.mp h.ranks)
  rcases Nat.lt_trichotomy i j with hl | hl | hl
  · exact absurd (show _ = _ from e) (hp i j (by rw [List.length_map]; exact hi) (by rw [List.length_map]; exact hj) hl)
  · exact hl
  · exact absurd (show _ = _ from e.symm) (hp j i (by rw [List.length_map]; exact hj) (by rw [List.length_map]; exact hi) hl)
theorem ready_inj {s : Shop} (h : ShopOk s) {i j : Nat} (hi : Ready s i) (hj : Ready s j) (e : rankL s i = rankL s j) : i = j := by
  obtain ⟨a, ⟨a1, a2⟩, a3⟩ := (ready_top h hi).one
  obtain ⟨b, ⟨b1, b2⟩, b3⟩ := (ready_top h hj).one
  have : a = b := rank_inj h (there_lt a1) (there_lt b1) (by rw [a3, b3, e])
  rw [← a2, ← b2, this]
/-- the best: ready, of the greatest rank -/
structure Best (s : Shop) (k : Nat) : Prop where
  ready : Ready s k
  top : ∀ j, Ready s j → rankL s j ≤ rankL s k
theorem Best.uniq {s : Shop} (h : ShopOk s) {i j : Nat} (hi : Best s i) (hj : Best s j) : i = j := by
  have := hi.top j hj.ready
  have := hj.top i hi.ready
  exact ready_inj h hi.ready hj.ready (by omega)
/-- the end of the chain of the greatest that is there -/
theorem best_end {s : Shop} (h : ShopOk s) {j : Nat} (hj : there s j = true) (ht : ∀ i, there s i = true → rankAt s i ≤ rankAt s j) : Best s (endF s j) := by
  refine ⟨end_ready h hj, fun i hi => ?_⟩
  have h1 := (ready_top h (end_ready h hj)).all j ⟨hj, rfl⟩
  obtain ⟨a, ⟨a1, _⟩, a3⟩ := (ready_top h hi).one
  have := ht a a1
  omega
/-- how the greatest is found by a going -/
theorem going {α : Type} (ok : α → Prop) (rk : α → Int) (xs : List α) (step : Option α → α → Option α)
    (h1 : ∀ b x, ¬ ok x → step b x = b) (h2 : ∀ x, ok x → step none x = some x) (h3 : ∀ b x, ok x → rk b < rk x → step (some b) x = some x) (h4 : ∀ b x, ok x → ¬ rk b < rk x → step (some b) x = some b) :
    ∀ b : Option α, (∀ y, b = some y → ok y) → match xs.foldl step b with
      | none => b = none ∧ ∀ x ∈ xs, ¬ ok x
      | some y => ok y ∧ (y ∈ xs ∨ b = some y) ∧ (∀ x ∈ xs, ok x → rk x ≤ rk y) ∧ ∀ z, b = some z → rk z ≤ rk y := by
  induction xs with
  | nil =>
    intro b hb
    rw [List.foldl_nil]
    cases b with
    | none => exact ⟨rfl, fun x hx => nomatch hx⟩
    | some y => exact ⟨hb y rfl, .inr rfl, (fun x hx => nomatch hx), fun z e => by cases e; exact Int.le_refl _⟩
  | cons x xs ih =>
    intro b hb
    rw [List.foldl_cons]
    by_cases hx : ok x
    · have key : ∃ y, step b x = some y ∧ ok y ∧ (y = x ∨ b = some y) ∧ rk x ≤ rk y ∧ ∀ z, b = some z → rk z ≤ rk y := by
        cases b with
        | none => exact ⟨x, h2 x hx, hx, .inl rfl, Int.le_refl _, (fun z e => nomatch e)⟩
        | some z =>
          by_cases hl : rk z < rk x
          · exact ⟨x, h3 z x hx hl, hx, .inl rfl, Int.le_refl _, fun w e => by cases e; omega⟩
          · exact ⟨z, h4 z x hx hl, hb z rfl, .inr rfl, by omega, fun w e => by cases e; exact Int.le_refl _⟩
      obtain ⟨y, e, hy, hor, hxy, hz⟩ := key
      have z := ih (some y) (fun w e => by cases e; exact hy)
      rw [e]
      revert z
      cases xs.foldl step (some y) with
      | none => rintro ⟨z, _⟩; cases z
      | some u =>
        rintro ⟨a1, a2, a3, a4⟩
        have hyu := a4 y rfl
        refine ⟨a1, ?_, fun w hw ho => ?_, fun w e => ?_⟩
        · rcases a2 with a2 | a2
          · exact .inl (List.mem_cons_of_mem _ a2)
          · cases a2
            rcases hor with hor | hor
            · exact .inl (by rw [hor]; exact List.mem_cons_self)
            · exact .inr hor
        · rcases List.mem_cons.mp hw with rfl | hw
          · omega
          · exact a3 w hw ho
        · have := hz w e; omega
    · rw [h1 b x hx]
      have z := ih b hb
      revert z
      cases xs.foldl step b with
      | none =>
        rintro ⟨a1, a2⟩
        exact ⟨a1, fun w hw => by
          rcases List.mem_cons.mp hw with rfl | hw
          · exact hx
          · exact a2 w hw⟩
      | some u =>
        rintro ⟨a1, a2, a3, a4⟩
        refine ⟨a1, ?_, fun w hw ho => ?_, a4⟩
        · rcases a2 with a2 | a2
          · exact .inl (List.mem_cons_of_mem _ a2)
          · exact .inr a2
        · rcases List.mem_cons.mp hw with rfl | hw
          · exact absurd ho hx
          · exact a3 w hw ho
def stepB (s : Shop) (b : Option Nat) (k : Nat) : Option Nat := if there s k = true ∧ (b = none ∨ rankAt s (b.getD 0) < rankAt s k) then some k else b
def bestF (s : Shop) : Option Nat := (List.range s.ws.length).foldl (stepB s) none
def stepC (s : Shop) (b : Option Nat) (k : Nat) : Option Nat := if waitFor s k = none ∧ (b = none ∨ (ranksL s (chainF s)).getD (b.getD 0) 0 < (ranksL s (chainF s)).getD k 0) then some k else b
theorem chosenF_fold (s : Shop) : ∀ (ks : List Nat) (b : Option Nat), chosenF s (ranksL s (chainF s)) ks b = ks.foldl (stepC s) b
  | [], b => rfl
  | k :: ks, b => by
    rw [List.foldl_cons, ← chosenF_fold s ks]
    rfl
theorem best_going (s : Shop) : match bestF s with
    | none => ∀ x, there s x = true → False
    | some y => there s y = true ∧ ∀ x, there s x = true → rankAt s x ≤ rankAt s y := by
  have z := going (fun k => there s k = true) (rankAt s) (List.range s.ws.length) (stepB s)
    (fun b x h => if_neg fun z => h z.1) (fun x h => if_pos ⟨h, .inl rfl⟩) (fun b x h g => if_pos ⟨h, .inr g⟩) (fun b x h g => if_neg fun z => by
      rcases z.2 with z | z
      · cases z
      · exact g z) none (fun y e => nomatch e)
  unfold bestF
  revert z
  cases (List.range s.ws.length).foldl (stepB s) none with
  | none => exact fun z x hx => z.2 x (List.mem_range.mpr (there_lt hx)) hx
  | some y => exact fun z => ⟨z.1, fun x hx => z.2.2.1 x (List.mem_range.mpr (there_lt hx)) hx⟩
theorem ready_iff {s : Shop} (h : ShopOk s) (k : Nat) : Ready s k ↔ k ∈ thereL s ∧ waitFor s k = none := by
  rw [wait_eq h.apart]
  unfold thereL Ready
  rw [List.mem_filter, List.mem_range]
  constructor
  · rintro ⟨h1, h2⟩
    exact ⟨⟨there_lt h1, h1⟩, by rw [h2]; rfl⟩
  · rintro ⟨⟨_, h1⟩, h2⟩
    refine ⟨h1, ?_⟩
    cases q : afterF s k with
    | none => rfl
    | some j => rw [q] at h2; cases h2
theorem chosen_going {s : Shop} (h : ShopOk s) : match chosenL s (chainF s) with
    | none => ∀ x, Ready s x → False
    | some y => Best s y := by
  have z := going (fun k => waitFor s k = none) (rankL s) (thereL s) (stepC s)
    (fun b x h => if_neg fun z => h z.1) (fun x h => if_pos ⟨h, .inl rfl⟩) (fun b x h g => if_pos ⟨h, .inr g⟩) (fun b x h g => if_neg fun z => by
      rcases z.2 with z | z
      · cases z
      · exact g z) none (fun y e => nomatch e)
  unfold chosenL
  rw [chosenF_fold]
  revert z
  cases (thereL s).foldl (stepC s) none with
  | none => exact fun z x hx => z.2 x ((ready_iff h x).mp hx).1 ((ready_iff h x).mp hx).2
  | some y =>
    rintro ⟨z1, z2, z3, _⟩
    have hy : y ∈ thereL s := by
      rcases z2 with z2 | z2
      · exact z2
      · cases z2
    exact ⟨(ready_iff h y).mpr ⟨hy, z1⟩, fun x hx => z3 x ((ready_iff h x).mp hx).1 ((ready_iff h x).mp hx).2⟩
theorem chosen_eq {s : Shop} (h : ShopOk s) : chosenL s (chainF s) = (bestF s).map (endF s) := by
  have a := best_going s
  have b := chosen_going h
  revert a b
  cases bestF s with
  | none =>
    cases chosenL s (chainF s) with
    | none => exact fun _ _ => rfl
    | some y => exact fun a b => (a y b.ready.1).elim
  | some j =>
    cases chosenL s (chainF s) with
    | none => exact fun a b => (b _ (end_ready h a.1)).elim
    | some y => exact fun a b => congrArg some (b.uniq h (best_end h a.1 a.2))
section
variable {K : PySem.W.Frag} {B : Bs} {σ : L2.St} {G H : Hp} {ρ : List Sl} {p : Addr} {ds : List D}
theorem SR.writeT {o : HO} (S : SR K B σ G H ρ) (hG : G p = none) (hF : B.F p = none) (hn : ∀ i, ¬ OwnAt σ ρ i p) : SR K B σ G (upd H p o) ρ where
  e1 := S.e1
  e2 := fun a u e => by
    rw [upd_ne (by rintro rfl; rw [hF] at e; cases e)]
    exact S.e2 a u e
  e3 := fun a u e => by
    rw [upd_ne (by rintro rfl; rw [hG] at e; cases e)]
    exact S.e3 a u e
  nw := S.nw
  len := S.len
  sl := fun i r h => by
    obtain ⟨x, h1, h2⟩ := S.sl i r h
    refine ⟨x, h1, h2.grow (Evl.Ex.refl G) (fun q u o e z => ?_) fun _ _ _ z _ => z⟩
    subst e
    rw [upd_ne (by rintro rfl; exact hn i ⟨h1, r, h, o⟩)]
    exact z
  ne := S.ne
end
section
variable {X : Cx} {a b : Expr} {ρ ρ1 : List Sl} {d : D} {ds : List D} {x : Str} {pos p p2 : Pos} {N : List Str}
theorem pd_appT {j : Nat} {ap : Pos} (hX : X.N = N) (hA : At N j x) (ha : PD X a ρ ρ1 (.ow ds)) (hx : ρ1[j]? = some (.fz d)) (hl : ds.length < 100000) (hv : Vis X.env.scope x) (hd : (x == ("__debug__" : Str)) = false) (hcd : (x == ("__classdict__" : Str)) = false)
    (hps : ∀ (ho : PE X a (wpE X a)) (ha : PA X [.Name x p] (tCons (wpE X (.Name x p)) tNil)), PE X (.Call (.Attribute a "append" ap) [.Name x p] [] pos) (tBM X.K "list" rAppend (wpE X a) (tCons (wpE X (.Name x p)) tNil)))
    (hpa : starEach [.Name x p] X.env = (false, eval (.Name x p) X.env) :: starEach [] X.env) : PD X (.Call (.Attribute a "append" ap) [.Name x p] [] pos) ρ ρ1 (.fz .non) := .mk fun B σ G H Q S k => by
  refine wpE_of (hps canE (pa_cons canE pa_nil hpa)) ?_
  refine ha B σ G H _ S fun v G1 H1 e1 S1 r1 => ?_
  obtain ⟨_, ⟨q, vs, e, g1, g2, g3, g4⟩, g5⟩ := r1
  cases e
  refine ⟨.inl ⟨rfl, _, .inl (.inl g3)⟩, ?_⟩
  obtain ⟨u, h1, h2⟩ := S1.get hx
  refine wpE_of (pe_var (by rw [hX]; exact hA.get) hv hd hcd) ⟨u, h1, ?_⟩
  refine ⟨q, vs, u, rfl, rfl, g3, by rw [g4.length]; exact Evl.sz_lt hl, ?_⟩
  exact k .non G1 _ e1 (S1.writeT g1 g2 (fun i o => g5 trivial q rfl i o)) (.of .non)
end
section
variable {X : Cx} {e : Expr} {ρ ρ1 : List Sl} {d : D} {ds : List D} {x : Str} {pos p pos' : Pos} {N : List Str} {E : En}
/-- xs[j] = e, by the names' own form -/
theorem ps1_setLN {i : Nat} {ie : Expr} {n : Int} {j : Nat} (hX : X.N = N) (hA : At N i x) (he : PD X e ρ ρ1 (.fz d)) (ho : ρ1[i]? = some (.ow ds)) (hie : PD X ie ρ1 ρ1 (.fz (.int n))) (hj : ixN ds.length n = some j) (h : E.nx (ρ1.set i (.ow (ds.set j d)))) (hv : Vis X.env.scope x)
    (hd : (x == ("__debug__" : Str)) = false) (hcd : (x == ("__classdict__" : Str)) = false)
    (ha : ∀ v, assign (.Subscript (.Name x p) ie pos') X.env v = (do
      let ov ← holding [v] (eval (.Name x p) X.env)
      let iv ← holding [v, ov] (eval ie X.env)
      standAt pos'
      holding [v, ov, iv] (setItem ov iv v)
      release [v, ov, iv] []))
    (hs : swapsWithSole [.Subscript (.Name x p) ie pos'] e pos.line X.env = pure false) (hw : swappedStores [.Subscript (.Name x p) ie pos'] e X.env = pure none)
    (h1 : (assignEach [.Subscript (.Name x p) ie pos'] X.env).map (·.2) = [assign (.Subscript (.Name x p) ie pos') X.env]) : PS1 X (.Assign [.Subscript (.Name x p) ie pos'] e pos) ρ E :=
  ps1_setL i he ho hie hj h (by rw [hX]; exact hA.get) hv hd hcd ha hs hw h1
end
theorem natD_ints (c : List Nat) : c.map natD = (c.map Int.ofNat).map D.int := by rw [List.map_map]; rfl
theorem ixN_nat {n k : Nat} (h : k < n) : ixN n (k : Int) = some k := by
  unfold ixN
  rw [if_pos (Int.natCast_nonneg k), if_pos (by omega)]
  rfl
theorem dec_nat (a b : Nat) : decide ((a : Int) = (b : Int)) = decide (a = b) := by
  rw [decide_eq_decide]
  omega
theorem cmp_inN (k : Nat) (c : List Nat) : CmpR .In (.int (k : Int)) (.lst (c.map natD)) (decide (k ∈ c)) := by
  have z := CmpR.inL (d := .int (k : Int)) (ds := (c.map Int.ofNat).map .int) rfl (by simp [flatD])
  rw [inD_ints, ← natD_ints] at z
  have e : decide ((k : Int) ∈ c.map Int.ofNat) = decide (k ∈ c) := by
    rw [decide_eq_decide, List.mem_map]
    exact ⟨fun ⟨a, h1, h2⟩ => by rw [← Int.ofNat.inj h2]; exact h1, fun h => ⟨k, h, rfl⟩⟩
  rw [e] at z
  exact z
theorem kind_ok (s : Step) : PyData.strOk (kindOf s) = true := by
  cases s with
  | work n => exact (by decide +kernel : PyData.strOk ("work" : Str) = true)
  | hold n => exact (by decide +kernel : PyData.strOk ("hold" : Str) = true)
  | free n => exact (by decide +kernel : PyData.strOk ("free" : Str) = true)
theorem Fine.step (n : Nat) (s : Step) : Fine (n + 1) (encStep s) := Fine.tup (fun d hd => by
  rcases List.mem_cons.mp hd with rfl | hd
  · exact Fine.str n _ (kind_ok s)
  · rcases List.mem_cons.mp hd with rfl | hd
    · exact Fine.int n _
    · exact nomatch hd) (show 2 ≤ 1000 by decide)
theorem Fine.map {α : Type} {n : Nat} {f : α → D} {xs : List α} (h : ∀ x ∈ xs, Fine n (f x)) (hl : xs.length ≤ 1000) : Fine (n + 1) (.lst (xs.map f)) := Fine.lst (fun d hd => by
  obtain ⟨x, hx, rfl⟩ := List.mem_map.mp hd
  exact h x hx) (by rw [List.length_map]; exact hl)
theorem Fine.plan (n : Nat) {p : Plan} (h : p.length ≤ 1000) : Fine (n + 2) (encPlan p) := Fine.map (fun s _ => Fine.step n s) h
theorem Fine.worker (n : Nat) {w : Worker} (h : w.plan.length ≤ 1000) : Fine (n + 3) (encW w) := Fine.tup (fun d hd => by
  rcases List.mem_cons.mp hd with rfl | hd
  · exact Fine.int _ _
  · rcases List.mem_cons.mp hd with rfl | hd
    · exact Fine.int _ _
    · rcases List.mem_cons.mp hd with rfl | hd
      · exact Fine.plan n h
      · exact nomatch hd) (show 3 ≤ 1000 by decide)
theorem Fine.spot (n : Nat) (s : Spot) : Fine (n + 1) (encS s) := Fine.tup (fun d hd => by
  rcases List.mem_cons.mp hd with rfl | hd
  · exact Fine.int n _
  · rcases List.mem_cons.mp hd with rfl | hd
    · exact Fine.int n _
    · exact nomatch hd) (show 2 ≤ 1000 by decide)
theorem Fine.workers (n : Nat) {ws : List Worker} (h : ∀ w ∈ ws, w.plan.length ≤ 1000) (hl : ws.length ≤ 1000) : Fine (n + 4) (.lst (ws.map encW)) := Fine.map (fun w hw => Fine.worker n (h w hw)) hl
theorem Fine.shop (n : Nat) {s : Shop} (h : Siz s) : Fine (n + 5) (encShop s) := by
  have hm := h.many
  have hl := h.len
  refine Fine.tup (fun d hd => ?_) (show 3 ≤ 1000 by decide)
  rcases List.mem_cons.mp hd with rfl | hd
  · exact Fine.workers n (fun w hw => by have := h.plans w hw; omega) (by omega)
  · rcases List.mem_cons.mp hd with rfl | hd
    · exact Fine.int _ _
    · rcases List.mem_cons.mp hd with rfl | hd
      · exact Fine.map (fun s _ => Fine.spot (n + 2) s) (by omega)
      · exact nomatch hd
theorem Fine.natL (n : Nat) {c : List Nat} (h : c.length ≤ 1000) : Fine (n + 1) (.lst (c.map natD)) := Fine.map (fun x _ => Fine.int n _) h
theorem Fine.optN (n : Nat) (o : Option Nat) : Fine n (encOpt o) := by
  cases o with
  | none => exact Fine.non n
  | some k => exact Fine.int n _
theorem optI_N (o : Option Nat) : optI (optN o) = encOpt o := by cases o <;> rfl
def f_law : FD := fun ds r => ∃ ns : List Int, ds = [.scr ns] ∧ ns.length ≤ 63 ∧ r = .fz (.bl true)
theorem walk_ofY {l : PySem.W.OpenLaw} {k : Nat} {q : Program} {loose : List Str} {XP : (Str → Option Value) → Heap → Prop} {YP : World → Heap → Prop} {d : DefRec} {K : Params → PySem.W.Frag} {x : Str}
    (hn : l.most = some 63) (hdf : d.params.defaults = []) (hr : Room k callerA)
    (hY : ∀ (w : World) (h : Heap), YP w h → (K w.params).In h)
    (F : ∀ (w : World) (mg : Str → Option Value) (fa : Addr) (h : Heap), (K w.params).In h → h.Ns mainGlobals mg → mg d.name = some (.ref fa) →
      ∃ fd : FuncData, (∀ (s : Shared) (u : Value), BindsTo s fd ⟨[u], []⟩ [(x, u)]) ∧
        ∀ base : Heap, (K w.params).In base → base.Ns mainGlobals mg → FnOk l.prog w (K w.params) mg base (L2.CX l.prog w) k fa fd [x] (SpD (K w.params) f_law)) :
    PySem.W.WalkO q loose XP YP l.row.toRowW d [] (fun f vs => PySem.call f vs) :=
  walk_of (K := K) (CX := fun w => L2.CX l.prog w) (sp := fun w => SpD (K w.params) f_law) hn (by decide) hdf hr hY F
    (fun w H a ns hl _ hS => ⟨H, [.scr ns], .fz (.bl true), Evl.Ex.refl H, .cons (.scr hS) .nil, ⟨ns, rfl, hl, rfl⟩, (fun z => nomatch z), fun v G' H' _ _ _ _ h => by obtain ⟨u, e, q⟩ := h; cases e; cases q; rfl⟩)
    (fun w H s e s' h => by obtain ⟨_, _, _, _, _, _, _, _, _, _, _, _, z⟩ := h; exact z)
theorem fn_mk {P : Program} {w : World} {K : PySem.W.Frag} {mg : Str → Option Value} {base : Heap} {k : Nat} {x : Str} {st : Stmt} {N ps : List Str} {f : FD} {fa : Addr} {fd : FuncData} (F : Fun K x x st fa fd) (S : FnScope N ps (defScope st)) (len : ∀ ds r, f ds r → ds.length = ps.length)
    (body : ∀ (fa : Addr) (cd : Value) (A : Around) (outer : List Env) (s : Shared) (H : Hp) (E : XK) (ds : List D) (r : Sl), Room k (CxN P w K mg base N x st fa cd A outer s H E).A → f ds r →
      PSD (CxN P w K mg base N x st fa cd A outer s H E) (defBody st) (startR N ds) { nx := fun _ => r = .fz .non, rt := fun r' => r' = r }) : FnOk P w K mg base (L2.CX P w) (k + 1) fa fd ps (SpD K f) := by
  refine F.okX S (fun vs H Q E h => ?_) (fun cdv A outer s H vs Q E hr h => ?_)
  · obtain ⟨G, ds, r, _, hr, hf, _⟩ := h
    rw [hr.length, len ds r hf]
  · obtain ⟨G, ds, r, eG, hrep, hf, hne, q⟩ := h
    refine ⟨_, PSs.nox (canB (X := CxN P w K mg base N x st fa cdv A outer s H E)), ?_⟩
    refine body fa cdv A outer s H E ds r hr hf ⟨G, H⟩ (L2.start N vs) G H _ (sr_start eG hrep) ⟨?_, ?_, fun _ _ _ _ _ _ z => z.elim, fun _ _ _ _ _ _ z => z.elim⟩
    · rintro σ' G' H' ρ' e S' rfl
      exact q .non G' H' e S'.e2 S'.e3 S'.nw ⟨_, rfl, .non⟩
    · rintro v σ' ρ' G' H' r' e S' hv _ rfl
      exact q v G' H' e S'.e2 S'.e3 S'.nw hv.2.1
theorem def_mk {K : PySem.W.Frag} {h : Heap} {mg : Str → Option Value} {x : Str} {st : Stmt} {ps : List Str} {f : Addr} {fd : FuncData} (X : K.In h) (G : h.Ns mainGlobals mg) (a : PySem.W.nsIn K mainGlobals x = some (some (.ref f))) (F : Fun K x x st f fd) (b : Binds K fd ps []) : Def K mg x st ps :=
  ⟨⟨f, fd, F, PySem.W.mg_of X G a, b⟩⟩
/-- sums over workers and their spots -/
def tot (f : Worker → Spot → Int) : List Worker → List Spot → Int
  | w :: ws, p :: ps => f w p + tot f ws ps
  | _, _ => 0
theorem tot_set (f : Worker → Spot → Int) : ∀ (ws : List Worker) (ps : List Spot) (k : Nat) (w : Worker) (p q : Spot), ws[k]? = some w → ps[k]? = some p → tot f ws (ps.set k q) = tot f ws ps - f w p + f w q
  | [], _, _, _, _, _, h, _ => by simp at h
  | _ :: _, [], _, _, _, _, _, h => by simp at h
  | a :: ws, b :: ps, 0, w, p, q, h, g => by
    simp at h g
    subst h; subst g
    show f a q + tot f ws ps = f a b + tot f ws ps - f a b + f a q
    omega
  | a :: ws, b :: ps, k + 1, w, p, q, h, g => by
    have ih := tot_set f ws ps k w p q (by simpa using h) (by simpa using g)
    show f a b + tot f ws (ps.set k q) = f a b + tot f ws ps - f w p + f w q
    rw [ih]
    omega
theorem tot_nonneg {f : Worker → Spot → Int} : ∀ (ws : List Worker) (ps : List Spot), (∀ (k : Nat) (w : Worker) (p : Spot), ws[k]? = some w → ps[k]? = some p → 0 ≤ f w p) → 0 ≤ tot f ws ps
  | [], _, _ => Int.le_refl _
  | _ :: _, [], _ => Int.le_refl _
  | a :: ws, b :: ps, h => by
    have ih := tot_nonneg ws ps fun k w p h1 h2 => h (k + 1) w p (by simpa using h1) (by simpa using h2)
    have := h 0 a b rfl rfl
    show 0 ≤ f a b + tot f ws ps
    omega
theorem tot_le {f : Worker → Spot → Int} {c : Int} (hc : 0 ≤ c) : ∀ (ws : List Worker) (ps : List Spot), (∀ (k : Nat) (w : Worker) (p : Spot), ws[k]? = some w → ps[k]? = some p → f w p ≤ c) → tot f ws ps ≤ c * (ws.length : Int)
  | [], _, _ => by show (0 : Int) ≤ _; simp
  | a :: ws, [], _ => by
    show (0 : Int) ≤ _
    exact Int.mul_nonneg hc (Int.natCast_nonneg _)
  | a :: ws, b :: ps, h => by
    have ih := tot_le hc ws ps fun k w p h1 h2 => h (k + 1) w p (by simpa using h1) (by simpa using h2)
    have := h 0 a b rfl rfl
    show f a b + tot f ws ps ≤ c * ((ws.length + 1 : Nat) : Int)
    have e : c * ((ws.length + 1 : Nat) : Int) = c * (ws.length : Int) + c := by
      rw [Int.natCast_add, Int.mul_add]
      simp
    omega
theorem tot_pos {f : Worker → Spot → Int} : ∀ (ws : List Worker) (ps : List Spot) (k : Nat) (w : Worker) (p : Spot), ws[k]? = some w → ps[k]? = some p → (∀ (k : Nat) (w : Worker) (p : Spot), ws[k]? = some w → ps[k]? = some p → 0 ≤ f w p) → f w p ≤ tot f ws ps
  | [], _, _, _, _, h, _, _ => by simp at h
  | _ :: _, [], _, _, _, _, h, _ => by simp at h
  | a :: ws, b :: ps, 0, w, p, h, g, n => by
    simp at h g
    subst h; subst g
    have := tot_nonneg ws ps fun k w p h1 h2 => n (k + 1) w p (by simpa using h1) (by simpa using h2)
    show f a b ≤ f a b + tot f ws ps
    omega
  | a :: ws, b :: ps, k + 1, w, p, h, g, n => by
    have ih := tot_pos ws ps k w p (by simpa using h) (by simpa using g) fun k w p h1 h2 => n (k + 1) w p (by simpa using h1) (by simpa using h2)
    have := n 0 a b rfl rfl
    show f w p ≤ f a b + tot f ws ps
    omega

def chosenP (s : Shop) : Option Nat := chosenL s (chainF s)
def setSp (s : Shop) (now : Int) (k : Nat) (p : Spot) : Shop := ⟨s.ws, now, s.sp.set k p⟩
def nextSp (w : Worker) (p : Spot) : Spot := ⟨skipF w.plan (p.place + 1), 0⟩
def doneS (s : Shop) (now : Int) (k : Nat) : Shop := match s.ws[k]?, s.sp[k]? with
  | some w, some p => setSp s now k (nextSp w p)
  | _, _ => s
def lastTick (w : Worker) (p : Spot) : Prop := w.plan[p.place]? = some (.work (p.gone + 1))
instance (w : Worker) (p : Spot) : Decidable (lastTick w p) := by unfold lastTick; infer_instance
def workS (s : Shop) (k : Nat) : Shop := match s.ws[k]?, s.sp[k]? with
  | some w, some p => if lastTick w p then setSp s (s.now + 1) k (nextSp w p) else setSp s (s.now + 1) k ⟨p.place, p.gone + 1⟩
  | _, _ => s
def holdAt (s : Shop) (k : Nat) : Bool := match stepAt s k with
  | some st => isHold st
  | none => false
/-- steps that are left -/
def leftW (w : Worker) (p : Spot) : Int := (w.plan.length : Int) - (p.place : Int)
def leftS (s : Shop) : Nat := (tot leftW s.ws s.sp).toNat
def holdsN : Nat → Shop → Shop
  | 0, s => s
  | n + 1, s => match chosenP s with
    | some k => if holdAt s k = true then holdsN n (doneS s s.now k) else s
    | none => s
def holdsD (s : Shop) : Shop := holdsN (leftS s) s
def tickS (s : Shop) : Shop × Option Nat := match chosenP (holdsD s) with
  | none => (⟨(holdsD s).ws, (holdsD s).now + 1, (holdsD s).sp⟩, none)
  | some k => (workS (holdsD s) k, some k)
inductive Reach : Shop → Shop → Prop
  | refl (s : Shop) : Reach s s
  | step {s s2 : Shop} {k : Nat} (c : chosenP s = some k) (h : holdAt s k = true) (r : Reach (doneS s s.now k) s2) : Reach s s2

theorem set_self' {α : Type} {xs : List α} {k : Nat} {x y : α} (h : xs[k]? = some y) : (xs.set k x)[k]? = some x := List.getElem?_set_self (List.getElem?_eq_some_iff.mp h).1
theorem set_cases {α : Type} {xs : List α} {k j : Nat} {x z y : α} (hk : xs[k]? = some y) (h : (xs.set k x)[j]? = some z) : (j = k ∧ z = x) ∨ (j ≠ k ∧ xs[j]? = some z) := by
  by_cases e : j = k
  · subst e
    rw [set_self' hk] at h
    cases h
    exact .inl ⟨rfl, rfl⟩
  · rw [List.getElem?_set_ne (Ne.symm e)] at h
    exact .inr ⟨e, h⟩
theorem ShopOk.at {s : Shop} (h : ShopOk s) {k : Nat} (hk : k < s.ws.length) : ∃ w p, s.ws[k]? = some w ∧ s.sp[k]? = some p := by
  have hk2 : k < s.sp.length := by rw [h.len]; exact hk
  exact ⟨_, _, List.getElem?_eq_getElem hk, List.getElem?_eq_getElem hk2⟩
theorem toolsOf_at {s : Shop} {k : Nat} {w : Worker} {p : Spot} (h1 : s.ws[k]? = some w) (h2 : s.sp[k]? = some p) : toolsOf s k = toolsAt w.plan p.place := by
  unfold toolsOf; rw [h1, h2]
theorem toolsOf_set {s : Shop} {now : Int} {k : Nat} {w : Worker} {p q : Spot} (h1 : s.ws[k]? = some w) (h2 : s.sp[k]? = some p) (j : Nat) : toolsOf (setSp s now k q) j = if j = k then toolsAt w.plan q.place else toolsOf s j := by
  by_cases e : j = k
  · subst e
    rw [if_pos rfl]
    exact toolsOf_at (s := setSp s now j q) h1 (set_self' h2)
  · rw [if_neg e]
    unfold toolsOf
    show (match s.ws[j]?, (s.sp.set k q)[j]? with | some w, some p => toolsAt w.plan p.place | _, _ => []) = _
    rw [List.getElem?_set_ne (Ne.symm e)]
    try rfl
theorem ShopOk.setSp {s : Shop} (h : ShopOk s) {k : Nat} {w : Worker} {p q : Spot} (h1 : s.ws[k]? = some w) (h2 : s.sp[k]? = some p) {now : Int} (hn : s.now ≤ now) (ok : SpotOk w.plan q) (hst : w.start ≤ now)
    (ht : ∀ t ∈ toolsAt w.plan q.place, t ∈ toolsOf s k ∨ ∀ j, t ∉ toolsOf s j) : ShopOk (setSp s now k q) := by
  refine ⟨?_, h.many1, h.many, h.plans, h.ranks, h.rank, h.start, fun j w' p' e1 e2 => ?_, fun j w' p' e1 e2 e3 => ?_, fun i j t a b => ?_, ?_⟩
  · show (s.sp.set k q).length = s.ws.length
    rw [List.length_set]; exact h.len
  · rcases set_cases h2 e2 with ⟨ej, ep⟩ | ⟨ej, ep⟩
    · subst ej
      have : w' = w := Option.some.inj ((show s.ws[j]? = some w' from e1).symm.trans h1)
      rw [this, ep]; exact ok
    · exact h.spots j w' p' e1 ep
  · have e3' : now < w'.start := e3
    rcases set_cases h2 e2 with ⟨ej, ep⟩ | ⟨ej, ep⟩
    · subst ej
      have : w' = w := Option.some.inj ((show s.ws[j]? = some w' from e1).symm.trans h1)
      rw [this] at e3'
      omega
    · exact h.early j w' p' e1 ep (by omega)
  · rw [toolsOf_set h1 h2] at a b
    by_cases ei : i = k
    · by_cases ej : j = k
      · rw [ei, ej]
      · rw [if_pos ei] at a
        rw [if_neg ej] at b
        rcases ht t a with a | a
        · rw [ei]; exact h.apart k j t a b
        · exact absurd b (a j)
    · by_cases ej : j = k
      · rw [if_neg ei] at a
        rw [if_pos ej] at b
        rcases ht t b with b | b
        · rw [ej]; exact h.apart i k t a b
        · exact absurd a (b i)
      · rw [if_neg ei] at a
        rw [if_neg ej] at b
        exact h.apart i j t a b
  · show 0 ≤ now
    have := h.now0
    omega
/-- behind the frees -/
theorem skip_ind {p : Plan} {P : Nat → Prop} (hs : ∀ (n : Nat) (t : Int), p[n]? = some (.free t) → P n → P (n + 1)) : ∀ (m n : Nat), p.length - n ≤ m → P n → P (skipF p n)
  | 0, n, hm, h => by
    rw [skipF_end (by omega)]; exact h
  | m + 1, n, hm, h => by
    by_cases hn : n < p.length
    · have e : p[n]? = some p[n] := List.getElem?_eq_getElem hn
      cases q : isFree p[n] with
      | true =>
        rw [skipF_yes e q]
        refine skip_ind hs m (n + 1) (by omega) ?_
        cases q2 : p[n] with
        | free t => exact hs n t (by rw [e, q2]) h
        | work t => rw [q2] at q; cases q
        | hold t => rw [q2] at q; cases q
      | false => rw [skipF_no e q]; exact h
    · rw [skipF_end (by omega)]; exact h
theorem skip_tools {p : Plan} {n : Nat} {t : Int} (h : t ∈ toolsAt p (skipF p n)) : t ∈ toolsAt p n := by
  refine skip_ind (p := p) (P := fun m => t ∈ toolsAt p m → t ∈ toolsAt p n) (fun m x e ih hm => ?_) (p.length - n) n (Nat.le_refl _) (fun z => z) h
  rw [toolsAt_succ e] at hm
  exact ih (List.mem_filter.mp hm).1
/-- how much work a plan holds -/
def workSum : Plan → Int
  | [] => 0
  | s :: p => workOf s + workSum p
theorem drop_at {p : Plan} {n : Nat} {s : Step} (h : p[n]? = some s) : p.drop n = s :: p.drop (n + 1) := by
  have hn : n < p.length := (List.getElem?_eq_some_iff.mp h).1
  rw [List.drop_eq_getElem_cons hn, (List.getElem?_eq_some_iff.mp h).2]
theorem skip_work (p : Plan) (n : Nat) : workSum (p.drop (skipF p n)) = workSum (p.drop n) := by
  refine skip_ind (p := p) (P := fun m => workSum (p.drop m) = workSum (p.drop n)) (fun m x e ih => ?_) (p.length - n) n (Nat.le_refl _) rfl
  rw [drop_at e] at ih
  rw [← ih]
  show _ = 0 + _
  omega
def anyWork (p : Plan) : Bool := p.any isWork
theorem skip_any (p : Plan) (n : Nat) : anyWork (p.drop (skipF p n)) = anyWork (p.drop n) := by
  refine skip_ind (p := p) (P := fun m => anyWork (p.drop m) = anyWork (p.drop n)) (fun m x e ih => ?_) (p.length - n) n (Nat.le_refl _) rfl
  rw [drop_at e] at ih
  rw [← ih]
  show _ = (isWork (.free x) || _)
  rfl
theorem nextSp_ok {w : Worker} {p : Spot} (hp : p.place < w.plan.length) (hw : PlanOk w.plan) : SpotOk w.plan (nextSp w p) where
  le := (skipF_le (by omega)).2
  nofree := fun st e => skipF_at e
  gone0 := Int.le_refl _
  gone := fun n e => by
    have : 1 ≤ n ∧ n ≤ 100 := hw.fits (show w.plan[skipF w.plan (p.place + 1)]? = some (.work n) from e)
    show 0 < n
    omega
  goneZ := fun _ => rfl
theorem nextSp_gt (w : Worker) (p : Spot) (hp : p.place < w.plan.length) : p.place < (nextSp w p).place ∧ (nextSp w p).place ≤ w.plan.length := by
  have := skipF_le (p := w.plan) (n := p.place + 1) (by omega)
  show p.place < skipF w.plan (p.place + 1) ∧ skipF w.plan (p.place + 1) ≤ w.plan.length
  omega
theorem doneS_at {s : Shop} {now : Int} {k : Nat} {w : Worker} {p : Spot} (h1 : s.ws[k]? = some w) (h2 : s.sp[k]? = some p) : doneS s now k = setSp s now k (nextSp w p) := by
  unfold doneS; rw [h1, h2]
theorem chosen_best {s : Shop} (h : ShopOk s) {k : Nat} (c : chosenP s = some k) : Best s k := by
  have z := chosen_going h
  unfold chosenP at c
  rw [c] at z
  exact z
theorem chosen_none {s : Shop} (h : ShopOk s) : chosenP s = none ↔ ∀ k, there s k = false := by
  have z := chosen_going h
  unfold chosenP
  constructor
  · intro c k
    rw [c] at z
    cases e : there s k with
    | false => rfl
    | true => exact (z _ (end_ready h e)).elim
  · intro c
    cases e : chosenL s (chainF s) with
    | none => rfl
    | some k =>
      rw [e] at z
      have := z.ready.1
      rw [c k] at this
      cases this
/-- a chosen one's hold -/
theorem hold_facts {s : Shop} (h : ShopOk s) {k : Nat} (c : chosenP s = some k) (q : holdAt s k = true) : ∃ w p t, s.ws[k]? = some w ∧ s.sp[k]? = some p ∧ w.plan[p.place]? = some (.hold t) ∧ p.place < w.plan.length ∧ w.start ≤ s.now ∧ (∀ j, t ∉ toolsOf s j) := by
  have b := chosen_best h c
  obtain ⟨w, p, st, e1, e2, e3, e4, e5, e6⟩ := there_step b.ready.1
  unfold holdAt at q
  rw [e4] at q
  cases st with
  | work n => cases q
  | free n => cases q
  | hold t =>
    refine ⟨w, p, t, e1, e2, e3, e6, e5, fun j hj => ?_⟩
    have ha := b.ready.2
    unfold afterF at ha
    rw [if_pos b.ready.1, e4] at ha
    have hj' : j < s.ws.length := by
      unfold toolsOf at hj
      split at hj
      · rename_i f _; exact (List.getElem?_eq_some_iff.mp f).1
      · exact nomatch hj
    exact List.find?_eq_none.mp (show (List.range s.ws.length).find? (fun i => decide (t ∈ toolsOf s i)) = none from ha) j (List.mem_range.mpr hj') (decide_eq_true hj)
theorem hold_ok {s : Shop} (h : ShopOk s) {k : Nat} (c : chosenP s = some k) (q : holdAt s k = true) : ShopOk (doneS s s.now k) := by
  obtain ⟨w, p, t, e1, e2, e3, e4, e5, e6⟩ := hold_facts h c q
  rw [doneS_at e1 e2]
  refine h.setSp e1 e2 (Int.le_refl _) (nextSp_ok e4 (h.plans k w e1)) e5 fun x hx => ?_
  have hx' := skip_tools (show x ∈ toolsAt w.plan (skipF w.plan (p.place + 1)) from hx)
  rw [toolsAt_succ e3] at hx'
  rcases List.mem_append.mp hx' with hx' | hx'
  · rw [toolsOf_at e1 e2]; exact .inl hx'
  · rw [List.mem_singleton.mp hx']; exact .inr e6
theorem left_nonneg {s : Shop} (h : ShopOk s) : 0 ≤ tot leftW s.ws s.sp := tot_nonneg _ _ fun k w p e1 e2 => by
  have := (h.spots k w p e1 e2).le
  unfold leftW
  omega
theorem hold_left {s : Shop} (h : ShopOk s) {k : Nat} (c : chosenP s = some k) (q : holdAt s k = true) : leftS (doneS s s.now k) < leftS s := by
  obtain ⟨w, p, t, e1, e2, e3, e4, e5, e6⟩ := hold_facts h c q
  have h' := hold_ok h c q
  have a1 := left_nonneg h
  have a2 := left_nonneg h'
  have g := nextSp_gt w p e4
  rw [doneS_at e1 e2] at a2 ⊢
  have e : tot leftW s.ws (s.sp.set k (nextSp w p)) = tot leftW s.ws s.sp - leftW w p + leftW w (nextSp w p) := tot_set leftW s.ws s.sp k w p (nextSp w p) e1 e2
  have a2' : 0 ≤ tot leftW s.ws (s.sp.set k (nextSp w p)) := a2
  show (tot leftW s.ws (s.sp.set k (nextSp w p))).toNat < (tot leftW s.ws s.sp).toNat
  unfold leftW at *
  omega
theorem holdsN_more {s : Shop} (h : ShopOk s) : ∀ (n m : Nat), leftS s ≤ n → leftS s ≤ m → holdsN n s = holdsN m s := by
  have key : ∀ (x : Nat) (s : Shop), ShopOk s → leftS s = x → ∀ (n m : Nat), leftS s ≤ n → leftS s ≤ m → holdsN n s = holdsN m s := by
    intro x
    induction x using Nat.strongRecOn with
    | _ x ih =>
      intro s h e n m hn hm
      have stop : (∀ k, chosenP s = some k → holdAt s k = false) → ∀ n, holdsN n s = s := fun z n => by
        cases n with
        | zero => rfl
        | succ n =>
          unfold holdsN
          cases c : chosenP s with
          | none => rfl
          | some k => show (if _ then _ else _) = s; rw [if_neg (by rw [z k c]; decide)]
      by_cases z : ∀ k, chosenP s = some k → holdAt s k = false
      · rw [stop z n, stop z m]
      · have z' : ∃ k, chosenP s = some k ∧ holdAt s k = true := by
          cases c : chosenP s with
          | none => exact absurd (fun k c2 => by rw [c] at c2; cases c2) z
          | some k =>
            refine ⟨k, rfl, ?_⟩
            cases q : holdAt s k with
            | true => rfl
            | false => exact absurd (fun j c2 => by rw [c] at c2; cases c2; exact q) z
        obtain ⟨k, c, q⟩ := z'
        have hl := hold_left h c q
        cases n with
        | zero => omega
        | succ n =>
          cases m with
          | zero => omega
          | succ m =>
            unfold holdsN
            rw [c]
            show (if _ then _ else _) = (if _ then _ else _)
            rw [if_pos q, if_pos q]
            exact ih _ (by omega) _ (hold_ok h c q) rfl n m (by omega) (by omega)
  exact key _ s h rfl
theorem holdsD_step {s : Shop} (h : ShopOk s) {k : Nat} (c : chosenP s = some k) (q : holdAt s k = true) : holdsD s = holdsD (doneS s s.now k) := by
  have hl := hold_left h c q
  unfold holdsD
  cases e : leftS s with
  | zero => omega
  | succ n =>
    have : holdsN (n + 1) s = holdsN n (doneS s s.now k) := by
      conv => lhs; unfold holdsN
      rw [c]
      exact if_pos q
    rw [this]
    exact holdsN_more (hold_ok h c q) _ _ (by omega) (Nat.le_refl _)
theorem holdsD_stop {s : Shop} (z : ∀ k, chosenP s = some k → holdAt s k = false) : holdsD s = s := by
  unfold holdsD
  cases leftS s with
  | zero => rfl
  | succ n =>
    unfold holdsN
    cases c : chosenP s with
    | none => rfl
    | some k => show (if _ then _ else _) = s; rw [if_neg (by rw [z k c]; decide)]
theorem holdsD_reach : ∀ {s : Shop}, ShopOk s → Reach s (holdsD s) ∧ ∀ k, chosenP (holdsD s) = some k → holdAt (holdsD s) k = false := by
  have key : ∀ (x : Nat) (s : Shop), ShopOk s → leftS s = x → Reach s (holdsD s) ∧ ∀ k, chosenP (holdsD s) = some k → holdAt (holdsD s) k = false := by
    intro x
    induction x using Nat.strongRecOn with
    | _ x ih =>
      intro s h e
      by_cases z : ∀ k, chosenP s = some k → holdAt s k = false
      · rw [holdsD_stop z]; exact ⟨.refl s, z⟩
      · have z' : ∃ k, chosenP s = some k ∧ holdAt s k = true := by
          cases c : chosenP s with
          | none => exact absurd (fun k c2 => by rw [c] at c2; cases c2) z
          | some k =>
            refine ⟨k, rfl, ?_⟩
            cases q : holdAt s k with
            | true => rfl
            | false => exact absurd (fun j c2 => by rw [c] at c2; cases c2; exact q) z
        obtain ⟨k, c, q⟩ := z'
        obtain ⟨i1, i2⟩ := ih _ (by have := hold_left h c q; omega) _ (hold_ok h c q) rfl
        rw [holdsD_step h c q]
        exact ⟨.step c q i1, i2⟩
  exact fun {s} h => key _ s h rfl
theorem Reach.ok {s s2 : Shop} (r : Reach s s2) (h : ShopOk s) : ShopOk s2 := by
  induction r with
  | refl s => exact h
  | step c q r ih => exact ih (hold_ok h c q)
theorem doneS_ws (s : Shop) (now : Int) (k : Nat) : (doneS s now k).ws = s.ws := by
  unfold doneS; split <;> rfl
theorem Reach.same {s s2 : Shop} (r : Reach s s2) (h : ShopOk s) : s2.ws = s.ws ∧ s2.now = s.now := by
  induction r with
  | refl s => exact ⟨rfl, rfl⟩
  | step c q r ih =>
    obtain ⟨i1, i2⟩ := ih (hold_ok h c q)
    obtain ⟨w, p, t, e1, e2, _⟩ := hold_facts h c q
    rw [i1, i2, doneS_at e1 e2]
    exact ⟨rfl, rfl⟩
theorem holdsD_ok {s : Shop} (h : ShopOk s) : ShopOk (holdsD s) := (holdsD_reach h).1.ok h
/-- a chosen one that holds nothing new works -/
theorem work_facts {s : Shop} (h : ShopOk s) {k : Nat} (c : chosenP s = some k) (q : holdAt s k = false) : ∃ w p n, s.ws[k]? = some w ∧ s.sp[k]? = some p ∧ w.plan[p.place]? = some (.work n) ∧ p.place < w.plan.length ∧ w.start ≤ s.now ∧ 1 ≤ n ∧ n ≤ 100 ∧ 0 ≤ p.gone ∧ p.gone < n := by
  have b := chosen_best h c
  obtain ⟨w, p, st, e1, e2, e3, e4, e5, e6⟩ := there_step b.ready.1
  unfold holdAt at q
  rw [e4] at q
  have so := h.spots k w p e1 e2
  cases st with
  | hold n => cases q
  | free n => exact nomatch (show true = false from so.nofree _ e3)
  | work n =>
    have : 1 ≤ n ∧ n ≤ 100 := (h.plans k w e1).fits e3
    exact ⟨w, p, n, e1, e2, e3, e6, e5, this.1, this.2, so.gone0, so.gone n e3⟩
theorem workS_at {s : Shop} {k : Nat} {w : Worker} {p : Spot} (h1 : s.ws[k]? = some w) (h2 : s.sp[k]? = some p) : workS s k = if lastTick w p then setSp s (s.now + 1) k (nextSp w p) else setSp s (s.now + 1) k ⟨p.place, p.gone + 1⟩ := by
  unfold workS; rw [h1, h2]
theorem goneSp_ok {w : Worker} {p : Spot} {n : Int} (so : SpotOk w.plan p) (e : w.plan[p.place]? = some (.work n)) (hl : ¬ lastTick w p) : SpotOk w.plan ⟨p.place, p.gone + 1⟩ where
  le := so.le
  nofree := so.nofree
  gone0 := by have := so.gone0; show 0 ≤ p.gone + 1; omega
  gone := fun m em => by
    have em' : w.plan[p.place]? = some (.work m) := em
    rw [e] at em'
    cases em'
    have := so.gone n e
    show p.gone + 1 < n
    have hne : n ≠ p.gone + 1 := fun z => hl (by unfold lastTick; rw [e, z])
    omega
  goneZ := fun z => absurd e (z n)
theorem work_ok {s : Shop} (h : ShopOk s) {k : Nat} (c : chosenP s = some k) (q : holdAt s k = false) : ShopOk (workS s k) := by
  obtain ⟨w, p, n, e1, e2, e3, e4, e5, e6, e7, e8, e9⟩ := work_facts h c q
  rw [workS_at e1 e2]
  split
  · refine h.setSp e1 e2 (by omega) (nextSp_ok e4 (h.plans k w e1)) (by omega) fun x hx => ?_
    have hx' := skip_tools (show x ∈ toolsAt w.plan (skipF w.plan (p.place + 1)) from hx)
    rw [toolsAt_succ e3] at hx'
    rw [toolsOf_at e1 e2]
    exact .inl hx'
  · rename_i hl
    refine h.setSp e1 e2 (by omega) (goneSp_ok (h.spots k w p e1 e2) e3 hl) (by omega) fun x hx => ?_
    rw [toolsOf_at e1 e2]
    exact .inl hx
theorem now_ok {s : Shop} (h : ShopOk s) : ShopOk ⟨s.ws, s.now + 1, s.sp⟩ :=
  ⟨h.len, h.many1, h.many, h.plans, h.ranks, h.rank, h.start, h.spots, fun k w p e1 e2 e3 => h.early k w p e1 e2 (by have e3' : s.now + 1 < w.start := e3; omega), h.apart, by have := h.now0; show 0 ≤ s.now + 1; omega⟩
theorem tick_ok {s : Shop} (h : ShopOk s) : ShopOk (tickS s).1 := by
  obtain ⟨r, z⟩ := holdsD_reach h
  have h1 := r.ok h
  unfold tickS
  split
  · exact now_ok h1
  · rename_i k c
    exact work_ok h1 c (z k c)
theorem workS_ws (s : Shop) (k : Nat) : (workS s k).ws = s.ws := by
  unfold workS
  split
  · split <;> rfl
  · rfl
theorem tick_ws {s : Shop} (h : ShopOk s) : (tickS s).1.ws = s.ws ∧ (tickS s).1.now = s.now + 1 := by
  obtain ⟨r, z⟩ := holdsD_reach h
  have h1 := r.ok h
  obtain ⟨a, b⟩ := r.same h
  unfold tickS
  split
  · exact ⟨a, by show (holdsD s).now + 1 = _; rw [b]⟩
  · rename_i k c
    obtain ⟨w, p, n, e1, e2, _⟩ := work_facts h1 c (z k c)
    refine ⟨(workS_ws _ _).trans a, ?_⟩
    show (workS (holdsD s) k).now = _
    rw [workS_at e1 e2]
    split <;> (show (holdsD s).now + 1 = _; rw [b])
/-- many ticks -/
def shopAt (s : Shop) : Nat → Shop
  | 0 => s
  | n + 1 => (tickS (shopAt s n)).1
def whoAt (s : Shop) (n : Nat) : Option Nat := (tickS (shopAt s n)).2
def rowsTo (s : Shop) (n : Nat) : List (Option Nat) := (List.range n).map (whoAt s)
theorem rowsTo_succ (s : Shop) (n : Nat) : rowsTo s (n + 1) = rowsTo s n ++ [whoAt s n] := by
  unfold rowsTo
  rw [List.range_succ, List.map_append]
  rfl
theorem rowsTo_len (s : Shop) (n : Nat) : (rowsTo s n).length = n := by
  unfold rowsTo
  rw [List.length_map, List.length_range]
theorem shopAt_ok {s : Shop} (h : ShopOk s) : ∀ n, ShopOk (shopAt s n)
  | 0 => h
  | n + 1 => tick_ok (shopAt_ok h n)
theorem shopAt_ws {s : Shop} (h : ShopOk s) : ∀ n : Nat, (shopAt s n).ws = s.ws ∧ (shopAt s n).now = s.now + (n : Int)
  | 0 => ⟨rfl, by show s.now = _; simp⟩
  | n + 1 => by
    obtain ⟨a, b⟩ := shopAt_ws h n
    obtain ⟨c, d⟩ := tick_ws (shopAt_ok h n)
    refine ⟨c.trans a, ?_⟩
    show (tickS (shopAt s n)).1.now = _
    rw [d, b]
    omega
/-- workers that make a shop -/
structure WsOk (ws : List Worker) : Prop where
  many1 : 1 ≤ ws.length
  many : ws.length ≤ 8
  plans : ∀ (k : Nat) (w : Worker), ws[k]? = some w → PlanOk w.plan
  ranks : (ws.map (·.rank)).Nodup
  rank : ∀ (k : Nat) (w : Worker), ws[k]? = some w → 1 ≤ w.rank ∧ w.rank ≤ 1000000
  start : ∀ (k : Nat) (w : Worker), ws[k]? = some w → 0 ≤ w.start ∧ w.start ≤ 1000
def begunS (ws : List Worker) : Shop := ⟨ws, 0, ws.map fun _ => ⟨0, 0⟩⟩
theorem begun_sp {ws : List Worker} {k : Nat} {p : Spot} (h : (begunS ws).sp[k]? = some p) : p = ⟨0, 0⟩ := by
  have h' : (ws.map fun _ => (⟨0, 0⟩ : Spot))[k]? = some p := h
  rw [List.getElem?_map] at h'
  cases q : ws[k]? with
  | none => rw [q] at h'; cases h'
  | some w => rw [q] at h'; cases h'; rfl
theorem begun_ok {ws : List Worker} (h : WsOk ws) : ShopOk (begunS ws) := by
  have nt : ∀ i t, t ∉ toolsOf (begunS ws) i := fun i t ht => by
    unfold toolsOf at ht
    split at ht
    · rename_i w p e1 e2
      rw [begun_sp e2] at ht
      exact nomatch ht
    · exact nomatch ht
  refine ⟨?_, h.many1, h.many, h.plans, h.ranks, h.rank, h.start, fun k w p e1 e2 => ?_, fun k w p e1 e2 _ => begun_sp e2, fun i j t a _ => absurd a (nt i t), Int.le_refl _⟩
  · show (ws.map _).length = ws.length
    rw [List.length_map]
  · rw [begun_sp e2]
    exact SpotOk.zero (h.plans k w e1)
theorem workersF_ok {C most late : Int} {ns : List Int} (hC : 0 ≤ C ∧ C ≤ 97) (hm : 0 < most ∧ most ≤ 20) (hl : 0 < late ∧ late ≤ 1001) : WsOk (workersF C most late ns) := by
  obtain ⟨_, h1, h8⟩ := manyF_eq ns
  have hlen := workersF_len C most late ns
  have d := degreesF_ok ns
  refine ⟨by omega, by omega, fun k w e => ?_, ?_, fun k w e => ?_, fun k w e => ?_⟩
  · obtain ⟨a, b⟩ := workersF_at e
    rw [b]
    exact workerF_ok hC hm a
  · rw [workersF_rank]; exact d.1
  · refine d.2 _ ?_
    rw [← workersF_rank C most late ns]
    exact List.mem_map.mpr ⟨w, List.mem_of_getElem? e, rfl⟩
  · obtain ⟨a, b⟩ := workersF_at e
    rw [b]
    exact startF_bd hl a
/-- a constant of the module -/
structure ConI (mg : Str → Option Value) (x : Str) (n : Int) : Prop where
  ex : ∃ u, mg x = some u ∧ RelV (.int n) u
theorem conI_mk {K : PySem.W.Frag} {h : Heap} {mg : Str → Option Value} {x : Str} {n : Int} {t : Tok} (X : K.In h) (G : h.Ns mainGlobals mg) (a : PySem.W.nsIn K mainGlobals x = some (some (.int n t))) : ConI mg x n := ⟨_, PySem.W.mg_of X G a, t, rfl⟩
theorem pd_con {X : Cx} {ρ : List Sl} {x : Str} {n : Int} {pos : Pos} (hm : ConI X.mg x n) (hg : Gl X x) (hd : (x == ("__debug__" : Str)) = false) : PD X (.Name x pos) ρ ρ (.fz (.int n)) := by
  obtain ⟨u, h1, h2⟩ := hm.ex
  exact pd_glob hg h1 h2 (fun _ _ => .int n) hd
def numB (d : D) (lo hi : Int) : Bool := match d with
  | .int n => decide (lo ≤ n) && decide (n ≤ hi)
  | _ => false
theorem numB_iff {d : D} {lo hi : Int} : numB d lo hi = true ↔ ∃ n, d = .int n ∧ lo ≤ n ∧ n ≤ hi := by
  constructor
  · intro h
    cases d with
    | int n =>
      have h' : (decide (lo ≤ n) && decide (n ≤ hi)) = true := h
      rw [Bool.and_eq_true] at h'
      exact ⟨n, rfl, of_decide_eq_true h'.1, of_decide_eq_true h'.2⟩
    | _ => cases h
  · rintro ⟨n, rfl, h1, h2⟩
    show (decide (lo ≤ n) && decide (n ≤ hi)) = true
    rw [decide_eq_true h1, decide_eq_true h2]
    rfl
def isStepB : D → Bool
  | .tup [.str k, y] => if (k == ("work" : Str)) = true then numB y 1 100 else ((("hold" : Str) == k) || (("free" : Str) == k)) && numB y 0 9
  | _ => false
def stepOf : D → Step
  | .tup [.str k, .int n] => if (k == ("work" : Str)) = true then .work n else if (("hold" : Str) == k) = true then .hold n else .free n
  | _ => .work 0
theorem isStepB_enc {st : Step} (h : (∃ n, st = .work n ∧ 1 ≤ n ∧ n ≤ 100) ∨ (∃ n, st = .hold n ∧ 0 ≤ n ∧ n ≤ 9) ∨ (∃ n, st = .free n ∧ 0 ≤ n ∧ n ≤ 9)) : isStepB (encStep st) = true ∧ stepOf (encStep st) = st := by
  have a1 : (("work" : Str) == ("work" : Str)) = true := by decide +kernel
  have a2 : (("hold" : Str) == ("work" : Str)) = false := by decide +kernel
  have a3 : (("free" : Str) == ("work" : Str)) = false := by decide +kernel
  have a4 : (("hold" : Str) == ("hold" : Str)) = true := by decide +kernel
  have a5 : (("hold" : Str) == ("free" : Str)) = false := by decide +kernel
  have a6 : (("free" : Str) == ("free" : Str)) = true := by decide +kernel
  rcases h with ⟨n, rfl, h1, h2⟩ | ⟨n, rfl, h1, h2⟩ | ⟨n, rfl, h1, h2⟩
  · have nb : numB (.int n) 1 100 = true := numB_iff.mpr ⟨n, rfl, h1, h2⟩
    constructor
    · show (if (("work" : Str) == ("work" : Str)) = true then numB (.int n) 1 100 else ((("hold" : Str) == ("work" : Str)) || (("free" : Str) == ("work" : Str))) && numB (.int n) 0 9) = true
      rw [if_pos a1, nb]
    · show (if (("work" : Str) == ("work" : Str)) = true then Step.work n else if (("hold" : Str) == ("work" : Str)) = true then .hold n else .free n) = _
      rw [if_pos a1]
  · have nb : numB (.int n) 0 9 = true := numB_iff.mpr ⟨n, rfl, h1, h2⟩
    constructor
    · show (if (("hold" : Str) == ("work" : Str)) = true then numB (.int n) 1 100 else ((("hold" : Str) == ("hold" : Str)) || (("free" : Str) == ("hold" : Str))) && numB (.int n) 0 9) = true
      rw [a2, a4, nb]
      rfl
    · show (if (("hold" : Str) == ("work" : Str)) = true then Step.work n else if (("hold" : Str) == ("hold" : Str)) = true then .hold n else .free n) = _
      rw [a2, a4]
      rfl
  · have nb : numB (.int n) 0 9 = true := numB_iff.mpr ⟨n, rfl, h1, h2⟩
    constructor
    · show (if (("free" : Str) == ("work" : Str)) = true then numB (.int n) 1 100 else ((("hold" : Str) == ("free" : Str)) || (("free" : Str) == ("free" : Str))) && numB (.int n) 0 9) = true
      rw [a3, a5, a6, nb]
      rfl
    · show (if (("free" : Str) == ("work" : Str)) = true then Step.work n else if (("hold" : Str) == ("free" : Str)) = true then .hold n else .free n) = _
      rw [a3, a5]
      rfl
def StepRange : Step → Prop
  | .work n => 1 ≤ n ∧ n ≤ 100
  | .hold n => 0 ≤ n ∧ n ≤ 9
  | .free n => 0 ≤ n ∧ n ≤ 9
theorem isStepB_of {d : D} (h : isStepB d = true) : d = encStep (stepOf d) ∧ StepRange (stepOf d) := by
  unfold isStepB at h
  split at h
  · rename_i k y
    split at h
    · rename_i hk
      obtain ⟨n, rfl, h1, h2⟩ := numB_iff.mp h
      have e := eq_of_beq hk
      subst e
      have es : stepOf (.tup [.str ("work" : Str), .int n]) = if (("work" : Str) == ("work" : Str)) = true then .work n else if (("hold" : Str) == ("work" : Str)) = true then .hold n else .free n := rfl
      rw [if_pos hk] at es
      rw [es]
      exact ⟨rfl, h1, h2⟩
    · rename_i hk
      rw [Bool.and_eq_true, Bool.or_eq_true] at h
      obtain ⟨n, rfl, h1, h2⟩ := numB_iff.mp h.2
      have es : stepOf (.tup [.str k, .int n]) = if (("hold" : Str) == k) = true then .hold n else .free n := if_neg hk
      rw [es]
      by_cases hh : (("hold" : Str) == k) = true
      · rw [if_pos hh]
        have e := eq_of_beq hh
        subst e
        exact ⟨rfl, h1, h2⟩
      · rw [if_neg hh]
        have e := eq_of_beq (h.1.resolve_left hh)
        subst e
        exact ⟨rfl, h1, h2⟩
  · cases h
def fitsB (ts : List Int) : Step → Bool
  | .work _ => true
  | .hold t => decide (maxL ts (-1) < t)
  | .free t => decide (t ∈ ts)
/-- steps one behind the other -/
def planGo (ts : List Int) : List D → Bool
  | [] => ts.isEmpty
  | d :: ds => isStepB d && fitsB ts (stepOf d) && planGo (toolsBehind ts (stepOf d)) ds
def planB : D → Bool
  | .lst ds => decide (1 ≤ ds.length) && decide (ds.length ≤ 40) && planGo [] ds
  | _ => false
theorem fitsS_range {ts : List Int} (r : RT ts) {st : Step} (f : fitsS ts st) : StepRange st := by
  cases st with
  | work n => exact f
  | hold t => exact ⟨f.1, f.2.1⟩
  | free t => exact r.low t f
theorem range_step {st : Step} (h : StepRange st) : isStepB (encStep st) = true ∧ stepOf (encStep st) = st := isStepB_enc (by
  cases st with
  | work n => exact .inl ⟨n, rfl, h⟩
  | hold n => exact .inr (.inl ⟨n, rfl, h⟩)
  | free n => exact .inr (.inr ⟨n, rfl, h⟩))
theorem maxL_lt {ts : List Int} {t : Int} (h0 : -1 < t) : maxL ts (-1) < t ↔ ∀ u ∈ ts, u < t := by
  constructor
  · intro h u hu
    have := maxL_all (d := -1) hu
    omega
  · intro h
    by_cases e : ts = []
    · subst e; exact h0
    · exact h _ (maxL_ne e)
theorem fitsB_iff {ts : List Int} {st : Step} (hr : StepRange st) : fitsB ts st = true ↔ fitsS ts st := by
  cases st with
  | work n => exact ⟨fun _ => hr, fun _ => rfl⟩
  | hold t =>
    have hr' : 0 ≤ t ∧ t ≤ 9 := hr
    show decide (maxL ts (-1) < t) = true ↔ 0 ≤ t ∧ t ≤ 9 ∧ ∀ u ∈ ts, u < t
    rw [decide_eq_true_iff, maxL_lt (by omega)]
    exact ⟨fun h => ⟨hr'.1, hr'.2, h⟩, fun h => h.2.2⟩
  | free t =>
    show decide (t ∈ ts) = true ↔ t ∈ ts
    exact decide_eq_true_iff
theorem planGo_enc {p : Plan} : ∀ {ts : List Int}, RT ts → okPre ts p [] → planGo ts (p.map encStep) = true := by
  induction p with
  | nil =>
    intro ts r h
    have e : [] = ts := h
    rw [← e]
    rfl
  | cons st p ih =>
    intro ts r h
    have hr := fitsS_range r h.1
    obtain ⟨a1, a2⟩ := range_step hr
    show (isStepB (encStep st) && fitsB ts (stepOf (encStep st)) && planGo (toolsBehind ts (stepOf (encStep st))) (p.map encStep)) = true
    rw [a1, a2, (fitsB_iff hr).mpr h.1, ih (r.behind h.1) h.2]
    rfl
theorem planB_enc {p : Plan} (h : PlanOk p) : planB (encPlan p) = true := by
  have h1 := h.len1
  have h2 := h.len
  show (decide (1 ≤ (p.map encStep).length) && decide ((p.map encStep).length ≤ 40) && planGo [] (p.map encStep)) = true
  rw [List.length_map, decide_eq_true h1, decide_eq_true h2, planGo_enc RT.nil h.ok]
  rfl
theorem planGo_of : ∀ {ds : List D} {ts : List Int}, planGo ts ds = true → ds = (ds.map stepOf).map encStep ∧ okPre ts (ds.map stepOf) []
  | [], ts, h => by
    have h' : ts.isEmpty = true := h
    rw [List.isEmpty_iff] at h'
    rw [h']
    exact ⟨rfl, rfl⟩
  | d :: ds, ts, h => by
    have h' : (isStepB d && fitsB ts (stepOf d) && planGo (toolsBehind ts (stepOf d)) ds) = true := h
    rw [Bool.and_eq_true, Bool.and_eq_true] at h'
    obtain ⟨e1, e2⟩ := isStepB_of h'.1.1
    obtain ⟨e3, e4⟩ := planGo_of h'.2
    refine ⟨?_, (fitsB_iff e2).mp h'.1.2, e4⟩
    rw [List.map_cons, List.map_cons, ← e1, ← e3]
def planOf : D → Plan
  | .lst ds => ds.map stepOf
  | _ => []
theorem planB_of {d : D} (h : planB d = true) : d = encPlan (planOf d) ∧ PlanOk (planOf d) := by
  cases d with
  | lst ds =>
    have h' : (decide (1 ≤ ds.length) && decide (ds.length ≤ 40) && planGo [] ds) = true := h
    rw [Bool.and_eq_true, Bool.and_eq_true] at h'
    obtain ⟨e1, e2⟩ := planGo_of h'.2
    refine ⟨?_, e2, ?_, ?_⟩
    · show D.lst ds = D.lst ((ds.map stepOf).map encStep)
      rw [← e1]
    · show 1 ≤ (ds.map stepOf).length
      rw [List.length_map]; exact of_decide_eq_true h'.1.1
    · show (ds.map stepOf).length ≤ 40
      rw [List.length_map]; exact of_decide_eq_true h'.1.2
  | _ => cases h
/-- the classes of what is refused -/
inductive Bad where
  | tooMany | worker | rank | start | plan | noWorker
  deriving DecidableEq
def inRanks (rs : List Int) : D → Bool
  | .int n => decide (n ∈ rs)
  | _ => false
/-- what a worker is refused with beside ranks that stand ahead -/
def lookC (rs : List Int) : D → Option Bad
  | .tup [a, b, c] =>
    if (numB a 1 1000000 && !inRanks rs a) = true then
      if numB b 0 1000 = true then if planB c = true then none else some .plan
      else some .start
    else some .rank
  | _ => some .worker
def rankD : D → Int
  | .tup [.int a, _, _] => a
  | _ => 0
def workerOf : D → Worker
  | .tup [.int a, .int b, c] => ⟨a, b, planOf c⟩
  | _ => ⟨0, 0, []⟩
theorem lookC_none {rs : List Int} {d : D} (h : lookC rs d = none) : d = encW (workerOf d) ∧ rankD d = (workerOf d).rank ∧ 1 ≤ (workerOf d).rank ∧ (workerOf d).rank ≤ 1000000 ∧ (workerOf d).rank ∉ rs ∧ 0 ≤ (workerOf d).start ∧ (workerOf d).start ≤ 1000 ∧ PlanOk (workerOf d).plan := by
  unfold lookC at h
  split at h
  · rename_i a b c
    split at h
    · rename_i h1
      split at h
      · rename_i h2
        split at h
        · rename_i h3
          rw [Bool.and_eq_true] at h1
          obtain ⟨n, rfl, n1, n2⟩ := numB_iff.mp h1.1
          obtain ⟨m, rfl, m1, m2⟩ := numB_iff.mp h2
          obtain ⟨e1, e2⟩ := planB_of h3
          have hn : n ∉ rs := by
            have h5 : (!decide (n ∈ rs)) = true := h1.2
            simpa using h5
          refine ⟨?_, rfl, n1, n2, hn, m1, m2, e2⟩
          show D.tup [.int n, .int m, c] = .tup [.int n, .int m, encPlan (planOf c)]
          rw [← e1]
        · cases h
      · cases h
    · cases h
  · cases h
theorem lookC_enc {rs : List Int} {w : Worker} (h1 : 1 ≤ w.rank ∧ w.rank ≤ 1000000) (h2 : w.rank ∉ rs) (h3 : 0 ≤ w.start ∧ w.start ≤ 1000) (h4 : PlanOk w.plan) : lookC rs (encW w) = none := by
  show (if (numB (.int w.rank) 1 1000000 && !(decide (w.rank ∈ rs))) = true then (if numB (.int w.start) 0 1000 = true then if planB (encPlan w.plan) = true then none else some Bad.plan else some Bad.start) else some Bad.rank) = none
  rw [numB_iff.mpr ⟨_, rfl, h1.1, h1.2⟩, numB_iff.mpr ⟨_, rfl, h3.1, h3.2⟩, planB_enc h4, decide_eq_false h2]
  rfl
def begunGo (rs : List Int) : List D → Option Bad
  | [] => none
  | d :: ds => match lookC rs d with
    | some b => some b
    | none => begunGo (rs ++ [rankD d]) ds
def begunC (ds : List D) : Option Bad := if 1 ≤ ds.length ∧ ds.length ≤ 8 then begunGo [] ds else some .tooMany
theorem begunGo_enc : ∀ {ws : List Worker} {rs : List Int}, (∀ w ∈ ws, (1 ≤ w.rank ∧ w.rank ≤ 1000000) ∧ (0 ≤ w.start ∧ w.start ≤ 1000) ∧ PlanOk w.plan) → (rs ++ ws.map (·.rank)).Nodup → begunGo rs (ws.map encW) = none
  | [], _, _, _ => rfl
  | w :: ws, rs, h, hn => by
    have hw := h w List.mem_cons_self
    have hr : w.rank ∉ rs := fun hm => by
      rw [List.map_cons, List.nodup_append] at hn
      exact hn.2.2 _ hm _ List.mem_cons_self rfl
    show (match lookC rs (encW w) with | some b => some b | none => begunGo (rs ++ [rankD (encW w)]) (ws.map encW)) = none
    rw [lookC_enc hw.1 hr hw.2.1 hw.2.2]
    show begunGo (rs ++ [w.rank]) (ws.map encW) = none
    refine begunGo_enc (fun v hv => h v (List.mem_cons_of_mem _ hv)) ?_
    rw [List.append_assoc]
    exact hn
theorem WsOk.begun {ws : List Worker} (h : WsOk ws) : begunC (ws.map encW) = none := by
  unfold begunC
  rw [List.length_map, if_pos ⟨h.many1, h.many⟩]
  refine begunGo_enc (fun w hw => ?_) ?_
  · obtain ⟨k, hk, e⟩ := List.getElem_of_mem hw
    have e' : ws[k]? = some w := by rw [← e]; exact List.getElem?_eq_getElem hk
    exact ⟨h.rank k w e', h.start k w e', h.plans k w e'⟩
  · rw [List.nil_append]; exact h.ranks
theorem begunGo_of : ∀ {ds : List D} {rs : List Int}, begunGo rs ds = none → rs.Nodup → ds = (ds.map workerOf).map encW ∧ (∀ w ∈ ds.map workerOf, (1 ≤ w.rank ∧ w.rank ≤ 1000000) ∧ (0 ≤ w.start ∧ w.start ≤ 1000) ∧ PlanOk w.plan) ∧ (rs ++ (ds.map workerOf).map (·.rank)).Nodup
  | [], rs, _, hn => ⟨rfl, (fun w hw => nomatch hw), by simpa using hn⟩
  | d :: ds, rs, h, hn => by
    have h' : (match lookC rs d with | some b => some b | none => begunGo (rs ++ [rankD d]) ds) = none := h
    cases q : lookC rs d with
    | some b => rw [q] at h'; cases h'
    | none =>
      rw [q] at h'
      obtain ⟨a1, a2, a3, a4, a5, a6, a7, a8⟩ := lookC_none q
      have hn2 : (rs ++ [rankD d]).Nodup := by
        rw [List.nodup_append]
        refine ⟨hn, by simp, fun x hx y hy => ?_⟩
        rw [List.mem_singleton.mp hy, a2]
        exact fun e => a5 (e ▸ hx)
      obtain ⟨b1, b2, b3⟩ := begunGo_of (show begunGo (rs ++ [rankD d]) ds = none from h') hn2
      refine ⟨?_, fun w hw => ?_, ?_⟩
      · rw [List.map_cons, List.map_cons, ← a1, ← b1]
      · rcases List.mem_cons.mp hw with rfl | hw
        · exact ⟨⟨a3, a4⟩, ⟨a6, a7⟩, a8⟩
        · exact b2 w hw
      · rw [List.map_cons, List.map_cons, ← a2]
        rw [List.append_assoc] at b3
        exact b3
theorem begunC_of {ds : List D} (h : begunC ds = none) : ds = (ds.map workerOf).map encW ∧ WsOk (ds.map workerOf) := by
  unfold begunC at h
  split at h
  · rename_i hl
    obtain ⟨b1, b2, b3⟩ := begunGo_of h List.nodup_nil
    have at' : ∀ (k : Nat) (w : Worker), (ds.map workerOf)[k]? = some w → w ∈ ds.map workerOf := fun k w e => List.mem_of_getElem? e
    exact ⟨b1, ⟨by rw [List.length_map]; exact hl.1, by rw [List.length_map]; exact hl.2, fun k w e => (b2 w (at' k w e)).2.2, by simpa using b3, fun k w e => (b2 w (at' k w e)).1, fun k w e => (b2 w (at' k w e)).2.1⟩⟩
  · cases h
theorem cmp_in (t : Int) (ts : List Int) : CmpR .In (.int t) (encInts ts) (decide (t ∈ ts)) := by
  have z := CmpR.inL (d := .int t) (ds := ts.map .int) rfl (by simp [flatD])
  rw [inD_ints] at z
  exact z
theorem eqD_intsN (ts : List Int) : eqD (encInts ts) (.lst []) = ts.isEmpty := by
  show eqD (.lst (ts.map .int)) (.lst []) = _
  rw [eqD_nil]
  cases ts <;> rfl
def finB (s : Shop) (k : Nat) : Bool := match s.ws[k]?, s.sp[k]? with
  | some w, some p => decide (p.place = w.plan.length)
  | _, _ => true
theorem finB_at {s : Shop} {k : Nat} {w : Worker} {p : Spot} (h1 : s.ws[k]? = some w) (h2 : s.sp[k]? = some p) : finB s k = decide (p.place = w.plan.length) := by
  unfold finB; rw [h1, h2]
def workW (w : Worker) (p : Spot) : Int := workSum (w.plan.drop p.place) - p.gone
def workLeft (s : Shop) : Int := tot workW s.ws s.sp
theorem work_bd : ∀ {p : Plan} {ts us : List Int}, okPre ts p us → 0 ≤ workSum p ∧ workSum p ≤ 100 * (p.length : Int)
  | [], _, _, _ => ⟨Int.le_refl _, Int.le_refl _⟩
  | st :: p, ts, us, h => by
    obtain ⟨a, b⟩ := work_bd h.2
    have hw : 0 ≤ workOf st ∧ workOf st ≤ 100 := by
      cases st with
      | work n =>
        have : 1 ≤ n ∧ n ≤ 100 := h.1
        show 0 ≤ n ∧ n ≤ 100
        omega
      | hold n => exact ⟨Int.le_refl _, (by decide : (0 : Int) ≤ 100)⟩
      | free n => exact ⟨Int.le_refl _, (by decide : (0 : Int) ≤ 100)⟩
    show 0 ≤ workOf st + workSum p ∧ workOf st + workSum p ≤ 100 * ((p.length + 1 : Nat) : Int)
    omega
theorem workW_bd {w : Worker} {p : Spot} (h : PlanOk w.plan) (so : SpotOk w.plan p) : 0 ≤ workW w p ∧ workW w p ≤ 4000 := by
  have b := work_bd (h.split p.place).2
  have hl := h.len
  have g0 := so.gone0
  rw [List.length_drop] at b
  unfold workW
  refine ⟨?_, by omega⟩
  cases e : w.plan[p.place]? with
  | none =>
    have := so.goneZ (fun n e2 => by rw [e] at e2; cases e2)
    omega
  | some st =>
    cases st with
    | work n =>
      have g := so.gone n e
      have hd := drop_at e
      have b2 := work_bd (h.split (p.place + 1)).2
      rw [hd]
      show 0 ≤ n + workSum (w.plan.drop (p.place + 1)) - p.gone
      omega
    | hold n =>
      have := so.goneZ (fun m e2 => by rw [e] at e2; cases e2)
      omega
    | free n =>
      have := so.goneZ (fun m e2 => by rw [e] at e2; cases e2)
      omega
theorem workLeft_bd {s : Shop} (h : ShopOk s) : 0 ≤ workLeft s ∧ workLeft s ≤ 32000 := by
  refine ⟨tot_nonneg _ _ fun k w p e1 e2 => (workW_bd (h.plans k w e1) (h.spots k w p e1 e2)).1, ?_⟩
  have := tot_le (f := workW) (c := 4000) (by decide) s.ws s.sp fun k w p e1 e2 => (workW_bd (h.plans k w e1) (h.spots k w p e1 e2)).2
  have := h.many
  unfold workLeft
  omega
theorem workW_hold {w : Worker} {p : Spot} {t : Int} (so : SpotOk w.plan p) (e : w.plan[p.place]? = some (.hold t)) : workW w (nextSp w p) = workW w p := by
  have g := so.goneZ (fun m e2 => by rw [e] at e2; cases e2)
  unfold workW
  show workSum (w.plan.drop (skipF w.plan (p.place + 1))) - 0 = _
  rw [skip_work, drop_at e, g]
  show workSum (w.plan.drop (p.place + 1)) - 0 = 0 + workSum (w.plan.drop (p.place + 1)) - 0
  omega
theorem workW_last {w : Worker} {p : Spot} (e : lastTick w p) : workW w (nextSp w p) = workW w p - 1 := by
  have e' : w.plan[p.place]? = some (.work (p.gone + 1)) := e
  unfold workW
  show workSum (w.plan.drop (skipF w.plan (p.place + 1))) - 0 = _
  rw [skip_work, drop_at e']
  show workSum (w.plan.drop (p.place + 1)) - 0 = p.gone + 1 + workSum (w.plan.drop (p.place + 1)) - p.gone - 1
  omega
theorem hold_work {s : Shop} (h : ShopOk s) {k : Nat} (c : chosenP s = some k) (q : holdAt s k = true) : workLeft (doneS s s.now k) = workLeft s := by
  obtain ⟨w, p, t, e1, e2, e3, e4, e5, e6⟩ := hold_facts h c q
  rw [doneS_at e1 e2]
  show tot workW s.ws (s.sp.set k (nextSp w p)) = tot workW s.ws s.sp
  rw [tot_set workW s.ws s.sp k w p (nextSp w p) e1 e2, workW_hold (h.spots k w p e1 e2) e3]
  omega
theorem Reach.work {s s2 : Shop} (r : Reach s s2) (h : ShopOk s) : workLeft s2 = workLeft s := by
  induction r with
  | refl s => rfl
  | step c q r ih => rw [ih (hold_ok h c q), hold_work h c q]
theorem work_work {s : Shop} (h : ShopOk s) {k : Nat} (c : chosenP s = some k) (q : holdAt s k = false) : workLeft (workS s k) = workLeft s - 1 := by
  obtain ⟨w, p, n, e1, e2, e3, _⟩ := work_facts h c q
  rw [workS_at e1 e2]
  split
  · rename_i hl
    show tot workW s.ws (s.sp.set k (nextSp w p)) = tot workW s.ws s.sp - 1
    rw [tot_set workW s.ws s.sp k w p (nextSp w p) e1 e2, workW_last hl]
    omega
  · show tot workW s.ws (s.sp.set k ⟨p.place, p.gone + 1⟩) = tot workW s.ws s.sp - 1
    rw [tot_set workW s.ws s.sp k w p ⟨p.place, p.gone + 1⟩ e1 e2]
    unfold workW
    show _ - (workSum (w.plan.drop p.place) - p.gone) + (workSum (w.plan.drop p.place) - (p.gone + 1)) = _
    omega
theorem tick_eq {s : Shop} : (∃ k, chosenP (holdsD s) = some k ∧ tickS s = (workS (holdsD s) k, some k)) ∨ (chosenP (holdsD s) = none ∧ tickS s = (⟨(holdsD s).ws, (holdsD s).now + 1, (holdsD s).sp⟩, none)) := by
  unfold tickS
  cases c : chosenP (holdsD s) with
  | none => exact .inr ⟨rfl, rfl⟩
  | some k => exact .inl ⟨k, rfl, rfl⟩
theorem tick_work {s : Shop} (h : ShopOk s) : workLeft (tickS s).1 = workLeft s - (if (tickS s).2 = none then 0 else 1) := by
  obtain ⟨r, z⟩ := holdsD_reach h
  have h1 := r.ok h
  have e := r.work h
  rcases tick_eq (s := s) with ⟨k, c, q⟩ | ⟨c, q⟩
  · rw [q]
    show workLeft (workS (holdsD s) k) = _ - (if some k = none then 0 else 1)
    rw [work_work h1 c (z k c), e]
    simp
  · rw [q]
    show workLeft (holdsD s) = _ - (if (none : Option Nat) = none then 0 else 1)
    rw [e]
    simp
/-- how far one has come -/
def placeOf (s : Shop) (k : Nat) : Nat := match s.sp[k]? with
  | some p => p.place
  | none => 0
theorem placeOf_at {s : Shop} {k : Nat} {p : Spot} (h : s.sp[k]? = some p) : placeOf s k = p.place := by
  unfold placeOf; rw [h]
theorem placeOf_set {s : Shop} {now : Int} {k : Nat} {p q : Spot} (h : s.sp[k]? = some p) (j : Nat) : placeOf (setSp s now k q) j = if j = k then q.place else placeOf s j := by
  by_cases e : j = k
  · subst e
    rw [if_pos rfl]
    exact placeOf_at (s := setSp s now j q) (set_self' h)
  · rw [if_neg e]
    unfold placeOf
    show (match (s.sp.set k q)[j]? with | some p => p.place | none => 0) = _
    rw [List.getElem?_set_ne (Ne.symm e)]
    try rfl
theorem hold_place {s : Shop} (h : ShopOk s) {k : Nat} (c : chosenP s = some k) (q : holdAt s k = true) (j : Nat) : placeOf s j ≤ placeOf (doneS s s.now k) j ∧ (j ≠ k → placeOf (doneS s s.now k) j = placeOf s j) ∧ placeOf s k < placeOf (doneS s s.now k) k := by
  obtain ⟨w, p, t, e1, e2, e3, e4, e5, e6⟩ := hold_facts h c q
  have g := nextSp_gt w p e4
  rw [doneS_at e1 e2, placeOf_set e2, placeOf_set e2, if_pos rfl, placeOf_at e2]
  refine ⟨?_, fun hj => if_neg hj, g.1⟩
  by_cases e : j = k
  · subst e
    rw [if_pos rfl, placeOf_at e2]; omega
  · rw [if_neg e]; exact Nat.le_refl _
theorem Reach.place {s s2 : Shop} (r : Reach s s2) (h : ShopOk s) (j : Nat) : placeOf s j ≤ placeOf s2 j := by
  induction r with
  | refl s => exact Nat.le_refl _
  | step c q r ih => exact Nat.le_trans (hold_place h c q j).1 (ih (hold_ok h c q))
theorem work_place {s : Shop} (h : ShopOk s) {k : Nat} (c : chosenP s = some k) (q : holdAt s k = false) (j : Nat) : placeOf s j ≤ placeOf (workS s k) j ∧ (j ≠ k → placeOf (workS s k) j = placeOf s j) := by
  obtain ⟨w, p, n, e1, e2, e3, e4, _⟩ := work_facts h c q
  have g := nextSp_gt w p e4
  rw [workS_at e1 e2]
  split
  · rw [placeOf_set e2]
    refine ⟨?_, fun hj => if_neg hj⟩
    by_cases e : j = k
    · subst e
      rw [if_pos rfl, placeOf_at e2]; omega
    · rw [if_neg e]; exact Nat.le_refl _
  · rw [placeOf_set e2]
    refine ⟨?_, fun hj => if_neg hj⟩
    by_cases e : j = k
    · subst e
      rw [if_pos rfl, placeOf_at e2]; exact Nat.le_refl _
    · rw [if_neg e]; exact Nat.le_refl _
theorem tick_place {s : Shop} (h : ShopOk s) (j : Nat) : placeOf s j ≤ placeOf (tickS s).1 j := by
  obtain ⟨r, z⟩ := holdsD_reach h
  have h1 := r.ok h
  have e := r.place h j
  rcases tick_eq (s := s) with ⟨k, c, q⟩ | ⟨c, q⟩
  · rw [q]
    exact Nat.le_trans e (work_place h1 c (z k c) j).1
  · rw [q]
    exact e
theorem fin_iff {s : Shop} (h : ShopOk s) {k : Nat} {w : Worker} (hw : s.ws[k]? = some w) : finB s k = decide (placeOf s k = w.plan.length) := by
  obtain ⟨w', p, e1, e2⟩ := h.at (List.getElem?_eq_some_iff.mp hw).1
  rw [hw] at e1
  cases e1
  rw [finB_at hw e2, placeOf_at e2]
theorem place_le {s : Shop} (h : ShopOk s) {k : Nat} {w : Worker} (hw : s.ws[k]? = some w) : placeOf s k ≤ w.plan.length := by
  obtain ⟨w', p, e1, e2⟩ := h.at (List.getElem?_eq_some_iff.mp hw).1
  rw [hw] at e1
  cases e1
  rw [placeOf_at e2]
  exact (h.spots k _ p hw e2).le
theorem fin_tick {s : Shop} (h : ShopOk s) {k : Nat} (hk : k < s.ws.length) (f : finB s k = true) : finB (tickS s).1 k = true := by
  have hw : s.ws[k]? = some s.ws[k] := List.getElem?_eq_getElem hk
  have h2 := tick_ok h
  have hw2 : (tickS s).1.ws[k]? = some s.ws[k] := by rw [(tick_ws h).1]; exact hw
  rw [fin_iff h hw] at f
  rw [fin_iff h2 hw2]
  have := of_decide_eq_true f
  have := tick_place h k
  have := place_le h2 hw2
  exact decide_eq_true (by omega)
theorem there_iff {s : Shop} (h : ShopOk s) {k : Nat} {w : Worker} (hw : s.ws[k]? = some w) : there s k = true ↔ w.start ≤ s.now ∧ finB s k = false := by
  obtain ⟨w', p, e1, e2⟩ := h.at (List.getElem?_eq_some_iff.mp hw).1
  rw [hw] at e1
  cases e1
  have hle := (h.spots k _ p hw e2).le
  rw [finB_at hw e2]
  unfold there
  rw [hw, e2]
  show (decide (w.start ≤ s.now) && decide (p.place < w.plan.length)) = true ↔ _
  rw [Bool.and_eq_true, decide_eq_true_iff, decide_eq_true_iff, decide_eq_false_iff_not]
  constructor
  · rintro ⟨a, b⟩; exact ⟨a, by omega⟩
  · rintro ⟨a, b⟩; exact ⟨a, by omega⟩
def allFin (s : Shop) : Bool := (List.range s.ws.length).all (finB s)
theorem allFin_iff {s : Shop} : allFin s = true ↔ ∀ k, k < s.ws.length → finB s k = true := by
  unfold allFin
  rw [List.all_eq_true]
  exact ⟨fun h k hk => h k (List.mem_range.mpr hk), fun h k hk => h k (List.mem_range.mp hk)⟩
def mu (s : Shop) : Nat := (1001 - s.now).toNat + (workLeft s).toNat + (if allFin s = true then 0 else 1)
theorem mu_bd {s : Shop} (h : ShopOk s) : mu s ≤ 33002 := by
  have := workLeft_bd h
  have := h.now0
  unfold mu
  split <;> omega
/-- when nobody works, those that have begun are done -/
theorem none_fin {s : Shop} (h : ShopOk s) (c : (tickS s).2 = none) {k : Nat} {w : Worker} (hw : s.ws[k]? = some w) (hs : w.start ≤ s.now) : finB (tickS s).1 k = true := by
  obtain ⟨r, z⟩ := holdsD_reach h
  have h1 := r.ok h
  obtain ⟨a, b⟩ := r.same h
  rcases tick_eq (s := s) with ⟨j, c', q⟩ | ⟨c', q⟩
  · rw [q] at c; cases c
  · rw [q]
    have hw1 : (holdsD s).ws[k]? = some w := by rw [a]; exact hw
    have ht := (chosen_none h1).mp c' k
    cases f : finB (holdsD s) k with
    | true => exact f
    | false =>
      have := (there_iff h1 hw1).mpr ⟨by rw [b]; exact hs, f⟩
      rw [ht] at this
      cases this
theorem tick_mu {s : Shop} (h : ShopOk s) (hf : allFin s = false) : mu (tickS s).1 < mu s := by
  have w := tick_work h
  have b1 := workLeft_bd h
  have b2 := workLeft_bd (tick_ok h)
  have n := (tick_ws h).2
  have n0 := h.now0
  have e1 : mu s = (1001 - s.now).toNat + (workLeft s).toNat + 1 := by
    unfold mu
    rw [hf]
    rfl
  rw [e1]
  unfold mu
  rw [n]
  by_cases c : (tickS s).2 = none
  · rw [if_pos c] at w
    by_cases hn : s.now < 1001
    · split <;> omega
    · have : allFin (tickS s).1 = true := allFin_iff.mpr fun k hk => by
        rw [(tick_ws h).1] at hk
        have hw : s.ws[k]? = some s.ws[k] := List.getElem?_eq_getElem hk
        have := (h.start k _ hw).2
        exact none_fin h c hw (by omega)
      rw [if_pos this]
      omega
  · rw [if_neg c] at w
    split <;> omega
theorem not_fin {s : Shop} {k : Nat} (hk : k < s.ws.length) (f : finB s k = false) : allFin s = false := by
  cases e : allFin s with
  | false => rfl
  | true => rw [allFin_iff.mp e k hk] at f; cases f
/-- the tick of the last step -/
structure EndP (s : Shop) (n k : Nat) : Prop where
  yes : finB (shopAt s (n + 1)) k = true
  no : ∀ m, m ≤ n → finB (shopAt s m) k = false
theorem EndP.uniq {s : Shop} {n m k : Nat} (h : EndP s n k) (g : EndP s m k) : n = m := by
  rcases Nat.lt_trichotomy n m with hl | hl | hl
  · have := g.no (n + 1) (by omega)
    rw [h.yes] at this; cases this
  · exact hl
  · have := h.no (m + 1) (by omega)
    rw [g.yes] at this; cases this
theorem fin_up {s : Shop} (h : ShopOk s) {k n : Nat} (hk : k < s.ws.length) (f : finB (shopAt s n) k = true) : ∀ m, finB (shopAt s (n + m)) k = true
  | 0 => f
  | m + 1 => by
    have ih := fin_up h hk f m
    exact fin_tick (shopAt_ok h _) (by rw [(shopAt_ws h _).1]; exact hk) ih
theorem fin_down {s : Shop} (h : ShopOk s) {k n m : Nat} (hk : k < s.ws.length) (hm : m ≤ n) (f : finB (shopAt s n) k = false) : finB (shopAt s m) k = false := by
  cases e : finB (shopAt s m) k with
  | false => rfl
  | true =>
    have := fin_up h hk e (n - m)
    rw [show m + (n - m) = n by omega, f] at this
    cases this
theorem mu_run {s : Shop} (h : ShopOk s) : ∀ n : Nat, (∀ m, m < n → allFin (shopAt s m) = false) → n + mu (shopAt s n) ≤ mu s
  | 0, _ => by show 0 + mu s ≤ mu s; omega
  | n + 1, hn => by
    have ih := mu_run h n fun m hm => hn m (by omega)
    have := tick_mu (shopAt_ok h n) (hn n (by omega))
    show n + 1 + mu (tickS (shopAt s n)).1 ≤ _
    omega
theorem end_ex {s : Shop} (h : ShopOk s) {k : Nat} (hk : k < s.ws.length) (h0 : finB s k = false) : ∃ n, EndP s n k := by
  by_cases z : ∃ n, finB (shopAt s n) k = true
  · obtain ⟨n, hn⟩ := z
    have key : ∀ n, finB (shopAt s n) k = true → ∃ m, EndP s m k := by
      intro n
      induction n with
      | zero => intro e; rw [show shopAt s 0 = s from rfl, h0] at e; cases e
      | succ n ih =>
        intro e
        cases q : finB (shopAt s n) k with
        | true => exact ih q
        | false => exact ⟨n, e, fun m hm => fin_down h hk hm q⟩
    exact key n hn
  · exfalso
    have z' : ∀ n, finB (shopAt s n) k = false := fun n => by
      cases e : finB (shopAt s n) k with
      | false => rfl
      | true => exact absurd ⟨n, e⟩ z
    have := mu_run h (mu s + 1) fun m _ => not_fin (by rw [(shopAt_ws h m).1]; exact hk) (z' m)
    omega
open Classical in
noncomputable def endK (s : Shop) (k : Nat) : Nat := if h : ∃ n, EndP s n k then Classical.choose h else 0
theorem endK_ok {s : Shop} (h : ShopOk s) {k : Nat} (hk : k < s.ws.length) (h0 : finB s k = false) : EndP s (endK s k) k := by
  have z := end_ex h hk h0
  unfold endK
  rw [dif_pos z]
  exact Classical.choose_spec z
theorem endK_bd {s : Shop} (h : ShopOk s) {k : Nat} (hk : k < s.ws.length) (h0 : finB s k = false) : endK s k < 33002 := by
  have e := endK_ok h hk h0
  have := mu_run h (endK s k + 1) fun m hm => not_fin (by rw [(shopAt_ws h m).1]; exact hk) (e.no m (by omega))
  have := mu_bd h
  omega
theorem begun_fin {ws : List Worker} (h : WsOk ws) {k : Nat} (hk : k < ws.length) : finB (begunS ws) k = false := by
  have hw : (begunS ws).ws[k]? = some ws[k] := List.getElem?_eq_getElem hk
  obtain ⟨w, p, e1, e2⟩ := (begun_ok h).at hk
  have hw' : (begunS ws).ws[k]? = some w := e1
  rw [finB_at e1 e2, begun_sp e2]
  have := (h.plans k w e1).len1
  exact decide_eq_false (fun z => by have z' : 0 = w.plan.length := z; omega)
/-- who ended so far -/
def endTo (s : Shop) (n k : Nat) : Option Nat := (List.range n).find? fun m => finB (shopAt s (m + 1)) k
theorem endTo_succ (s : Shop) (n k : Nat) : endTo s (n + 1) k = match endTo s n k with
    | some m => some m
    | none => if finB (shopAt s (n + 1)) k = true then some n else none := by
  unfold endTo
  rw [List.range_succ, List.find?_append]
  cases (List.range n).find? fun m => finB (shopAt s (m + 1)) k with
  | some m => rfl
  | none =>
    show (([n] : List Nat).find? fun m => finB (shopAt s (m + 1)) k) = _
    cases q : finB (shopAt s (n + 1)) k with
    | true => simp [q]
    | false => simp [q]
theorem endTo_none {s : Shop} {n k : Nat} (h : endTo s n k = none) (h0 : finB s k = false) : finB (shopAt s n) k = false := by
  cases n with
  | zero => exact h0
  | succ n =>
    have z := List.find?_eq_none.mp h n (List.mem_range.mpr (by omega))
    simpa using z
theorem endTo_some {s : Shop} (h : ShopOk s) {n k m : Nat} (hk : k < s.ws.length) (h0 : finB s k = false) (e : endTo s n k = some m) : EndP s m k := by
  induction n with
  | zero => cases e
  | succ n ih =>
    rw [endTo_succ] at e
    cases q : endTo s n k with
    | some j => rw [q] at e; cases e; exact ih q
    | none =>
      rw [q] at e
      have e' : (if finB (shopAt s (n + 1)) k = true then some n else none) = some m := e
      split at e'
      · rename_i f
        cases e'
        exact ⟨f, fun i hi => fin_down h hk hi (endTo_none q h0)⟩
      · cases e'
/-- waited: at one tick, so far, till the end -/
def lesserB (s : Shop) (k t : Nat) : Bool := match whoAt s t with
  | none => false
  | some u => decide (rankAt s u < rankAt s k)
def startAt (s : Shop) (k : Nat) : Int := match s.ws[k]? with
  | some w => w.start
  | none => 0
def waitB (s : Shop) (k t : Nat) : Bool := lesserB s k t && decide (startAt s k ≤ (t : Int)) && !finB (shopAt s (t + 1)) k
def waitTo (s : Shop) (k n : Nat) : List Nat := (List.range n).filter (waitB s k)
noncomputable def waitL (s : Shop) (k : Nat) : List Nat := waitTo s k (endK s k + 1)
theorem waitTo_succ (s : Shop) (k n : Nat) : waitTo s k (n + 1) = waitTo s k n ++ if waitB s k n = true then [n] else [] := by
  unfold waitTo
  rw [List.range_succ, List.filter_append]
  cases q : waitB s k n with
  | true => simp [q]
  | false => simp [q]
theorem waitTo_len (s : Shop) (k n : Nat) : (waitTo s k n).length ≤ n := Nat.le_trans (List.length_filter_le _ _) (by rw [List.length_range]; exact Nat.le_refl _)
theorem who_lt {s : Shop} (h : ShopOk s) {u : Nat} (e : (tickS s).2 = some u) : u < s.ws.length := by
  obtain ⟨r, z⟩ := holdsD_reach h
  have h1 := r.ok h
  rcases tick_eq (s := s) with ⟨k, c, q⟩ | ⟨c, q⟩
  · rw [q] at e
    cases e
    have := there_lt (chosen_best h1 c).ready.1
    rw [(r.same h).1] at this
    exact this
  · rw [q] at e; cases e
section
variable {X : Cx} {e a b c : Expr} {es : List Expr} {ρ ρ1 ρ2 ρ3 : List Sl} {r : Sl} {d : D} {ds xs : List D} {x : Str} {pos p : Pos} {i j : Int}
theorem pd_sumN {ns : List Int} (hc : X.calm = true) (ha : PD X a ρ ρ1 (.fz (.lst (ns.map .int)))) (hm : X.mg "sum" = none) (hg : Gl X "sum") (he : starEach [a] X.env = (false, eval a X.env) :: starEach [] X.env) (hpl : (backTo pos (starEach [] X.env)).any (·.1) = false) :
    PD X (.Call (.Name "sum" p) [a] [] pos) ρ ρ1 (.fz (.int ns.sum)) := pd_callB (cr_sum hc) boot_sum hg hm (pad_cons ha pad_nil he) (fun B σ ρ G H us Q S hx q => by
  cases hx with
  | cons h1 h2 =>
    cases h2
    cases h1 with
    | lst h1 h2 =>
      have e := h2.ints
      subst e
      exact ⟨_, ns, rfl, SqL.of (S.e3 _ _ h1), ok0 S q (.int _)⟩) (by decide) (by decide) he hpl
end
theorem cmp_notinN (k : Nat) (c : List Nat) : CmpR .NotIn (.int (k : Int)) (.lst (c.map natD)) (!decide (k ∈ c)) := by
  have z := CmpR.notInL (d := .int (k : Int)) (ds := (c.map Int.ofNat).map .int) rfl (by simp [flatD])
  rw [inD_ints, ← natD_ints] at z
  have e : decide ((k : Int) ∈ c.map Int.ofNat) = decide (k ∈ c) := by
    rw [decide_eq_decide, List.mem_map]
    exact ⟨fun ⟨a, h1, h2⟩ => by rw [← Int.ofNat.inj h2]; exact h1, fun h => ⟨k, h, rfl⟩⟩
  rw [e] at z
  exact z
theorem eqD_lst (xs ys : List D) : eqD (.lst xs) (.lst ys) = PyData.eqvAll (toPs xs) (toPs ys) := by
  unfold eqD toP
  simp only [PyData.eqv]
theorem eqD_tup (xs ys : List D) : eqD (.tup xs) (.tup ys) = PyData.eqvAll (toPs xs) (toPs ys) := by
  unfold eqD toP
  simp only [PyData.eqv]
theorem eqvAll_cons (d e : D) (ds es : List D) : PyData.eqvAll (toPs (d :: ds)) (toPs (e :: es)) = (eqD d e && PyData.eqvAll (toPs ds) (toPs es)) := by
  rw [toPs_map, toPs_map, List.map_cons, List.map_cons, ← toPs_map, ← toPs_map]
  unfold eqD
  simp only [PyData.eqvAll]
theorem eqvAll_00 : PyData.eqvAll (toPs []) (toPs []) = true := by
  unfold toPs
  simp only [PyData.eqvAll]
theorem eqvAll_c0 (d : D) (ds : List D) : PyData.eqvAll (toPs (d :: ds)) (toPs []) = false := by
  unfold toPs
  simp only [PyData.eqvAll]
theorem eqvAll_0c (d : D) (ds : List D) : PyData.eqvAll (toPs []) (toPs (d :: ds)) = false := by
  unfold toPs
  simp only [PyData.eqvAll]
theorem eqD_int (i j : Int) : eqD (.int i) (.int j) = decide (i = j) := by
  unfold eqD toP
  simp only [PyData.eqv]
  exact Bool.beq_eq_decide_eq i j
theorem eqD_natL : ∀ xs ys : List Nat, eqD (.lst (xs.map natD)) (.lst (ys.map natD)) = decide (xs = ys)
  | [], [] => by rw [eqD_lst, List.map_nil, eqvAll_00]; rfl
  | x :: xs, [] => by rw [eqD_lst, List.map_nil, List.map_cons, eqvAll_c0]; exact (decide_eq_false (fun z => nomatch z)).symm
  | [], y :: ys => by rw [eqD_lst, List.map_nil, List.map_cons, eqvAll_0c]; exact (decide_eq_false (fun z => nomatch z)).symm
  | x :: xs, y :: ys => by
    have ih := eqD_natL xs ys
    rw [eqD_lst] at ih
    rw [eqD_lst, List.map_cons, List.map_cons, eqvAll_cons, ih]
    show (eqD (.int (x : Int)) (.int (y : Int)) && _) = _
    rw [eqD_int]
    by_cases h1 : x = y
    · subst h1
      by_cases h2 : xs = ys
      · subst h2; simp
      · rw [decide_eq_false h2, decide_eq_false (fun z => h2 (List.cons.inj z).2), Bool.and_false]
    · rw [decide_eq_false (show ¬ (x : Int) = (y : Int) by omega), decide_eq_false (fun z => h1 (List.cons.inj z).1), Bool.false_and]
theorem eqD_spot (p q : Spot) : eqD (encS p) (encS q) = decide (p = q) := by
  unfold encS
  rw [eqD_tup, eqvAll_cons, eqvAll_cons, eqvAll_00, eqD_int, eqD_int, Bool.and_true]
  obtain ⟨a, b⟩ := p
  obtain ⟨c, d⟩ := q
  show (decide ((a : Int) = (c : Int)) && decide (b = d)) = _
  by_cases h1 : a = c
  · subst h1
    by_cases h2 : b = d
    · subst h2; simp
    · simp [h2]
  · have : ¬ (a : Int) = (c : Int) := by omega
    simp [h1, this]
theorem shaped_of {d : D} (h1 : pureD d = true) (h2 : depD d ≤ 60) : SeqAt.shaped (toP d) = true := by
  obtain ⟨a, b⟩ := lay_of d h1
  unfold SeqAt.shaped
  rw [a, b, decide_eq_true (by omega)]
  rfl
/-- plain and not deep, of any width -/
def Deep (n : Nat) (d : D) : Prop := pureD d = true ∧ depD d ≤ n
theorem Fine.deep {n : Nat} {d : D} (h : Fine n d) : Deep n d := ⟨h.1, h.2.1⟩
theorem Deep.lst {n : Nat} {ds : List D} (h : ∀ d ∈ ds, Deep n d) : Deep (n + 1) (.lst ds) := by
  refine ⟨?_, ?_⟩
  · unfold pureD; rw [pureDs_all, List.all_eq_true]; exact fun d hd => (h d hd).1
  · unfold depD; exact Nat.succ_le_succ (depDs_le.mpr fun d hd => (h d hd).2)
theorem Deep.tup {n : Nat} {ds : List D} (h : ∀ d ∈ ds, Deep n d) : Deep (n + 1) (.tup ds) := by
  refine ⟨?_, ?_⟩
  · unfold pureD; rw [pureDs_all, List.all_eq_true]; exact fun d hd => (h d hd).1
  · unfold depD; exact Nat.succ_le_succ (depDs_le.mpr fun d hd => (h d hd).2)
theorem Deep.mono {n m : Nat} {d : D} (h : Deep n d) (l : n ≤ m) : Deep m d := ⟨h.1, Nat.le_trans h.2 l⟩
section
variable {X : Cx} {a b : Expr} {ρ ρ1 ρ2 : List Sl} {d1 d2 : D} {pos : Pos} {k : Nat}
theorem pd_eqP (hr : Room k X.A) (ha : PD X a ρ ρ1 (.fz d1)) (hb : PD X b ρ1 ρ2 (.fz d2)) (h1 : Deep 60 d1) (h2 : Deep 60 d2) : PD X (.Compare a [.Eq] [b] pos) ρ ρ2 (.fz (.bl (eqD d1 d2))) := pd_eqD hr ha hb h1.1 h2.1 (shaped_of h1.1 h1.2) (shaped_of h2.1 h2.2)
theorem ptd_neP (hr : Room k X.A) (ha : PD X a ρ ρ1 (.fz d1)) (hb : PD X b ρ1 ρ2 (.fz d2)) (h1 : Deep 60 d1) (h2 : Deep 60 d2) : PTD X (.Compare a [.NotEq] [b] pos) ρ ρ2 (!eqD d1 d2) := ptd_neD hr ha hb h1.1 h2.1 (shaped_of h1.1 h1.2) (shaped_of h2.1 h2.2)
end
theorem isNon_optN (o : Option Nat) : isNon (encOpt o) = o.isNone := by cases o <;> rfl
theorem eqD_opt (o : Option Nat) (n : Nat) : eqD (encOpt o) (.int (n : Int)) = decide (o = some n) := by
  cases o with
  | none =>
    unfold eqD encOpt toP
    simp only [PyData.eqv]
    exact (decide_eq_false (fun z => nomatch z)).symm
  | some k =>
    show eqD (.int (k : Int)) (.int (n : Int)) = _
    rw [eqD_int]
    by_cases h : k = n
    · subst h; simp
    · rw [decide_eq_false (by omega), decide_eq_false (fun z => h (Option.some.inj z))]
theorem cmp_notinI (n : Int) (ns : List Int) : CmpR .NotIn (.int n) (.lst (ns.map .int)) (!decide (n ∈ ns)) := by
  have z := CmpR.notInL (d := .int n) (ds := ns.map .int) rfl (by simp [flatD])
  rw [inD_ints] at z
  exact z
theorem lenL_nat {c : List Nat} : lenD (.lst (c.map natD)) = some (c.length : Int) := lenD_map
/-- a chain's part from one on -/
theorem chain_suffix {as : List (Option Int)} {j : Nat} {c : List Nat} (hc : IsChain as j c) {k : Nat} (hk : k ∈ c) : ∃ c', IsChain as k c' ∧ c'.getLast? = c.getLast? := by
  induction hc with
  | stop e =>
    rw [List.mem_singleton.mp hk]
    exact ⟨_, .stop e, rfl⟩
  | @step j i c e t ih =>
    rcases List.mem_cons.mp hk with rfl | hk
    · exact ⟨_, .step e t, rfl⟩
    · obtain ⟨c', h1, h2⟩ := ih hk
      obtain ⟨r, er⟩ := t.ne
      refine ⟨c', h1, ?_⟩
      rw [h2, er, List.getLast?_cons_cons]
theorem lender_facts {s : Shop} (h : ShopOk s) {k one : Nat} (hk : there s k = true) (ho : one < s.ws.length) (hne : one ≠ k) (hm : k ∈ chainF s one) : there s one = true ∧ (∃ j, waitFor s one = some j) ∧ endF s one ∈ chainF s k := by
  have hc := chainF_ok h ho
  have h1 := chain_from h hc ho hm hk
  refine ⟨h1, ?_, ?_⟩
  · cases e : waitFor s one with
    | some j => exact ⟨j, rfl⟩
    | none =>
      have e2 := after_at ho
      rw [e] at e2
      have := IsChain.uniq hc (.stop e2)
      rw [this] at hm
      exact absurd (List.mem_singleton.mp hm).symm hne
  · obtain ⟨c', h2, h3⟩ := chain_suffix hc hm
    have e := IsChain.uniq h2 (chainF_ok h (there_lt hk))
    rw [e] at h3
    have z : endF s one = endF s k := by
      unfold endF
      rw [List.getLastD_eq_getLast?, List.getLastD_eq_getLast?, h3]
    rw [z]
    exact (end_of h (there_lt hk)).1
theorem end_last {s : Shop} (h : ShopOk s) {k : Nat} (hk : k < s.ws.length) : ∃ r, chainF s k = r ++ [endF s k] := by
  obtain ⟨r, e, h1, h2⟩ := chain_last (chainF_ok h hk)
  refine ⟨r, ?_⟩
  unfold endF
  rw [h1, List.getLastD_eq_getLast?, List.getLast?_concat]
  rfl
theorem lenders_max {s : Shop} (h : ShopOk s) {k : Nat} (hk : k < s.ws.length) : maxL ((lendersL s (chainF s) k ++ [k]).map (rankAt s)) 0 = rankL s k := by
  refine (max_top (rank := rankAt s) (js := lendersL s (chainF s) k ++ [k]) (by simp)).uniq ((rankL_top h hk).iff fun j => ?_)
  unfold lendersL
  rw [List.mem_append, List.mem_filter, List.mem_range, List.mem_singleton, Bool.and_eq_true, decide_eq_true_iff, Bool.not_eq_true', decide_eq_false_iff_not]
  constructor
  · rintro ⟨h1, h2⟩
    by_cases e : j = k
    · exact .inr e
    · exact .inl ⟨h1, e, h2⟩
  · rintro (⟨h1, _, h2⟩ | rfl)
    · exact ⟨h1, h2⟩
    · exact ⟨hk, chain_self h hk⟩
theorem lenders_mem {s : Shop} {k one : Nat} : one ∈ lendersL s (chainF s) k ↔ one < s.ws.length ∧ one ≠ k ∧ k ∈ chainF s one := by
  unfold lendersL
  rw [List.mem_filter, List.mem_range, Bool.and_eq_true, decide_eq_true_iff, Bool.not_eq_true', decide_eq_false_iff_not]
theorem thereL_mem {s : Shop} {k : Nat} : k ∈ thereL s ↔ there s k = true := by
  unfold thereL
  rw [List.mem_filter, List.mem_range]
  exact ⟨fun h => h.2, fun h => ⟨there_lt h, h⟩⟩
/-- the greatest that is there, by the law's looking -/
theorem greatest_eq {s : Shop} (h : ShopOk s) : match bestF s with
    | none => thereL s = []
    | some y => (thereL s).filter (fun k => decide (rankAt s k = maxL ((thereL s).map (rankAt s)) 0)) = [y] := by
  have b := best_going s
  revert b
  cases bestF s with
  | none =>
    intro b
    show thereL s = []
    cases e : thereL s with
    | nil => rfl
    | cons x xs => exact (b x (thereL_mem.mp (by rw [e]; exact List.mem_cons_self))).elim
  | some y =>
    rintro ⟨b1, b2⟩
    show List.filter _ _ = [y]
    have hy := thereL_mem.mpr b1
    have hne : thereL s ≠ [] := fun e => by rw [e] at hy; exact nomatch hy
    have hm := max_top (rank := rankAt s) hne
    have eM : maxL ((thereL s).map (rankAt s)) 0 = rankAt s y := hm.uniq ⟨⟨y, hy, rfl⟩, fun j hj => b2 j (thereL_mem.mp hj)⟩
    rw [eM]
    have key : ∀ L : List Nat, L.Nodup → (∀ x ∈ L, there s x = true) → L.filter (fun k => decide (rankAt s k = rankAt s y)) = if y ∈ L then [y] else [] := by
      intro L
      induction L with
      | nil => intro _ _; rfl
      | cons x L ih =>
        intro hn ht
        have hn' := List.nodup_cons.mp hn
        have ih' := ih hn'.2 fun z hz => ht z (List.mem_cons_of_mem _ hz)
        by_cases e : x = y
        · subst e
          rw [List.filter_cons_of_pos (by simp), ih', if_neg hn'.1, if_pos List.mem_cons_self]
        · have hr : ¬ rankAt s x = rankAt s y := fun z => e (rank_inj h (there_lt (ht x List.mem_cons_self)) (there_lt b1) z)
          rw [List.filter_cons_of_neg (by simpa using hr), ih']
          have e' : ¬ y = x := fun z => e z.symm
          by_cases hm : y ∈ L
          · rw [if_pos hm, if_pos (List.mem_cons_of_mem _ hm)]
          · rw [if_neg hm, if_neg]
            intro z
            rcases List.mem_cons.mp z with z | z
            · exact e' z
            · exact hm z
    rw [key (thereL s) (List.Pairwise.filter _ (List.nodup_range)) (fun x hx => thereL_mem.mp hx), if_pos hy]
/-- work that is left in the plan -/
def workB (s : Shop) (k : Nat) : Bool := match s.ws[k]?, s.sp[k]? with
  | some w, some p => anyWork (w.plan.drop p.place)
  | _, _ => false
theorem workB_at {s : Shop} {k : Nat} {w : Worker} {p : Spot} (h1 : s.ws[k]? = some w) (h2 : s.sp[k]? = some p) : workB s k = anyWork (w.plan.drop p.place) := by
  unfold workB; rw [h1, h2]
theorem workB_set {s : Shop} {now : Int} {k : Nat} {w : Worker} {p q : Spot} (h1 : s.ws[k]? = some w) (h2 : s.sp[k]? = some p) (e : anyWork (w.plan.drop q.place) = anyWork (w.plan.drop p.place)) (j : Nat) : workB (setSp s now k q) j = workB s j := by
  by_cases ej : j = k
  · subst ej
    rw [workB_at (s := setSp s now j q) h1 (set_self' h2), workB_at h1 h2, e]
  · unfold workB
    show (match s.ws[j]?, (s.sp.set k q)[j]? with | some w, some p => anyWork (w.plan.drop p.place) | _, _ => false) = _
    rw [List.getElem?_set_ne (Ne.symm ej)]
    try rfl
theorem Reach.workB {s s2 : Shop} (r : Reach s s2) (h : ShopOk s) (j : Nat) : workB s2 j = workB s j := by
  induction r with
  | refl s => rfl
  | step c q r ih =>
    rw [ih (hold_ok h c q)]
    obtain ⟨w, p, t, e1, e2, e3, e4, e5, e6⟩ := hold_facts h c q
    rw [doneS_at e1 e2]
    refine workB_set e1 e2 ?_ j
    show anyWork (w.plan.drop (skipF w.plan (p.place + 1))) = _
    rw [skip_any, drop_at e3]
    rfl
theorem workB_fin {s : Shop} (h : ShopOk s) {k : Nat} (hw : workB s k = true) : finB s k = false := by
  unfold workB at hw
  split at hw
  · rename_i w p e1 e2
    rw [finB_at e1 e2]
    refine decide_eq_false fun z => ?_
    rw [z, List.drop_length] at hw
    cases hw
  · cases hw
/-- nobody works just where nobody that is there has work left -/
theorem none_iff {s : Shop} (h : ShopOk s) : (tickS s).2 = none ↔ (thereL s).filter (workB s) = [] := by
  obtain ⟨r, z⟩ := holdsD_reach h
  have h1 := r.ok h
  obtain ⟨a, b⟩ := r.same h
  rcases tick_eq (s := s) with ⟨k, c, q⟩ | ⟨c, q⟩
  · rw [q]
    constructor
    · intro e; cases e
    · intro e
      exfalso
      obtain ⟨w, p, n, e1, e2, e3, e4, e5, _⟩ := work_facts h1 c (z k c)
      have hb : workB (holdsD s) k = true := by
        rw [workB_at e1 e2, drop_at e3]
        rfl
      rw [r.workB h] at hb
      have hw : s.ws[k]? = some w := by rw [← a]; exact e1
      have ht : there s k = true := (there_iff h hw).mpr ⟨by rw [← b]; exact e5, workB_fin h hb⟩
      have hm := List.mem_filter.mpr ⟨thereL_mem.mpr ht, hb⟩
      rw [e] at hm
      exact nomatch hm
  · rw [q]
    refine ⟨fun _ => ?_, fun _ => rfl⟩
    cases e : (thereL s).filter (workB s) with
    | nil => rfl
    | cons k ks =>
      exfalso
      have hm : k ∈ (thereL s).filter (workB s) := by rw [e]; exact List.mem_cons_self
      obtain ⟨h2, h3⟩ := List.mem_filter.mp hm
      have ht := thereL_mem.mp h2
      have hkl := there_lt ht
      have hw : s.ws[k]? = some s.ws[k] := List.getElem?_eq_getElem (there_lt ht)
      rw [← r.workB h] at h3
      have hw1 : (holdsD s).ws[k]? = some s.ws[k] := by rw [a]; exact hw
      have := (there_iff h1 hw1).mpr ⟨by rw [b]; exact ((there_iff h hw).mp ht).1, workB_fin h1 h3⟩
      rw [(chosen_none h1).mp c k] at this
      cases this
def spotOf (s : Shop) (k : Nat) : Spot := (s.sp[k]?).getD ⟨0, 0⟩
def movedL (s s2 : Shop) : List Nat := (List.range s.ws.length).filter fun k => !decide (spotOf s k = spotOf s2 k)
theorem spot_place {s : Shop} {k : Nat} (e : k < s.sp.length) : (spotOf s k).place = placeOf s k := by
  unfold spotOf placeOf
  rw [List.getElem?_eq_getElem e]
  rfl
theorem place_spot {s s2 : Shop} {k : Nat} (h : placeOf s k ≠ placeOf s2 k) (e1 : k < s.sp.length) (e2 : k < s2.sp.length) : spotOf s k ≠ spotOf s2 k := by
  intro z
  rw [← spot_place e1, ← spot_place e2, z] at h
  exact h rfl
/-- who has moved alone: the greatest's last one, or one that held first -/
theorem moved_one {s : Shop} (h : ShopOk s) {u : Nat} (hu : (tickS s).2 = some u) (hm : movedL s (tickS s).1 = [u]) : (∃ b, bestF s = some b ∧ rankL s u = rankAt s b) ∨ holdAt s u = true := by
  obtain ⟨r, z⟩ := holdsD_reach h
  have h1 := r.ok h
  by_cases hh : ∀ k, chosenP s = some k → holdAt s k = false
  · left
    have e := holdsD_stop hh
    rcases tick_eq (s := s) with ⟨k, c, q⟩ | ⟨c, q⟩
    · rw [q] at hu
      cases hu
      rw [e] at c
      have ce := chosen_eq h
      have c' : chosenL s (chainF s) = some u := c
      rw [c'] at ce
      have bg := best_going s
      revert ce bg
      cases bestF s with
      | none => intro ce; cases ce
      | some b =>
        rintro ce ⟨b1, b2⟩
        injection ce with ce
        refine ⟨b, rfl, ?_⟩
        rw [ce]
        exact (ready_top h (end_ready h b1)).uniq ⟨⟨b, ⟨b1, rfl⟩, rfl⟩, fun j hj => b2 j hj.1⟩
    · rw [q] at hu; cases hu
  · right
    have z' : ∃ k, chosenP s = some k ∧ holdAt s k = true := by
      cases c : chosenP s with
      | none => exact absurd (fun k c2 => by rw [c] at c2; cases c2) hh
      | some k =>
        refine ⟨k, rfl, ?_⟩
        cases q : holdAt s k with
        | true => rfl
        | false => exact absurd (fun j c2 => by rw [c] at c2; cases c2; exact q) hh
    obtain ⟨k, c, q⟩ := z'
    have hk := there_lt (chosen_best h c).ready.1
    have hp := (hold_place h c q k).2.2
    have ho := hold_ok h c q
    have r2 := (holdsD_reach ho).1
    have p2 := r2.place ho k
    rw [← holdsD_step h c q] at p2
    have p3 : placeOf (holdsD s) k ≤ placeOf (tickS s).1 k := by
      rcases tick_eq (s := s) with ⟨j, c', q'⟩ | ⟨c', q'⟩
      · rw [q']
        exact (work_place h1 c' (z j c') k).1
      · rw [q']
        exact Nat.le_refl _
    have t1 := tick_ok h
    have hs := place_spot (s := s) (s2 := (tickS s).1) (k := k) (by omega) (by rw [h.len]; exact hk) (by rw [t1.len, (tick_ws h).1]; exact hk)
    have hmem : k ∈ movedL s (tickS s).1 := by
      unfold movedL
      rw [List.mem_filter, List.mem_range]
      exact ⟨hk, by simpa using hs⟩
    rw [hm] at hmem
    rw [← List.mem_singleton.mp hmem]
    exact q
/-- the work is at most a hundred a step -/
theorem tot_many {f : Worker → Spot → Int} : ∀ (ws : List Worker) (ps : List Spot), (∀ (k : Nat) (w : Worker) (p : Spot), ws[k]? = some w → ps[k]? = some p → f w p ≤ 100 * (w.plan.length : Int)) → tot f ws ps ≤ 100 * (ws.map fun w => (w.plan.length : Int)).sum
  | [], _, _ => by show (0 : Int) ≤ _; simp
  | a :: ws, [], h => by
    show (0 : Int) ≤ _
    refine Int.mul_nonneg (by decide) ?_
    have key : ∀ ws : List Worker, 0 ≤ (ws.map fun w => (w.plan.length : Int)).sum := by
      intro ws
      induction ws with
      | nil => exact Int.le_refl _
      | cons a ws ih => rw [List.map_cons, List.sum_cons]; omega
    exact key _
  | a :: ws, b :: ps, h => by
    have ih := tot_many ws ps fun k w p h1 h2 => h (k + 1) w p (by simpa using h1) (by simpa using h2)
    have := h 0 a b rfl rfl
    rw [List.map_cons, List.sum_cons]
    show f a b + tot f ws ps ≤ _
    omega
def manyS (ws : List Worker) : Int := (ws.map fun w => (w.plan.length : Int)).sum
theorem workLeft_many {s : Shop} (h : ShopOk s) : workLeft s ≤ 100 * manyS s.ws := tot_many s.ws s.sp fun k w p e1 e2 => by
  have b := work_bd ((h.plans k w e1).split p.place).2
  rw [List.length_drop] at b
  have := (h.spots k w p e1 e2).gone0
  unfold workW
  omega
theorem manyS_bd : ∀ {ws : List Worker}, (∀ w ∈ ws, w.plan.length ≤ 40) → 0 ≤ manyS ws ∧ manyS ws ≤ 40 * (ws.length : Int)
  | [], _ => ⟨Int.le_refl _, Int.le_refl _⟩
  | a :: ws, h => by
    obtain ⟨i1, i2⟩ := manyS_bd (ws := ws) fun w hw => h w (List.mem_cons_of_mem _ hw)
    have := h a List.mem_cons_self
    unfold manyS at *
    rw [List.map_cons, List.sum_cons, List.length_cons]
    omega
/-- where the law's loop stands -/
def Loop11 (s : Shop) (n : Nat) : Prop := workLeft (shopAt s n) ≤ workLeft s ∧ ((n : Int) + workLeft (shopAt s n) ≤ workLeft s + 24 ∨ (thereL (shopAt s n) = [] ∧ 24 ≤ n ∧ (n : Int) + workLeft (shopAt s n) ≤ workLeft s + 25))
theorem loop11_zero (s : Shop) : Loop11 s 0 := ⟨Int.le_refl _, .inl (by show (0 : Int) + workLeft s ≤ _; omega)⟩
theorem loop11_bd {s : Shop} (h : ShopOk s) {n : Nat} (l : Loop11 s n) : (n : Int) ≤ workLeft s + 25 := by
  have := (workLeft_bd (shopAt_ok h n)).1
  rcases l.2 with l | l <;> omega
theorem loop11_step {s : Shop} (h : ShopOk s) (h0 : s.now = 0) (hs : ∀ (k : Nat) (w : Worker), s.ws[k]? = some w → w.start ≤ 24) {n : Nat} (l : Loop11 s n) (c : n < 24 ∨ thereL (shopAt s n) ≠ []) : Loop11 s (n + 1) := by
  have hn := shopAt_ok h n
  have hn1 := shopAt_ok h (n + 1)
  obtain ⟨a, b⟩ := shopAt_ws h n
  obtain ⟨a1, b1⟩ := shopAt_ws h (n + 1)
  have w : workLeft (shopAt s (n + 1)) = workLeft (shopAt s n) - (if (tickS (shopAt s n)).2 = none then 0 else 1) := tick_work hn
  have l1 := l.1
  have hle : workLeft (shopAt s (n + 1)) ≤ workLeft (shopAt s n) := by rw [w]; split <;> omega
  refine ⟨by omega, ?_⟩
  by_cases hlt : n < 24
  · exact .inl (by omega)
  · have hne := c.resolve_left hlt
    have l2 := l.2.resolve_right fun z => hne z.1
    by_cases hw : (tickS (shopAt s n)).2 = none
    · rw [if_pos hw] at w
      refine .inr ⟨?_, by omega, by omega⟩
      cases e : thereL (shopAt s (n + 1)) with
      | nil => rfl
      | cons k ks =>
        exfalso
        have ht := thereL_mem.mp (show k ∈ thereL (shopAt s (n + 1)) by rw [e]; exact List.mem_cons_self)
        have hk := there_lt ht
        have hW : (shopAt s (n + 1)).ws[k]? = some (shopAt s (n + 1)).ws[k] := List.getElem?_eq_getElem hk
        have hf := ((there_iff hn1 hW).mp ht).2
        have hW' : s.ws[k]? = some (shopAt s (n + 1)).ws[k] := by rw [← a1]; exact hW
        have hW2 : (shopAt s n).ws[k]? = some (shopAt s (n + 1)).ws[k] := by rw [a]; exact hW'
        have := none_fin hn hw hW2 (by have := hs k _ hW'; omega)
        have this' : finB (shopAt s (n + 1)) k = true := this
        rw [hf] at this'
        cases this'
    · rw [if_neg hw] at w
      exact .inl (by omega)
theorem startF_22 {ns : List Int} {k : Nat} (hk : k < manyF ns) : startF 9 ns k ≤ 22 := by
  obtain ⟨_, _, h8⟩ := manyF_eq ns
  unfold startF
  split
  · have b1 := em2 (cellN ns 1 / 3) 3 (by decide)
    have b2 := em2 (mixed (cellN ns (2 + 2 * k)) (60 + (k : Int)) % 9) 2 (by decide)
    have h1 : (0 : Int) ≤ (manyF ns : Int) - 1 - (k : Int) := by omega
    have h2 : (manyF ns : Int) - 1 - (k : Int) ≤ 7 := by omega
    generalize (manyF ns : Int) - 1 - (k : Int) = a at h1 h2
    generalize cellN ns 1 / 3 % 3 = b at b1
    have m2 : a * (1 + b) ≤ 7 * 3 := Int.mul_le_mul h2 (by omega) (by omega) (by omega)
    omega
  · have b := em2 (mixed (cellN ns (2 + 2 * k)) (60 + (k : Int))) 9 (by decide)
    omega
theorem workersF_start {C most : Int} {ns : List Int} {k : Nat} {w : Worker} (h : (workersF C most 9 ns)[k]? = some w) : w.start ≤ 24 := by
  obtain ⟨a, b⟩ := workersF_at h
  rw [b]
  have := startF_22 a
  show startF 9 ns k ≤ 24
  omega
/-- the end of a longer chain holds a tool -/
theorem chain_holds {s : Shop} (h : ShopOk s) {j : Nat} {c : List Nat} (hc : IsChain (after s) j c) (hj : j < s.ws.length) {e : Nat} (he : c.getLast? = some e) (hne : e ≠ j) : toolsOf s e ≠ [] := by
  induction hc with
  | stop q =>
    have : e = _ := (Option.some.inj he).symm
    exact absurd this hne
  | @step j i c q t ih =>
    obtain ⟨r, er⟩ := t.ne
    have ea := afterF_of h hj q
    have hi := afterF_lt ea
    rw [er, List.getLast?_cons_cons, ← er] at he
    by_cases z : e = i
    · obtain ⟨_, t', ht'⟩ := afterF_facts ea
      rw [z]
      intro w
      rw [w] at ht'
      exact nomatch ht'
    · exact ih hi he z
/-- a lesser one that is chosen while a greater one is there holds a tool -/
theorem lesser_holds {s : Shop} (h : ShopOk s) {k o : Nat} (hk : there s k = true) (hl : rankAt s o < rankAt s k) (c : chosenP s = some o) : toolsOf s o ≠ [] := by
  have ce := chosen_eq h
  have c' : chosenL s (chainF s) = some o := c
  rw [c'] at ce
  have bg := best_going s
  revert ce bg
  cases bestF s with
  | none => intro ce; cases ce
  | some b =>
    rintro ce ⟨b1, b2⟩
    injection ce with ce
    have hb := there_lt b1
    have hbk := b2 k hk
    obtain ⟨pre, e⟩ := end_last h hb
    refine chain_holds h (chainF_ok h hb) hb (e := o) ?_ ?_
    · rw [ce, e, List.getLast?_concat]
    · intro z
      rw [z] at hl
      omega
/-- the work from a place till nothing is held -/
def restR (p : Plan) (n : Nat) : Int := restL (toolsAt p n) (p.drop n)
theorem skip_rest {p : Plan} (h : PlanOk p) (n : Nat) : restR p (skipF p n) = restR p n := by
  refine skip_ind (p := p) (P := fun m => restR p m = restR p n) (fun m x e ih => ?_) (p.length - n) n (Nat.le_refl _) rfl
  have hm : x ∈ toolsAt p m := h.fits e
  have hne : toolsAt p m ≠ [] := fun z => by rw [z] at hm; exact nomatch hm
  have q := restL_at e hne
  unfold restR at ih ⊢
  rw [← ih, q]
  show _ = 0 + _
  omega
theorem restF_at {s : Shop} {k : Nat} {w : Worker} {p : Spot} (h1 : s.ws[k]? = some w) (h2 : s.sp[k]? = some p) : restF s k = restR w.plan p.place - (if toolsAt w.plan p.place = [] then 0 else p.gone) := by
  unfold restF restR
  rw [h1, h2]
  show (if toolsAt w.plan p.place = [] then 0 else _) = _
  split
  · rename_i e
    rw [e, restL_nil]
    rfl
  · rfl
theorem restF_set {s : Shop} {now : Int} {k : Nat} {p q : Spot} (h2 : s.sp[k]? = some p) {j : Nat} (e : j ≠ k) : restF (setSp s now k q) j = restF s j := by
  have z : (setSp s now k q).sp[j]? = s.sp[j]? := List.getElem?_set_ne (Ne.symm e)
  unfold restF
  rw [z]
  try rfl
theorem hold_rest {s : Shop} (h : ShopOk s) {k : Nat} (c : chosenP s = some k) (q : holdAt s k = true) (o : Nat) (ho : k = o → toolsOf s o ≠ []) : restF (doneS s s.now k) o = restF s o := by
  obtain ⟨w, p, t, e1, e2, e3, e4, e5, e6⟩ := hold_facts h c q
  rw [doneS_at e1 e2]
  by_cases e : o = k
  · subst e
    have hne := ho rfl
    rw [toolsOf_at e1 e2] at hne
    have hp := h.plans o w e1
    have g := (h.spots o w p e1 e2).goneZ (fun m e2 => by rw [e3] at e2; cases e2)
    rw [restF_at (s := setSp s s.now o (nextSp w p)) e1 (set_self' e2), restF_at e1 e2, g]
    show restR w.plan (skipF w.plan (p.place + 1)) - (if _ then 0 else 0) = restR w.plan p.place - (if _ then 0 else 0)
    rw [skip_rest hp]
    have z := restL_at e3 hne
    unfold restR
    rw [z]
    show _ = 0 + _ - _
    split <;> omega
  · exact restF_set e2 e
theorem hold_tools {s : Shop} (h : ShopOk s) {k : Nat} (c : chosenP s = some k) (q : holdAt s k = true) {o : Nat} (e : o ≠ k) : toolsOf (doneS s s.now k) o = toolsOf s o := by
  obtain ⟨w, p, t, e1, e2, e3, e4, e5, e6⟩ := hold_facts h c q
  rw [doneS_at e1 e2, toolsOf_set e1 e2, if_neg e]
theorem rankAt_ws {s s2 : Shop} (e : s2.ws = s.ws) (k : Nat) : rankAt s2 k = rankAt s k := by
  unfold rankAt; rw [e]
/-- a lesser one through the holds of a tick, as a greater one is there till the end -/
theorem Reach.lesser {s s2 : Shop} (r : Reach s s2) (h : ShopOk s) {k o : Nat} (hk : there s2 k = true) (hs : there s k = true) (hl : rankAt s o < rankAt s k) : restF s2 o = restF s o ∧ (toolsOf s o = [] → toolsOf s2 o = []) := by
  induction r with
  | refl s => exact ⟨rfl, fun z => z⟩
  | @step s s2 j c q r ih =>
    have ho := hold_ok h c q
    have hws := doneS_ws s s.now j
    have hnow : (doneS s s.now j).now = s.now := by
      obtain ⟨w, p, t, e1, e2, _⟩ := hold_facts h c q
      rw [doneS_at e1 e2]
      rfl
    have hkl := there_lt hs
    have hW : s.ws[k]? = some s.ws[k] := List.getElem?_eq_getElem hkl
    have hW1 : (doneS s s.now j).ws[k]? = some s.ws[k] := by rw [hws]; exact hW
    obtain ⟨sw, sn⟩ := r.same ho
    have hW2 : s2.ws[k]? = some s.ws[k] := by rw [sw]; exact hW1
    have hs1 : there (doneS s s.now j) k = true := by
      refine (there_iff ho hW1).mpr ⟨by rw [hnow]; exact ((there_iff h hW).mp hs).1, ?_⟩
      have f2 := ((there_iff (r.ok ho) hW2).mp hk).2
      rw [fin_iff (r.ok ho) hW2, decide_eq_false_iff_not] at f2
      rw [fin_iff ho hW1, decide_eq_false_iff_not]
      have := r.place ho k
      have := place_le (r.ok ho) hW2
      omega
    have hl1 : rankAt (doneS s s.now j) o < rankAt (doneS s s.now j) k := by rw [rankAt_ws hws, rankAt_ws hws]; exact hl
    obtain ⟨i1, i2⟩ := ih ho hk hs1 hl1
    have hh : j = o → toolsOf s o ≠ [] := fun e => by
      subst e
      exact lesser_holds h hs hl c
    refine ⟨by rw [i1, hold_rest h c q o hh], fun z => ?_⟩
    have e : o ≠ j := fun e => hh e.symm z
    exact i2 (by rw [hold_tools h c q e]; exact z)
theorem work_rest {s : Shop} (h : ShopOk s) {k : Nat} (c : chosenP s = some k) (q : holdAt s k = false) (o : Nat) (ho : k = o → toolsOf s o ≠ []) : restF (workS s k) o = restF s o - (if k = o then 1 else 0) ∧ (k ≠ o → toolsOf (workS s k) o = toolsOf s o) := by
  obtain ⟨w, p, n, e1, e2, e3, e4, e5, e6, e7, e8, e9⟩ := work_facts h c q
  have hp := h.plans k w e1
  rw [workS_at e1 e2]
  by_cases e : k = o
  · subst e
    have hne := ho rfl
    rw [toolsOf_at e1 e2] at hne
    have z := restL_at e3 hne
    rw [if_pos rfl]
    refine ⟨?_, fun x => absurd rfl x⟩
    rw [restF_at e1 e2, if_neg hne]
    split
    · rename_i hl
      have hl' : w.plan[p.place]? = some (.work (p.gone + 1)) := hl
      rw [restF_at (s := setSp s (s.now + 1) k (nextSp w p)) e1 (set_self' e2)]
      show restR w.plan (skipF w.plan (p.place + 1)) - (if _ then 0 else 0) = _
      rw [skip_rest hp]
      have en : n = p.gone + 1 := by
        rw [e3] at hl'
        injection hl' with hl'
        injection hl' with hl'
      unfold restR
      rw [z]
      show _ = n + _ - _ - 1
      split <;> omega
    · rw [restF_at (s := setSp s (s.now + 1) k ⟨p.place, p.gone + 1⟩) e1 (set_self' e2)]
      show restR w.plan p.place - (if toolsAt w.plan p.place = [] then 0 else p.gone + 1) = _
      rw [if_neg hne]
      omega
  · rw [if_neg e]
    have e' : o ≠ k := fun x => e x.symm
    split
    · exact ⟨by rw [restF_set e2 e']; omega, fun _ => by rw [toolsOf_set e1 e2, if_neg e']⟩
    · exact ⟨by rw [restF_set e2 e']; omega, fun _ => by rw [toolsOf_set e1 e2, if_neg e']⟩
/-- a tick at which a greater one is there till its end -/
theorem tick_lesser {s : Shop} (h : ShopOk s) {k o : Nat} {w : Worker} (hw : s.ws[k]? = some w) (hst : w.start ≤ s.now) (hf : finB (tickS s).1 k = false) (hl : rankAt s o < rankAt s k) :
    restF (tickS s).1 o = restF s o - (if (tickS s).2 = some o then 1 else 0) ∧ (toolsOf s o = [] → toolsOf (tickS s).1 o = [] ∧ (tickS s).2 ≠ some o) := by
  obtain ⟨r, z⟩ := holdsD_reach h
  have h1 := r.ok h
  obtain ⟨sw, sn⟩ := r.same h
  have ht := tick_ok h
  have hW1 : (holdsD s).ws[k]? = some w := by rw [sw]; exact hw
  have hWt : (tickS s).1.ws[k]? = some w := by rw [(tick_ws h).1]; exact hw
  have pt : placeOf (holdsD s) k ≤ placeOf (tickS s).1 k := by
    rcases tick_eq (s := s) with ⟨j, c', q'⟩ | ⟨c', q'⟩
    · rw [q']
      exact (work_place h1 c' (z j c') k).1
    · rw [q']
      exact Nat.le_refl _
  have f1 : finB (holdsD s) k = false := by
    rw [fin_iff ht hWt, decide_eq_false_iff_not] at hf
    rw [fin_iff h1 hW1, decide_eq_false_iff_not]
    have := place_le ht hWt
    omega
  have hk1 : there (holdsD s) k = true := (there_iff h1 hW1).mpr ⟨by rw [sn]; exact hst, f1⟩
  have hs : there s k = true := by
    refine (there_iff h hw).mpr ⟨hst, ?_⟩
    rw [fin_iff h1 hW1, decide_eq_false_iff_not] at f1
    rw [fin_iff h hw, decide_eq_false_iff_not]
    have := r.place h k
    have := place_le h1 hW1
    omega
  obtain ⟨a1, a2⟩ := r.lesser h hk1 hs hl
  have hl1 : rankAt (holdsD s) o < rankAt (holdsD s) k := by rw [rankAt_ws sw, rankAt_ws sw]; exact hl
  rcases tick_eq (s := s) with ⟨j, c, q⟩ | ⟨c, q⟩
  · rw [q]
    have hh : j = o → toolsOf (holdsD s) o ≠ [] := fun e => by
      subst e
      exact lesser_holds h1 hk1 hl1 c
    obtain ⟨b1, b2⟩ := work_rest h1 c (z j c) o hh
    refine ⟨?_, fun e => ?_⟩
    · show restF (workS (holdsD s) j) o = _
      rw [b1, a1]
      by_cases e : j = o
      · rw [if_pos e, if_pos (congrArg some e)]
      · rw [if_neg e, if_neg (fun x => e (Option.some.inj x))]
    · have hne : j ≠ o := fun x => hh x (a2 e)
      refine ⟨?_, fun x => hne (Option.some.inj x)⟩
      show toolsOf (workS (holdsD s) j) o = []
      rw [b2 hne]
      exact a2 e
  · rw [q]
    refine ⟨?_, fun e => ⟨a2 e, fun x => nomatch x⟩⟩
    show restF (holdsD s) o = _
    rw [a1, if_neg (fun x => nomatch x)]
    omega
theorem restR_nonneg {p : Plan} : ∀ {ts : List Int}, (∀ n, .work n ∈ p → 0 ≤ n) → 0 ≤ restL ts p := by
  induction p with
  | nil => intro ts _; exact Int.le_refl _
  | cons st p ih =>
    intro ts h
    show 0 ≤ (if ts = [] then 0 else workOf st + restL (toolsBehind ts st) p)
    split
    · exact Int.le_refl _
    · have i := ih (ts := toolsBehind ts st) fun n hn => h n (List.mem_cons_of_mem _ hn)
      have : 0 ≤ workOf st := by
        cases st with
        | work n => exact h n List.mem_cons_self
        | hold n => exact Int.le_refl _
        | free n => exact Int.le_refl _
      omega
theorem plan_works {p : Plan} (h : PlanOk p) {n : Int} (hn : Step.work n ∈ p) : 0 ≤ n := by
  obtain ⟨i, hi, e⟩ := List.getElem_of_mem hn
  have : 1 ≤ n ∧ n ≤ 100 := h.fits (n := i) (s := .work n) (by rw [← e]; exact List.getElem?_eq_getElem hi)
  omega
theorem restF_nonneg {s : Shop} (h : ShopOk s) (o : Nat) : 0 ≤ restF s o := by
  unfold restF
  split
  · rename_i w p e1 e2
    have hp := h.plans o w e1
    have so := h.spots o w p e1 e2
    split
    · exact Int.le_refl _
    · rename_i hne
      have nn : ∀ m, 0 ≤ restL (toolsAt w.plan m) (w.plan.drop m) := fun m => restR_nonneg fun n hn => plan_works hp (List.mem_of_mem_drop hn)
      cases e : w.plan[p.place]? with
      | none =>
        have := so.goneZ (fun n e2 => by rw [e] at e2; cases e2)
        have := nn p.place
        omega
      | some st =>
        have z := restL_at e hne
        have n1 := nn (p.place + 1)
        cases st with
        | work n =>
          have := so.gone n e
          rw [z]
          show 0 ≤ n + _ - _
          omega
        | hold n =>
          have := so.goneZ (fun m e2 => by rw [e] at e2; cases e2)
          have := nn p.place
          omega
        | free n =>
          have := so.goneZ (fun m e2 => by rw [e] at e2; cases e2)
          have := nn p.place
          omega
  · exact Int.le_refl _
/-- ticks from a on, before T, at which one works -/
def cntB (s : Shop) (a o t : Nat) : Bool := decide (a ≤ t) && decide (whoAt s t = some o)
def cnt (s : Shop) (a o T : Nat) : Nat := ((List.range T).filter (cntB s a o)).length
theorem cnt_succ (s : Shop) (a o T : Nat) : cnt s a o (T + 1) = cnt s a o T + (if a ≤ T ∧ whoAt s T = some o then 1 else 0) := by
  unfold cnt
  rw [List.range_succ, List.filter_append, List.length_append]
  congr 1
  by_cases c : a ≤ T ∧ whoAt s T = some o
  · rw [if_pos c, List.filter_cons_of_pos (by unfold cntB; rw [decide_eq_true c.1, decide_eq_true c.2]; rfl)]
    rfl
  · rw [if_neg c, List.filter_cons_of_neg]
    · rfl
    · intro z
      unfold cntB at z
      rw [Bool.and_eq_true] at z
      exact c ⟨of_decide_eq_true z.1, of_decide_eq_true z.2⟩
theorem cnt_zero (s : Shop) (a o : Nat) : ∀ T, T ≤ a → cnt s a o T = 0
  | 0, _ => rfl
  | T + 1, h => by
    rw [cnt_succ, cnt_zero s a o T (by omega), if_neg (fun z => by omega)]
/-- the count is what the rest has lost -/
theorem cnt_rest {s : Shop} (h : ShopOk s) (h0 : s.now = 0) {k o a : Nat} {w : Worker} (hw : s.ws[k]? = some w) (ha : w.start = (a : Int)) (hl : rankAt s o < rankAt s k) :
    ∀ m : Nat, finB (shopAt s (a + m)) k = false → (cnt s a o (a + m) : Int) = restF (shopAt s a) o - restF (shopAt s (a + m)) o ∧ (toolsOf (shopAt s a) o = [] → toolsOf (shopAt s (a + m)) o = [] ∧ cnt s a o (a + m) = 0)
  | 0, _ => by
    rw [Nat.add_zero, cnt_zero s a o a (Nat.le_refl _)]
    exact ⟨by simp, fun z => ⟨z, rfl⟩⟩
  | m + 1, hf => by
    have hk := (List.getElem?_eq_some_iff.mp hw).1
    have hf0 := fin_down h hk (show a + m ≤ a + (m + 1) by omega) hf
    obtain ⟨i1, i2⟩ := cnt_rest h h0 hw ha hl m hf0
    have hm := shopAt_ok h (a + m)
    obtain ⟨w1, w2⟩ := shopAt_ws h (a + m)
    have hw1 : (shopAt s (a + m)).ws[k]? = some w := by rw [w1]; exact hw
    have hl1 : rankAt (shopAt s (a + m)) o < rankAt (shopAt s (a + m)) k := by rw [rankAt_ws w1, rankAt_ws w1]; exact hl
    obtain ⟨t1, t2⟩ := tick_lesser hm hw1 (by rw [w2, h0, ha]; omega) hf hl1
    have e : a + (m + 1) = a + m + 1 := by omega
    rw [e, cnt_succ]
    have t1' : restF (shopAt s (a + m + 1)) o = restF (shopAt s (a + m)) o - (if whoAt s (a + m) = some o then 1 else 0) := t1
    refine ⟨?_, fun z => ?_⟩
    · rw [t1']
      by_cases c : whoAt s (a + m) = some o
      · rw [if_pos c, if_pos ⟨by omega, c⟩]
        omega
      · rw [if_neg c, if_neg (fun z => c z.2)]
        omega
    · obtain ⟨j1, j2⟩ := i2 z
      obtain ⟨u1, u2⟩ := t2 j1
      refine ⟨u1, ?_⟩
      rw [j2, if_neg (fun x => u2 x.2)]
theorem filter_le {α : Type} {f g : α → Bool} : ∀ (L : List α), (∀ x ∈ L, f x = true → g x = true) → (L.filter f).length ≤ (L.filter g).length
  | [], _ => Nat.le_refl _
  | x :: L, h => by
    have ih := filter_le L fun y hy => h y (List.mem_cons_of_mem _ hy)
    cases e : f x with
    | true =>
      rw [List.filter_cons_of_pos e, List.filter_cons_of_pos (h x List.mem_cons_self e), List.length_cons, List.length_cons]
      omega
    | false =>
      rw [List.filter_cons_of_neg (by rw [e]; decide)]
      cases e2 : g x with
      | true => rw [List.filter_cons_of_pos e2, List.length_cons]; omega
      | false => rw [List.filter_cons_of_neg (by rw [e2]; decide)]; exact ih
noncomputable def oftenL (s : Shop) (k o : Nat) : List Nat := (waitL s k).filter fun t => decide (whoAt s t = some o)
theorem wait_facts {s : Shop} {k t : Nat} (h : t ∈ waitL s k) : t < endK s k + 1 ∧ (∃ u, whoAt s t = some u ∧ rankAt s u < rankAt s k) ∧ startAt s k ≤ (t : Int) ∧ finB (shopAt s (t + 1)) k = false := by
  unfold waitL waitTo at h
  obtain ⟨h1, h2⟩ := List.mem_filter.mp h
  unfold waitB at h2
  rw [Bool.and_eq_true, Bool.and_eq_true, Bool.not_eq_true'] at h2
  refine ⟨List.mem_range.mp h1, ?_, of_decide_eq_true h2.1.2, h2.2⟩
  have l := h2.1.1
  unfold lesserB at l
  cases e : whoAt s t with
  | none => rw [e] at l; cases l
  | some u => rw [e] at l; exact ⟨u, rfl, of_decide_eq_true l⟩
theorem wait_lt {s : Shop} (h : ShopOk s) {k t : Nat} (hk : k < s.ws.length) (h0 : finB s k = false) (ht : t ∈ waitL s k) : t < endK s k := by
  obtain ⟨a, _, _, b⟩ := wait_facts ht
  have e := endK_ok h hk h0
  by_cases z : t = endK s k
  · rw [z, e.yes] at b; cases b
  · omega
/-- how often a lesser one works as one waits -/
theorem often_le {s : Shop} (h : ShopOk s) (h0 : s.now = 0) {k o a : Nat} {w : Worker} (hw : s.ws[k]? = some w) (hf : finB s k = false) (ha : w.start = (a : Int)) (hl : rankAt s o < rankAt s k) :
    ((oftenL s k o).length : Int) ≤ restF (shopAt s a) o ∧ (0 < (oftenL s k o).length → toolsOf (shopAt s a) o ≠ []) := by
  have hk := (List.getElem?_eq_some_iff.mp hw).1
  have e := endK_ok h hk hf
  have eS : startAt s k = (a : Int) := by
    unfold startAt; rw [hw]; exact ha
  have le : (oftenL s k o).length ≤ cnt s a o (endK s k) := by
    unfold oftenL waitL waitTo cnt
    rw [List.filter_filter, List.range_succ, List.filter_append]
    have last : ([endK s k] : List Nat).filter (fun t => decide (whoAt s t = some o) && waitB s k t) = [] := by
      rw [List.filter_cons_of_neg]
      · rfl
      · intro z
        rw [Bool.and_eq_true] at z
        have z2 := z.2
        unfold waitB at z2
        rw [Bool.and_eq_true, e.yes] at z2
        exact nomatch z2.2
    rw [last, List.append_nil]
    refine filter_le _ fun t _ ht => ?_
    rw [Bool.and_eq_true] at ht
    have z2 := ht.2
    unfold waitB at z2
    rw [Bool.and_eq_true, Bool.and_eq_true] at z2
    have st := of_decide_eq_true z2.1.2
    rw [eS] at st
    unfold cntB
    rw [ht.1, decide_eq_true (by omega)]
    rfl
  by_cases hae : a ≤ endK s k
  · have hfe := e.no (endK s k) (Nat.le_refl _)
    have c := cnt_rest h h0 hw ha hl (endK s k - a) (by rw [show a + (endK s k - a) = endK s k by omega]; exact hfe)
    rw [show a + (endK s k - a) = endK s k by omega] at c
    have n := restF_nonneg (shopAt_ok h (endK s k)) o
    refine ⟨by omega, fun hp z => ?_⟩
    have := (c.2 z).2
    omega
  · have z := cnt_zero s a o (endK s k) (by omega)
    have n := restF_nonneg (shopAt_ok h a) o
    refine ⟨by omega, fun hp => by omega⟩
/-- sums over lesser ones -/
def sumTo (f : Nat → Int) : Nat → Int
  | 0 => 0
  | n + 1 => sumTo f n + f n
theorem sumTo_le {f g : Nat → Int} : ∀ n, (∀ i, i < n → f i ≤ g i) → sumTo f n ≤ sumTo g n
  | 0, _ => Int.le_refl _
  | n + 1, h => by
    have ih := sumTo_le n fun i hi => h i (by omega)
    have := h n (by omega)
    show sumTo f n + f n ≤ sumTo g n + g n
    omega
theorem sumTo_add (f g : Nat → Int) : ∀ n, sumTo (fun i => f i + g i) n = sumTo f n + sumTo g n
  | 0 => rfl
  | n + 1 => by
    show sumTo (fun i => f i + g i) n + (f n + g n) = sumTo f n + f n + (sumTo g n + g n)
    rw [sumTo_add f g n]
    omega
theorem sumTo_nonneg {f : Nat → Int} : ∀ n, (∀ i, i < n → 0 ≤ f i) → 0 ≤ sumTo f n
  | 0, _ => Int.le_refl _
  | n + 1, h => by
    have ih := sumTo_nonneg n fun i hi => h i (by omega)
    have := h n (by omega)
    show 0 ≤ sumTo f n + f n
    omega
theorem sumTo_one {f : Nat → Int} {j : Nat} : ∀ n, j < n → (∀ i, i < n → 0 ≤ f i) → f j ≤ sumTo f n
  | 0, h, _ => nomatch h
  | n + 1, h, g => by
    show f j ≤ sumTo f n + f n
    have := sumTo_nonneg (f := f) n fun i hi => g i (by omega)
    have := g n (by omega)
    by_cases e : j = n
    · subst e; omega
    · have := sumTo_one (f := f) (j := j) n (by omega) fun i hi => g i (by omega)
      omega
theorem len_sum (f : Nat → Option Nat) (ls : Nat → Bool) (n : Nat) : ∀ L : List Nat, (∀ t ∈ L, ∃ u, f t = some u ∧ u < n ∧ ls u = true) → (L.length : Int) ≤ sumTo (fun o => if ls o = true then ((L.filter fun t => decide (f t = some o)).length : Int) else 0) n
  | [], _ => by
    show (0 : Int) ≤ _
    exact sumTo_nonneg n fun i _ => by
      show 0 ≤ (if ls i = true then (0 : Int) else 0)
      split <;> exact Int.le_refl _
  | t :: L, h => by
    have ih := len_sum f ls n L fun x hx => h x (List.mem_cons_of_mem _ hx)
    obtain ⟨u, e1, e2, e3⟩ := h t List.mem_cons_self
    have key : sumTo (fun o => (if ls o = true then ((L.filter fun t => decide (f t = some o)).length : Int) else 0) + (if o = u then 1 else 0)) n ≤ sumTo (fun o => if ls o = true then (((t :: L).filter fun t => decide (f t = some o)).length : Int) else 0) n := by
      refine sumTo_le n fun i _ => ?_
      by_cases ei : i = u
      · subst ei
        rw [if_pos e3, if_pos rfl, if_pos e3, List.filter_cons_of_pos (by rw [e1]; simp), List.length_cons]
        omega
      · rw [if_neg ei]
        have ne : ¬ (f t = some i) := fun z => ei (by rw [e1] at z; exact (Option.some.inj z).symm)
        rw [List.filter_cons_of_neg (by simpa using ne)]
        omega
    rw [sumTo_add] at key
    have one := sumTo_one (f := fun o => if o = u then (1 : Int) else 0) (j := u) n e2 fun i _ => by
      show 0 ≤ (if i = u then (1 : Int) else 0)
      split <;> decide
    have one' : (1 : Int) ≤ sumTo (fun o => if o = u then (1 : Int) else 0) n := by
      have z : (if u = u then (1 : Int) else 0) ≤ _ := one
      rw [if_pos rfl] at z
      exact z
    rw [List.length_cons]
    omega
/-- all together -/
theorem wait_sum {s : Shop} (h : ShopOk s) (h0 : s.now = 0) {k a : Nat} {w : Worker} (hw : s.ws[k]? = some w) (hf : finB s k = false) (ha : w.start = (a : Int)) :
    ((waitL s k).length : Int) ≤ sumTo (fun o => if decide (rankAt s o < rankAt s k) = true then restF (shopAt s a) o else 0) s.ws.length := by
  have z := len_sum (whoAt s) (fun o => decide (rankAt s o < rankAt s k)) s.ws.length (waitL s k) fun t ht => by
    obtain ⟨_, ⟨u, u1, u2⟩, _, _⟩ := wait_facts ht
    have hu := who_lt (shopAt_ok h t) (show (tickS (shopAt s t)).2 = some u from u1)
    rw [(shopAt_ws h t).1] at hu
    exact ⟨u, u1, hu, decide_eq_true u2⟩
  refine Int.le_trans z (sumTo_le _ fun o _ => ?_)
  by_cases c : rankAt s o < rankAt s k
  · rw [if_pos (decide_eq_true c), if_pos (decide_eq_true c)]
    exact (often_le h h0 hw hf ha c).1
  · rw [if_neg (by simpa using c), if_neg (by simpa using c)]
    exact Int.le_refl _
mutual
/-- data without dicts -/
def noU : D → Bool
  | .lst xs => noUs xs
  | .tup xs => noUs xs
  | .dic _ => false
  | _ => true
def noUs : List D → Bool
  | [] => true
  | d :: ds => noU d && noUs ds
end
section
variable {K : PySem.W.Frag} {G G' : Hp} {d : Addr} {kvs : List (Int × Int)}
mutual
theorem Rep.swap (h : ∀ a o, a ≠ d → G a = some o → G' a = some o) (h1 : Rd G d (.dK (encK kvs))) (h2 : Rd G' d (.dK (encK kvs))) : ∀ (x : D) (v : V), noU x = true → Rep K G v x → Rep K G' v x
  | .non, _, _, .non => .non
  | .bl _, _, _, .bl b => .bl b
  | .int _, _, _, .int i => .int i
  | .str _, _, _, .str s => .str s
  | .lst ds, _, u, .lst q r => by
    unfold noU at u
    exact .lst (h _ _ (by rintro rfl; rcases h1 with e | ⟨_, e⟩ <;> (rw [q] at e; cases e)) q) (Reps.swap h h1 h2 ds _ u r)
  | .tup ds, _, u, .tup q r => by
    unfold noU at u
    exact .tup (h _ _ (by rintro rfl; rcases h1 with e | ⟨_, e⟩ <;> (rw [q] at e; cases e)) q) (Reps.swap h h1 h2 ds _ u r)
  | .scr _, _, _, .scr q => by
    refine .scr ?_
    rcases q with (q | ⟨o, q⟩) | q
    · exact .inl (.inl (h _ _ (by rintro rfl; rcases h1 with e | ⟨_, e⟩ <;> (rw [q] at e; cases e)) q))
    · exact .inl (.inr ⟨o, h _ _ (by rintro rfl; rcases h1 with e | ⟨_, e⟩ <;> (rw [q] at e; cases e)) q⟩)
    · exact .inr q
  | .dic _, _, u, .dic _ => by unfold noU at u; cases u
  | .exc _, _, _, .exc q f => .exc (h _ _ (by rintro rfl; rcases h1 with e | ⟨_, e⟩ <;> (rw [q] at e; cases e)) q) f
  | .dicL ks, _, _, .dicL (a := a) q => by
    refine .dicL ?_
    by_cases e : a = d
    · subst e
      have z : encK ks = encK kvs := by
        rcases q with q | ⟨o, q⟩ <;> rcases h1 with h1 | ⟨o', h1⟩
        · have z := q.symm.trans h1
          injection z with z
          injection z with z
        · rw [q] at h1; injection h1 with h1; cases h1
        · rw [q] at h1; injection h1 with h1; cases h1
        · have z := q.symm.trans h1
          injection z with z
          injection z with _ z
          injection z with z
      rw [z]
      exact h2
    · rcases q with q | ⟨o, q⟩
      · exact .inl (h _ _ e q)
      · exact .inr ⟨o, h _ _ e q⟩
  | .raw _, _, _, .raw v => .raw v
theorem Reps.swap (h : ∀ a o, a ≠ d → G a = some o → G' a = some o) (h1 : Rd G d (.dK (encK kvs))) (h2 : Rd G' d (.dK (encK kvs))) : ∀ (xs : List D) (vs : List V), noUs xs = true → Reps K G vs xs → Reps K G' vs xs
  | [], _, _, .nil => .nil
  | x :: xs, _, u, .cons q r => by
    unfold noUs at u
    have u' := Bool.and_eq_true_iff.mp u
    exact .cons (Rep.swap h h1 h2 x _ u'.1 q) (Reps.swap h h1 h2 xs _ u'.2 r)
end
end
def okU : Sl → Bool
  | .no => true
  | .fz x => noU x
  | .ow ds => noUs ds
  | .od _ => true
  | .op _ ds => noUs ds
  | .kn _ x => noU x
/-- the slots within the lock: as they were (without dicts), forgotten, or the locked dict -/
def lockR (i0 : Nat) (kvs : List (Int × Int)) (ρ ρ' : List Sl) : Prop := ρ'.length = ρ.length ∧ ∀ (i : Nat) (r : Sl), ρ'[i]? = some r → r = .no ∨ (ρ[i]? = some r ∧ okU r = true) ∨ (i = i0 ∧ r = .fz (.dicL kvs))
section
variable {K : PySem.W.Frag} {B : Bs} {σ : L2.St} {G H : Hp} {ρ ρ' : List Sl} {d : Addr} {kvs : List (Int × Int)} {i0 : Nat}
theorem SlotR.swap {F F' G' H' : Hp} {x : Option V} {r : Sl} (s : SlotR K F G H x r) (u : okU r = true) (h : ∀ a o, a ≠ d → G a = some o → G' a = some o) (h1 : Rd G d (.dK (encK kvs))) (h2 : Rd G' d (.dK (encK kvs)))
    (hH : ∀ a o, a ≠ d → H a = some o → H' a = some o) (hn : ∀ a, a ≠ d → G a = none → H a ≠ none → G' a = none) (hF : ∀ a, a ≠ d → F a = none → F' a = none) (hd : G d ≠ none) : SlotR K F' G' H' x r := by
  cases r with
  | no => exact trivial
  | fz y => obtain ⟨v, e, q⟩ := s; exact ⟨v, e, Rep.swap h h1 h2 y v u q⟩
  | kn w y => exact ⟨s.1, Rep.swap h h1 h2 y w u s.2⟩
  | ow ds =>
    obtain ⟨p, vs, e, q1, q2, q3, q4⟩ := s
    have ne : p ≠ d := by rintro rfl; exact hd q1
    exact ⟨p, vs, e, hn p ne q1 (by rw [q3]; exact fun z => nomatch z), hF p ne q2, hH p _ ne q3, Reps.swap h h1 h2 ds vs u q4⟩
  | od ks =>
    obtain ⟨p, e, q1, q2, q3⟩ := s
    have ne : p ≠ d := by rintro rfl; exact hd q1
    exact ⟨p, e, hn p ne q1 (by rw [q3]; exact fun z => nomatch z), hF p ne q2, hH p _ ne q3⟩
  | op p ds =>
    obtain ⟨vs, e, q1, q2, q3, q4⟩ := s
    have ne : p ≠ d := by rintro rfl; exact hd q1
    exact ⟨vs, e, hn p ne q1 (by rw [q3]; exact fun z => nomatch z), hF p ne q2, hH p _ ne q3, Reps.swap h h1 h2 ds vs u q4⟩
theorem own_mono (l : ∀ (i : Nat) (r : Sl), ρ'[i]? = some r → Own r → ρ[i]? = some r) {i : Nat} {p : Addr} (o : OwnAt σ ρ' i p) : OwnAt σ ρ i p := by
  obtain ⟨a, r, b, c⟩ := o
  exact ⟨a, r, l i r b c, c⟩
theorem lockR_own (l : lockR i0 kvs ρ ρ') (i : Nat) (r : Sl) (h : ρ'[i]? = some r) (o : Own r) : ρ[i]? = some r := by
  rcases l.2 i r h with e | ⟨e, _⟩ | ⟨_, e⟩
  · subst e; exact False.elim o
  · exact e
  · subst e; exact False.elim o
theorem SR.lockD (S : SR K B σ G H ρ) (l : lockR i0 kvs ρ ρ') (hi : ρ[i0]? = some (.fz (.dic kvs))) (hs : σ[i0]? = some (some (.ref d))) (hd : G d = some (.dK (encK kvs))) (od : Obj) :
    SR K ⟨but B.V0 d, but B.F d⟩ σ (upd G d (.frz od (.dK (encK kvs)))) (upd H d (.frz od (.dK (encK kvs)))) ρ' where
  e1 := fun a o e => by
    have e' : but B.V0 d a = some o := e
    by_cases ea : a = d
    · subst ea; rw [but_none] at e'; cases e'
    · rw [but_ne ea] at e'; rw [upd_ne ea]; exact S.e1 a o e'
  e2 := fun a o e => by
    have e' : but B.F d a = some o := e
    by_cases ea : a = d
    · subst ea; rw [but_none] at e'; cases e'
    · rw [but_ne ea] at e'; rw [upd_ne ea]; exact S.e2 a o e'
  e3 := fun a o e => by
    by_cases ea : a = d
    · subst ea; rw [upd_same] at e ⊢; exact e
    · rw [upd_ne ea] at e ⊢; exact S.e3 a o e
  nw := fun a o e n => by
    show but B.F d a = none
    by_cases ea : a = d
    · subst ea; exact but_none
    · have n' : but B.V0 d a = none := n
      rw [but_ne ea] at n'
      rw [but_ne ea]
      rw [upd_ne ea] at e
      exact S.nw a o e n'
  len := S.len.trans l.1.symm
  sl := fun i r h => by
    have hlen : i < σ.length := by
      have := (List.getElem?_eq_some_iff.mp h).1
      rw [l.1, ← S.len] at this
      exact this
    rcases l.2 i r h with e | ⟨e, u⟩ | ⟨e1, e2⟩
    · subst e; exact ⟨σ[i], List.getElem?_eq_getElem hlen, trivial⟩
    · obtain ⟨x, q1, q2⟩ := S.sl i r e
      refine ⟨x, q1, q2.swap (d := d) (kvs := kvs) u (fun a o ne e => by rw [upd_ne ne]; exact e) (.inl hd) (.inr ⟨od, upd_same⟩) (fun a o ne e => by rw [upd_ne ne]; exact e) (fun a ne e _ => by rw [upd_ne ne]; exact e) (fun a ne e => ?_) (by rw [hd]; exact fun z => nomatch z)⟩
      show but B.F d a = none
      rw [but_ne ne]
      exact e
    · subst e1; subst e2
      exact ⟨_, hs, _, rfl, .dicL (.inr ⟨od, upd_same⟩)⟩
  ne := fun i j p a b => S.ne i j p (own_mono (lockR_own l) a) (own_mono (lockR_own l) b)
/-- .. and given back -/
theorem SR.unlockD {G' H' : Hp} (S : SR K B σ G H ρ) (l : lockR i0 kvs ρ ρ') (hd : G d = some (.dK (encK kvs))) {od : Obj} (S' : SR K ⟨but B.V0 d, but B.F d⟩ σ G' H' ρ') (e : Ex (upd G d (.frz od (.dK (encK kvs)))) G')
    (keep : ∀ (i : Nat) (r : Sl) (p : Addr), ρ[i]? = some r → Own r → σ[i]? = some (some (.ref p)) → ρ'[i]? = some r) :
    Ex G (upd G' d (.dK (encK kvs))) ∧ SR K B σ (upd G' d (.dK (encK kvs))) (upd H' d (.dK (encK kvs))) ρ := by
  have gd : G' d = some (.frz od (.dK (encK kvs))) := e _ _ upd_same
  have ex : Ex G (upd G' d (.dK (encK kvs))) := fun a o q => by
    by_cases ea : a = d
    · subst ea; rw [upd_same]; rw [hd] at q; exact q
    · rw [upd_ne ea]; exact e _ _ (by rw [upd_ne ea]; exact q)
  refine ⟨ex, S.e1.trans ex, fun a o q => ?_, fun a o q => ?_, fun a o q n => ?_, S.len, fun i r h => ?_, S.ne⟩
  · by_cases ea : a = d
    · subst ea
      have := S.e2 _ _ q
      rw [S.e3 _ _ hd] at this
      rw [upd_same]; exact this
    · rw [upd_ne ea]
      exact S'.e2 a o (by show but B.F d a = some o; rw [but_ne ea]; exact q)
  · by_cases ea : a = d
    · subst ea; rw [upd_same] at q ⊢; exact q
    · rw [upd_ne ea] at q ⊢; exact S'.e3 a o q
  · by_cases ea : a = d
    · subst ea; exact S.nw _ _ hd n
    · rw [upd_ne ea] at q
      have z := S'.nw a o q (by show but B.V0 d a = none; rw [but_ne ea]; exact n)
      have z' : but B.F d a = none := z
      rw [but_ne ea] at z'
      exact z'
  · obtain ⟨x, q1, q2⟩ := S.sl i r h
    refine ⟨x, q1, ?_⟩
    have own : ∀ p, Own r → x = some (.ref p) → ∃ x', σ[i]? = some x' ∧ SlotR K (but B.F d) G' H' x' r := fun p o ex => S'.sl i r (keep i r p h o (by rw [q1, ex]))
    by_cases o : Own r
    · obtain ⟨p, u, ex0, z1, z2, z3⟩ := q2.own_there o
      have k' := keep i r p h o (by rw [q1, ex0])
      obtain ⟨x', f1, f2⟩ := S'.sl i r k'
      rw [q1] at f1
      cases f1
      have hu : okU r = true := by
        rcases l.2 i r k' with w | ⟨_, w⟩ | ⟨_, w⟩
        · subst w; exact False.elim o
        · exact w
        · subst w; exact False.elim o
      refine f2.swap (d := d) (kvs := kvs) hu (fun a o ne e => by rw [upd_ne ne]; exact e) (.inr ⟨od, gd⟩) (.inl upd_same) (fun a o ne e => by rw [upd_ne ne]; exact e) (fun a ne e _ => by rw [upd_ne ne]; exact e) (fun a ne e => ?_) (by rw [gd]; exact fun z => nomatch z)
      have e' : but B.F d a = none := e
      rw [but_ne ne] at e'
      exact e'
    · cases r with
      | no => exact trivial
      | fz y => obtain ⟨v, e', q⟩ := q2; exact ⟨v, e', q.mono ex⟩
      | kn w y => exact ⟨q2.1, q2.2.mono ex⟩
      | ow ds => exact absurd trivial o
      | od ks => exact absurd trivial o
      | op p ds => exact absurd trivial o
end

section
variable {X : Cx} {ρ ρ0 : List Sl} {elt : Expr} {ifs : List Expr} {scope : Scope} {x y : Str} {tp pos p : Pos}
theorem Itk_at {d : Addr} {o : Obj} {kvs : List (Int × Int)} {i : Nat} {H H' : Hp} {u : V} (h : (Itk d o (encK kvs)).yld i H u H') : H' = H ∧ ∃ kv, kvs[i]? = some kv ∧ u = .int kv.1 := by
  obtain ⟨e, k, v, q1, q2⟩ := h
  refine ⟨e, ?_⟩
  unfold encK at q1
  rw [List.getElem?_map] at q1
  cases q : kvs[i]? with
  | none => rw [q] at q1; cases q1
  | some kv =>
    rw [q] at q1
    cases q1
    exact ⟨kv, rfl, q2⟩
/-- [elt for x in d if ..], d a dict that stands, unlocked -/
theorem pd_lcD (j i0 : Nat) (own : List (Str × Nat)) {kvs : List (Int × Int)} (f : Int × Int → Bool) (v : Int × Int → D) (ρb : List Sl) (hi : ρ[i0]? = some (.fz (.dic kvs))) (l : lockR i0 kvs ρ ρb) (keep : ∀ (i : Nat) (r : Sl), ρ[i]? = some r → Own r → ρb[i]? = some r) (hl : kvs.length ≤ 50000) (hj : j ∈ own.map (·.2))
    (hU : ∀ a, noU (v a) = true)
    (ht : ∀ (s : Shared) (H : Hp) (C : Addr) (cl : List (Str × Addr)) (fp : List Addr) (i : Nat) (a : Int × Int), kvs[i]? = some a → TSD (Blk X scope s H C cl fp) ifs ((wipeR ρb (own.map (·.2))).set j (.fz (.int a.1))) (f a))
    (he : ∀ (s : Shared) (H : Hp) (C : Addr) (cl : List (Str × Addr)) (fp : List Addr) (i : Nat) (a : Int × Int), kvs[i]? = some a → f a = true → PD (Blk X scope s H C cl fp) elt ((wipeR ρb (own.map (·.2))).set j (.fz (.int a.1))) ((wipeR ρb (own.map (·.2))).set j (.fz (.int a.1))) (.fz (v a)))
    (hc : X.calm = true) (hN : X.N.Nodup) (ok : BlkOk X.N X.env.scope scope own) (hx : X.N[j]? = some x)
    (hloc : ∀ (s : Shared) (H : Hp) (C : Addr) (cl : List (Str × Addr)) (fp : List Addr), Loc (Blk X scope s H C cl fp).env.scope x)
    (hf : ∀ (s : Shared) (H : Hp) (C : Addr) (cl : List (Str × Addr)) (fp : List Addr), (Blk X scope s H C cl fp).fn x = true ∨ (Blk X scope s H C cl fp).env.scope.names.lookup x = some .local)
    (hy : X.N[i0]? = some y) (hv : Vis X.env.scope y) (hdy : (y == ("__debug__" : Str)) = false) (hcd : (y == ("__classdict__" : Str)) = false)
    (hs : ∀ x, foldedSetIterable (.Name y p) X.env x = pure x) :
    PD X (.ListComp elt [⟨.Name x tp, .Name y p, ifs, 0⟩] scope pos) ρ ρ (.ow ((kvs.filter f).map v)) := .mk fun B σ G H Q S k => by
  refine wpE_of (pe_lock (pe_lc (own := own) (g := gName j) (tt := allF X scope ifs)
    (te := allE X scope elt) hc hN (pi_keys (pe_var hy hv hdy hcd)) ok
    (fun s H C cl fp => pg_name hN hx (hloc s H C cl fp) (hf s H C cl fp)) (fun s H C cl fp => ⟨fun pins s' σ' H' Q' I h => h s H C cl fp pins s' I⟩) (fun s H C cl fp => ⟨fun pins s' σ' H' Q' I h => h s H C cl fp pins s' I⟩) hs)) ?_
  obtain ⟨vv, hsl, hrep⟩ := S.get hi
  cases hrep with
  | @dic d _ hd =>
    refine ⟨d, _, S.e3 _ _ hd, trivial, fun od => ?_⟩
    have S1 := S.lockD l hi hsl hd od
    refine ⟨.ref d, hsl, ?_⟩
    refine ⟨d, od, rfl, .inl ⟨_, upd_same, fun Dl hD => ?_⟩⟩
    have glD : upd G d (.frz od (.dK (encK kvs))) d = some (.frz od (.dK (encK kvs))) := upd_same
    have nD : ∀ i, ¬ OwnAt (wipe σ (own.map (·.2))) (wipeR ρb (own.map (·.2))) i Dl := (S1.wipe _).notOwn hD
    have f0 : ∀ i p, OwnAt (wipe σ (own.map (·.2))) (wipeR ρb (own.map (·.2))) i p → less (wipe σ (own.map (·.2))) (wipeR ρb (own.map (·.2))) (upd H d (.frz od (.dK (encK kvs)))) p = none := fun i p o => less_own o
    have fD : less (wipe σ (own.map (·.2))) (wipeR ρb (own.map (·.2))) (upd H d (.frz od (.dK (encK kvs)))) Dl = none := by rw [less_not nD]; exact hD
    have h0 : Cm X.K (wipe σ (own.map (·.2))) (wipeR ρb (own.map (·.2))) (upd G d (.frz od (.dK (encK kvs)))) (less (wipe σ (own.map (·.2))) (wipeR ρb (own.map (·.2))) (upd H d (.frz od (.dK (encK kvs))))) Dl [] (upd (upd H d (.frz od (.dK (encK kvs)))) Dl (.lst [])) :=
      ⟨_, [], Evl.Ex.refl _, ((S1.wipe _).re less_ex f0).alloc hD, ex_none S1.e3 hD, upd_same, .nil⟩
    refine ⟨fun i m H' => m = kvs.length - i ∧ i ≤ kvs.length ∧ Cm X.K (wipe σ (own.map (·.2))) (wipeR ρb (own.map (·.2))) (upd G d (.frz od (.dK (encK kvs)))) (less (wipe σ (own.map (·.2))) (wipeR ρb (own.map (·.2))) (upd H d (.frz od (.dK (encK kvs))))) Dl (((kvs.take i).filter f).map v) H', ⟨kvs.length, by simp, Nat.zero_le _, h0⟩, ?_⟩
    rintro i m H' ⟨rfl, hik, pc⟩
    have hfr : H' d = some (.frz od (.dK (encK kvs))) := by
      obtain ⟨G', acc, e, S', _⟩ := pc
      exact S'.e3 _ _ (e _ _ glD)
    have elen : (encK kvs).length = kvs.length := by unfold encK; rw [List.length_map]
    by_cases hlt : i < kvs.length
    · refine .inr ⟨⟨hfr, by rw [elen]; exact hlt⟩, fun H'' => Cm X.K (wipe σ (own.map (·.2))) (wipeR ρb (own.map (·.2))) (upd G d (.frz od (.dK (encK kvs)))) (less (wipe σ (own.map (·.2))) (wipeR ρb (own.map (·.2))) (upd H d (.frz od (.dK (encK kvs))))) Dl (((kvs.take (i + 1)).filter f).map v) H'', fun H'' p' => ⟨kvs.length - (i + 1), by omega, rfl, hlt, p'⟩, fun u H'' yd => ?_⟩
      obtain ⟨eH, kv, q, rfl⟩ := Itk_at yd
      subst eH
      have hz : (((kvs.take i).filter f).map v).length < 100000 := by
        rw [List.length_map]
        have h1 := List.length_filter_le f (kvs.take i)
        rw [List.length_take] at h1
        omega
      have t := cm_turn (X := X) (ρ0 := ρb) (elt := elt) (ifs := ifs) (scope := scope) (own := own) (j := j) (u := .int kv.1) (b := f kv) (d := .int kv.1) (y := v kv) pc nD f0 fD hj (.int _) hz (fun s H C cl fp => ht s H C cl fp i kv q) (fun hb s H C cl fp => he s H C cl fp i kv q hb)
      refine ⟨t.1, fun s H0 C cl fp pins s' I => ?_⟩
      rw [take_filter f v q]
      exact t.2 s H0 C cl fp pins s' I
    · have ei : i = kvs.length := by omega
      subst ei
      rw [List.take_length] at pc
      refine .inl ⟨⟨hfr, by rw [elen]; exact Nat.le_refl _⟩, hfr, ?_⟩
      obtain ⟨G', e2, S2, v2⟩ := cm_end S1 hD pc
      obtain ⟨u1, u2⟩ := S.unlockD l hd S2 e2 (fun i r p h o _ => keep i r h o)
      refine k _ _ _ u1 u2 ⟨(fun z => nomatch z), ?_, fun _ p ep i oi => ?_⟩
      · have gd : G' d = some (.frz od (.dK (encK kvs))) := e2 _ _ glD
        refine v2.2.1.swap (d := d) (kvs := kvs) ?_ (fun a o ne e => by rw [upd_ne ne]; exact e) (.inr ⟨od, gd⟩) (.inl upd_same) (fun a o ne e => by rw [upd_ne ne]; exact e) (fun a ne e _ => by rw [upd_ne ne]; exact e) (fun a ne e => ?_) (by rw [gd]; exact fun z => nomatch z)
        · show noUs _ = true
          have key : ∀ L : List (Int × Int), noUs (L.map v) = true := by
            intro L
            induction L with
            | nil => unfold noUs; rfl
            | cons a L ih => rw [List.map_cons]; unfold noUs; rw [hU a, ih]; rfl
          exact key _
        · have e' : but B.F d a = none := e
          rw [but_ne ne] at e'
          exact e'
      · cases ep
        obtain ⟨a1, r, a2, a3⟩ := oi
        exact v2.2.2 trivial _ rfl i ⟨a1, r, keep i r a2 a3, a3⟩
end
section
variable {X : Cx} {a b : Expr} {ρ ρ1 ρ2 : List Sl} {kvs : List (Int × Int)} {i : Int} {pos : Pos}
/-- d[k], d perhaps locked -/
theorem pd_dixL {k : Nat} {n : Int} (hr : Room k X.A) (ha : PD X a ρ ρ1 (.fz (.dicL kvs))) (hb : PD X b ρ1 ρ2 (.fz (.int i))) (hs : NoSl b) (h : getI kvs i = some n) : PD X (.Subscript a b pos) ρ ρ2 (.fz (.int n)) := .mk fun B σ G H Q S k =>
  wpE_of (pe_dget (by have := hr.units; omega) canE canE hs) (ha B σ G H _ S fun v G1 H1 e1 S1 r1 => by
    have z := r1.rep
    cases z with
    | dicL h1 =>
      refine hb B σ G1 H1 _ S1 fun w G2 H2 e2 S2 r2 => ?_
      have y := r2.rep
      cases y
      refine ⟨_, .int n, rfl, ?_, k _ G2 H2 (e1.trans e2) S2 (.of (.int n))⟩
      have z : DGet H2 _ (kV (Sum.inl i)) (valV (encK kvs) (Sum.inl i)) := .inl ⟨_, Sum.inl i, rd_ex S2.e3 (rd_ex e2 h1), rfl, rfl⟩
      rw [valV_enc, h] at z
      exact z)
/-- a dict of one's own, read as data from now on -/
theorem psd_frzD {sts : List Stmt} {E : En} {i : Nat} (h : ρ[i]? = some (.od kvs)) (q : PSD X sts (ρ.set i (.fz (.dic kvs))) E) : PSD X sts ρ E := .mk fun B σ G H M S k => by
  obtain ⟨x, h1, p, eq, h2, h3, h4⟩ := S.sl i _ h
  subst eq
  have hi := (List.getElem?_eq_some_iff.mp h).1
  have S0 : SR X.K B σ G H (ρ.set i .no) := S.weak (List.length_set ..) fun j r z => by
    by_cases ej : j = i
    · subst ej
      rw [List.getElem?_set_self hi] at z
      cases z
      exact .inl rfl
    · rw [List.getElem?_set_ne (Ne.symm ej)] at z
      exact .inr z
  have v0 : ValR X.K B σ (ρ.set i .no) G H (.ref p) (.od kvs) := ⟨(fun z => nomatch z), ⟨p, rfl, h2, h3, h4⟩, fun _ q' e' j oj => by
    cases e'
    obtain ⟨o1, r, o2, o3⟩ := oj
    by_cases ej : j = i
    · subst ej
      rw [List.getElem?_set_self hi] at o2
      cases o2
      exact o3
    · rw [List.getElem?_set_ne (Ne.symm ej)] at o2
      exact ej (S.ne j i p ⟨o1, r, o2, o3⟩ ⟨h1, _, h, trivial⟩)⟩
  obtain ⟨G2, e2, S2, r2⟩ := v0.frzD S0
  have S3 := S2.set (i := i) (ValR.of (B := B) (σ := σ) (ρ := ρ.set i .no) (H := H) r2)
  rw [List.set_set] at S3
  have es : σ.set i (some (V.ref p)) = σ := by
    refine List.ext_getElem? fun j => ?_
    by_cases ej : j = i
    · subst ej
      rw [List.getElem?_set_self (by rw [S.len]; exact hi), h1]
    · rw [List.getElem?_set_ne (Ne.symm ej)]
  rw [es] at S3
  exact q B σ G2 H M S3 (k.mono e2)
end
section
variable {P : Program} {w : World} {K : PySem.W.Frag} {mg : Str → Option Value} {base : Heap} {N : List Str} {y : Str} {st : Stmt} {fa : Addr} {cd : Value} {A : Around} {outer : List Env} {s : Shared} {H : Hp} {E0 : XK}
  {ρ ρ0 : List Sl} {elt src : Expr} {ifs : List Expr} {scope : Scope} {x z : Str} {tp pos p : Pos} {j i0 : Nat}
theorem pd_compD {kvs : List (Int × Int)} (f : Int × Int → Bool) (v : Int × Int → D) (ρb : List Sl) (hA : At N j x) (hA0 : At N i0 z) (hi : ρ[i0]? = some (.fz (.dic kvs)))
    (hb : blkC N (defScope st) scope [(x, j)] = true) (hloc : ∀ (s' : Shared) (H' : Hp) (C : Addr) (cl : List (Str × Addr)) (fp : List Addr), Loc (Blk (CxN P w K mg base N y st fa cd A outer s H E0) scope s' H' C cl fp).env.scope x)
    (hf : ∀ (s' : Shared) (H' : Hp) (C : Addr) (cl : List (Str × Addr)) (fp : List Addr), (Blk (CxN P w K mg base N y st fa cd A outer s H E0) scope s' H' C cl fp).fn x = true ∨ (Blk (CxN P w K mg base N y st fa cd A outer s H E0) scope s' H' C cl fp).env.scope.names.lookup x = some .local)
    (hv : Vis (CxN P w K mg base N y st fa cd A outer s H E0).env.scope z) (hdy : (z == ("__debug__" : Str)) = false) (hcd : (z == ("__classdict__" : Str)) = false)
    (hs : ∀ x, foldedSetIterable (.Name z p) (CxN P w K mg base N y st fa cd A outer s H E0).env x = pure x) (hN : N.Nodup) (l : lockR i0 kvs ρ ρb) (keep : ∀ (i : Nat) (r : Sl), ρ[i]? = some r → Own r → ρb[i]? = some r) (hl : kvs.length ≤ 50000) (hU : ∀ a, noU (v a) = true)
    (ht : ∀ (s' : Shared) (H' : Hp) (C : Addr) (cl : List (Str × Addr)) (fp : List Addr) (i : Nat) (a : Int × Int), kvs[i]? = some a → TSD (Blk (CxN P w K mg base N y st fa cd A outer s H E0) scope s' H' C cl fp) ifs ((wipeR ρb [j]).set j (.fz (.int a.1))) (f a))
    (he : ∀ (s' : Shared) (H' : Hp) (C : Addr) (cl : List (Str × Addr)) (fp : List Addr) (i : Nat) (a : Int × Int), kvs[i]? = some a → f a = true → PD (Blk (CxN P w K mg base N y st fa cd A outer s H E0) scope s' H' C cl fp) elt ((wipeR ρb [j]).set j (.fz (.int a.1))) ((wipeR ρb [j]).set j (.fz (.int a.1))) (.fz (v a))) :
    PD (CxN P w K mg base N y st fa cd A outer s H E0) (.ListComp elt [⟨.Name x tp, .Name z p, ifs, 0⟩] scope pos) ρ ρ (.ow ((kvs.filter f).map v)) :=
  pd_lcD j i0 [(x, j)] f v ρb hi l keep hl List.mem_cons_self hU ht he rfl hN (blkOk_by (N := N) (sc := defScope st) hb) hA.get hloc hf hA0.get hv hdy hcd hs
/-- slots that fit the lock, by going along -/
def fitR (i0 : Nat) (kvs : List (Int × Int)) : Nat → List Sl → List Sl → Prop
  | _, [], [] => True
  | i, a :: as, b :: bs => (b = .no ∧ ¬ Own a ∨ (b = a ∧ okU a = true) ∨ (i = i0 ∧ b = .fz (.dicL kvs) ∧ ¬ Own a)) ∧ fitR i0 kvs (i + 1) as bs
  | _, _, _ => False
theorem fitR_len {i0 : Nat} {kvs : List (Int × Int)} : ∀ {n : Nat} {as bs : List Sl}, fitR i0 kvs n as bs → bs.length = as.length
  | _, [], [], _ => rfl
  | n, _ :: _, _ :: _, h => by rw [List.length_cons, List.length_cons, fitR_len h.2]
  | _, [], _ :: _, h => h.elim
  | _, _ :: _, [], h => h.elim
theorem fitR_get {i0 : Nat} {kvs : List (Int × Int)} : ∀ {n : Nat} {as bs : List Sl} {i : Nat} {r : Sl}, fitR i0 kvs n as bs → bs[i]? = some r → r = .no ∨ (as[i]? = some r ∧ okU r = true) ∨ (n + i = i0 ∧ r = .fz (.dicL kvs))
  | _, [], [], _, _, _, h => nomatch h
  | n, a :: as, b :: bs, 0, r, h, q => by
    cases q
    rcases h.1 with ⟨z, _⟩ | ⟨z, u⟩ | ⟨z1, z2, _⟩
    · exact .inl z
    · exact .inr (.inl ⟨by rw [z]; rfl, by rw [z]; exact u⟩)
    · exact .inr (.inr ⟨z1, z2⟩)
  | n, a :: as, b :: bs, i + 1, r, h, q => by
    rcases fitR_get (i := i) h.2 q with z | z | ⟨z1, z2⟩
    · exact .inl z
    · exact .inr (.inl z)
    · exact .inr (.inr ⟨by omega, z2⟩)
  | _, [], _ :: _, _, _, h, _ => h.elim
  | _, _ :: _, [], _, _, h, _ => h.elim
theorem fitR_keep {i0 : Nat} {kvs : List (Int × Int)} : ∀ {n : Nat} {as bs : List Sl} {i : Nat} {r : Sl}, fitR i0 kvs n as bs → as[i]? = some r → Own r → bs[i]? = some r
  | _, [], [], _, _, _, h, _ => nomatch h
  | n, a :: as, b :: bs, 0, r, h, q, o => by
    cases q
    rcases h.1 with ⟨_, z⟩ | ⟨z, u⟩ | ⟨z1, z2, z⟩
    · exact absurd o z
    · rw [z]; rfl
    · exact absurd o z
  | n, a :: as, b :: bs, i + 1, r, h, q, o => fitR_keep (i := i) h.2 q o
  | _, [], _ :: _, _, _, h, _, _ => h.elim
  | _, _ :: _, [], _, _, h, _, _ => h.elim
theorem lockR_fit {i0 : Nat} {kvs : List (Int × Int)} {as bs : List Sl} (h : fitR i0 kvs 0 as bs) : lockR i0 kvs as bs :=
  ⟨fitR_len h, fun i r q => by
    rcases fitR_get h q with z | z | ⟨z1, z2⟩
    · exact .inl z
    · exact .inr (.inl z)
    · exact .inr (.inr ⟨by omega, z2⟩)⟩
end
def metN (ns : List Int) (i : Nat) : List Int := firstMet (fun i => ns.getD i 0) i
theorem metN_succ (ns : List Int) (i : Nat) : metN ns (i + 1) = if (metN ns i).any (· == ns.getD i 0) = true then metN ns i else metN ns i ++ [ns.getD i 0] := by
  show firstMet _ (i + 1) = _
  rw [firstMet_succ]
  rfl
theorem metN_le (ns : List Int) : ∀ i, (metN ns i).length ≤ i
  | 0 => Nat.le_refl _
  | i + 1 => by
    have ih := metN_le ns i
    rw [metN_succ]
    split
    · omega
    · rw [List.length_append, List.length_singleton]; omega
theorem take_one_more (ns : List Int) {i : Nat} (h : i < ns.length) : ns.take (i + 1) = ns.take i ++ [ns.getD i 0] := by
  have e : ns[i]? = some (ns.getD i 0) := by
    rw [List.getD_eq_getElem?_getD, List.getElem?_eq_getElem h]
    rfl
  rw [List.take_add_one, e]
  rfl
theorem metN_full (ns : List Int) : ∀ i, i ≤ ns.length → (metN ns i).length = i → metN ns i = ns.take i ∧ (ns.take i).Nodup
  | 0, _, _ => ⟨rfl, List.nodup_nil⟩
  | i + 1, h, e => by
    have le := metN_le ns i
    rw [metN_succ] at e ⊢
    by_cases c : (metN ns i).any (· == ns.getD i 0) = true
    · rw [if_pos c] at e
      omega
    · rw [if_neg c] at e ⊢
      rw [List.length_append, List.length_singleton] at e
      obtain ⟨i1, i2⟩ := metN_full ns i (by omega) (by omega)
      rw [take_one_more ns (by omega), i1]
      refine ⟨rfl, ?_⟩
      rw [List.nodup_append]
      refine ⟨i2, by simp, fun a ha b hb z => c ?_⟩
      rw [i1, List.any_eq_true]
      refine ⟨a, ha, ?_⟩
      rw [z, List.mem_singleton.mp hb]
      exact beq_self_eq_true _
theorem metN_nodup (ns : List Int) : ∀ i, i ≤ ns.length → (ns.take i).Nodup → metN ns i = ns.take i
  | 0, _, _ => rfl
  | i + 1, h, n => by
    rw [take_one_more ns (by omega), List.nodup_append] at n
    have ih := metN_nodup ns i (by omega) n.1
    rw [metN_succ, ih, take_one_more ns (by omega), if_neg]
    intro c
    obtain ⟨a, ha, e⟩ := List.any_eq_true.mp c
    exact n.2.2 a ha (ns.getD i 0) List.mem_cons_self (eq_of_beq e)
/-- how many unlike ones -/
def unlike (ns : List Int) : Nat := (metN ns ns.length).length
theorem unlike_iff (ns : List Int) : unlike ns ≤ ns.length ∧ (unlike ns = ns.length ↔ ns.Nodup) := by
  refine ⟨metN_le ns _, fun h => ?_, fun h => ?_⟩
  · have := (metN_full ns ns.length (Nat.le_refl _) h).2
    rwa [List.take_length] at this
  · unfold unlike
    rw [metN_nodup ns _ (Nat.le_refl _) (by rw [List.take_length]; exact h), List.take_length]
section
variable {X : Cx} {a : Expr} {ρ ρ1 : List Sl} {pos p p3 q : Pos}
def tUnlike (K : PySem.W.Frag) (ta : TE) : TE := fun σ H Q => ta σ H fun x H1 =>
  ∃ (l : Addr) (ns : List Int), x = .ref l ∧ SqL K H1 l (ns.map V.int) ∧ ns.length ≤ 4000 ∧ Q (.int (unlike ns : Nat)) H1
theorem pe_unlike {ta : TE} (g1 : Gl X "len") (m1 : X.mg "len" = none) (g2 : Gl X "set") (m2 : X.mg "set" = none) (he : PE X a ta) (calm : X.calm = true)
    (one : starEach [a] X.env = (false, eval a X.env) :: starEach [] X.env) :
    PE X (.Call (.Name "len" p) [.Call (.Name "set" p3) [a] [] q] [] pos) (tUnlike X.K ta) := by
  constructor
  intro pins s σ H Q I h
  refine Call_ ?_ rfl
  apply ld_blt I g1 m1 boot_len
  apply callWith_builtin1 _ rfl rfl
  apply args_cons _ rfl
  refine Call_ ?_ rfl
  apply ld_blt I g2 m2 boot_set
  apply callWith_type1 _ one rfl
  refine args_cons (thn (he.run pins s σ H _ I h) ?_) one
  rintro v s1 ⟨x, H1, I1, r1, l, ns, rfl, hq, hl, hk⟩
  apply args_nil
  cases r1
  obtain ⟨its, r, pl, _⟩ := I1.list hq
  have sz : its.toArray.size = ns.length := by
    have := r.length
    rw [List.length_map] at this
    rw [List.size_toArray, ← this]
  refine call_set_list (I1.ok.hd calm) pl.isList (ns := ns) (RZ.intsAre_vals r) ?_ ?_
  · rw [sz]
    show _ < 4096
    omega
  · intro h' tk hS keep
    apply args_nil
    rw [sz] at hS
    obtain ⟨o, es, ep, t, ho, hex, hd, _, _, _, hf, hn⟩ := hS
    have en : es.size = unlike ns := hn
    have ule := (unlike_iff ns).1
    have I2 : Inv X pins σ H1 { s1 with heap := h', toks := tk } := I1.kept fun b o e => keep b o (Heap.lt_size e) e
    refine call_len_set ho hex hd hf ?_ ?_
    · rw [en]; omega
    · exact ⟨.int (unlike ns : Nat), H1, I2.tok _, ⟨_, by rw [en]⟩, hk⟩
theorem pd_unlike {ns : List Int} (ha : PD X a ρ ρ1 (.fz (.lst (ns.map .int)))) (hl : ns.length ≤ 4000) (hc : X.calm = true) (hm : X.mg "len" = none) (hg : Gl X "len") (hm2 : X.mg "set" = none) (hg2 : Gl X "set") (he : starEach [a] X.env = (false, eval a X.env) :: starEach [] X.env) :
    PD X (.Call (.Name "len" p) [.Call (.Name "set" p3) [a] [] q] [] pos) ρ ρ1 (.fz (.int (unlike ns : Int))) := .mk fun B σ G H Q S k =>
  wpE_of (pe_unlike hg hm hg2 hm2 canE hc he) (ha B σ G H _ S fun v G1 H1 e1 S1 r1 => by
    have z := r1.rep
    cases z with
    | lst z1 z2 =>
      have e := z2.ints
      subst e
      exact ⟨_, ns, rfl, SqL.of (S1.e3 _ _ z1), hl, k _ G1 H1 e1 S1 (.of (.int _))⟩)
end
def ins {α : Type} (p : Nat) (x : α) (xs : List α) : List α := xs.take p ++ x :: xs.drop p
def shf (p i : Nat) : Nat := if i < p then i else i + 1
theorem shf_ne (p i : Nat) : shf p i ≠ p := by
  unfold shf; split <;> omega
theorem shf_inj {p i j : Nat} (h : shf p i = shf p j) : i = j := by
  unfold shf at h; split at h <;> split at h <;> omega
theorem shf_onto {p j : Nat} (h : j ≠ p) : ∃ i, j = shf p i := by
  by_cases c : j < p
  · exact ⟨j, by unfold shf; rw [if_pos c]⟩
  · exact ⟨j - 1, by unfold shf; rw [if_neg (by omega)]; omega⟩
section
variable {α : Type} {p : Nat} {x y : α} {xs : List α}
theorem ins_len (h : p ≤ xs.length) : (ins p x xs).length = xs.length + 1 := by
  unfold ins
  rw [List.length_append, List.length_cons, List.length_take, List.length_drop]
  omega
theorem ins_at (h : p ≤ xs.length) : (ins p x xs)[p]? = some x := by
  unfold ins
  rw [List.getElem?_append_right (by rw [List.length_take]; omega), List.length_take, show p - min p xs.length = 0 by omega]
  rfl
theorem ins_shf (h : p ≤ xs.length) (i : Nat) : (ins p x xs)[shf p i]? = xs[i]? := by
  unfold ins shf
  by_cases c : i < p
  · rw [if_pos c, List.getElem?_append_left (by rw [List.length_take]; omega), List.getElem?_take_of_lt c]
  · rw [if_neg c, List.getElem?_append_right (by rw [List.length_take]; omega), List.length_take, show i + 1 - min p xs.length = (i - p) + 1 by omega, List.getElem?_cons_succ, List.getElem?_drop]
    congr 1
    omega
theorem ins_ext {ys : List α} (h : p ≤ xs.length) (hl : ys.length = xs.length + 1) (h1 : ys[p]? = some x) (h2 : ∀ i, ys[shf p i]? = xs[i]?) : ys = ins p x xs := by
  refine List.ext_getElem? fun j => ?_
  by_cases c : j = p
  · rw [c, h1, ins_at h]
  · obtain ⟨i, rfl⟩ := shf_onto c
    rw [h2, ins_shf h]
theorem ins_set (h : p ≤ xs.length) (i : Nat) : (ins p x xs).set (shf p i) y = ins p x (xs.set i y) := by
  refine ins_ext (by rw [List.length_set]; exact h) (by rw [List.length_set, List.length_set, ins_len h]) ?_ fun j => ?_
  · rw [List.getElem?_set_ne (shf_ne p i), ins_at h]
  · by_cases c : i = j
    · subst c
      by_cases hi : i < xs.length
      · have e : (ins p x xs)[shf p i]? = some xs[i] := by rw [ins_shf h]; exact List.getElem?_eq_getElem hi
        rw [set_self' e, List.getElem?_set_self hi]
      · rw [List.getElem?_eq_none (by rw [List.length_set, ins_len h]; unfold shf; split <;> omega), List.getElem?_eq_none (by rw [List.length_set]; omega)]
    · rw [List.getElem?_set_ne (fun e => c (shf_inj e)), List.getElem?_set_ne c, ins_shf h]
theorem ins_set_at (h : p ≤ xs.length) : (ins p x xs).set p y = ins p y xs := by
  refine ins_ext h (by rw [List.length_set, ins_len h]) (set_self' (ins_at h)) fun j => ?_
  rw [List.getElem?_set_ne (Ne.symm (shf_ne p j)), ins_shf h]
theorem ins_map {β : Type} (f : α → β) (h : p ≤ xs.length) : (ins p x xs).map f = ins p (f x) (xs.map f) := by
  unfold ins
  rw [List.map_append, List.map_cons, List.map_take, List.map_drop]
end
/-- the shop with one more, the least, that only works -/
structure Sim (p : Nat) (nw : Worker) (s s' : Shop) : Prop where
  ok : ShopOk s
  ok' : ShopOk s'
  le : p ≤ s.ws.length
  ws : s'.ws = ins p nw s.ws
  now : s'.now = s.now
  sp : ∃ q, s'.sp = ins p q s.sp
  works : ∀ st ∈ nw.plan, isWork st = true
  low : ∀ (k : Nat) (w : Worker), s.ws[k]? = some w → nw.rank < w.rank
section
variable {p : Nat} {nw : Worker} {s s' : Shop}
theorem Sim.le2 (h : Sim p nw s s') : p ≤ s.sp.length := by rw [h.ok.len]; exact h.le
theorem Sim.wAt (h : Sim p nw s s') (i : Nat) : s'.ws[shf p i]? = s.ws[i]? := by rw [h.ws, ins_shf h.le]
theorem Sim.sAt (h : Sim p nw s s') (i : Nat) : s'.sp[shf p i]? = s.sp[i]? := by
  obtain ⟨q, e⟩ := h.sp
  rw [e, ins_shf h.le2]
theorem Sim.wNew (h : Sim p nw s s') : s'.ws[p]? = some nw := by rw [h.ws, ins_at h.le]
theorem Sim.lt (h : Sim p nw s s') {i : Nat} : shf p i < s'.ws.length ↔ i < s.ws.length := by
  rw [h.ws, ins_len h.le]
  have := h.le
  unfold shf
  split <;> omega
theorem Sim.there (h : Sim p nw s s') (i : Nat) : there s' (shf p i) = there s i := by
  unfold Y.there
  rw [h.wAt, h.sAt, h.now]
theorem Sim.step (h : Sim p nw s s') (i : Nat) : stepAt s' (shf p i) = stepAt s i := by
  unfold stepAt
  rw [h.wAt, h.sAt]
theorem Sim.tools (h : Sim p nw s s') (i : Nat) : toolsOf s' (shf p i) = toolsOf s i := by
  unfold toolsOf
  rw [h.wAt, h.sAt]
theorem works_tools {pl : Plan} (h : ∀ st ∈ pl, isWork st = true) (n : Nat) : toolsAt pl n = [] := by
  have key : ∀ (q : Plan) (ts : List Int), (∀ st ∈ q, isWork st = true) → q.foldl toolsBehind ts = ts := by
    intro q
    induction q with
    | nil => intro ts _; rfl
    | cons st q ih =>
      intro ts hq
      have hw := hq st List.mem_cons_self
      cases st with
      | work m =>
        rw [List.foldl_cons]
        exact ih ts fun x hx => hq x (List.mem_cons_of_mem _ hx)
      | hold m => cases hw
      | free m => cases hw
  exact key _ _ fun st hst => h st (List.mem_of_mem_take hst)
theorem Sim.toolsNew (h : Sim p nw s s') : toolsOf s' p = [] := by
  obtain ⟨q, e⟩ := h.sp
  rw [toolsOf_at h.wNew (show s'.sp[p]? = some q by rw [e, ins_at h.le2]), works_tools h.works]
theorem Sim.stepNew (h : Sim p nw s s') {st : Step} (e : stepAt s' p = some st) : isWork st = true := by
  obtain ⟨q, e2⟩ := h.sp
  unfold stepAt at e
  rw [h.wNew, show s'.sp[p]? = some q by rw [e2, ins_at h.le2]] at e
  exact h.works st (List.mem_of_getElem? e)
/-- for whom one waits, told by the tools -/
theorem afterF_iff {s : Shop} (h : ShopOk s) {k j : Nat} : afterF s k = some j ↔ there s k = true ∧ ∃ t, stepAt s k = some (.hold t) ∧ t ∈ toolsOf s j := by
  constructor
  · intro e
    have e0 := e
    unfold afterF at e
    by_cases ht : Y.there s k = true
    · rw [if_pos ht] at e
      refine ⟨ht, ?_⟩
      cases q : stepAt s k with
      | none => rw [q] at e; cases e
      | some st =>
        rw [q] at e
        cases st with
        | work n => cases e
        | free n => cases e
        | hold t => exact ⟨t, rfl, of_decide_eq_true (p := t ∈ toolsOf s j) (List.find?_some (p := fun i => decide (t ∈ toolsOf s i)) e)⟩
    · rw [if_neg ht] at e; cases e
  · rintro ⟨ht, t, e1, e2⟩
    unfold afterF
    rw [if_pos ht, e1]
    show (List.range s.ws.length).find? (fun i => decide (t ∈ toolsOf s i)) = some j
    have hj : j < s.ws.length := there_lt (holds_there h e2)
    cases q : (List.range s.ws.length).find? (fun i => decide (t ∈ toolsOf s i)) with
    | none => exact absurd (decide_eq_true e2) (List.find?_eq_none.mp q j (List.mem_range.mpr hj))
    | some i =>
      have := of_decide_eq_true (p := t ∈ toolsOf s i) (List.find?_some (p := fun i => decide (t ∈ toolsOf s i)) q)
      rw [h.apart i j t this e2]
theorem Sim.after (h : Sim p nw s s') (i : Nat) : afterF s' (shf p i) = (afterF s i).map (shf p) := by
  cases e : afterF s i with
  | some j =>
    obtain ⟨h1, t, h2, h3⟩ := (afterF_iff h.ok).mp e
    exact (afterF_iff h.ok').mpr ⟨by rw [h.there]; exact h1, t, by rw [h.step]; exact h2, by rw [h.tools]; exact h3⟩
  | none =>
    cases e2 : afterF s' (shf p i) with
    | none => rfl
    | some j' =>
      obtain ⟨h1, t, h2, h3⟩ := (afterF_iff h.ok').mp e2
      have hne : j' ≠ p := fun z => by
        rw [z, h.toolsNew] at h3
        exact nomatch h3
      obtain ⟨j, rfl⟩ := shf_onto hne
      have := (afterF_iff h.ok).mpr ⟨by rw [← h.there]; exact h1, t, by rw [← h.step]; exact h2, by rw [← h.tools]; exact h3⟩
      rw [e] at this
      cases this
theorem Sim.chain (h : Sim p nw s s') : ∀ (n i : Nat), chainN s' n (shf p i) = (chainN s n i).map (shf p)
  | 0, i => rfl
  | n + 1, i => by
    unfold chainN
    rw [h.after]
    cases afterF s i with
    | none => rfl
    | some j =>
      show shf p i :: chainN s' n (shf p j) = _
      rw [h.chain n j]
      rfl
theorem Sim.endF (h : Sim p nw s s') {i : Nat} (hi : i < s.ws.length) : endF s' (shf p i) = shf p (endF s i) := by
  obtain ⟨r, e⟩ := end_last h.ok hi
  unfold Y.endF
  have e2 : chainF s' (shf p i) = (chainF s i).map (shf p) := h.chain 11 i
  rw [e2, e, List.map_append]
  rw [List.getLastD_eq_getLast?, List.getLastD_eq_getLast?, List.map_cons, List.map_nil, List.getLast?_concat, List.getLast?_concat]
  rfl
theorem Sim.rank (h : Sim p nw s s') (i : Nat) : rankAt s' (shf p i) = rankAt s i := by
  unfold rankAt
  rw [List.getD_eq_getElem?_getD, List.getD_eq_getElem?_getD, List.getElem?_map, List.getElem?_map, h.wAt]
theorem Sim.rankNew (h : Sim p nw s s') {i : Nat} (hi : i < s.ws.length) : rankAt s' p < rankAt s i := by
  rw [rankAt_of h.wNew, rankAt_of (List.getElem?_eq_getElem hi)]
  exact h.low i _ (List.getElem?_eq_getElem hi)
theorem best_of {s : Shop} (h : ShopOk s) {b : Nat} (h1 : Y.there s b = true) (h2 : ∀ x, Y.there s x = true → rankAt s x ≤ rankAt s b) : bestF s = some b := by
  have g := best_going s
  revert g
  cases bestF s with
  | none => intro g; exact (g b h1).elim
  | some y =>
    rintro ⟨g1, g2⟩
    have a1 := g2 b h1
    have a2 := h2 y g1
    rw [rank_inj h (there_lt g1) (there_lt h1) (by omega)]
/-- who is chosen -/
theorem Sim.chosen (h : Sim p nw s s') : (∀ k, chosenP s = some k → chosenP s' = some (shf p k)) ∧ (chosenP s = none → chosenP s' = none ∨ chosenP s' = some p) := by
  have c := chosen_eq h.ok
  have c' := chosen_eq h.ok'
  have g := best_going s
  unfold chosenP
  rw [c, c']
  revert g
  cases eb : bestF s with
  | none =>
    intro g
    refine ⟨(fun k z => nomatch z), fun _ => ?_⟩
    cases eb' : bestF s' with
    | none => exact .inl rfl
    | some y =>
      right
      have g' := best_going s'
      rw [eb'] at g'
      have hy : y = p := by
        by_cases z : y = p
        · exact z
        · obtain ⟨i, rfl⟩ := shf_onto z
          have := g'.1
          rw [h.there] at this
          exact (g i this).elim
      subst hy
      show some (Y.endF s' y) = some y
      have ea : afterF s' y = none := by
        cases e2 : afterF s' y with
        | none => rfl
        | some j' =>
          obtain ⟨_, t, h2, _⟩ := (afterF_iff h.ok').mp e2
          exact nomatch h.stepNew h2
      have ec : chainF s' y = [y] := by
        unfold chainF chainN
        rw [ea]
      unfold Y.endF
      rw [ec]
      rfl
  | some b =>
    rintro ⟨b1, b2⟩
    have hb := there_lt b1
    have e' : bestF s' = some (shf p b) := best_of h.ok' (by rw [h.there]; exact b1) fun x hx => by
      rw [h.rank]
      by_cases z : x = p
      · rw [z]
        have := h.rankNew hb
        omega
      · obtain ⟨i, rfl⟩ := shf_onto z
        rw [h.there] at hx
        rw [h.rank]
        exact b2 i hx
    rw [e']
    refine ⟨fun k z => ?_, fun z => nomatch z⟩
    cases z
    show some (Y.endF s' (shf p b)) = some (shf p (Y.endF s b))
    rw [h.endF hb]
theorem Sim.hold (h : Sim p nw s s') (k : Nat) : holdAt s' (shf p k) = holdAt s k := by
  unfold holdAt
  rw [h.step]
theorem Sim.holdNew (h : Sim p nw s s') : holdAt s' p = false := by
  unfold holdAt
  cases e : stepAt s' p with
  | none => rfl
  | some st =>
    have := h.stepNew e
    cases st with
    | work n => rfl
    | hold n => cases this
    | free n => cases this
theorem Sim.set (h : Sim p nw s s') {k : Nat} {now : Int} {q : Spot} (o1 : ShopOk (setSp s now k q)) (o2 : ShopOk (setSp s' now (shf p k) q)) : Sim p nw (setSp s now k q) (setSp s' now (shf p k) q) := by
  obtain ⟨q0, e⟩ := h.sp
  exact ⟨o1, o2, h.le, h.ws, rfl, ⟨q0, by show s'.sp.set (shf p k) q = ins p q0 (s.sp.set k q); rw [e, ins_set h.le2]⟩, h.works, h.low⟩
theorem Sim.done (h : Sim p nw s s') {k : Nat} (c : chosenP s = some k) (q : holdAt s k = true) : Sim p nw (doneS s s.now k) (doneS s' s'.now (shf p k)) := by
  have c' := h.chosen.1 k c
  have q' := (h.hold k).trans q
  have o1 := hold_ok h.ok c q
  have o2 := hold_ok h.ok' c' q'
  obtain ⟨w, sp, t, e1, e2, _⟩ := hold_facts h.ok c q
  have f1 : s'.ws[shf p k]? = some w := by rw [h.wAt]; exact e1
  have f2 : s'.sp[shf p k]? = some sp := by rw [h.sAt]; exact e2
  rw [doneS_at e1 e2] at o1 ⊢
  rw [doneS_at f1 f2, h.now] at o2 ⊢
  exact h.set o1 o2
theorem Sim.holds : ∀ {s s' : Shop}, Sim p nw s s' → Sim p nw (holdsD s) (holdsD s') := by
  have key : ∀ (x : Nat) (s s' : Shop), Sim p nw s s' → leftS s = x → Sim p nw (holdsD s) (holdsD s') := by
    intro x
    induction x using Nat.strongRecOn with
    | _ x ih =>
      intro s s' h e
      cases c : chosenP s with
      | none =>
        have e1 : holdsD s = s := holdsD_stop fun k z => by rw [c] at z; cases z
        have e2 : holdsD s' = s' := holdsD_stop fun k z => by
          rcases h.chosen.2 c with d | d
          · rw [d] at z; cases z
          · rw [d] at z; cases z; exact h.holdNew
        rw [e1, e2]
        exact h
      | some k =>
        have c' := h.chosen.1 k c
        cases q : holdAt s k with
        | true =>
          have q' := (h.hold k).trans q
          rw [holdsD_step h.ok c q, holdsD_step h.ok' c' q']
          exact ih _ (by have := hold_left h.ok c q; omega) _ _ (h.done c q) rfl
        | false =>
          have q' := (h.hold k).trans q
          rw [holdsD_stop (s := s) fun j z => by rw [c] at z; cases z; exact q, holdsD_stop (s := s') fun j z => by rw [c'] at z; cases z; exact q']
          exact h
  exact fun {s s'} h => key _ s s' h rfl
/-- a tick of both -/
theorem Sim.tick (h : Sim p nw s s') : Sim p nw (tickS s).1 (tickS s').1 ∧ (∀ k, (tickS s).2 = some k → (tickS s').2 = some (shf p k)) ∧ ((tickS s).2 = none → (tickS s').2 = none ∨ (tickS s').2 = some p) := by
  have h1 := h.holds
  have t1 := tick_ok h.ok
  have t2 := tick_ok h.ok'
  obtain ⟨_, z⟩ := holdsD_reach h.ok
  obtain ⟨_, z'⟩ := holdsD_reach h.ok'
  rcases tick_eq (s := s) with ⟨k, c, q⟩ | ⟨c, q⟩
  · have c' := h1.chosen.1 k c
    have q' : tickS s' = (workS (holdsD s') (shf p k), some (shf p k)) := by
      unfold tickS
      rw [c']
    rw [q] at t1 ⊢
    rw [q'] at t2 ⊢
    refine ⟨?_, fun j e => by cases e; rfl, fun e => nomatch e⟩
    obtain ⟨w, sp, n, e1, e2, _⟩ := work_facts h1.ok c (z k c)
    have f1 : (holdsD s').ws[shf p k]? = some w := by rw [h1.wAt]; exact e1
    have f2 : (holdsD s').sp[shf p k]? = some sp := by rw [h1.sAt]; exact e2
    show Sim p nw (workS (holdsD s) k) (workS (holdsD s') (shf p k))
    have t1' : ShopOk (workS (holdsD s) k) := t1
    have t2' : ShopOk (workS (holdsD s') (shf p k)) := t2
    rw [workS_at e1 e2] at t1' ⊢
    rw [workS_at f1 f2, h1.now] at t2' ⊢
    split
    · rename_i hl
      rw [if_pos hl] at t1' t2'
      exact h1.set t1' t2'
    · rename_i hl
      rw [if_neg hl] at t1' t2'
      exact h1.set t1' t2'
  · rcases h1.chosen.2 c with d | d
    · have q' : tickS s' = (⟨(holdsD s').ws, (holdsD s').now + 1, (holdsD s').sp⟩, none) := by
        unfold tickS
        rw [d]
      rw [q] at t1 ⊢
      rw [q'] at t2 ⊢
      exact ⟨⟨t1, t2, h1.le, h1.ws, by show (holdsD s').now + 1 = _; rw [h1.now], h1.sp, h1.works, h1.low⟩, (fun j e => nomatch e), fun _ => .inl rfl⟩
    · have q' : tickS s' = (workS (holdsD s') p, some p) := by
        unfold tickS
        rw [d]
      rw [q] at t1 ⊢
      rw [q'] at t2 ⊢
      refine ⟨?_, (fun j e => nomatch e), fun _ => .inr rfl⟩
      obtain ⟨w, sp, n, e1, e2, _⟩ := work_facts h1.ok' d (z' p d)
      obtain ⟨q0, eq0⟩ := h1.sp
      have t2' : ShopOk (workS (holdsD s') p) := t2
      show Sim p nw _ (workS (holdsD s') p)
      rw [workS_at e1 e2] at t2' ⊢
      have key : ∀ q1 : Spot, ShopOk (setSp (holdsD s') ((holdsD s').now + 1) p q1) → Sim p nw ⟨(holdsD s).ws, (holdsD s).now + 1, (holdsD s).sp⟩ (setSp (holdsD s') ((holdsD s').now + 1) p q1) := fun q1 o =>
        ⟨t1, o, h1.le, h1.ws, by show (holdsD s').now + 1 = _; rw [h1.now], ⟨q1, by show (holdsD s').sp.set p q1 = _; rw [eq0, ins_set_at h1.le2]⟩, h1.works, h1.low⟩
      split
      · rename_i hl
        rw [if_pos hl] at t2'
        exact key _ t2'
      · rename_i hl
        rw [if_neg hl] at t2'
        exact key _ t2'
theorem Sim.run (h : Sim p nw s s') : ∀ n, Sim p nw (shopAt s n) (shopAt s' n)
  | 0 => h
  | n + 1 => (h.run n).tick.1
theorem Sim.fin (h : Sim p nw s s') (k : Nat) : finB s' (shf p k) = finB s k := by
  unfold finB
  rw [h.wAt, h.sAt]
theorem Sim.endK (h : Sim p nw s s') {k : Nat} (hk : k < s.ws.length) (h0 : finB s k = false) : endK s' (shf p k) = endK s k := by
  have e := endK_ok h.ok hk h0
  have e' := endK_ok h.ok' (h.lt.mpr hk) (by rw [h.fin]; exact h0)
  refine e'.uniq ⟨?_, fun m hm => ?_⟩
  · rw [(h.run _).fin]; exact e.yes
  · rw [(h.run _).fin]; exact e.no m hm
/-- who works, the new one let out -/
theorem Sim.who (h : Sim p nw s s') (t : Nat) : (∀ k, whoAt s t = some k → whoAt s' t = some (shf p k)) ∧ (whoAt s t = none → whoAt s' t = none ∨ whoAt s' t = some p) := (h.run t).tick.2
theorem Sim.wait (h : Sim p nw s s') (h0 : s.now = 0) {k : Nat} (hk : k < s.ws.length) (t : Nat) : waitB s' (shf p k) t = waitB s k t := by
  have hW : s.ws[k]? = some s.ws[k] := List.getElem?_eq_getElem hk
  have eS : startAt s' (shf p k) = startAt s k := by
    unfold startAt
    rw [h.wAt]
  have eF := (h.run (t + 1)).fin k
  unfold waitB
  rw [eS, eF]
  cases e : whoAt s t with
  | some u =>
    have e' := (h.who t).1 u e
    unfold lesserB
    rw [e, e']
    show (decide (rankAt s' (shf p u) < rankAt s' (shf p k)) && _ && _) = _
    rw [h.rank, h.rank]
  | none =>
    by_cases hs : startAt s k ≤ (t : Int)
    · have hf : finB (shopAt s (t + 1)) k = true := by
        obtain ⟨w1, w2⟩ := shopAt_ws h.ok t
        refine none_fin (shopAt_ok h.ok t) e (w := s.ws[k]) (by rw [w1]; exact hW) ?_
        rw [w2, h0]
        unfold startAt at hs
        rw [hW] at hs
        have hs' : s.ws[k].start ≤ (t : Int) := hs
        omega
      rw [hf]
      simp
    · rw [decide_eq_false hs]
      simp
theorem Sim.waitL (h : Sim p nw s s') (h0 : s.now = 0) {k : Nat} (hk : k < s.ws.length) (hf : finB s k = false) : waitL s' (shf p k) = waitL s k := by
  unfold Y.waitL waitTo
  rw [h.endK hk hf]
  exact List.filter_congr fun t _ => h.wait h0 hk t
end
/-- at the start -/
theorem sim_begun {p : Nat} {nw : Worker} {ws : List Worker} (h : WsOk ws) (h' : WsOk (ins p nw ws)) (hp : p ≤ ws.length) (hw : ∀ st ∈ nw.plan, isWork st = true) (hl : ∀ (k : Nat) (w : Worker), ws[k]? = some w → nw.rank < w.rank) : Sim p nw (begunS ws) (begunS (ins p nw ws)) :=
  ⟨begun_ok h, begun_ok h', hp, rfl, rfl, ⟨⟨0, 0⟩, by show (ins p nw ws).map _ = ins p _ (ws.map _); rw [ins_map _ hp]⟩, hw, hl⟩
theorem ins_mem {α : Type} {p : Nat} {x y : α} {xs : List α} : y ∈ ins p x xs ↔ y = x ∨ y ∈ xs := by
  unfold ins
  rw [List.mem_append, List.mem_cons]
  constructor
  · rintro (h | h | h)
    · exact .inr (List.mem_of_mem_take h)
    · exact .inl h
    · exact .inr (List.mem_of_mem_drop h)
  · rintro (h | h)
    · exact .inr (.inl h)
    · rw [← List.take_append_drop p xs] at h
      rcases List.mem_append.mp h with h | h
      · exact .inl h
      · exact .inr (.inr h)
theorem ins_nodup {p : Nat} {x : Int} {xs : List Int} (h : xs.Nodup) (hx : x ∉ xs) : (ins p x xs).Nodup := by
  unfold ins
  have h' := h
  rw [← List.take_append_drop p xs, List.nodup_append] at h'
  rw [List.nodup_append]
  refine ⟨h'.1, List.nodup_cons.mpr ⟨fun z => hx (List.mem_of_mem_drop z), h'.2.1⟩, fun a ha b hb => ?_⟩
  rcases List.mem_cons.mp hb with rfl | hb
  · exact fun e => hx (e ▸ List.mem_of_mem_take ha)
  · exact h'.2.2 a ha b hb
theorem ins_WsOk {p : Nat} {nw : Worker} {ws : List Worker} (h : WsOk ws) (hm : ws.length ≤ 7) (hp : p ≤ ws.length) (h1 : PlanOk nw.plan) (h2 : 1 ≤ nw.rank ∧ nw.rank ≤ 1000000) (h3 : 0 ≤ nw.start ∧ nw.start ≤ 1000) (h4 : ∀ (k : Nat) (w : Worker), ws[k]? = some w → nw.rank < w.rank) : WsOk (ins p nw ws) := by
  have at' : ∀ {Q : Worker → Prop}, Q nw → (∀ (k : Nat) (w : Worker), ws[k]? = some w → Q w) → ∀ (k : Nat) (w : Worker), (ins p nw ws)[k]? = some w → Q w := fun {Q} q1 q2 k w e => by
    rcases ins_mem.mp (List.mem_of_getElem? e) with z | z
    · rw [z]; exact q1
    · obtain ⟨i, hi, e2⟩ := List.getElem_of_mem z
      exact q2 i w (by rw [← e2]; exact List.getElem?_eq_getElem hi)
  refine ⟨by rw [ins_len hp]; omega, by rw [ins_len hp]; omega, at' h1 h.plans, ?_, at' h2 h.rank, at' h3 h.start⟩
  rw [ins_map _ hp]
  refine ins_nodup h.ranks fun z => ?_
  obtain ⟨w, hw, e⟩ := List.mem_map.mp z
  obtain ⟨i, hi, e2⟩ := List.getElem_of_mem hw
  have := h4 i w (by rw [← e2]; exact List.getElem?_eq_getElem hi)
  omega
section
variable {X : Cx} {e : Expr} {es : List Expr} {st : Stmt} {σ : L2.St} {H : Hp}
theorem wpE_nox {Q : VK} (h : wpE X.nox e σ H Q) : wpE X e σ H Q := wpE_of (PE.nox (canE (X := X.nox))) h
theorem wpT_nox {Q : Bool → Hp → Prop} (h : wpT X.nox e σ H Q) : wpT X e σ H Q := wpT_of (PT.nox (canT (X := X.nox))) h
theorem pa_nox {t : TA} (h : PA X.nox es t) : PA X es t := ⟨fun pos pins s σ H Q I hw =>
  wpAny_mono (h.run pos pins s σ H Q (I.wish _) hw) (fun _ _ ⟨vs, H', I', r, q⟩ => ⟨vs, H', I'.unwish, r, q⟩) fun _ _ z => False.elim z⟩
theorem ps_nox {t : TS} (h : L2.PS X.nox st t) : L2.PS X st t := ⟨fun pins s σ H D I hw =>
  wpAny_mono (h.run pins s σ H D (I.wish _) hw) (fun _ _ q => q.unwish) fun _ _ z => False.elim z⟩
end
/-- a statement, a block, that may raise: what is wished for then stands in R -/
structure RS1 (X : Cx) (W : WX) (st : Stmt) (ρ : List Sl) (E : En) (R : Value → List Sl → Prop) : Prop where
  run : ∀ (B : Bs) (σ : L2.St) (G H : Hp) (M : Ends), SR X.K B σ G H ρ → EnOk X.K B G E M → (∀ cls σ' G' H' ρ', Ex G G' → SR X.K B σ' G' H' ρ' → R cls ρ' → W cls none σ' H') → wpS X st M σ H
structure RSD (X : Cx) (W : WX) (sts : List Stmt) (ρ : List Sl) (E : En) (R : Value → List Sl → Prop) : Prop where
  run : ∀ (B : Bs) (σ : L2.St) (G H : Hp) (M : Ends), SR X.K B σ G H ρ → EnOk X.K B G E M → (∀ cls σ' G' H' ρ', Ex G G' → SR X.K B σ' G' H' ρ' → R cls ρ' → W cls none σ' H') → wpB X sts M σ H
section
variable {X : Cx} {W : WX} {st : Stmt} {sts rest s1 s2 : List Stmt} {a b c e : Expr} {es : List Expr} {ρ ρ1 ρ2 : List Sl} {E : En} {R : Value → List Sl → Prop} {x y : Str} {pos p p2 pos' : Pos} {ds : List D}
theorem rs1_of (h : PS1 X.nox st ρ E) : RS1 X W st ρ E R := .mk fun B σ G H M S k _ => wpS_of (ps_nox canS) (h B σ G H M S k)
theorem rsd_of (h : PSD X.nox sts ρ E) : RSD X W sts ρ E R := .mk fun B σ G H M S k _ => wpB_of (PSs.nox canB) (h B σ G H M S k)
theorem rsd_cons (h : RS1 X W st ρ { E with nx := fun ρ' => RSD X W rest ρ' E R } R) : RSD X W (st :: rest) ρ E R := .mk fun B σ G H M S k r =>
  wpB_of (pss_cons canS canB) (h.run B σ G H _ S ⟨fun σ' G' H' ρ' e S' q => q.run B σ' G' H' M S' (k.mono e) (fun cls σ2 G2 H2 ρ2 e2 S2 q2 => r cls σ2 G2 H2 ρ2 (e.trans e2) S2 q2), k.rt, k.bk, k.ct⟩ r)
theorem rsd_one (h : RS1 X W st ρ E R) : RSD X W [st] ρ E R := .mk fun B σ G H M S k r => wpB_of (pss_one canS) (h.run B σ G H M S k r)
theorem rs1_if {k : Bool} (hc : PTD X.nox c ρ ρ1 k) (h1 : k = true → RSD X W s1 ρ1 E R) (h2 : k = false → RSD X W s2 ρ1 E R) : RS1 X W (.If c s1 s2 pos) ρ E R := .mk fun B σ G H M S q r =>
  wpS_of (ps_if canT canB canB) (wpT_nox (hc B σ G H _ S fun G1 H1 e1 S1 => by
    have r1 : ∀ cls σ' G' H' ρ', Ex G1 G' → SR X.K B σ' G' H' ρ' → R cls ρ' → W cls none σ' H' := fun cls σ2 G2 H2 ρ2 e2 S2 q2 => r cls σ2 G2 H2 ρ2 (e1.trans e2) S2 q2
    cases k with
    | true => exact iteT ((h1 rfl).run B σ G1 H1 M S1 (q.mono e1) r1)
    | false => exact iteF ((h2 rfl).run B σ G1 H1 M S1 (q.mono e1) r1)))
theorem rs1_ifR (hc : PTD X.nox c ρ ρ true) (h1 : RSD X W s1 ρ E R) : RS1 X W (.If c s1 s2 pos) ρ E R := rs1_if hc (fun _ => h1) (fun z => nomatch z)
/-- what a def that raises promises -/
abbrev GD := List D → Addr → Prop
def SpX (K : PySem.W.Frag) (g : GD) : Sp := fun vs H _ E => ∃ (G : Hp) (ds : List D) (C : Addr), Ex G H ∧ Reps K G vs ds ∧ g ds C ∧ ∀ H', Ex H H' → E (.ref C) none H'
structure OkX (P : Program) (w : World) (K : PySem.W.Frag) (mg : Str → Option Value) (base : Heap) (k : Nat) (x : Str) (g : GD) : Prop where
  ex : ∃ (fa : Addr) (fd : FuncData) (ps : List Str), FnOk P w K mg base (L2.CX P w) k fa fd ps (SpX K g) ∧ mg x = some (.ref fa) ∧ PySem.W.keepIn K (.ref fa) = true ∧ Binds K fd ps []
theorem OkX.mono {P : Program} {w : World} {K : PySem.W.Frag} {mg : Str → Option Value} {base : Heap} {j k : Nat} {x : Str} {g : GD} (h : OkX P w K mg base j x g) (l : j ≤ k) : OkX P w K mg base k x g := by
  obtain ⟨fa, fd, ps, h1, h2⟩ := h.ex
  exact ⟨fa, fd, ps, h1.mono l, h2⟩
/-- a call that raises: what an expression holding it asks -/
theorem call_raises {k : Nat} {g : GD} {C : Addr} (F : OkX X.prog X.w X.K X.mg X.base k x g) (tk : Takes X W) (hr : Room k X.A) (hg : Gl X x) (ha : PAD X.nox (e :: es) ρ ρ1 ds) (hf : g ds C) (hR : R (.ref C) ρ1)
    (hdb : (x == ("__debug__" : Str)) = false) (he : starEach (e :: es) X.env = (false, eval e X.env) :: starEach es X.env) (hpl : (backTo pos (starEach es X.env)).any (·.1) = false)
    {B : Bs} {σ : L2.St} {G H : Hp} (S : SR X.K B σ G H ρ) (r : ∀ cls σ' G' H' ρ', Ex G G' → SR X.K B σ' G' H' ρ' → R cls ρ' → W cls none σ' H') (Q : VK) : wpE X (.Call (.Name x p) (e :: es) [] pos) σ H Q := by
  obtain ⟨fa, fd, ps, F, hm, hk, hb⟩ := F.ex
  refine wpE_of (pe_callS (E := WE W) F hr hg hm hk hb (fun σ => passAt tk σ) (pa_nox (canA (X := X.nox))) hdb he hpl) ?_
  refine ha B σ G H _ S fun vs G1 H1 e1 S1 r1 => ?_
  exact ⟨G1, ds, C, S1.e3, r1, hf, fun H' e2 => r _ σ G1 H' ρ1 e1 (S1.call (Evl.Ex.refl G1) e2 (S1.e3.trans e2) fun _ _ z1 z2 => by rw [z2] at z1; cases z1) hR⟩
theorem rs1_callE {k : Nat} {g : GD} {C : Addr} (F : OkX X.prog X.w X.K X.mg X.base k x g) (tk : Takes X W) (hr : Room k X.A) (hg : Gl X x) (ha : PAD X.nox (e :: es) ρ ρ1 ds) (hf : g ds C) (hR : R (.ref C) ρ1)
    (hdb : (x == ("__debug__" : Str)) = false) (he : starEach (e :: es) X.env = (false, eval e X.env) :: starEach es X.env) (hpl : (backTo pos (starEach es X.env)).any (·.1) = false)
    (hs : swapsWith (.Call (.Name x p) (e :: es) [] pos) none pos'.line X.env = pure false) : RS1 X W (.Expr (.Call (.Name x p) (e :: es) [] pos) pos') ρ E R := .mk fun B σ G H M S _ r =>
  wpS_of (ps_expr canE hs) (call_raises F tk hr hg ha hf hR hdb he hpl S r _)
theorem rs1_callR {k : Nat} {g : GD} {C : Addr} (F : OkX X.prog X.w X.K X.mg X.base k x g) (tk : Takes X W) (hr : Room k X.A) (hg : Gl X x) (ha : PAD X.nox (e :: es) ρ ρ1 ds) (hf : g ds C) (hR : R (.ref C) ρ1)
    (hdb : (x == ("__debug__" : Str)) = false) (he : starEach (e :: es) X.env = (false, eval e X.env) :: starEach es X.env) (hpl : (backTo pos (starEach es X.env)).any (·.1) = false) :
    RS1 X W (.Return (some (.Call (.Name x p) (e :: es) [] pos)) pos') ρ E R := .mk fun B σ G H M S _ r =>
  wpS_of (ps_ret canE) (call_raises F tk hr hg ha hf hR hdb he hpl S r _)
theorem rs1_callA {k i : Nat} {g : GD} {C : Addr} {N : List Str} (hX : X.N = N) (hA : At N i y) (F : OkX X.prog X.w X.K X.mg X.base k x g) (tk : Takes X W) (hr : Room k X.A) (hg : Gl X x) (ha : PAD X.nox (e :: es) ρ ρ1 ds) (hf : g ds C) (hR : R (.ref C) ρ1)
    (hdb : (x == ("__debug__" : Str)) = false) (he : starEach (e :: es) X.env = (false, eval e X.env) :: starEach es X.env) (hpl : (backTo pos (starEach es X.env)).any (·.1) = false)
    (hN : N.Nodup) (hx : Loc X.env.scope y) (hfn : X.fn y = true ∨ X.env.scope.names.lookup y = some .local)
    (hs : swapsWithSole [.Name y p2] (.Call (.Name x p) (e :: es) [] pos) pos'.line X.env = pure false) (hw : swappedStores [.Name y p2] (.Call (.Name x p) (e :: es) [] pos) X.env = pure none)
    (h1 : (assignEach [.Name y p2] X.env).map (·.2) = [assign (.Name y p2) X.env]) :
    RS1 X W (.Assign [.Name y p2] (.Call (.Name x p) (e :: es) [] pos) pos') ρ E R := .mk fun B σ G H M S _ r =>
  wpS_of (ps_asg canE (pg_name (i := i) (by rw [hX]; exact hN) (by rw [hX]; exact hA.get) hx hfn) hs hw h1) (call_raises F tk hr hg ha hf hR hdb he hpl S r _)
/-- what an own class of errors must say -/
structure Exc1 (K : PySem.W.Frag) (mg : Str → Option Value) (x : Str) (C : Addr) : Prop where
  g : mg x = some (.ref C)
  q : PySem.W.excIn K C [.type "ValueError", .type "Exception", .type "BaseException", .type "object"] "ValueError.__new__" = true
  k : PySem.W.keepIn K (.ref C) = true
  b : PySem.W.subIn K (.ref C) (.type "BaseException") = some true
  t : PySem.W.typeIn K (.ref C) = some (.type "type")
theorem rs1_raise {C : Addr} {m : Str} {j : Nat} {p3 : Pos} (T : Exc1 X.K X.mg x C) (tk : Takes X W) (calm : X.calm = true) (hg : Gl X x) (hR : R (.ref C) ρ) (hdb : (x == ("__debug__" : Str)) = false) :
    RS1 X W (.Raise (some (.Call (.Name x p) [.Constant (.str m) j p3] [] pos)) none pos') ρ E R := .mk fun B σ G H M S _ r =>
  wpS_of (ps_raise calm tk (pmk_own PySem.F.excBase_ValueError T.q T.g T.k (raises_own T.b T.t) hg hdb)) (r _ σ G H ρ (Evl.Ex.refl G) S hR)
/-- for x in a list that stands -/
theorem rs1_forL {j : Nat} {N : List Str} {body : List Stmt} (hX : X.N = N) (hA : At N j x) (hi : PD X.nox a ρ ρ1 (.fz (.lst ds))) (I : Nat → List Sl → Prop) (h0 : I 0 ρ1)
    (hs : ∀ (i : Nat) (d : D) (ρ' : List Sl), ds[i]? = some d → I i ρ' → RSD X W body (ρ'.set j (.fz d)) (E.loop (I (i + 1))) R) (hd : ∀ ρ', I ds.length ρ' → E.nx ρ')
    (hp : PassesOwn (model X.prog X.w) X.A X.env X.xe) (hc : X.calm = true) (hN : N.Nodup) (hx : Loc X.env.scope x) (hf : X.fn x = true ∨ X.env.scope.names.lookup x = some .local)
    (hfs : ∀ x, foldedSetIterable a X.env x = pure x) : RS1 X W (.For (.Name x p) a body [] pos) ρ E R := .mk fun B σ G H M S k r => by
  have hj : X.N[j]? = some x := by rw [hX]; exact hA.get
  have hN' : X.N.Nodup := by rw [hX]; exact hN
  refine wpS_of (ps_for hp hc (pi_list canE) (pg_name hN' hj hx hf) canB hfs) ?_
  refine wpE_nox (hi B σ G H _ S fun v G1 H1 e1 S1 r1 => ?_)
  have z := r1.rep
  cases z with
  | @lst l vs _ hl hr =>
    refine ⟨l, rfl, ⟨vs, .inl (.inl (S1.e3 _ _ hl))⟩, ?_⟩
    refine for_list (xs := vs) (fun i σ' H' => ∃ G' ρ', Ex G1 G' ∧ SR X.K B σ' G' H' ρ' ∧ I i ρ') ⟨G1, ρ1, Evl.Ex.refl G1, S1, h0⟩ (fun i σ' H' _ ⟨G', ρ', e', S', _⟩ => .inl (.inl (S'.e3 _ _ (e' _ _ hl)))) ?_ ?_
    · rintro i u σ' H' hu ⟨G', ρ', e', S', hI⟩
      obtain ⟨d, hd', hrd⟩ := hr.getV hu
      refine (hs i d ρ' hd' hI).run B _ G' H' _ (S'.set (ValR.of (hrd.mono e'))) ⟨?_, ?_, ?_, ?_⟩ (fun cls σ2 G2 H2 ρ2 e2 S2 q2 => r cls σ2 G2 H2 ρ2 (e1.trans (e'.trans e2)) S2 q2)
      · exact fun σ2 G2 H2 ρ2 e2 S2 q => ⟨G2, ρ2, e'.trans e2, S2, q⟩
      · exact fun v σ2 ρ2 G2 H2 r e2 S2 v2 u q => k.rt v σ2 ρ2 G2 H2 r (e1.trans (e'.trans e2)) S2 v2 u q
      · exact fun σ2 G2 H2 ρ2 e2 S2 q => k.nx σ2 G2 H2 ρ2 (e1.trans (e'.trans e2)) S2 q
      · exact fun σ2 G2 H2 ρ2 e2 S2 q => ⟨G2, ρ2, e'.trans e2, S2, q⟩
    · rintro σ' H' ⟨G', ρ', e', S', hI⟩
      rw [hr.length] at hI
      exact k.nx σ' G' H' ρ' (e1.trans e') S' (hd ρ' hI)
end
/-- the context of a def's body that may raise -/
abbrev CxX (P : Program) (w : World) (K : PySem.W.Frag) (mg : Str → Option Value) (base : Heap) (N : List Str) (x : Str) (st : Stmt) (f : Addr) (cd : Value) (A : Around) (outer : List Env) (s : Shared) (H : Hp) (E : XK) : Cx :=
  cxOf (L2.CX P w) P w K mg base N x (defScope st) f cd A outer s H E
theorem takesX {P : Program} {w : World} {K : PySem.W.Frag} {mg : Str → Option Value} {base : Heap} {N : List Str} {x : Str} {st : Stmt} {f : Addr} {cd : Value} {A : Around} {outer : List Env} {s : Shared} {H : Hp} {E : XK} :
    Takes (CxX P w K mg base N x st f cd A outer s H E) (fun cls d _ H => E cls d H) := takes_of rfl rfl rfl rfl
theorem passesX {P : Program} {w : World} {K : PySem.W.Frag} {mg : Str → Option Value} {base : Heap} {N : List Str} {x : Str} {st : Stmt} {f : Addr} {cd : Value} {A : Around} {outer : List Env} {s : Shared} {H : Hp} {E : XK} :
    PassesOwn (model (CxX P w K mg base N x st f cd A outer s H E).prog (CxX P w K mg base N x st f cd A outer s H E).w) (CxX P w K mg base N x st f cd A outer s H E).A (CxX P w K mg base N x st f cd A outer s H E).env (CxX P w K mg base N x st f cd A outer s H E).xe := passes_of rfl
theorem CxX_N {P : Program} {w : World} {K : PySem.W.Frag} {mg : Str → Option Value} {base : Heap} {N : List Str} {x : Str} {st : Stmt} {f : Addr} {cd : Value} {A : Around} {outer : List Env} {s : Shared} {H : Hp} {E : XK} : (CxX P w K mg base N x st f cd A outer s H E).N = N := rfl
theorem okx_mk {P : Program} {w : World} {K : PySem.W.Frag} {mg : Str → Option Value} {base : Heap} {k : Nat} {x : Str} {st : Stmt} {N ps : List Str} {g : GD} (F : Def K mg x st ps) (S : FnScope N ps (defScope st)) (len : ∀ ds C, g ds C → ds.length = ps.length)
    (body : ∀ (fa : Addr) (cd : Value) (A : Around) (outer : List Env) (s : Shared) (H : Hp) (E : XK) (ds : List D) (C : Addr), Room k (CxX P w K mg base N x st fa cd A outer s H E).A → g ds C →
      RSD (CxX P w K mg base N x st fa cd A outer s H E) (fun cls d _ H => E cls d H) (defBody st) (startR N ds) { nx := fun _ => False, rt := fun _ => False } (fun c _ => c = .ref C)) : OkX P w K mg base (k + 1) x g := by
  obtain ⟨fa, fd, F, hm, hb⟩ := F.ex
  refine ⟨fa, fd, ps, F.okX S (fun vs H Q E h => ?_) (fun cdv A outer s H vs Q E hr h => ?_), hm, F.kp, hb⟩
  · obtain ⟨G, ds, C, _, hr, hf, _⟩ := h
    rw [hr.length, len ds C hf]
  · obtain ⟨G, ds, C, eG, hrep, hf, q⟩ := h
    refine ⟨_, canB (X := CxX P w K mg base N x st fa cdv A outer s H E), ?_⟩
    refine (body fa cdv A outer s H E ds C hr hf).run ⟨G, H⟩ (L2.start N vs) G H _ (sr_start eG hrep) ⟨fun _ _ _ _ _ _ z => z.elim, fun _ _ _ _ _ _ _ _ _ _ z => z.elim, fun _ _ _ _ _ _ z => z.elim, fun _ _ _ _ _ _ z => z.elim⟩ ?_
    rintro cls σ' G' H' ρ' e S' rfl
    exact q H' S'.e2
/-- the test of a def's n-th statement -/
def ifTest (st : Stmt) (n : Nat) : Expr := match (defBody st)[n]? with
  | some (.If c _ _ _) => c
  | _ => .Constant .none 0 ⟨0, 0, 0, 0⟩
def nameB : Bad → Str
  | .tooMany => "TooMany" | .worker => "BadWorker" | .rank => "BadRank" | .start => "BadStart" | .plan => "BadPlan" | .noWorker => "NoWorker"
/-- the program's classes of errors -/
structure Excs (K : PySem.W.Frag) (mg : Str → Option Value) where
  C : Bad → Addr
  H : Addr
  /-- those that stand in the text -/
  S : Bad → Bool
  one : ∀ b, S b = true → Exc1 K mg (nameB b) (C b)
  oneH : Exc1 K mg "HasteError" H
  d : ∀ b, S b = true → PySem.W.hasDictIn K (C b) = true
  dH : PySem.W.hasDictIn K H = true
  s : ∀ a b, S a = true → S b = true → PySem.W.subIn K (.ref (C a)) (.ref (C b)) = some (decide (a = b))
  sH : ∀ a, S a = true → PySem.W.subIn K (.ref (C a)) (.ref H) = some true
theorem Excs.exm {K : PySem.W.Frag} {mg : Str → Option Value} (T : Excs K mg) {a b : Bad} (ha : T.S a = true) (hb : T.S b = true) : PySem.W.exmOne K (.ref (T.C a)) (.ref (T.C b)) = some (decide (a = b)) := PySem.W.exm_ref (T.one b hb).b (T.d b hb) (T.one b hb).t (T.s a b ha hb)
theorem Excs.exmH {K : PySem.W.Frag} {mg : Str → Option Value} (T : Excs K mg) {a : Bad} (ha : T.S a = true) : PySem.W.exmOne K (.ref (T.C a)) (.ref T.H) = some true := PySem.W.exm_ref T.oneH.b T.dH T.oneH.t (T.sH a ha)
/-- the five that begun names; the sixth -/
abbrev Excs.five {K : PySem.W.Frag} {mg : Str → Option Value} (T : Excs K mg) : Prop := ∀ b, b ≠ .noWorker → T.S b = true
abbrev Excs.six {K : PySem.W.Frag} {mg : Str → Option Value} (T : Excs K mg) : Prop := T.S .noWorker = true
def tsB (X : Cx) (suite : List Stmt) : Addr → Value → Option Addr → TS := fun a cls d D σ H => ∀ (oe : Obj) (pn : List (Addr × Obj)), Zc cls d oe → (∃ vs, oe.data = .fields vs) → wpB (X.suite a ((a, oe) :: pn)) suite D σ H
inductive Hds (X : Cx) : List ExceptHandler → List (Value × List Stmt) → Prop
  | nil : Hds X [] []
  | cons {x : Str} {c : Value} {b₀ : Stmt} {suite : List Stmt} {np pos' : Pos} {hds : List ExceptHandler} {l : List (Value × List Stmt)} (hc : Names X x c) (r : Hds X hds l) : Hds X (.ExceptHandler (some (.Name x np)) none (b₀ :: suite) pos' :: hds) ((c, b₀ :: suite) :: l)
theorem Hds.ok {X : Cx} {hds : List ExceptHandler} {l : List (Value × List Stmt)} (h : Hds X hds l) : HdsOk X hds (l.map fun p => (p.1, tsB X p.2)) := by
  induction h with
  | nil => exact .nil
  | cons hc r ih => exact .cons hc (fun a oe cls d pn hz hf => ⟨fun pins s σ H D I h => h oe pn hz hf pins s I⟩) ih
/-- the clause that takes it -/
def Catch (X : Cx) (E : En) : List (Value × List Stmt) → Value → List Sl → Prop
  | [], _, _ => False
  | (c, suite) :: r, cls, ρ => ∃ b, PySem.W.exmOne X.K cls c = some b ∧ (b = true → ∀ (a : Addr) (oe : Obj) (pn : List (Addr × Obj)), Zc cls none oe → (∃ vs, oe.data = .fields vs) → PSD (X.suite a ((a, oe) :: pn)) suite ρ E) ∧ (b = false → Catch X E r cls ρ)
def tBody (X : Cx) (body : List Stmt) (W : WX) : TS := fun D σ H => ∀ (pn : List (Addr × Obj)) (xe : Value → Shared → Prop), Takes (X.tr pn xe) W → PassesOwn (model X.prog X.w) X.A X.env xe → wpB (X.tr pn xe) body D σ H
section
variable {X : Cx} {body : List Stmt} {h₀ : ExceptHandler} {hds : List ExceptHandler} {l : List (Value × List Stmt)} {ρ ρ1 : List Sl} {E : En} {R : Value → List Sl → Prop} {pos : Pos}
theorem catch_many {B : Bs} {G : Hp} {M : Ends} (k : EnOk X.K B G E M) {cls : Value} {σ : L2.St} {H : Hp} (S : SR X.K B σ G H ρ) : ∀ {l : List (Value × List Stmt)}, Catch X E l cls ρ → wMany X.K (fun _ _ _ _ => False) M (l.map fun p => (p.1, tsB X p.2)) cls none σ H
  | [], h => h
  | (c, suite) :: r, ⟨b, h1, h2, h3⟩ => ⟨b, h1, fun e a _ oe pn hz hf => (h2 e a oe pn hz hf) B σ G H M S k, fun e => catch_many k S (h3 e)⟩
theorem ps1_tryMany (hh : Hds X (h₀ :: hds) l) (hs : X.stack = X.env :: X.outer) (hf : X.env.frame = some X.env.locals)
    (hb : ∀ (W : WX) (pn : List (Addr × Obj)) (xe : Value → Shared → Prop), Takes (X.tr pn xe) W → PassesOwn (model X.prog X.w) X.A X.env xe → RSD (X.tr pn xe) W body ρ E R)
    (hc : ∀ cls ρ', R cls ρ' → Catch X E l cls ρ') : PS1 X (.Try body (h₀ :: hds) [] [] pos) ρ E := .mk fun B σ G H M S k => by
  refine wpS_of (ps_try_many (tb := tBody X body) hs hf takes_none5 (fun W pn xe tk po => ⟨fun pins s σ H D I h => h pn xe tk po pins s I⟩) hh.ok) ?_
  intro pn xe tk po
  exact (hb _ pn xe tk po).run B σ G H M S ⟨k.nx, k.rt, k.bk, k.ct⟩ fun cls σ' G' H' ρ' e S' q => catch_many (k.mono e) S' (hc cls ρ' q)
/-- a name goes -/
theorem SR.gone {K : PySem.W.Frag} {B : Bs} {σ : L2.St} {G H : Hp} {ρ : List Sl} (S : SR K B σ G H ρ) (i : Nat) : SR K B (σ.set i none) G H (ρ.set i .no) where
  e1 := S.e1
  e2 := S.e2
  e3 := S.e3
  nw := S.nw
  len := by rw [List.length_set, List.length_set]; exact S.len
  sl := fun j r q => by
    by_cases e : j = i
    · subst e
      have hj : j < ρ.length := by
        have := (List.getElem?_eq_some_iff.mp q).1
        rwa [List.length_set] at this
      rw [List.getElem?_set_self hj] at q
      cases q
      exact ⟨none, List.getElem?_set_self (by rw [S.len]; exact hj), trivial⟩
    · rw [List.getElem?_set_ne (Ne.symm e)] at q ⊢
      exact S.sl j r q
  ne := fun j k p hj hk => by
    have key : ∀ j, OwnAt (σ.set i none) (ρ.set i .no) j p → OwnAt σ ρ j p := fun j ⟨h1, r', h2, o⟩ => by
      by_cases e : j = i
      · subst e
        have hl : j < ρ.length := by
          have := (List.getElem?_eq_some_iff.mp h2).1
          rwa [List.length_set] at this
        rw [List.getElem?_set_self hl] at h2
        cases h2
        exact False.elim o
      · rw [List.getElem?_set_ne (Ne.symm e)] at h1 h2
        exact ⟨h1, r', h2, o⟩
    exact S.ne j k p (key j hj) (key k hk)
/-- except c as n -/
theorem ps1_tryAs {x n : Str} {c : Value} {i : Nat} {N : List Str} {suite : List Stmt} {b₀ : Stmt} {np pos' : Pos} (hX : X.N = N) (hA : At N i n) (hN : N.Nodup) (hln : X.env.kindOf n = some .local) (hc : Names X x c) (hs : X.stack = X.env :: X.outer) (hf : X.env.frame = some X.env.locals)
    (hb : ∀ (W : WX) (pn : List (Addr × Obj)) (xe : Value → Shared → Prop), Takes (X.tr pn xe) W → PassesOwn (model X.prog X.w) X.A X.env xe → RSD (X.tr pn xe) W body ρ E R)
    (hm : ∀ cls ρ', R cls ρ' → PySem.W.exmOne X.K cls c = some true)
    (hsu : ∀ cls ρ', R cls ρ' → ∀ (a : Addr) (oe : Obj) (pn : List (Addr × Obj)), Zc cls none oe → (∃ vs, oe.data = .fields vs) → PSD (X.suite a ((a, oe) :: pn)) (b₀ :: suite) (ρ'.set i (.fz (.raw (.ref a)))) { E with nx := fun ρ2 => E.nx (ρ2.set i .no), bk := fun _ => False, ct := fun _ => False }) :
    PS1 X (.Try body [.ExceptHandler (some (.Name x np)) (some n) (b₀ :: suite) pos'] [] [] pos) ρ E := .mk fun B σ G H M S k => by
  refine wpS_of (ps_try_as (i := i) (tb := tBody X body) (ts := tsB X (b₀ :: suite)) hs hf (by rw [hX]; exact hN) (by rw [hX]; exact hA.get) hln hc takes_none5 (fun W pn xe tk po => ⟨fun pins s σ H D I h => h pn xe tk po pins s I⟩) (fun a oe cls d pn hz hf => ⟨fun pins s σ H D I h => h oe pn hz hf pins s I⟩)) ?_
  intro pn xe tk po
  refine (hb _ pn xe tk po).run B σ G H M S ⟨k.nx, k.rt, k.bk, k.ct⟩ fun cls σ' G' H' ρ' e S' q => ?_
  refine ⟨true, hm cls ρ' q, fun _ a na oe pn2 hz hf2 => ?_, fun z => nomatch z⟩
  refine (hsu cls ρ' q a oe pn2 hz hf2) B _ G' H' _ (S'.set (i := i) (ValR.of (.raw (.ref a)))) ⟨fun σ2 G2 H2 ρ2 e2 S2 z => k.nx _ G2 H2 _ (e.trans e2) (S2.gone i) z, fun v σ2 ρ2 G2 H2 r e2 => k.rt v σ2 ρ2 G2 H2 r (e.trans e2), fun _ _ _ _ _ _ z => z.elim, fun _ _ _ _ _ _ z => z.elim⟩
end
theorem Tr_N {X : Cx} {N : List Str} {pn : List (Addr × Obj)} {xe : Value → Shared → Prop} (h : X.N = N) : (X.tr pn xe).nox.N = N := h
theorem Suite_N {X : Cx} {N : List Str} {a : Addr} {pn : List (Addr × Obj)} (h : X.N = N) : (X.suite a pn).N = N := h
section
variable {X : Cx} {ea ec : Expr} {ρ ρ1 ρ2 : List Sl} {a D : Addr} {oe : Obj} {pn : List (Addr × Obj)} {c : V} {cv : Value} {b : Bool} {pos p : Pos}
theorem pd_isE (C : ExcC X.K D) (hz : Zc (.ref D) none oe) (hf : ∃ vs, oe.data = .fields vs) (ha : PD (X.suite a ((a, oe) :: pn)) ea ρ ρ1 (.fz (.raw (.ref a)))) (hc : PD (X.suite a ((a, oe) :: pn)) ec ρ1 ρ2 (.fz (.raw c))) (hcv : ∀ u, RelV c u → u = cv) (hk : PySem.W.kitOne X.K (.ref D) cv = some b)
    (hm : X.mg "isinstance" = none) (hg : Gl (X.suite a ((a, oe) :: pn)) "isinstance")
    (he : starEach [ea, ec] X.env = (false, eval ea X.env) :: starEach [ec] X.env) (he2 : starEach [ec] X.env = (false, eval ec X.env) :: starEach [] X.env) (hpl : (backTo pos (starEach [ec] X.env)).any (·.1) = false) :
    PD (X.suite a ((a, oe) :: pn)) (.Call (.Name "isinstance" p) [ea, ec] [] pos) ρ ρ2 (.fz (.bl b)) :=
  pd_callB (call_isE C hz hf) boot_isinstance hg hm (pad_cons ha (pad_cons hc pad_nil he2) he) (fun B σ ρ G H xs Q S hx k => by
    cases hx with
    | cons h1 h2 =>
      cases h2 with
      | cons h2 h3 =>
        cases h3; cases h2; cases h1
        exact ⟨c, cv, b, rfl, hcv, hk, ok0 S k (.bl _)⟩) (by decide) (by decide) he hpl
end
section
variable {X : Cx} {ρ : List Sl} {ds : List D}
theorem psd_frzL {sts : List Stmt} {E : En} {i : Nat} (h : ρ[i]? = some (.ow ds)) (q : PSD X sts (ρ.set i (.fz (.lst ds))) E) : PSD X sts ρ E := .mk fun B σ G H M S k => by
  obtain ⟨p, vs, h1, h2, h3, h4, h5⟩ := S.getO h
  have hi := (List.getElem?_eq_some_iff.mp h).1
  have S0 : SR X.K B σ G H (ρ.set i .no) := S.weak (List.length_set ..) fun j r z => by
    by_cases ej : j = i
    · subst ej
      rw [List.getElem?_set_self hi] at z
      cases z
      exact .inl rfl
    · rw [List.getElem?_set_ne (Ne.symm ej)] at z
      exact .inr z
  have v0 : ValR X.K B σ (ρ.set i .no) G H (.ref p) (.ow ds) := ⟨(fun z => nomatch z), ⟨p, vs, rfl, h2, h3, h4, h5⟩, fun _ q' e' j oj => by
    cases e'
    obtain ⟨o1, r, o2, o3⟩ := oj
    by_cases ej : j = i
    · subst ej
      rw [List.getElem?_set_self hi] at o2
      cases o2
      exact o3
    · rw [List.getElem?_set_ne (Ne.symm ej)] at o2
      exact ej (S.ne j i p ⟨o1, r, o2, o3⟩ ⟨h1, _, h, trivial⟩)⟩
  obtain ⟨G2, e2, S2, r2⟩ := v0.frz S0
  have S3 := S2.set (i := i) (ValR.of (B := B) (σ := σ) (ρ := ρ.set i .no) (H := H) r2)
  rw [List.set_set] at S3
  have es : σ.set i (some (V.ref p)) = σ := by
    refine List.ext_getElem? fun j => ?_
    by_cases ej : j = i
    · subst ej
      rw [List.getElem?_set_self (by rw [S.len]; exact hi), h1]
    · rw [List.getElem?_set_ne (Ne.symm ej)]
  rw [es] at S3
  exact q B σ G2 H M S3 (k.mono e2)
end
/-- what isinstance asks of the classes of errors -/
structure ExcI {K : PySem.W.Frag} {mg : Str → Option Value} (T : Excs K mg) : Prop where
  n : PySem.W.specialIn K (.builtin "object.__class__") "__get__" = some (some (.builtin "getset_descriptor.__get__"))
  t : PySem.W.takesIn K (.builtin "object.__class__") = some true
  g : ∀ b, T.S b = true → PySem.W.findIn K (.ref (T.C b)) "__getattribute__" = some (some (.builtin "BaseException.__getattribute__"))
  k : ∀ b, T.S b = true → PySem.W.findIn K (.ref (T.C b)) "__getattr__" = some none
  a : ∀ b, T.S b = true → PySem.W.findIn K (.ref (T.C b)) "__class__" = some (some (.builtin "object.__class__"))
  m : ∀ b, T.S b = true → PySem.W.mroIn K (T.C b) (.type "object") = some true
  v : ∀ b, T.S b = true → PySem.W.subIn K (.ref (T.C b)) (.type "ValueError") = some true
section
variable {K : PySem.W.Frag} {mg : Str → Option Value} {T : Excs K mg}
theorem ExcI.exc (I : ExcI T) {b : Bad} (hb : T.S b = true) : ExcC K (T.C b) := ⟨I.g b hb, I.k b hb, (T.one b hb).b, T.d b hb, I.a b hb, I.n, I.t, I.m b hb⟩
theorem kit_ref {t : Value} {C : Addr} {v : Bool} (hd : PySem.W.hasDictIn K C = true) (ht : PySem.W.typeIn K (.ref C) = some (.type "type")) (hs : PySem.W.subIn K t (.ref C) = some v) (he : t = .ref C → v = true) : PySem.W.kitOne K t (.ref C) = some v := by
  obtain ⟨cd, hc, _⟩ := PySem.W.any_some hd
  unfold PySem.W.kitOne
  by_cases e : (t == Value.ref C) = true
  · rw [if_pos e, he (eq_of_beq e)]
  · rw [if_neg e]
    have e2 : ((PySem.W.clsIn K C).isSome && PySem.W.typeIn K (.ref C) == some (.type "type")) = true := by rw [hc, ht] <;> rfl
    show (if ((PySem.W.clsIn K C).isSome && PySem.W.typeIn K (.ref C) == some (.type "type")) = true then PySem.W.subIn K t (.ref C) else none) = some v
    rw [if_pos e2]
    exact hs
theorem Excs.kit (T : Excs K mg) {a b : Bad} (ha : T.S a = true) (hb : T.S b = true) : PySem.W.kitOne K (.ref (T.C a)) (.ref (T.C b)) = some (decide (a = b)) :=
  kit_ref (T.d b hb) (T.one b hb).t (T.s a b ha hb) fun e => by
    have z := T.s b b hb hb
    have y := (T.s a b ha hb).symm.trans ((congrArg (fun t => PySem.W.subIn K t (.ref (T.C b))) e).trans z)
    rw [Option.some.inj y]
    exact decide_eq_true rfl
theorem Excs.kitH (T : Excs K mg) {a : Bad} (ha : T.S a = true) : PySem.W.kitOne K (.ref (T.C a)) (.ref T.H) = some true :=
  kit_ref T.dH T.oneH.t (T.sH a ha) fun _ => rfl
theorem kitMeta_ValueError : PySem.W.kitMeta "ValueError" = true := by decide +kernel
theorem ExcI.kitV (I : ExcI T) {a : Bad} (ha : T.S a = true) : PySem.W.kitOne K (.ref (T.C a)) (.type "ValueError") = some true := by
  unfold PySem.W.kitOne
  have e : (Value.ref (T.C a) == Value.type "ValueError") = false := rfl
  rw [e, if_neg Bool.false_ne_true]
  show (if PySem.W.kitMeta "ValueError" = true then PySem.W.subIn K (.ref (T.C a)) (.type "ValueError") else none) = some true
  rw [if_pos kitMeta_ValueError]
  exact I.v a ha
end
section
variable {X : Cx} {ea : Expr} {ρ ρ1 : List Sl} {a : Addr} {oe : Obj} {pn : List (Addr × Obj)} {x : Str} {b b' : Bad} {pos p q : Pos} {T : Excs X.K X.mg}
theorem pd_own {X : Cx} {T : Excs X.K X.mg} {ρ : List Sl} (hb : T.S b' = true) (hg : Gl X (nameB b')) (hd : (nameB b' == ("__debug__" : Str)) = false) : PD X (.Name (nameB b') q) ρ ρ (.fz (.raw (.ref (T.C b')))) := pd_glob (v := .ref (T.C b')) hg (T.one b' hb).g rfl (fun _ _ => .raw _) hd
theorem pd_isB (I : ExcI T) (hb : T.S b = true) (hb' : T.S b' = true) (hz : Zc (.ref (T.C b)) none oe) (hf : ∃ vs, oe.data = .fields vs) (ha : PD (X.suite a ((a, oe) :: pn)) ea ρ ρ1 (.fz (.raw (.ref a))))
    (hm : X.mg "isinstance" = none) (hg : Gl (X.suite a ((a, oe) :: pn)) "isinstance") (hg2 : Gl (X.suite a ((a, oe) :: pn)) (nameB b')) (hd : (nameB b' == ("__debug__" : Str)) = false)
    (he : starEach [ea, .Name (nameB b') q] X.env = (false, eval ea X.env) :: starEach [.Name (nameB b') q] X.env) (he2 : starEach [.Name (nameB b') q] X.env = (false, eval (.Name (nameB b') q) X.env) :: starEach [] X.env) (hpl : (backTo pos (starEach [.Name (nameB b') q] X.env)).any (·.1) = false) :
    PD (X.suite a ((a, oe) :: pn)) (.Call (.Name "isinstance" p) [ea, .Name (nameB b') q] [] pos) ρ ρ1 (.fz (.bl (decide (b = b')))) :=
  pd_isE (c := .ref (T.C b')) (cv := .ref (T.C b')) (I.exc hb) hz hf ha (pd_own (X := X.suite a ((a, oe) :: pn)) (T := T) hb' hg2 hd) (fun u r => r) (T.kit hb hb') hm hg he he2 hpl
theorem pd_isH (I : ExcI T) (hb : T.S b = true) (hz : Zc (.ref (T.C b)) none oe) (hf : ∃ vs, oe.data = .fields vs) (ha : PD (X.suite a ((a, oe) :: pn)) ea ρ ρ1 (.fz (.raw (.ref a))))
    (hm : X.mg "isinstance" = none) (hg : Gl (X.suite a ((a, oe) :: pn)) "isinstance") (hg2 : Gl (X.suite a ((a, oe) :: pn)) "HasteError")
    (he : starEach [ea, .Name "HasteError" q] X.env = (false, eval ea X.env) :: starEach [.Name "HasteError" q] X.env) (he2 : starEach [.Name "HasteError" q] X.env = (false, eval (.Name "HasteError" q) X.env) :: starEach [] X.env) (hpl : (backTo pos (starEach [.Name "HasteError" q] X.env)).any (·.1) = false) :
    PD (X.suite a ((a, oe) :: pn)) (.Call (.Name "isinstance" p) [ea, .Name "HasteError" q] [] pos) ρ ρ1 (.fz (.bl true)) :=
  pd_isE (c := .ref T.H) (cv := .ref T.H) (I.exc hb) hz hf ha (pd_glob (X := X.suite a ((a, oe) :: pn)) (v := .ref T.H) hg2 T.oneH.g rfl (fun _ _ => .raw _) (by decide)) (fun u r => r) (T.kitH hb) hm hg he he2 hpl
theorem boot_ValueError : bootBuiltins "ValueError" = some (.type "ValueError") := by decide +kernel
theorem pd_isV (I : ExcI T) (hb : T.S b = true) (hz : Zc (.ref (T.C b)) none oe) (hf : ∃ vs, oe.data = .fields vs) (ha : PD (X.suite a ((a, oe) :: pn)) ea ρ ρ1 (.fz (.raw (.ref a))))
    (hm : X.mg "isinstance" = none) (hg : Gl (X.suite a ((a, oe) :: pn)) "isinstance") (hm2 : X.mg "ValueError" = none) (hg2 : Gl (X.suite a ((a, oe) :: pn)) "ValueError")
    (he : starEach [ea, .Name "ValueError" q] X.env = (false, eval ea X.env) :: starEach [.Name "ValueError" q] X.env) (he2 : starEach [.Name "ValueError" q] X.env = (false, eval (.Name "ValueError" q) X.env) :: starEach [] X.env) (hpl : (backTo pos (starEach [.Name "ValueError" q] X.env)).any (·.1) = false) :
    PD (X.suite a ((a, oe) :: pn)) (.Call (.Name "isinstance" p) [ea, .Name "ValueError" q] [] pos) ρ ρ1 (.fz (.bl true)) :=
  pd_isE (c := .ty "ValueError") (cv := .type "ValueError") (I.exc hb) hz hf ha (pd_bltn (X := X.suite a ((a, oe) :: pn)) hg2 hm2 boot_ValueError rfl (by decide) (by decide)) (fun u r => r) (I.kitV hb) hm hg he he2 hpl
end
def lexP (a b : Int × Int) : Bool := decide (a.1 < b.1 ∨ (a.1 = b.1 ∧ a.2 ≤ b.2))
theorem lexP_iff {a b : Int × Int} : lexP a b = true ↔ a.1 < b.1 ∨ (a.1 = b.1 ∧ a.2 ≤ b.2) := decide_eq_true_iff
noncomputable def sortP (ps : List (Int × Int)) : List (Int × Int) := ps.mergeSort lexP
theorem sortP_perm (ps : List (Int × Int)) : (sortP ps).Perm ps := List.mergeSort_perm ..
theorem sortP_uniq {ps ys : List (Int × Int)} (h : ys.Perm ps) (hp : ys.Pairwise (fun a b => lexP a b = true)) : ys = sortP ps := by
  refine List.Perm.eq_of_pairwise (le := fun a b => lexP a b = true) (fun a b _ _ h1 h2 => ?_) hp (List.pairwise_mergeSort (fun a b c h1 h2 => ?_) (fun a b => ?_) ps) (h.trans (sortP_perm ps).symm)
  · have a1 := lexP_iff.mp h1
    have a2 := lexP_iff.mp h2
    exact Prod.ext (by omega) (by omega)
  · have a1 := lexP_iff.mp h1
    have a2 := lexP_iff.mp h2
    exact lexP_iff.mpr (by omega)
  · rw [Bool.or_eq_true, lexP_iff, lexP_iff]
    omega
def encP (p : Int × Int) : D := .tup [.int p.1, .int p.2]
def kOf (G : Hp) : V → Int × Int
  | .ref a => match G a with
    | some (.tup [.int i, .int j]) => (i, j)
    | _ => (0, 0)
  | _ => (0, 0)
section
variable {K : PySem.W.Frag} {G : Hp}
theorem rep_pair {v : V} {p : Int × Int} (h : Rep K G v (encP p)) : ∃ a, v = .ref a ∧ G a = some (.tup [.int p.1, .int p.2]) ∧ kOf G v = p := by
  cases h with
  | @tup a vs _ h1 h2 =>
    cases h2 with
    | cons r1 r2 =>
      cases r2 with
      | cons r2 r3 =>
        cases r3; cases r1; cases r2
        refine ⟨a, rfl, h1, ?_⟩
        show (match G a with | some (.tup [.int i, .int j]) => (i, j) | _ => (0, 0)) = p
        rw [h1]
theorem reps_pairs : ∀ {vs : List V} {ps : List (Int × Int)}, Reps K G vs (ps.map encP) → vs.map (kOf G) = ps ∧ ∀ v ∈ vs, ∃ a, v = .ref a ∧ G a = some (.tup [.int (kOf G v).1, .int (kOf G v).2])
  | [], [], _ => ⟨rfl, fun _ h => nomatch h⟩
  | v :: vs, p :: ps, h => by
    cases h with
    | cons r1 r2 =>
      obtain ⟨a, h1, h2, h3⟩ := rep_pair r1
      obtain ⟨h4, h5⟩ := reps_pairs r2
      refine ⟨by rw [List.map_cons, h3, h4], fun u hu => ?_⟩
      rcases List.mem_cons.mp hu with rfl | hu
      · exact ⟨a, h1, by rw [h3]; exact h2⟩
      · exact h5 u hu
  | [], _ :: _, h => by cases h
  | _ :: _, [], h => by cases h
theorem pairs_reps : ∀ {vs : List V}, (∀ v ∈ vs, ∃ a, v = .ref a ∧ G a = some (.tup [.int (kOf G v).1, .int (kOf G v).2])) → Reps K G vs ((vs.map (kOf G)).map encP)
  | [], _ => .nil
  | v :: vs, h => by
    obtain ⟨a, e, h1⟩ := h v List.mem_cons_self
    refine .cons ?_ (pairs_reps fun u hu => h u (List.mem_cons_of_mem _ hu))
    generalize kOf G v = p at h1
    subst e
    exact .tup h1 (.cons (.int _) (.cons (.int _) .nil))
end
section
variable {X : Cx} {ρ ρ1 : List Sl} {a : Expr} {pos p : Pos}
/-- sorted(xs) of pairs of ints -/
theorem pd_sortedP {ps : List (Int × Int)} (ha : PD X a ρ ρ1 (.fz (.lst (ps.map encP)))) (hm : X.mg "sorted" = none) (hg : Gl X "sorted") (he : starEach [a] X.env = (false, eval a X.env) :: starEach [] X.env)
    (hpl : (backTo pos (starEach [] X.env)).any (·.1) = false) : PD X (.Call (.Name "sorted" p) [a] [] pos) ρ ρ1 (.ow ((sortP ps).map encP)) := pd_callB cr_sortedPO boot_sorted hg hm (pad_cons ha pad_nil he) (fun B σ ρ G H us Q S hx k => by
  cases hx with
  | cons h1 h2 =>
    cases h2
    cases h1 with
    | @lst l vs _ h1 h2 =>
      obtain ⟨e1, e2⟩ := reps_pairs h2
      refine ⟨_, vs, kOf G, rfl, SqL.of (S.e3 _ _ h1), fun x hx => ?_, fun ys q g1 g2 hq => ?_⟩
      · obtain ⟨t, z1, z2⟩ := e2 x hx
        exact ⟨t, z1, S.e3 _ _ z2⟩
      · have m1 : ys.map (kOf G) = sortP ps := sortP_uniq (by rw [← e1]; exact g2.perm.map _) (List.pairwise_map.mpr (List.Pairwise.imp (fun {x y} h => by
          have z := SrtO.lexB_no.mp h
          exact lexP_iff.mpr (by omega)) g1))
        have z : Reps X.K G ys ((ys.map (kOf G)).map encP) := pairs_reps fun v hv => e2 v (g2.perm.mem_iff.mp hv)
        rw [m1] at z
        exact okN S k z q hq) (by decide) (by decide) he hpl
end
section
variable {X : Cx} {pins : List (Addr × Obj)} {σ : L2.St} {H : Hp} {s : Shared}
/-- the pin of what the suite held stays beside those of the outside -/
theorem inv_unsuite {a : Addr} {q : Addr × Obj} (I : Inv (X.suite a (q :: (X.pn ++ pins))) [] σ H s) (ok : X.Ok) : Inv X (q :: pins) σ H s :=
  ⟨ok, I.os, I.bare, I.base, I.loc, I.cell, I.free, I.freeC, fun p hp => by
    refine I.pin p ?_
    show p ∈ (q :: (X.pn ++ pins)) ++ []
    rw [List.append_nil]
    rcases List.mem_append.mp hp with h | h
    · exact List.mem_cons_of_mem _ (List.mem_append_left _ h)
    · rcases List.mem_cons.mp h with rfl | h
      · exact List.mem_cons_self
      · exact List.mem_cons_of_mem _ (List.mem_append_right _ h), I.hok, I.len⟩
/-- a pinned object that is new since the entry is tracked from now on -/
theorem inv_track {a C : Addr} {oe : Obj} (I : Inv X ((a, oe) :: pins) σ H s) (hz : Zc (.ref C) none oe) (hf : ∃ vs, oe.data = .fields vs) (n0 : X.s_0.heap.get? a = none) (np : ∀ p ∈ X.pn ++ pins, p.1 ≠ a) : Inv X pins σ (upd H a (.ext (ExIn C a))) s := by
  obtain ⟨he, na, nL, nF, nc⟩ := I.pin (a, oe) (List.mem_append_right _ List.mem_cons_self)
  obtain ⟨vs, hv⟩ := hf
  have ne0 : ∀ b o, X.s_0.heap.get? b = some o → b ≠ a := fun b o e z => by
    rw [z, n0] at e
    cases e
  have neH : ∀ b o, H b = some o → b ≠ a := fun b o e z => by
    rw [z, na] at e
    cases e
  refine ⟨I.ok, I.os, I.bare, ⟨I.base.keep, I.base.slot, fun b o e n hx => ?_, I.base.there, fun b xs e => ?_, fun b o u e => ?_, fun b ps e => ?_⟩, I.loc, I.cell, ?_, fun y c e => ?_, fun p hp => ?_, ?_, I.len⟩
  · rw [upd_ne (ne0 b o e)]
    exact I.base.free b o e n hx
  · have z := I.base.tups b xs e
    rw [upd_ne (neH _ _ z)]
    exact z
  · have z := I.base.frzs b o u e
    rw [upd_ne (neH _ _ z)]
    exact z
  · obtain ⟨m, z⟩ := I.base.tbls b ps e
    exact ⟨m, by rw [upd_ne (neH _ _ z)]; exact z⟩
  · rw [upd_ne (Ne.symm nL)]
    exact I.free
  · rw [upd_ne ?_]
    · exact I.freeC y c e
    · rintro rfl
      obtain ⟨v, o, ho, hd⟩ := I.cell y _ e
      rw [he] at ho
      cases ho
      exact nc v hd
  · obtain ⟨h1, h2, h3⟩ := I.pin p (by
      rcases List.mem_append.mp hp with h | h
      · exact List.mem_append_left _ h
      · exact List.mem_append_right _ (List.mem_cons_of_mem _ h))
    exact ⟨h1, by rw [upd_ne (np p hp)]; exact h2, h3⟩
  · exact I.hok.laidN (fun b u q => q) na ⟨⟨oe, vs, he, hz, hv⟩, ⟨oe, he⟩, fun _ _ ⟨o, v, q, r⟩ k => ⟨o, v, k o q, r⟩⟩
end
/-- what 'except x as n' makes of an error that it takes: behind the suite the object stands there, tracked -/
def wKeep (K : PySem.W.Frag) (c : Value) (i : Nat) (ts : Addr → Value → Option Addr → TS) (D : Ends) : WX := fun cls d σ H =>
  PySem.W.exmOne K cls c = some true ∧ d = none ∧ ∃ C : Addr, cls = .ref C ∧ ∀ a, H a = none → ts a cls d { nx := fun σ' H' => H' a = none → D.nx (σ'.set i none) (upd H' a (.ext (ExIn C a))), rt := fun _ _ => False, bk := fun _ _ => False, ct := fun _ _ => False } (σ.set i (some (.ref a))) H
section
variable {X : Cx} {x n : Str} {c : Value} {i : Nat} {body suite : List Stmt} {b₀ : Stmt} {np pos pos' : Pos} {tb : WX → TS} {ts : Addr → Value → Option Addr → TS}
theorem ps_try_keep (hex : X.ex = []) (hst : X.stack = X.env :: X.outer) (hfm : X.env.frame = some X.env.locals) (hnd : X.N.Nodup) (hix : X.N[i]? = some n) (hkd : X.env.kindOf n = some .local) (hnm : Names X x c)
    (hbd : ∀ (W : WX) (pn : List (Addr × Obj)) (xe : Value → Shared → Prop), Takes (X.tr pn xe) W → PassesOwn (model X.prog X.w) X.A X.env xe → PSs (X.tr pn xe) body (tb W))
    (hsu : ∀ (a : Addr) (oe : Obj) (cls : Value) (d : Option Addr) (pn : List (Addr × Obj)), Zc cls d oe → (∃ vs, oe.data = .fields vs) → PSs (X.suite a ((a, oe) :: pn)) (b₀ :: suite) (ts a cls d)) :
    L2.PS X (.Try body [.ExceptHandler (some (.Name x np)) (some n) (b₀ :: suite) pos'] [] [] pos) (fun D σ H => tb (wKeep X.K c i ts D) D σ H) := ⟨fun pins s σ H D I0 hwish => by
  have okX := I0.ok
  have frX : X.A.frames = some (X.env :: X.outer) := okX.frames.trans (congrArg some hst)
  refine wpAny_Try_except ?_
  refine wpAny_mono ((hbd (wKeep X.K c i ts D) (X.pn ++ pins) _ (fun u t air => ?_) PassesOwn.looking).run [] s σ H D (I0.toTry _) hwish) (fun fl t1 post => ?_) (fun u t1 z => z)
  rotate_left
  · -- the body ends without an error
    cases fl with
    | next => obtain ⟨σ1, H1, I1, q⟩ := post; exact wpAny_execs_nil ⟨σ1, H1, I1.ofTry okX, q⟩
    | brk => obtain ⟨σ1, H1, I1, q⟩ := post; exact ⟨σ1, H1, I1.ofTry okX, q⟩
    | cont => obtain ⟨σ1, H1, I1, q⟩ := post; exact ⟨σ1, H1, I1.ofTry okX, q⟩
    | ret u => obtain ⟨v, σ1, H1, I1, r, q⟩ := post; exact ⟨v, σ1, H1, I1.ofTry okX, r, q⟩
  · -- an error: it lands, its clause takes it
    obtain ⟨a, Bh, tI, ps1, σ1, H1, cls, d, rfl, I1, nb, up1, sky, na, eos, eag, hm, rfl, C, rfl, hgo⟩ := air
    have J : Inv X pins σ1 H1 tI := I1.ofTry okX
    show wpAny (model X.prog X.w) X.A (noteFrame (.ref a) X.env) _ _ _
    refine Sky.land Zc.steady frX hfm (hst ▸ sky) fun h2 fly2 up2 => ?_
    obtain ⟨o2, v2, g2, z2, f2⟩ := fly2.there
    have out : a ∉ frs (X.env :: X.outer) := fun hmem => by
      obtain ⟨_, o', g', nf⟩ := fly2.2.2.1.mem hmem
      rw [g2] at g'
      cases g'
      exact nf _ f2
    have nL : a ≠ X.env.locals := fun z => out (List.mem_filterMap.mpr ⟨X.env, List.mem_cons_self, by rw [hfm, z]⟩)
    have nF : a ∉ X.fs := fun hmem => by
      obtain ⟨e, he, q⟩ := List.mem_filterMap.mp hmem
      exact out (List.mem_filterMap.mpr ⟨e, List.mem_cons_of_mem _ he, q⟩)
    have far : ∀ b o, tI.heap.get? b = some o → b ∉ frs X.stack → b ≠ a := fun b o g hb z => by
      have q := nb b o g hb
      rw [z, fly2.2.1] at q
      cases q
    have n0 : X.s_0.heap.get? a = none := by
      cases q : X.s_0.heap.get? a with
      | none => rfl
      | some o =>
        obtain ⟨o', g'⟩ := J.base.there a o q (by rw [hex]; exact fun z => nomatch z)
        exact absurd rfl (far a o' g' (by rw [hst]; exact out))
    have npn : ∀ p ∈ X.pn ++ pins, p.1 ≠ a := fun p hp => by
      obtain ⟨g, _, q1, q2, _⟩ := J.pin p hp
      refine far p.1 p.2 g fun hmem => ?_
      rcases List.mem_cons.mp (J.stkSub p.1 hmem) with z | z
      · exact q1 z
      · exact q2 z
    have S2 := (J.landed (s' := { t with heap := h2 }) nb fly2.1 (up1.trans up2) eos eag).suite g2 f2 na nL nF
    refine wpAny_handleBy_cons (codeAny_handlers_test ?_) (by intro q; cases q)
    have looksT : PySem.W.Looks (model X.prog X.w) h2 (typeOf (.ref a)) (.ref C) := fun A Q E s k q => wpAny_typeOf_ref (k _ _ g2) (by rw [z2.1]; exact q)
    have looksM := PySem.W.exm_one (M := model X.prog X.w) S2.kIn looksT hm
    have asks : ∀ {Q : Value → Shared → Prop} {E : Value → Shared → Prop}, Q c { t with heap := h2 } → wpAny (model X.prog X.w) (X.A.mark (some (.ref a))) (eval (.Name x np) X.env) Q E { t with heap := h2 } := fun {Q E} q => by
      obtain ⟨hg, hdb, hm1 | ⟨hm1, hv, hnn⟩⟩ := hnm
      · exact ld_glob (X := X.suite a ((a, o2) :: (X.pn ++ pins))) S2 hg hm1 q hdb
      · exact ld_blt (X := X.suite a ((a, o2) :: (X.pn ++ pins))) S2 hg hm1 hv q hnn hdb
    refine asks (looksM.here ?_)
    refine codeAny_handlers_suite_as (HandSPX.lands_againZ fly2 fun h3 fly3 up3 => ?_)
    obtain ⟨o3, v3, g3, z3, f3⟩ := fly3.there
    have S3 := (J.landed (s' := { t with heap := h3 }) nb fly3.1 ((up1.trans up2).trans up3) eos eag).suite g3 f3 na nL nF
    refine store_ok (X := X.suite a ((a, o3) :: (X.pn ++ pins))) (v := .ref a) S3 hnd hix (.inl hkd) rfl (fun t4 S4 => ?_) (.inr hkd)
    refine wpAny_mono ((hsu a o3 (.ref C) none (X.pn ++ pins) z3 ⟨_, f3⟩).run [] t4 _ H1 _ S4 (hgo a na)) (fun fl t5 post => ?_) (fun _ _ z => False.elim z)
    cases fl with
    | next =>
      obtain ⟨σ5, H5, S5, q5⟩ := post
      refine gone_ok (inv_unsuite S5 okX) hnd hix hkd fun t6 J6 => ⟨_, _, inv_track J6 z3 ⟨_, f3⟩ n0 npn, q5 (J6.pin (a, o3) (List.mem_append_right _ List.mem_cons_self)).2.1⟩
    | brk => obtain ⟨_, _, _, z⟩ := post; exact z.elim
    | cont => obtain ⟨_, _, _, z⟩ := post; exact z.elim
    | ret u =>
      obtain ⟨_, _, _, _, _, z⟩ := post
      exact False.elim z⟩
end
/-- a held error is data from now on -/
def Conv (a C : Addr) (ρ ρ' : List Sl) : Prop := ρ'.length = ρ.length ∧ ∀ (j : Nat) (r' : Sl), ρ'[j]? = some r' → ρ[j]? = some r' ∨ (ρ[j]? = some (.fz (.raw (.ref a))) ∧ r' = .fz (.exc C)) ∨ r' = .no
theorem SR.track {K : PySem.W.Frag} {B : Bs} {σ : L2.St} {G H : Hp} {ρ ρ' : List Sl} {a C : Addr} (S : SR K B σ G H ρ) (na : H a = none) (c : Conv a C ρ ρ') : SR K B σ (upd G a (.ext (ExIn C a))) (upd H a (.ext (ExIn C a))) ρ' := by
  have S1 := S.allocV (o := .ext (ExIn C a)) na
  refine ⟨S1.e1, S1.e2, S1.e3, S1.nw, S1.len.trans c.1.symm, fun j r q => ?_, fun j k p h1 h2 => ?_⟩
  · rcases c.2 j r q with z | ⟨z, rfl⟩ | rfl
    · exact S1.sl j r z
    · obtain ⟨v, h1, h2⟩ := S1.get z
      cases h2
      exact ⟨_, h1, .ref a, rfl, .exc upd_same fun _ h => h⟩
    · have hj : j < σ.length := by
        have := (List.getElem?_eq_some_iff.mp q).1
        have := S1.len
        have := c.1
        omega
      exact ⟨σ[j], List.getElem?_eq_getElem hj, trivial⟩
  · have key : ∀ j, OwnAt σ ρ' j p → OwnAt σ ρ j p := fun j ⟨h1, r, h2, o⟩ => by
      rcases c.2 j r h2 with z | ⟨_, rfl⟩ | rfl
      · exact ⟨h1, r, z, o⟩
      · exact False.elim o
      · exact False.elim o
    exact S1.ne j k p (key j h1) (key k h2)
section
variable {X : Cx} {body suite : List Stmt} {b₀ : Stmt} {ρ : List Sl} {E : En} {R : Value → List Sl → Prop} {np pos pos' : Pos}
/-- except c as n, the error kept: only ends at the suite's end -/
theorem ps1_tryKeep {x n : Str} {c : Value} {i : Nat} {N : List Str} (hex : X.ex = []) (hX : X.N = N) (hA : At N i n) (hN : N.Nodup) (hln : X.env.kindOf n = some .local) (hc : Names X x c) (hs : X.stack = X.env :: X.outer) (hf : X.env.frame = some X.env.locals)
    (hb : ∀ (W : WX) (pn : List (Addr × Obj)) (xe : Value → Shared → Prop), Takes (X.tr pn xe) W → PassesOwn (model X.prog X.w) X.A X.env xe → RSD (X.tr pn xe) W body ρ { nx := fun _ => False, rt := fun _ => False } R)
    (hm : ∀ cls ρ', R cls ρ' → PySem.W.exmOne X.K cls c = some true ∧ ∃ C : Addr, cls = .ref C)
    (hsu : ∀ (C : Addr) (ρ' : List Sl), R (.ref C) ρ' → ∀ (a : Addr) (oe : Obj) (pn : List (Addr × Obj)), Zc (.ref C) none oe → (∃ vs, oe.data = .fields vs) → PSD (X.suite a ((a, oe) :: pn)) (b₀ :: suite) (ρ'.set i (.fz (.raw (.ref a)))) { nx := fun ρ2 => ∃ ρ3, Conv a C (ρ2.set i .no) ρ3 ∧ E.nx ρ3, rt := fun _ => False }) :
    PS1 X (.Try body [.ExceptHandler (some (.Name x np)) (some n) (b₀ :: suite) pos'] [] [] pos) ρ E := .mk fun B σ G H M S k => by
  refine wpS_of (ps_try_keep (i := i) (tb := tBody X body) (ts := tsB X (b₀ :: suite)) hex hs hf (by rw [hX]; exact hN) (by rw [hX]; exact hA.get) hln hc (fun W pn xe tk po => ⟨fun pins s σ H D I h => h pn xe tk po pins s I⟩) (fun a oe cls d pn hz hf => ⟨fun pins s σ H D I h => h oe pn hz hf pins s I⟩)) ?_
  intro pn xe tk po
  refine (hb _ pn xe tk po).run B σ G H M S ⟨fun _ _ _ _ _ _ z => z.elim, fun _ _ _ _ _ _ _ _ _ _ z => z.elim, fun _ _ _ _ _ _ z => z.elim, fun _ _ _ _ _ _ z => z.elim⟩ fun cls σ' G' H' ρ' e S' q => ?_
  obtain ⟨h1, C, rfl⟩ := hm cls ρ' q
  refine ⟨h1, rfl, C, rfl, fun a na oe pn2 hz hf2 => ?_⟩
  refine (hsu C ρ' q a oe pn2 hz hf2).run B _ G' H' _ (S'.set (i := i) (ValR.of (.raw (.ref a)))) ⟨fun σ2 G2 H2 ρ2 e2 S2 ⟨ρ3, cv, z⟩ na2 => ?_, fun _ _ _ _ _ _ _ _ _ _ z => z.elim, fun _ _ _ _ _ _ z => z.elim, fun _ _ _ _ _ _ z => z.elim⟩
  have S3 := (S2.gone i).track na2 cv
  exact k.nx _ _ _ ρ3 ((e.trans e2).trans (Evl.Ex.new (ex_none S2.e3 na2))) S3 z
end
section
variable {X : Cx} {a b : Expr} {ρ ρ1 ρ2 : List Sl} {pos p : Pos}
theorem rep_made {K : PySem.W.Frag} {G : Hp} (C q : Addr) : Rep K (upd G q (ExO (.ref C) q)) (.ref q) (.exc C) :=
  .exc (φ := fun h => ∃ (oe : Obj) (vs : Array Value), h.get? q = some oe ∧ Zc (.ref C) none oe ∧ oe.data = .fields vs ∧ vs[1]? = some .none ∧ vs[2]? = some .none ∧ 4 < vs.size) upd_same (fun h ⟨oe, vs, z1, z2, z3, _⟩ => ⟨oe, vs, z1, z2, z3⟩)
/-- X(e): an error made, not raised -/
theorem pd_made {C : Addr} {x : Str} {d : D} (T : Exc1 X.K X.mg x C) (hg : Gl X x) (ha : PD X a ρ ρ1 (.fz d)) (hdb : (x == ("__debug__" : Str)) = false) (hs : starEach [a] X.env = (false, eval a X.env) :: starEach [] X.env) : PD X (.Call (.Name x p) [a] [] pos) ρ ρ1 (.fz (.exc C)) := .mk fun B σ G H Q S k =>
  wpE_of (pe_exc1 PySem.F.excBase_ValueError T.q T.g T.k hg (canE (X := X)) hs hdb) (ha B σ G H _ S fun v G1 H1 e1 S1 _ q hq =>
    k (.ref q) (upd G1 q (ExO (.ref C) q)) (upd H1 q (ExO (.ref C) q)) (e1.trans (Evl.Ex.new (ex_none S1.e3 hq))) (S1.allocV hq) (.of (rep_made C q)))
/-- isinstance(e, c), e an error that stands -/
def rIsX (K : PySem.W.Frag) : List V → Hp → VK → Prop := fun xs H Q => ∃ (a D : Addr) (φ : Heap → Prop) (c : V) (cv : Value) (b : Bool), xs = [.ref a, c] ∧ H a = some (.ext φ) ∧ (∀ h, φ h → ExIn D a h) ∧ ExcC K D ∧ (∀ u, RelV c u → u = cv) ∧ PySem.W.kitOne K (.ref D) cv = some b ∧ Q (.bl b) H
theorem call_isX : CallR X (.builtin "isinstance") (rIsX X.K) := by
  intro pins s σ H xs us Q I r h
  obtain ⟨a, D, φ, c, cv, b, rfl, ha, hφ, C, hcv, e, q⟩ := h
  cases r with
  | cons rx rr =>
    cases rr with
    | cons rt rr =>
      cases rr
      cases rx
      have ec := hcv _ rt
      subst ec
      obtain ⟨f1, _, _⟩ := I.hok a _ ha
      obtain ⟨oe, vs, g1, z1, d1⟩ := hφ _ f1
      have J : PySem.W.InstAt s.heap a oe D none := by
        obtain ⟨oc, od, oda, osl⟩ := oe
        obtain ⟨y1, y2⟩ := z1
        dsimp only at y1 y2 d1
        subst y1 y2 d1
        exact ⟨g1, rfl, rfl, trivial⟩
      exact PySem.W.kia_one (PySem.W.handS_kitx_exc C.hg C.hk C.hs C.hd C.ha C.hn C.ht C.hm) I.kIn J e (fun z => nomatch z) fun tk => ⟨.bl b, H, I.kept (t' := tk) fun _ _ z => z, rfl, q⟩
theorem pd_isX {D : Addr} {c : V} {cv : Value} {k : Bool} (C : ExcC X.K D) (ha : PD X a ρ ρ1 (.fz (.exc D))) (hb : PD X b ρ1 ρ2 (.fz (.raw c))) (hcv : ∀ u, RelV c u → u = cv) (hk : PySem.W.kitOne X.K (.ref D) cv = some k) (hm : X.mg "isinstance" = none) (hg : Gl X "isinstance")
    (he : starEach [a, b] X.env = (false, eval a X.env) :: starEach [b] X.env) (he2 : starEach [b] X.env = (false, eval b X.env) :: starEach [] X.env) (hpl : (backTo pos (starEach [b] X.env)).any (·.1) = false) :
    PD X (.Call (.Name "isinstance" p) [a, b] [] pos) ρ ρ2 (.fz (.bl k)) :=
  pd_callB call_isX boot_isinstance hg hm (pad_cons ha (pad_cons hb pad_nil he2) he) (fun B σ ρ G H xs Q S hx q => by
    cases hx with
    | cons h1 h2 =>
      cases h2 with
      | cons h2 h3 =>
        cases h3; cases h2
        cases h1 with
        | exc h1 h4 => exact ⟨_, D, _, c, cv, k, rfl, S.e3 _ _ h1, h4, C, hcv, hk, ok0 S q (.bl _)⟩) (by decide) (by decide) he hpl
/-- texts: x + y, x[i] -/
theorem pd_addS {x y : Str} (ha : PD X a ρ ρ1 (.fz (.str x))) (hb : PD X b ρ1 ρ2 (.fz (.str y))) (h : x.length + y.length ≤ 100000) : PD X (.BinOp a .Add b pos) ρ ρ2 (.fz (.str (x ++ y))) := pd_op op_add_str ha hb fun B σ ρ G H v u Q S hx hy k => by
  cases hx; cases hy
  exact ⟨x, y, rfl, rfl, small h, ok0 S k (.str _)⟩
theorem pd_ixStr {x : Str} {i : Int} {c : Nat} (ha : PD X a ρ ρ1 (.fz (.str x))) (hb : PD X b ρ1 ρ2 (.fz (.int i))) (hl : x.length ≤ 100000) (h : atI x.cps.toList i = some c) (hs : PlainIx b) : PD X (.Subscript a b pos) ρ ρ2 (.fz (.str ⟨#[c]⟩)) := pd_ix ix_str ha hb (fun B σ ρ G H v u Q S hx hy k => by
  cases hx; cases hy
  exact ⟨x, i, c, rfl, rfl, small hl, h, ok0 S k (.str _)⟩) hs
end
mutual
/-- v is read as d; the lists on the way, in order -/
inductive Tr (G : Hp) : V → D → List Addr → Prop
  | non : Tr G .non .non []
  | bl (b : Bool) : Tr G (.bl b) (.bl b) []
  | int (i : Int) : Tr G (.int i) (.int i) []
  | str (s : Str) : Tr G (.str s) (.str s) []
  | raw (v : V) : Tr G v (.raw v) []
  | lst {a : Addr} {vs : List V} {ds : List D} {L : List Addr} : G a = some (.lst vs) → Trs G vs ds L → Tr G (.ref a) (.lst ds) (a :: L)
  | tup {a : Addr} {vs : List V} {ds : List D} {L : List Addr} : G a = some (.tup vs) → Trs G vs ds L → Tr G (.ref a) (.tup ds) L
inductive Trs (G : Hp) : List V → List D → List Addr → Prop
  | nil : Trs G [] [] []
  | cons {v : V} {d : D} {vs : List V} {ds : List D} {L1 L2 : List Addr} : Tr G v d L1 → Trs G vs ds L2 → Trs G (v :: vs) (d :: ds) (L1 ++ L2)
end
mutual
def noL : D → Bool
  | .non => true | .bl _ => true | .int _ => true | .str _ => true
  | .raw _ => true
  | .tup xs => noLs xs
  | _ => false
def noLs : List D → Bool
  | [] => true
  | d :: ds => noL d && noLs ds
end
theorem noLs_all : ∀ {ds : List D}, (∀ d ∈ ds, noL d = true) → noLs ds = true
  | [], _ => by unfold noLs; rfl
  | d :: ds, h => by
    unfold noLs
    rw [h d List.mem_cons_self, noLs_all fun e he => h e (List.mem_cons_of_mem _ he)]
    rfl
section
variable {K : PySem.W.Frag} {G G' : Hp}
mutual
theorem Tr.rep : ∀ (d : D) (v : V) (L : List Addr), Tr G v d L → Rep K G v d
  | .non, _, _, .non => .non
  | .bl _, _, _, .bl b => .bl b
  | .int _, _, _, .int i => .int i
  | .str _, _, _, .str s => .str s
  | .raw _, _, _, .raw v => .raw v
  | .lst ds, _, _, .lst h r => .lst h (Trs.rep ds _ _ r)
  | .tup ds, _, _, .tup h r => .tup h (Trs.rep ds _ _ r)
theorem Trs.rep : ∀ (ds : List D) (vs : List V) (L : List Addr), Trs G vs ds L → Reps K G vs ds
  | [], _, _, .nil => .nil
  | d :: ds, _, _, .cons h t => .cons (Tr.rep d _ _ h) (Trs.rep ds _ _ t)
end
mutual
theorem Tr.agree {S : Addr → Prop} (h : ∀ a u, G a = some u → ((∃ vs, u = .tup vs) ∨ S a) → G' a = some u) : ∀ (d : D) (v : V) (L : List Addr), Tr G v d L → (∀ a ∈ L, S a) → Tr G' v d L
  | .non, _, _, .non, _ => .non
  | .bl _, _, _, .bl b, _ => .bl b
  | .int _, _, _, .int i, _ => .int i
  | .str _, _, _, .str s, _ => .str s
  | .raw _, _, _, .raw v, _ => .raw v
  | .lst ds, _, _, .lst g r, q => .lst (h _ _ g (.inr (q _ List.mem_cons_self))) (Trs.agree h ds _ _ r fun a m => q a (List.mem_cons_of_mem _ m))
  | .tup ds, _, _, .tup g r, q => .tup (h _ _ g (.inl ⟨_, rfl⟩)) (Trs.agree h ds _ _ r q)
theorem Trs.agree {S : Addr → Prop} (h : ∀ a u, G a = some u → ((∃ vs, u = .tup vs) ∨ S a) → G' a = some u) : ∀ (ds : List D) (vs : List V) (L : List Addr), Trs G vs ds L → (∀ a ∈ L, S a) → Trs G' vs ds L
  | [], _, _, .nil, _ => .nil
  | d :: ds, _, _, .cons g t, q => .cons (Tr.agree h d _ _ g fun a m => q a (List.mem_append_left _ m)) (Trs.agree h ds _ _ t fun a m => q a (List.mem_append_right _ m))
end
mutual
theorem Tr.isL : ∀ (d : D) (v : V) (L : List Addr), Tr G v d L → ∀ a ∈ L, ∃ vs, G a = some (.lst vs)
  | .non, _, _, .non, _, m => nomatch m
  | .bl _, _, _, .bl b, _, m => nomatch m
  | .int _, _, _, .int i, _, m => nomatch m
  | .str _, _, _, .str s, _, m => nomatch m
  | .raw _, _, _, .raw v, _, m => nomatch m
  | .lst ds, _, _, .lst (L := L) g r, a, m => by
    rcases List.mem_cons.mp m with e | m
    · rw [e]; exact ⟨_, g⟩
    · exact Trs.isL ds _ L r a m
  | .tup ds, _, _, .tup g r, a, m => Trs.isL ds _ _ r a m
theorem Trs.isL : ∀ (ds : List D) (vs : List V) (L : List Addr), Trs G vs ds L → ∀ a ∈ L, ∃ vs, G a = some (.lst vs)
  | [], _, _, .nil, _, m => nomatch m
  | d :: ds, _, _, .cons (L1 := L1) (L2 := L2) g t, a, m => by
    rcases List.mem_append.mp m with m | m
    · exact Tr.isL d _ L1 g a m
    · exact Trs.isL ds _ L2 t a m
end
mutual
theorem Tr.of_noL : ∀ (d : D) (v : V), noL d = true → Rep K G v d → Tr G v d []
  | .non, _, _, .non => .non
  | .bl _, _, _, .bl b => .bl b
  | .int _, _, _, .int i => .int i
  | .str _, _, _, .str s => .str s
  | .raw _, _, _, .raw v => .raw v
  | .tup ds, _, h, .tup g r => .tup g (Trs.of_noL ds _ (by unfold noL at h; exact h) r)
theorem Trs.of_noL : ∀ (ds : List D) (vs : List V), noLs ds = true → Reps K G vs ds → Trs G vs ds []
  | [], _, _, .nil => .nil
  | d :: ds, _, h, .cons g t => by
    unfold noLs at h
    rw [Bool.and_eq_true] at h
    exact .cons (L1 := []) (L2 := []) (Tr.of_noL d _ h.1 g) (Trs.of_noL ds _ h.2 t)
end
theorem Tr.mono (e : Ex G G') {v : V} {d : D} {L : List Addr} (h : Tr G v d L) : Tr G' v d L := h.agree (S := fun _ => True) (fun a u g _ => e a u g) _ _ _ fun _ _ => trivial
theorem Trs.mono (e : Ex G G') {vs : List V} {ds : List D} {L : List Addr} (h : Trs G vs ds L) : Trs G' vs ds L := Trs.agree (S := fun _ => True) (fun a u g _ => e a u g) _ _ _ h fun _ _ => trivial
theorem Trs.append {vs ws : List V} {ds es : List D} {L M : List Addr} (h : Trs G vs ds L) (k : Trs G ws es M) : Trs G (vs ++ ws) (ds ++ es) (L ++ M) := by
  induction ds generalizing vs L with
  | nil => cases h; exact k
  | cons d ds ih =>
    cases h with
    | cons a b =>
      rw [List.append_assoc]
      exact .cons a (ih b)
theorem Trs.one {v : V} {d : D} {L : List Addr} (h : Tr G v d L) : Trs G [v] [d] L := by
  have z := Trs.cons h .nil
  rwa [List.append_nil] at z
theorem Trs.inv1 {v : V} {d : D} {L : List Addr} (h : Trs G [v] [d] L) : Tr G v d L := by
  cases h with
  | cons a b => cases b; rw [List.append_nil]; exact a
theorem Trs.length {vs : List V} {ds : List D} {L : List Addr} (h : Trs G vs ds L) : vs.length = ds.length := by
  induction ds generalizing vs L with
  | nil => cases h; rfl
  | cons d ds ih => cases h with | cons a b => rw [List.length_cons, List.length_cons, ih b]
end

/-- at the addresses of L the one, else the other -/
def onL (L : List Addr) (H G : Hp) : Hp := fun a => if a ∈ L then H a else G a
theorem onL_in {L : List Addr} {H G : Hp} {a : Addr} (h : a ∈ L) : onL L H G a = H a := if_pos h
theorem onL_out {L : List Addr} {H G : Hp} {a : Addr} (h : a ∉ L) : onL L H G a = G a := if_neg h
theorem onL_nil {H G : Hp} : onL [] H G = G := by funext a; exact onL_out (fun z => nomatch z)
theorem onL_app {L M : List Addr} {H G : Hp} : onL (L ++ M) H G = onL M H (onL L H G) := by
  funext a
  unfold onL
  by_cases h1 : a ∈ M
  · rw [if_pos h1, if_pos (List.mem_append_right _ h1)]
  · rw [if_neg h1]
    by_cases h2 : a ∈ L
    · rw [if_pos h2, if_pos (List.mem_append_left _ h2)]
    · rw [if_neg h2, if_neg (fun m => (List.mem_append.mp m).elim h2 h1)]
theorem onL_ex {L : List Addr} {H G : Hp} (h : ∀ a ∈ L, G a = none) : Ex G (onL L H G) := fun a o e => by
  rw [onL_out]
  · exact e
  · intro m; rw [h a m] at e; cases e
theorem onL_eq {L : List Addr} {H H' G : Hp} (h : ∀ a ∈ L, H a = H' a) : onL L H G = onL L H' G := by
  funext a
  unfold onL
  by_cases m : a ∈ L
  · rw [if_pos m, if_pos m, h a m]
  · rw [if_neg m, if_neg m]
theorem onL_sub {L : List Addr} {H G : Hp} (h : Ex G H) : Ex (onL L H G) H := fun a o e => by
  by_cases m : a ∈ L
  · rw [onL_in m] at e; exact e
  · rw [onL_out m] at e; exact h a o e
theorem onL_mono {L : List Addr} {H H' G G' : Hp} (h : ∀ a ∈ L, H a = H' a) (e : Ex G G') : Ex (onL L H G) (onL L H' G') := fun a o q => by
  by_cases m : a ∈ L
  · rw [onL_in m] at q ⊢; rw [← h a m]; exact q
  · rw [onL_out m] at q ⊢; exact e a o q

/-- private trees: beside the view and the frame -/
structure Prv (K : PySem.W.Frag) (B : Bs) (σ : L2.St) (G H : Hp) (ρ : List Sl) (vs : List V) (ds : List D) (L : List Addr) : Prop where
  sr : SR K ⟨B.V0, onL L H B.F⟩ σ G H ρ
  fr : ∀ a ∈ L, B.F a = none ∧ G a = none
  tr : Trs (onL L H G) vs ds L
  nd : L.Nodup
section
variable {K : PySem.W.Frag} {B : Bs} {σ σ' : L2.St} {G G' H H' F F' : Hp} {ρ ρ' : List Sl} {v : V} {vs ws : List V} {d : D} {ds es : List D} {L M : List Addr}
theorem SlotR.frame {x : Option V} {r : Sl} (h : SlotR K F G H x r) (q : ∀ p, Own r → x = some (.ref p) → F' p = none) : SlotR K F' G H x r := by
  cases r with
  | no => exact trivial
  | fz d => exact h
  | kn w d => exact h
  | ow ds => obtain ⟨p, vs, h1, h2, h3, h4, h5⟩ := h; exact ⟨p, vs, h1, h2, q p trivial h1, h4, h5⟩
  | od ds => obtain ⟨p, h1, h2, h3, h4⟩ := h; exact ⟨p, h1, h2, q p trivial h1, h4⟩
  | op p ds => obtain ⟨vs, h1, h2, h3, h4, h5⟩ := h; exact ⟨vs, h1, h2, q p trivial h1, h4, h5⟩
/-- a smaller frame -/
theorem SR.loose {V0 : Hp} (S : SR K ⟨V0, F⟩ σ G H ρ) (e : Ex F' F) : SR K ⟨V0, F'⟩ σ G H ρ where
  e1 := S.e1
  e2 := e.trans S.e2
  e3 := S.e3
  nw := fun a o h1 h2 => ex_none e (S.nw a o h1 h2)
  len := S.len
  sl := fun i r h => by
    obtain ⟨x, h1, h2⟩ := S.sl i r h
    refine ⟨x, h1, h2.frame fun p o ex => ?_⟩
    subst ex
    exact ex_none e (S.own ⟨h1, r, h, o⟩).2.1
  ne := S.ne
theorem Prv.there (P : Prv K B σ G H ρ vs ds L) : ∀ a ∈ L, ∃ us, H a = some (.lst us) := fun a m => by
  obtain ⟨us, h⟩ := P.tr.isL _ _ _ a m
  rw [onL_in m] at h
  exact ⟨us, h⟩
theorem Prv.exF (P : Prv K B σ G H ρ vs ds L) : Ex B.F (onL L H B.F) := onL_ex fun a m => (P.fr a m).1
theorem Prv.exG (P : Prv K B σ G H ρ vs ds L) : Ex G (onL L H G) := onL_ex fun a m => (P.fr a m).2
/-- the trees forgotten -/
theorem Prv.drop (P : Prv K B σ G H ρ vs ds L) : SR K B σ G H ρ := P.sr.loose P.exF
/-- one's own isn't in the trees -/
theorem Prv.away (P : Prv K B σ G H ρ vs ds L) {i : Nat} {p : Addr} (o : OwnAt σ ρ i p) : p ∉ L := fun m => by
  have h := (P.sr.own o).2.1
  have h' : onL L H B.F p = none := h
  obtain ⟨us, q⟩ := P.there p m
  rw [onL_in m, q] at h'
  cases h'
/-- the trees stand for good from now on -/
theorem Prv.frz (P : Prv K B σ G H ρ vs ds L) : SR K B σ (onL L H G) H ρ where
  e1 := P.sr.e1.trans P.exG
  e2 := P.drop.e2
  e3 := onL_sub P.sr.e3
  nw := fun a o h1 h2 => by
    by_cases m : a ∈ L
    · exact (P.fr a m).1
    · rw [onL_out m] at h1
      exact P.drop.nw a o h1 h2
  len := P.sr.len
  sl := fun i r h => by
    obtain ⟨x, h1, h2⟩ := P.drop.sl i r h
    refine ⟨x, h1, h2.grow P.exG (fun _ _ _ _ z => z) fun p o ex hp _ => ?_⟩
    subst ex
    rw [onL_out (P.away ⟨h1, r, h, o⟩)]
    exact hp
  ne := P.sr.ne
/-- something was done beside them -/
theorem Prv.step (P : Prv K B σ G H ρ vs ds L) (S : SR K ⟨B.V0, onL L H B.F⟩ σ' G' H' ρ') (e : Ex G G') : Prv K B σ' G' H' ρ' vs ds L := by
  have same : ∀ a ∈ L, H a = H' a := fun a m => by
    obtain ⟨us, q⟩ := P.there a m
    rw [q]
    exact (S.e2 a _ (by show onL L H B.F a = _; rw [onL_in m]; exact q)).symm
  refine ⟨by rw [← onL_eq same]; exact S, fun a m => ⟨(P.fr a m).1, ?_⟩, P.tr.mono (onL_mono same e), P.nd⟩
  cases q : G' a with
  | none => rfl
  | some o =>
    have z := S.nw a o q (by cases q2 : B.V0 a with
      | none => rfl
      | some u => have := P.sr.e1 a u q2; rw [(P.fr a m).2] at this; cases this)
    obtain ⟨us, q3⟩ := P.there a m
    have z' : onL L H B.F a = none := z
    rw [onL_in m, q3] at z'
    cases z'
/-- .. and a tree came -/
theorem Prv.add (P : Prv K B σ G H ρ vs ds L) (Q : Prv K ⟨B.V0, onL L H B.F⟩ σ' G' H' ρ' ws es M) (e : Ex G G') : Prv K B σ' G' H' ρ' (vs ++ ws) (ds ++ es) (L ++ M) := by
  have P' := P.step Q.drop e
  have same : ∀ a ∈ L, H a = H' a := fun a m => by
    obtain ⟨us, q⟩ := P.there a m
    rw [q]
    exact (Q.drop.e2 a _ (by show onL L H B.F a = _; rw [onL_in m]; exact q)).symm
  have apart : ∀ a ∈ L, a ∉ M := fun a m m2 => by
    have z : onL L H B.F a = none := (Q.fr a m2).1
    obtain ⟨us, q3⟩ := P.there a m
    rw [onL_in m, q3] at z
    cases z
  have eF : onL M H' (onL L H B.F) = onL (L ++ M) H' B.F := by rw [onL_app, onL_eq same]
  refine ⟨by have z := Q.sr; rw [show onL M H' (Bs.F ⟨B.V0, onL L H B.F⟩) = onL (L ++ M) H' B.F from eF] at z; exact z, fun a m => ?_, ?_, ?_⟩
  · rcases List.mem_append.mp m with m | m
    · exact P'.fr a m
    · refine ⟨?_, (Q.fr a m).2⟩
      have z : onL L H B.F a = none := (Q.fr a m).1
      exact ex_none P.exF z
  · refine Trs.append (P'.tr.mono ?_) (Q.tr.mono ?_)
    · rw [onL_app]
      exact onL_ex fun a m => by
        rw [onL_out (fun m2 => apart a m2 m)]
        exact (Q.fr a m).2
    · rw [onL_app]
      refine onL_mono (fun _ _ => rfl) (onL_ex fun a m => (P'.fr a m).2)
  · exact List.nodup_append.mpr ⟨P.nd, Q.nd, fun a m b m2 e => apart a m (e ▸ m2)⟩
theorem Prv.nil (S : SR K B σ G H ρ) : Prv K B σ G H ρ [] [] [] := ⟨by rw [onL_nil]; exact S, fun _ m => (nomatch m), .nil, .nil⟩
theorem Prv.flat (S : SR K B σ G H ρ) (n : noL d = true) (r : Rep K G v d) : Prv K B σ G H ρ [v] [d] [] := ⟨by rw [onL_nil]; exact S, fun _ m => (nomatch m), .one (.of_noL d v n (by rw [onL_nil]; exact r)), .nil⟩
theorem Prv.own (S : SR K B σ G H ρ) (n : noLs ds = true) (r : ValR K B σ ρ G H v (.ow ds)) : ∃ p, Prv K B σ G H ρ [v] [.lst ds] [p] := by
  obtain ⟨_, ⟨p, vs, e, h1, h2, h3, h4⟩, h5⟩ := r
  cases e
  have ap : ∀ i, ¬ OwnAt σ ρ i p := h5 trivial p rfl
  refine ⟨p, ⟨S.e1, fun a o q => ?_, S.e3, fun a o q q2 => ?_, S.len, fun i r h => ?_, S.ne⟩, fun a m => ?_, ?_, List.nodup_cons.mpr ⟨(fun z => nomatch z), List.nodup_nil⟩⟩
  · have q' : onL [p] H B.F a = some o := q
    by_cases m : a ∈ [p]
    · rw [onL_in m] at q'; exact q'
    · rw [onL_out m] at q'; exact S.e2 a o q'
  · show onL [p] H B.F a = none
    rw [onL_out]
    · exact S.nw a o q q2
    · intro m
      rw [List.mem_singleton.mp m, h1] at q
      cases q
  · obtain ⟨x, z1, z2⟩ := S.sl i r h
    refine ⟨x, z1, z2.frame fun p' o ex => ?_⟩
    subst ex
    show onL [p] H B.F p' = none
    rw [onL_out]
    · exact (S.own ⟨z1, r, h, o⟩).2.1
    · intro m
      have e := List.mem_singleton.mp m
      subst e
      exact ap i ⟨z1, r, h, o⟩
  · rw [List.mem_singleton.mp m]; exact ⟨h2, h1⟩
  · refine .one (.lst (L := []) ?_ (.of_noL ds vs n (h4.mono (onL_ex fun a m => ?_))))
    · rw [onL_in List.mem_cons_self]; exact h3
    · rw [List.mem_singleton.mp m]; exact h1
end
section
variable {K : PySem.W.Frag} {B : Bs} {σ σ' : L2.St} {G G' H H' : Hp} {ρ ρ' : List Sl} {v : V} {vs ws : List V} {d : D} {ds es : List D} {L M : List Addr}
/-- a wider frame -/
theorem SR.tight (S : SR K B σ G H ρ) (h1 : ∀ a ∈ L, G a = none) (h2 : ∀ i p, OwnAt σ ρ i p → p ∉ L) : SR K ⟨B.V0, onL L H B.F⟩ σ G H ρ where
  e1 := S.e1
  e2 := onL_sub S.e2
  e3 := S.e3
  nw := fun a o q q2 => by
    show onL L H B.F a = none
    rw [onL_out (fun m => by rw [h1 a m] at q; cases q)]
    exact S.nw a o q q2
  len := S.len
  sl := fun i r h => by
    obtain ⟨x, z1, z2⟩ := S.sl i r h
    refine ⟨x, z1, z2.frame fun p o ex => ?_⟩
    subst ex
    have z : OwnAt σ ρ i p := ⟨z1, r, h, o⟩
    show onL L H B.F p = none
    rw [onL_out (h2 i p z)]
    exact (S.own z).2.1
  ne := S.ne
/-- what the trees hold is changed -/
theorem Prv.change (P : Prv K B σ G H ρ vs ds L) (h1 : ∀ a, a ∉ L → ∀ o, H a = some o → H' a = some o) (t : Trs (onL L H' G) ws es L) : Prv K B σ G H' ρ ws es L := by
  have S := P.drop
  have S' : SR K B σ G H' ρ := ⟨S.e1, fun a o q => h1 a (fun m => by rw [(P.fr a m).1] at q; cases q) o (S.e2 a o q), fun a o q => h1 a (fun m => by rw [(P.fr a m).2] at q; cases q) o (S.e3 a o q), S.nw, S.len, fun i r h => by
    obtain ⟨x, z1, z2⟩ := S.sl i r h
    refine ⟨x, z1, z2.grow (Evl.Ex.refl G) (fun p u o ex q => ?_) fun _ _ _ z _ => z⟩
    subst ex
    exact h1 p (P.away ⟨z1, r, h, o⟩) u q, S.ne⟩
  exact ⟨S'.tight (fun a m => (P.fr a m).2) fun i p o => P.away o, P.fr, t, P.nd⟩
theorem Prv.tree (P : Prv K B σ G H ρ vs ds L) (t : Trs (onL L H G) ws es L) : Prv K B σ G H ρ ws es L := ⟨P.sr, P.fr, t, P.nd⟩
/-- a name is stored -/
theorem Prv.set {i : Nat} {w : V} {e : D} (P : Prv K B σ G H ρ vs ds L) (r : Rep K G w e) : Prv K B (σ.set i (some w)) G H (ρ.set i (.fz e)) vs ds L := ⟨P.sr.set (.of r), P.fr, P.tr, P.nd⟩
end

structure PDP (X : Cx) (e : Expr) (ρ ρ' : List Sl) (d : D) : Prop where
  run : ∀ (B : Bs) (σ : L2.St) (G H : Hp) (Q : VK), SR X.K B σ G H ρ → (∀ v G' H' L, Ex G G' → Prv X.K B σ G' H' ρ' [v] [d] L → Q v H') → wpE X e σ H Q
structure PAP (X : Cx) (es : List Expr) (ρ ρ' : List Sl) (ds : List D) : Prop where
  run : ∀ (B : Bs) (σ : L2.St) (G H : Hp) (Q : List V → Hp → Prop), SR X.K B σ G H ρ → (∀ vs G' H' L, Ex G G' → Prv X.K B σ G' H' ρ' vs ds L → Q vs H') → wpA X es σ H Q
/-- a def's promise: a tree of its own -/
abbrev TD := List D → D → Prop
def SpT (K : PySem.W.Frag) (f : TD) : Sp := fun vs H Q _ => ∃ (G : Hp) (ds : List D) (d : D), Ex G H ∧ Reps K G vs ds ∧ f ds d ∧
  ∀ v G' H' L, Ex G G' → Ex H H' → Ex G' H' → (∀ a o, G' a = some o → G a = none → H a = none) → (∀ a ∈ L, H a = none ∧ G' a = none) → Trs (onL L H' G') [v] [d] L → L.Nodup → Q v H'
structure OkT (P : Program) (w : World) (K : PySem.W.Frag) (mg : Str → Option Value) (base : Heap) (k : Nat) (x : Str) (f : TD) : Prop where
  ex : ∃ (fa : Addr) (fd : FuncData) (ps : List Str), FnOk P w K mg base (L2.CX P w) k fa fd ps (SpT K f) ∧ mg x = some (.ref fa) ∧ PySem.W.keepIn K (.ref fa) = true ∧ Binds K fd ps []
section
variable {P : Program} {w : World} {K : PySem.W.Frag} {mg : Str → Option Value} {base : Heap}
theorem OkT.mono {j k : Nat} {x : Str} {f : TD} (h : OkT P w K mg base j x f) (l : j ≤ k) : OkT P w K mg base k x f := by
  obtain ⟨fa, fd, ps, h1, h2⟩ := h.ex
  exact ⟨fa, fd, ps, h1.mono l, h2⟩
end

section
variable {X : Cx} {e : Expr} {es : List Expr} {ρ ρ1 ρ2 : List Sl} {r : Sl} {d : D} {ds : List D} {x : Str} {pos p : Pos}
theorem pdp_eq {d' : D} (h : PDP X e ρ ρ1 d) (q : d = d') : PDP X e ρ ρ1 d' := q ▸ h
theorem pdp_flat (h : PD X e ρ ρ1 (.fz d)) (n : noL d = true) : PDP X e ρ ρ1 d := .mk fun B σ G H Q S k =>
  h B σ G H Q S fun v G1 H1 e1 S1 r1 => k v G1 H1 [] e1 (.flat S1 n r1.rep)
theorem pdp_own (h : PD X e ρ ρ1 (.ow ds)) (n : noLs ds = true) : PDP X e ρ ρ1 (.lst ds) := .mk fun B σ G H Q S k =>
  h B σ G H Q S fun v G1 H1 e1 S1 r1 => by
    obtain ⟨p, P⟩ := Prv.own S1 n r1
    exact k v G1 H1 [p] e1 P
theorem pap_nil : PAP X [] ρ ρ [] := .mk fun B σ G H Q S k => wpA_of pa_nil (k [] G H [] (Evl.Ex.refl G) (.nil S))
theorem pap_cons (ha : PDP X e ρ ρ1 d) (hr : PAP X es ρ1 ρ2 ds) (hs : starEach (e :: es) X.env = (false, eval e X.env) :: starEach es X.env := by rfl) : PAP X (e :: es) ρ ρ2 (d :: ds) := .mk fun B σ G H Q S k =>
  wpA_of (pa_cons canE canA hs) (ha.run B σ G H _ S fun v G1 H1 L e1 P1 => hr.run _ σ G1 H1 _ P1.sr fun vs G2 H2 M e2 P2 => k (v :: vs) G2 H2 (L ++ M) (e1.trans e2) (P1.add P2 e2))
theorem pdp_tup {x1} (h : PAP X es ρ ρ1 ds) (hl : ds.length ≤ 100000 := by decide) : PDP X (.Tuple es x1 pos) ρ ρ1 (.tup ds) := .mk fun B σ G H Q S k =>
  wpE_of (pe_tup canA) (h.run B σ G H _ S fun vs G1 H1 L e1 P1 => ⟨by rw [P1.tr.length]; exact small hl, fun p hp => by
    have e2 : Ex G1 (upd G1 p (.tup vs)) := Evl.Ex.new (ex_none P1.sr.e3 hp)
    have P2 := P1.step (P1.sr.allocV (o := .tup vs) hp) e2
    have np : p ∉ L := fun m => by
      obtain ⟨us, q⟩ := P1.there p m
      rw [hp] at q; cases q
    refine k _ (upd G1 p (.tup vs)) _ L (e1.trans e2) (P2.tree (.one (.tup ?_ P2.tr)))
    rw [onL_out np]
    exact upd_same⟩)
theorem pdp_call {f : TD} {k : Nat} (F : OkT X.prog X.w X.K X.mg X.base k x f) (hr : Room k X.A) (hg : Gl X x) (ha : PAD X (e :: es) ρ ρ1 ds) (hf : f ds d) (hdb : (x == ("__debug__" : Str)) = false)
    (he : starEach (e :: es) X.env = (false, eval e X.env) :: starEach es X.env) (hpl : (backTo pos (starEach es X.env)).any (·.1) = false) : PDP X (.Call (.Name x p) (e :: es) [] pos) ρ ρ1 d := .mk fun B σ G0 H Q S k => by
  obtain ⟨fa, fd, ps, F, hm, hk, hb⟩ := F.ex
  refine wpE_of (pe_call F hr hg hm hk hb .nil passL canA hdb he hpl) ?_
  refine ha B σ G0 H _ S fun vs G1 H1 e1 S1 r1 => ?_
  rw [List.append_nil]
  refine ⟨G1, ds, d, S1.e3, r1, hf, fun v G' H' L g1 g2 g3 g4 g5 g6 g7 => ?_⟩
  have S2 := S1.call g1 g2 g3 g4
  refine k v G' H' L (e1.trans g1) ⟨S2.tight (fun a m => (g5 a m).2) fun i p o m => ?_, fun a m => ⟨ex_none S1.e2 (g5 a m).1, (g5 a m).2⟩, g6, g7⟩
  obtain ⟨_, _, u, q⟩ := S1.own o
  rw [(g5 p m).1] at q
  cases q
/-- a private tree, for good from now on -/
theorem pd_pdp (h : PDP X e ρ ρ1 d) : PD X e ρ ρ1 (.fz d) := .mk fun B σ G H Q S k => h.run B σ G H Q S fun v G1 H1 L e1 P1 =>
  k v _ H1 (e1.trans P1.exG) P1.frz (.of (Tr.rep _ _ _ P1.tr.inv1))
end

structure PST (X : Cx) (sts : List Stmt) (ρ : List Sl) (E : En) (T : D → Prop) : Prop where
  run : ∀ (B : Bs) (σ : L2.St) (G H : Hp) (M : Ends), SR X.K B σ G H ρ → EnOk X.K B G E M → (∀ v σ' ρ' G' H' d L, Ex G G' → Prv X.K B σ' G' H' ρ' [v] [d] L → T d → M.rt v H') → wpB X sts M σ H
structure PST1 (X : Cx) (st : Stmt) (ρ : List Sl) (E : En) (T : D → Prop) : Prop where
  run : ∀ (B : Bs) (σ : L2.St) (G H : Hp) (M : Ends), SR X.K B σ G H ρ → EnOk X.K B G E M → (∀ v σ' ρ' G' H' d L, Ex G G' → Prv X.K B σ' G' H' ρ' [v] [d] L → T d → M.rt v H') → wpS X st M σ H
section
variable {X : Cx} {st : Stmt} {sts rest s1 s2 : List Stmt} {c e : Expr} {ρ ρ1 : List Sl} {E : En} {T : D → Prop} {d : D} {pos : Pos}
theorem pst_of (h : PSD X sts ρ E) : PST X sts ρ E T := .mk fun B σ G H M S k _ => h B σ G H M S k
theorem pst1_of (h : PS1 X st ρ E) : PST1 X st ρ E T := .mk fun B σ G H M S k _ => h B σ G H M S k
theorem pst_nil (h : E.nx ρ) : PST X [] ρ E T := pst_of (psd_nil h)
theorem pst_one (h : PST1 X st ρ E T) : PST X [st] ρ E T := .mk fun B σ G H M S k t => wpB_of (pss_one canS) (h.run B σ G H M S k t)
theorem pst_cons1 (h : PST1 X st ρ { E with nx := fun ρ' => PST X rest ρ' E T } T) : PST X (st :: rest) ρ E T := .mk fun B σ G H M S k t =>
  wpB_of (pss_cons canS canB) (h.run B σ G H _ S ⟨fun σ' G' H' ρ' e S' q => q.run B σ' G' H' M S' (k.mono e) (fun v σ2 ρ2 G2 H2 d2 L2 e2 => t v σ2 ρ2 G2 H2 d2 L2 (e.trans e2)), k.rt, k.bk, k.ct⟩ t)
theorem pst_cons (h : PS1 X st ρ { E with nx := fun ρ' => PST X rest ρ' E T }) : PST X (st :: rest) ρ E T := pst_cons1 (pst1_of h)
theorem pst1_if {k : Bool} (hc : PTD X c ρ ρ1 k) (h1 : k = true → PST X s1 ρ1 E T) (h2 : k = false → PST X s2 ρ1 E T) : PST1 X (.If c s1 s2 pos) ρ E T := .mk fun B σ G H M S q t =>
  wpS_of (ps_if canT canB canB) (hc B σ G H _ S fun G1 H1 e1 S1 => by
    have t1 : ∀ v σ' ρ' G' H' d L, Ex G1 G' → Prv X.K B σ' G' H' ρ' [v] [d] L → T d → M.rt v H' := fun v σ2 ρ2 G2 H2 d2 L2 e2 => t v σ2 ρ2 G2 H2 d2 L2 (e1.trans e2)
    cases k with
    | true => exact iteT ((h1 rfl).run B σ G1 H1 M S1 (q.mono e1) t1)
    | false => exact iteF ((h2 rfl).run B σ G1 H1 M S1 (q.mono e1) t1))
theorem pst1_ret (he : PDP X e ρ ρ1 d) (h : T d) : PST1 X (.Return (some e) pos) ρ E T := .mk fun B σ G H M S k t =>
  wpS_of (ps_ret canE) (he.run B σ G H _ S fun v G1 H1 L e1 P1 => t v σ ρ1 G1 H1 d L e1 P1 h)
theorem pst_ret (he : PDP X e ρ ρ1 d) (h : T d) : PST X [.Return (some e) pos] ρ E T := pst_one (pst1_ret he h)
end
theorem okt_mk {P : Program} {w : World} {K : PySem.W.Frag} {mg : Str → Option Value} {base : Heap} {k : Nat} {x : Str} {st : Stmt} {N ps : List Str} {f : TD} (F : Def K mg x st ps) (S : FnScope N ps (defScope st)) (len : ∀ ds d, f ds d → ds.length = ps.length)
    (body : ∀ (fa : Addr) (cd : Value) (A : Around) (outer : List Env) (s : Shared) (H : Hp) (E : XK) (ds : List D) (d : D), Room k (CxN P w K mg base N x st fa cd A outer s H E).A → f ds d →
      PST (CxN P w K mg base N x st fa cd A outer s H E) (defBody st) (startR N ds) { nx := fun _ => False, rt := fun _ => False } (fun d' => d' = d)) : OkT P w K mg base (k + 1) x f := by
  obtain ⟨fa, fd, F, hm, hb⟩ := F.ex
  refine ⟨fa, fd, ps, F.okX S (fun vs H Q E h => ?_) (fun cdv A outer s H vs Q E hr h => ?_), hm, F.kp, hb⟩
  · obtain ⟨G, ds, d, _, hr, hf, _⟩ := h
    rw [hr.length, len ds d hf]
  · obtain ⟨G, ds, d, eG, hrep, hf, q⟩ := h
    refine ⟨_, PSs.nox (canB (X := CxN P w K mg base N x st fa cdv A outer s H E)), ?_⟩
    refine (body fa cdv A outer s H E ds d hr hf).run ⟨G, H⟩ (L2.start N vs) G H _ (sr_start eG hrep) ⟨fun _ _ _ _ _ _ z => z.elim, fun _ _ _ _ _ _ _ _ _ _ z => z.elim, fun _ _ _ _ _ _ z => z.elim, fun _ _ _ _ _ _ z => z.elim⟩ ?_
    rintro v σ' ρ' G' H' d' L e P rfl
    exact q v G' H' L e P.drop.e2 P.sr.e3 P.drop.nw P.fr P.tr P.nd

/-- the state between two turns -/
def CmP (K : PySem.W.Frag) (σ : L2.St) (ρ : List Sl) (G1 F0 : Hp) (Dl : Addr) (ds : List D) (H' : Hp) : Prop :=
  ∃ G' acc L, Ex G1 G' ∧ Prv K ⟨G1, F0⟩ σ G' H' ρ (.ref Dl :: acc) (.lst (acc.map .raw) :: ds) (Dl :: L)
theorem reps_raw {K : PySem.W.Frag} {H : Hp} : ∀ {vs acc : List V}, Reps K H vs (acc.map .raw) → vs = acc
  | [], [], _ => rfl
  | v :: vs, [], h => by cases h
  | [], a :: acc, h => by cases h
  | v :: vs, a :: acc, h => by
    cases h with
    | cons r t => cases r; rw [reps_raw t]
theorem trs_raw {G : Hp} : ∀ (vs : List V), Trs G vs (vs.map .raw) []
  | [] => .nil
  | v :: vs => .cons (L1 := []) (.raw v) (trs_raw vs)
theorem Trs.inv {G : Hp} {v : V} {d : D} {vs : List V} {ds : List D} {L : List Addr} (h : Trs G (v :: vs) (d :: ds) L) : ∃ L1 L2, L = L1 ++ L2 ∧ Tr G v d L1 ∧ Trs G vs ds L2 := by
  cases h with
  | cons a b => exact ⟨_, _, rfl, a, b⟩
theorem tr_raw_inv {G : Hp} {p : Addr} {acc : List V} {L : List Addr} (h : Tr G (.ref p) (.lst (acc.map .raw)) L) : G p = some (.lst acc) ∧ L = [p] := by
  cases h with
  | @lst _ vs _ L q t =>
    have e := reps_raw (K := default) (t.rep (K := default))
    subst e
    refine ⟨q, ?_⟩
    have : ∀ {ws : List V} {M : List Addr}, Trs G ws (ws.map .raw) M → M = [] := by
      intro ws
      induction ws with
      | nil => intro M t; cases t; rfl
      | cons w ws ih => intro M t; cases t with | cons a b => cases a; rw [ih b]; rfl
    rw [this t]
theorem sr_unset {K : PySem.W.Frag} {B : Bs} {σ : L2.St} {G H : Hp} {ρ : List Sl} {j : Nat} {x : Option V} {d : D} (S : SR K B (σ.set j x) G H (ρ.set j (.fz d))) (hl : σ.length = ρ.length) (hj : ∀ r, ρ[j]? = some r → r = .no) : SR K B σ G H ρ := by
  refine ⟨S.e1, S.e2, S.e3, S.nw, hl, fun i r h => ?_, fun i k p a b => ?_⟩
  · by_cases ei : i = j
    · subst ei
      have z := hj r h
      subst z
      have hi : i < σ.length := by rw [hl]; exact (List.getElem?_eq_some_iff.mp h).1
      exact ⟨_, List.getElem?_eq_getElem hi, trivial⟩
    · have q := S.sl i r (by rw [List.getElem?_set_ne (Ne.symm ei)]; exact h)
      rw [List.getElem?_set_ne (Ne.symm ei)] at q
      exact q
  · have up : ∀ i, OwnAt σ ρ i p → OwnAt (σ.set j x) (ρ.set j (.fz d)) i p := fun i ⟨h1, r, h2, o⟩ => by
      have ei : i ≠ j := by
        rintro rfl
        have z := hj r h2
        subst z
        exact False.elim o
      exact ⟨by rw [List.getElem?_set_ne (Ne.symm ei)]; exact h1, r, by rw [List.getElem?_set_ne (Ne.symm ei)]; exact h2, o⟩
    exact S.ne i k p (up i a) (up k b)
section
variable {X : Cx} {ρ ρ0 : List Sl} {elt src : Expr} {scope : Scope} {x : Str} {tp pos : Pos}
theorem pdp_lcL {α : Type} (j : Nat) (own : List (Str × Nat)) {xs : List α} (enc : α → D) (v : α → D) (hsrc : PD X src ρ ρ0 (.fz (.lst (xs.map enc)))) (hl : xs.length ≤ 50000) (hj : j ∈ own.map (·.2))
    (he : ∀ (s : Shared) (H : Hp) (C : Addr) (cl : List (Str × Addr)) (fp : List Addr) (i : Nat) (a : α), xs[i]? = some a → PDP (Blk X scope s H C cl fp) elt ((wipeR ρ0 (own.map (·.2))).set j (.fz (enc a))) ((wipeR ρ0 (own.map (·.2))).set j (.fz (enc a))) (v a))
    (hc : X.calm = true) (hN : X.N.Nodup) (ok : BlkOk X.N X.env.scope scope own) (hx : X.N[j]? = some x)
    (hloc : ∀ (s : Shared) (H : Hp) (C : Addr) (cl : List (Str × Addr)) (fp : List Addr), Loc (Blk X scope s H C cl fp).env.scope x)
    (hf : ∀ (s : Shared) (H : Hp) (C : Addr) (cl : List (Str × Addr)) (fp : List Addr), (Blk X scope s H C cl fp).fn x = true ∨ (Blk X scope s H C cl fp).env.scope.names.lookup x = some .local)
    (hs : ∀ x, foldedSetIterable src X.env x = pure x := by intro _; rfl) :
    PDP X (.ListComp elt [⟨.Name x tp, src, [], 0⟩] scope pos) ρ ρ0 (.lst (xs.map v)) := .mk fun B σ G H Q S k => by
  refine wpE_of (pe_lc (own := own) (g := gName j) (tt := allF X scope [])
    (te := allE X scope elt) hc hN (pi_list canE) ok
    (fun s H C cl fp => pg_name hN hx (hloc s H C cl fp) (hf s H C cl fp)) (fun s H C cl fp => ⟨fun pins s' σ' H' Q' I h => h s H C cl fp pins s' I⟩) (fun s H C cl fp => ⟨fun pins s' σ' H' Q' I h => h s H C cl fp pins s' I⟩) hs) ?_
  refine hsrc B σ G H _ S fun vv G1 H1 e1 S1 r1 => ?_
  have z := r1.rep
  cases z with
  | @lst l vs _ hlst hr =>
    refine ⟨l, rfl, ⟨vs, .inl (.inl (S1.e3 _ _ hlst))⟩, fun Dl hD => ?_⟩
    generalize eo : own.map (·.2) = ow at *
    have nD : ∀ i, ¬ OwnAt (wipe σ ow) (wipeR ρ0 ow) i Dl := (S1.wipe _).notOwn hD
    have f0 : ∀ i p, OwnAt (wipe σ ow) (wipeR ρ0 ow) i p → less (wipe σ ow) (wipeR ρ0 ow) H1 p = none := fun i p o => less_own o
    have fD : less (wipe σ ow) (wipeR ρ0 ow) H1 Dl = none := by rw [less_not nD]; exact hD
    have hlen : (wipe σ ow).length = (wipeR ρ0 ow).length := (S1.wipe _).len
    have ex0 : Ex B.F (less (wipe σ ow) (wipeR ρ0 ow) H1) := fun a o q => by
      rw [less_not]
      · exact S1.e2 a o q
      · intro i z
        have := ((S1.wipe ow).own z).2.1
        rw [this] at q; cases q
    have h0 : CmP X.K (wipe σ ow) (wipeR ρ0 ow) G1 (less (wipe σ ow) (wipeR ρ0 ow) H1) Dl [] (upd H1 Dl (.lst [])) := by
      have gD := ex_none S1.e3 hD
      have S0 : SR X.K ⟨G1, less (wipe σ ow) (wipeR ρ0 ow) H1⟩ (wipe σ ow) G1 (upd H1 Dl (.lst [])) (wipeR ρ0 ow) := ((S1.wipe _).re less_ex f0).alloc hD
      refine ⟨G1, [], [], Evl.Ex.refl G1, ⟨S0.tight (L := [Dl]) (fun a m => by rw [List.mem_singleton.mp m]; exact gD) (fun i p o m => nD i (by rw [← List.mem_singleton.mp m]; exact o)), fun a m => by rw [List.mem_singleton.mp m]; exact ⟨fD, gD⟩, ?_, List.nodup_cons.mpr ⟨(fun z => nomatch z), List.nodup_nil⟩⟩⟩
      refine .one (.lst (L := []) (vs := []) ?_ .nil)
      rw [onL_in List.mem_cons_self]
      exact upd_same
    refine lc_list (K := X.K) (a := l) (g := gName j) (tt := allF X scope []) (te := allE X scope elt) (vs := ow) (σ := σ) (Qd := Q (.ref Dl)) (xs := vs) (fun i H' => CmP X.K (wipe σ ow) (wipeR ρ0 ow) G1 (less (wipe σ ow) (wipeR ρ0 ow) H1) Dl ((xs.take i).map v) H') h0
      (fun i H' _ p => ?_) (fun i u H' hu p => ?_) (fun H' p => ?_)
    · obtain ⟨G', acc, L, e, P⟩ := p
      exact .inl (.inl (P.sr.e3 _ _ (e _ _ hlst)))
    · obtain ⟨d, hd, hrd⟩ := hr.getV hu
      rw [List.getElem?_map] at hd
      cases q : xs[i]? with
      | none => rw [q] at hd; cases hd
      | some a =>
        rw [q] at hd
        cases hd
        have hi : i < xs.length := (List.getElem?_eq_some_iff.mp q).1
        obtain ⟨G', acc, L, e, P⟩ := p
        refine ⟨wipe_set hj, ?_⟩
        have P1 := P.set (i := j) (hrd.mono e)
        intro s H C cl fp
        refine tsd_nil ⟨G1, onL (Dl :: L) H' (less (wipe σ ow) (wipeR ρ0 ow) H1)⟩ _ G' H' _ P1.sr fun G2 H2 e2 S2 => ?_
        have P2 := P1.step S2 e2
        show (if true = true then _ else _)
        rw [if_pos rfl]
        intro s' H0 C' cl' fp'
        refine (he s' H0 C' cl' fp' i a q).run _ _ G2 H2 _ P2.sr fun w G3 H3 M e3 P3 => ?_
        have P4 := P2.add P3 e3
        rw [List.cons_append, List.cons_append, List.cons_append] at P4
        have tr := P4.tr
        obtain ⟨L1, L2, eL, t1, t2⟩ := tr.inv
        obtain ⟨q1, q2⟩ := tr_raw_inv t1
        subst q2
        have eL2 : L2 = L ++ M := by injection eL with _ z; exact z.symm
        subst eL2
        have hDl : H3 Dl = some (.lst acc) := by rw [onL_in List.mem_cons_self] at q1; exact q1
        have hlen2 : acc.length = ((xs.take i).map v).length := by
          have z := t2.length
          rw [List.length_append, List.length_append] at z
          simp at z
          simpa using z
        have nd := P4.nd
        rw [List.nodup_cons] at nd
        have hz : acc.length < sizeLine := by
          rw [hlen2, List.length_map, List.length_take]
          exact Evl.sz_lt (by omega)
        refine ⟨acc, hDl, hz, G3, acc ++ [w], L ++ M, (e.trans e2).trans e3, ?_⟩
        have et : (xs.take (i + 1)).map v = (xs.take i).map v ++ [v a] := by rw [List.take_add_one, q, List.map_append]; rfl
        rw [et]
        have P5 := P4.change (H' := upd H3 Dl (.lst (acc ++ [w]))) (es := .lst ((acc ++ [w]).map .raw) :: ((xs.take i).map v ++ [v a])) (fun b m o z => by
          rw [upd_ne (fun z => m (by rw [z]; exact List.mem_cons_self))]; exact z) (by
          refine Trs.cons (L1 := [Dl]) (L2 := L ++ M) (.lst (L := []) (vs := acc ++ [w]) ?_ (trs_raw _)) (Trs.agree (S := fun b => b ∈ L ++ M) (fun b u z w2 => ?_) _ _ _ t2 fun b m => m)
          · rw [onL_in List.mem_cons_self]; exact upd_same
          · have nb : b ≠ Dl := by
              rintro rfl
              rcases w2 with ⟨us, w2⟩ | w2
              · subst w2
                rw [onL_in List.mem_cons_self, hDl] at z
                cases z
              · exact nd.1 w2
            by_cases m : b ∈ Dl :: (L ++ M)
            · rw [onL_in m] at z ⊢
              rw [upd_ne nb]; exact z
            · rw [onL_out m] at z ⊢; exact z)
        refine ⟨sr_unset P5.sr hlen (fun r h => wipeR_in h hj), P5.fr, P5.tr, P5.nd⟩
    · rw [hr.length, List.length_map, List.take_length] at p
      obtain ⟨G', acc, L, e, P⟩ := p
      obtain ⟨L1, L2, eL, t1, t2⟩ := P.tr.inv
      obtain ⟨q1, q2⟩ := tr_raw_inv t1
      subst q2
      have eL2 : L2 = L := by injection eL with _ z; exact z.symm
      subst eL2
      have gD := (P.fr Dl List.mem_cons_self).2
      have hDl : H' Dl = some (.lst acc) := by rw [onL_in List.mem_cons_self] at q1; exact q1
      have raws : ∀ (ws : List V), Reps X.K G' ws (ws.map .raw) := fun ws => by
        induction ws with
        | nil => exact .nil
        | cons w ws ih => exact .cons (.raw w) ih
      obtain ⟨S2, _⟩ := cm_fin S1 hD e P.drop gD hDl (raws acc)
      refine k _ G' H' (Dl :: L2) (e1.trans e) ⟨S2.tight (fun a m => (P.fr a m).2) (fun i p o m => ?_), fun a m => ⟨ex_none ex0 (P.fr a m).1, (P.fr a m).2⟩, .one (.lst q1 t2), P.nd⟩
      obtain ⟨_, _, u, hu⟩ := S1.own o
      have hp : less (wipe σ ow) (wipeR ρ0 ow) H1 p = none := (P.fr p m).1
      by_cases ex : ∃ k, OwnAt (wipe σ ow) (wipeR ρ0 ow) k p
      · obtain ⟨k, ok⟩ := ex
        exact P.away ok m
      · rw [less_not (fun k ok => ex ⟨k, ok⟩), hu] at hp
        cases hp
end
section
variable {P : Program} {w : World} {K : PySem.W.Frag} {mg : Str → Option Value} {base : Heap} {N : List Str} {y : Str} {st : Stmt} {fa : Addr} {cd : Value} {A : Around} {outer : List Env} {s : Shared} {H : Hp} {E0 : XK}
  {ρ ρ0 ρ1 : List Sl} {elt src e : Expr} {es : List Expr} {scope : Scope} {x : Str} {tp pos p : Pos} {j k : Nat} {ds : List D} {d : D}
theorem pdp_compL {α : Type} {xs : List α} (enc : α → D) (v : α → D) (hA : At N j x) (hsrc : PD (CxN P w K mg base N y st fa cd A outer s H E0) src ρ ρ0 (.fz (.lst (xs.map enc))))
    (hb : blkC N (defScope st) scope [(x, j)] = true) (hloc : ∀ (s' : Shared) (H' : Hp) (C : Addr) (cl : List (Str × Addr)) (fp : List Addr), Loc (Blk (CxN P w K mg base N y st fa cd A outer s H E0) scope s' H' C cl fp).env.scope x)
    (hf : ∀ (s' : Shared) (H' : Hp) (C : Addr) (cl : List (Str × Addr)) (fp : List Addr), (Blk (CxN P w K mg base N y st fa cd A outer s H E0) scope s' H' C cl fp).fn x = true ∨ (Blk (CxN P w K mg base N y st fa cd A outer s H E0) scope s' H' C cl fp).env.scope.names.lookup x = some .local)
    (hs : ∀ x, foldedSetIterable src (CxN P w K mg base N y st fa cd A outer s H E0).env x = pure x) (hN : N.Nodup) (hl : xs.length ≤ 50000)
    (he : ∀ (s' : Shared) (H' : Hp) (C : Addr) (cl : List (Str × Addr)) (fp : List Addr) (i : Nat) (a : α), xs[i]? = some a → PDP (Blk (CxN P w K mg base N y st fa cd A outer s H E0) scope s' H' C cl fp) elt ((wipeR ρ0 [j]).set j (.fz (enc a))) ((wipeR ρ0 [j]).set j (.fz (enc a))) (v a)) :
    PDP (CxN P w K mg base N y st fa cd A outer s H E0) (.ListComp elt [⟨.Name x tp, src, [], 0⟩] scope pos) ρ ρ0 (.lst (xs.map v)) :=
  pdp_lcL j [(x, j)] enc v hsrc hl List.mem_cons_self he rfl hN (blkOk_by (N := N) (sc := defScope st) hb) hA.get hloc hf hs
theorem pdp_callN {f : TD} (F : OkT P w K mg base k x f) (ha : PAD (CxN P w K mg base N y st fa cd A outer s H E0) (e :: es) ρ ρ1 ds) (hf : f ds d) (hr : Room k (CxN P w K mg base N y st fa cd A outer s H E0).A) (hg : Gl (CxN P w K mg base N y st fa cd A outer s H E0) x)
    (hdb : (x == ("__debug__" : Str)) = false) (he : starEach (e :: es) (CxN P w K mg base N y st fa cd A outer s H E0).env = (false, eval e (CxN P w K mg base N y st fa cd A outer s H E0).env) :: starEach es (CxN P w K mg base N y st fa cd A outer s H E0).env)
    (hpl : (backTo pos (starEach es (CxN P w K mg base N y st fa cd A outer s H E0).env)).any (·.1) = false) : PDP (CxN P w K mg base N y st fa cd A outer s H E0) (.Call (.Name x p) (e :: es) [] pos) ρ ρ1 d :=
  pdp_call F hr hg ha hf hdb he hpl
end
section
variable {X : Cx} {s1 s2 rest : List Stmt} {c : Expr} {ρ ρ1 : List Sl} {E : En} {T : D → Prop} {pos : Pos}
theorem pst1_ifT (hc : PTD X c ρ ρ1 true) (h1 : PST X s1 ρ1 E T) : PST1 X (.If c s1 s2 pos) ρ E T := pst1_if hc (fun _ => h1) (fun z => nomatch z)
theorem pst1_ifF (hc : PTD X c ρ ρ1 false) (h2 : PST X s2 ρ1 E T) : PST1 X (.If c s1 s2 pos) ρ E T := pst1_if hc (fun z => nomatch z) (fun _ => h2)
end
mutual
theorem Tr.uniq {G : Hp} : ∀ (d : D) (v : V) (L M : List Addr), Tr G v d L → Tr G v d M → L = M
  | .non, _, _, _, .non, .non => rfl
  | .bl _, _, _, _, .bl b, .bl _ => rfl
  | .int _, _, _, _, .int i, .int _ => rfl
  | .str _, _, _, _, .str s, .str _ => rfl
  | .raw _, _, _, _, .raw v, .raw _ => rfl
  | .lst ds, _, _, _, .lst (a := a) h r, .lst h' r' => by
    rw [h] at h'; cases h'
    rw [Trs.uniq ds _ _ _ r r']
  | .tup ds, _, _, _, .tup h r, .tup h' r' => by
    rw [h] at h'; cases h'
    rw [Trs.uniq ds _ _ _ r r']
theorem Trs.uniq {G : Hp} : ∀ (ds : List D) (vs : List V) (L M : List Addr), Trs G vs ds L → Trs G vs ds M → L = M
  | [], _, _, _, .nil, .nil => rfl
  | d :: ds, _, _, _, .cons a b, .cons a' b' => by
    rw [Tr.uniq d _ _ _ a a', Trs.uniq ds _ _ _ b b']
end
theorem Tr.noL_nil {G : Hp} : ∀ (d : D) (v : V) (L : List Addr), noL d = true → Tr G v d L → L = [] := by
  have K : PySem.W.Frag := default
  intro d v L n t
  have := Tr.of_noL (K := K) d v n t.rep
  exact Tr.uniq _ _ _ _ t this
theorem Prv.untup {K : PySem.W.Frag} {B : Bs} {σ : L2.St} {G H : Hp} {ρ : List Sl} {v : V} {ds : List D} {L : List Addr} (P : Prv K B σ G H ρ [v] [.tup ds] L) : ∃ a vs, v = .ref a ∧ G a = some (.tup vs) ∧ Prv K B σ G H ρ vs ds L := by
  have t := P.tr.inv1
  cases t with
  | @tup a vs _ _ h t =>
    refine ⟨a, vs, rfl, ?_, P.tree t⟩
    by_cases m : a ∈ L
    · obtain ⟨us, q⟩ := P.there a m
      rw [onL_in m, q] at h
      cases h
    · rw [onL_out m] at h; exact h
theorem Prv.sub0 {K : PySem.W.Frag} {B : Bs} {σ : L2.St} {G H : Hp} {ρ : List Sl} {v u : V} {d : D} {ds : List D} {L : List Addr} (P : Prv K B σ G H ρ [v, u] [d, .tup (.raw v :: ds)] L) : Prv K B σ G H ρ [u] [.tup (d :: ds)] L := by
  obtain ⟨La, Lr, rfl, ta, tr⟩ := P.tr.inv
  have t := tr.inv1
  cases t with
  | @tup a vs _ _ h t =>
    cases vs with
    | nil => cases t
    | cons x vs =>
      obtain ⟨L1, L2, e, t1, t2⟩ := t.inv
      cases t1
      subst e
      exact P.tree (.one (.tup h (.cons ta t2)))
structure PSN (X : Cx) (st : Stmt) (ρ : List Sl) (i : Nat) (ρ' : List Sl) (d : D) : Prop where
  run : ∀ (B : Bs) (σ : L2.St) (G H : Hp) (M : Ends), SR X.K B σ G H ρ → (∀ v G' H' L, Ex G G' → Prv X.K B σ G' H' ρ' [v] [d] L → M.nx (σ.set i (some v)) H') → wpS X st M σ H
section
variable {X : Cx} {e : Expr} {ρ ρ1 : List Sl} {d : D} {x : Str} {N : List Str} {i : Nat} {pos p : Pos}
theorem psn_eq {st : Stmt} {d' : D} (h : PSN X st ρ i ρ1 d) (q : d = d') : PSN X st ρ i ρ1 d' := q ▸ h
theorem psn_asg (hX : X.N = N) (hA : At N i x) (he : PDP X e ρ ρ1 d) (hN : N.Nodup) (hx : Loc X.env.scope x) (hf : X.fn x = true ∨ X.env.scope.names.lookup x = some .local)
    (hs : swapsWithSole [.Name x p] e pos.line X.env = pure false) (hw : swappedStores [.Name x p] e X.env = pure none)
    (h1 : (assignEach [.Name x p] X.env).map (·.2) = [assign (.Name x p) X.env]) : PSN X (.Assign [.Name x p] e pos) ρ i ρ1 d := .mk fun B σ G H M S k =>
  wpS_of (ps_asg canE (pg_name (by rw [hX]; exact hN) (by rw [hX]; exact hA.get) hx hf) hs hw h1) (he.run _ σ G H _ S fun v G1 H1 L e1 P1 => k v G1 H1 L e1 P1)
end
section
variable {X : Cx} {ρ ρ0 : List Sl} {elt src : Expr} {scope : Scope} {x : Str} {tp pos : Pos}
theorem psn_lcL {α : Type} (j : Nat) (own : List (Str × Nat)) {xs : List α} (enc : α → D) (v : α → D) (hsrc : PD X src ρ ρ0 (.fz (.lst (xs.map enc)))) (hl : xs.length ≤ 50000) (hj : j ∈ own.map (·.2))
    (he : ∀ (s : Shared) (H : Hp) (C : Addr) (cl : List (Str × Addr)) (fp : List Addr) (i : Nat) (a : α), xs[i]? = some a → PDP (Blk X scope s H C cl fp) elt ((wipeR ρ0 (own.map (·.2))).set j (.fz (enc a))) ((wipeR ρ0 (own.map (·.2))).set j (.fz (enc a))) (v a))
    (hc : X.calm = true) (hN : X.N.Nodup) (ok : BlkOk X.N X.env.scope scope own) (hx : X.N[j]? = some x)
    (hloc : ∀ (s : Shared) (H : Hp) (C : Addr) (cl : List (Str × Addr)) (fp : List Addr), Loc (Blk X scope s H C cl fp).env.scope x)
    (hf : ∀ (s : Shared) (H : Hp) (C : Addr) (cl : List (Str × Addr)) (fp : List Addr), (Blk X scope s H C cl fp).fn x = true ∨ (Blk X scope s H C cl fp).env.scope.names.lookup x = some .local)
    (hs : ∀ x, foldedSetIterable src X.env x = pure x) 
    {i : Nat} {y : Str} {py spos : Pos} (hy : X.N[i]? = some y) (hyl : X.env.scope.names.lookup y = some .local) (hsw : swapsWith (.ListComp elt [⟨.Name x tp, src, [], 0⟩] scope pos) (some (.Name y py)) spos.line X.env = pure true) :
    PSN X (.Assign [.Name y py] (.ListComp elt [⟨.Name x tp, src, [], 0⟩] scope pos) spos) ρ i ρ0 (.lst (xs.map v)) := .mk fun B σ G H M S k => by
  refine wpS_of (ps_setLc (i := i) (own := own) (g := gName j) (tt := allF X scope [])
    (te := allE X scope elt) hc hN hy hyl hsw (pi_list canE) ok
    (fun s H C cl fp => pg_name hN hx (hloc s H C cl fp) (hf s H C cl fp)) (fun s H C cl fp => ⟨fun pins s' σ' H' Q' I h => h s H C cl fp pins s' I⟩) (fun s H C cl fp => ⟨fun pins s' σ' H' Q' I h => h s H C cl fp pins s' I⟩) hs) ?_
  refine hsrc B σ G H _ S fun vv G1 H1 e1 S1 r1 => ?_
  have z := r1.rep
  cases z with
  | @lst l vs _ hlst hr =>
    refine ⟨l, rfl, ⟨vs, .inl (.inl (S1.e3 _ _ hlst))⟩, fun Dl hD => ?_⟩
    generalize eo : own.map (·.2) = ow at *
    have nD : ∀ i, ¬ OwnAt (wipe σ ow) (wipeR ρ0 ow) i Dl := (S1.wipe _).notOwn hD
    have f0 : ∀ i p, OwnAt (wipe σ ow) (wipeR ρ0 ow) i p → less (wipe σ ow) (wipeR ρ0 ow) H1 p = none := fun i p o => less_own o
    have fD : less (wipe σ ow) (wipeR ρ0 ow) H1 Dl = none := by rw [less_not nD]; exact hD
    have hlen : (wipe σ ow).length = (wipeR ρ0 ow).length := (S1.wipe _).len
    have ex0 : Ex B.F (less (wipe σ ow) (wipeR ρ0 ow) H1) := fun a o q => by
      rw [less_not]
      · exact S1.e2 a o q
      · intro i z
        have := ((S1.wipe ow).own z).2.1
        rw [this] at q; cases q
    have h0 : CmP X.K (wipe σ ow) (wipeR ρ0 ow) G1 (less (wipe σ ow) (wipeR ρ0 ow) H1) Dl [] (upd H1 Dl (.lst [])) := by
      have gD := ex_none S1.e3 hD
      have S0 : SR X.K ⟨G1, less (wipe σ ow) (wipeR ρ0 ow) H1⟩ (wipe σ ow) G1 (upd H1 Dl (.lst [])) (wipeR ρ0 ow) := ((S1.wipe _).re less_ex f0).alloc hD
      refine ⟨G1, [], [], Evl.Ex.refl G1, ⟨S0.tight (L := [Dl]) (fun a m => by rw [List.mem_singleton.mp m]; exact gD) (fun i p o m => nD i (by rw [← List.mem_singleton.mp m]; exact o)), fun a m => by rw [List.mem_singleton.mp m]; exact ⟨fD, gD⟩, ?_, List.nodup_cons.mpr ⟨(fun z => nomatch z), List.nodup_nil⟩⟩⟩
      refine .one (.lst (L := []) (vs := []) ?_ .nil)
      rw [onL_in List.mem_cons_self]
      exact upd_same
    refine lc_list (K := X.K) (a := l) (g := gName j) (tt := allF X scope []) (te := allE X scope elt) (vs := ow) (σ := σ) (Qd := fun H1 => gName i (.ref Dl) σ H1 M.nx) (xs := vs) (fun ti H' => CmP X.K (wipe σ ow) (wipeR ρ0 ow) G1 (less (wipe σ ow) (wipeR ρ0 ow) H1) Dl ((xs.take ti).map v) H') h0
      (fun ti H' _ p => ?_) (fun ti u H' hu p => ?_) (fun H' p => ?_)
    · obtain ⟨G', acc, L, e, P⟩ := p
      exact .inl (.inl (P.sr.e3 _ _ (e _ _ hlst)))
    · obtain ⟨d, hd, hrd⟩ := hr.getV hu
      rw [List.getElem?_map] at hd
      cases q : xs[ti]? with
      | none => rw [q] at hd; cases hd
      | some a =>
        rw [q] at hd
        cases hd
        have hi : ti < xs.length := (List.getElem?_eq_some_iff.mp q).1
        obtain ⟨G', acc, L, e, P⟩ := p
        refine ⟨wipe_set hj, ?_⟩
        have P1 := P.set (i := j) (hrd.mono e)
        intro s H C cl fp
        refine tsd_nil ⟨G1, onL (Dl :: L) H' (less (wipe σ ow) (wipeR ρ0 ow) H1)⟩ _ G' H' _ P1.sr fun G2 H2 e2 S2 => ?_
        have P2 := P1.step S2 e2
        show (if true = true then _ else _)
        rw [if_pos rfl]
        intro s' H0 C' cl' fp'
        refine (he s' H0 C' cl' fp' ti a q).run _ _ G2 H2 _ P2.sr fun w G3 H3 M e3 P3 => ?_
        have P4 := P2.add P3 e3
        rw [List.cons_append, List.cons_append, List.cons_append] at P4
        have tr := P4.tr
        obtain ⟨L1, L2, eL, t1, t2⟩ := tr.inv
        obtain ⟨q1, q2⟩ := tr_raw_inv t1
        subst q2
        have eL2 : L2 = L ++ M := by injection eL with _ z; exact z.symm
        subst eL2
        have hDl : H3 Dl = some (.lst acc) := by rw [onL_in List.mem_cons_self] at q1; exact q1
        have hlen2 : acc.length = ((xs.take ti).map v).length := by
          have z := t2.length
          rw [List.length_append, List.length_append] at z
          simp at z
          simpa using z
        have nd := P4.nd
        rw [List.nodup_cons] at nd
        have hz : acc.length < sizeLine := by
          rw [hlen2, List.length_map, List.length_take]
          exact Evl.sz_lt (by omega)
        refine ⟨acc, hDl, hz, G3, acc ++ [w], L ++ M, (e.trans e2).trans e3, ?_⟩
        have et : (xs.take (ti + 1)).map v = (xs.take ti).map v ++ [v a] := by rw [List.take_add_one, q, List.map_append]; rfl
        rw [et]
        have P5 := P4.change (H' := upd H3 Dl (.lst (acc ++ [w]))) (es := .lst ((acc ++ [w]).map .raw) :: ((xs.take ti).map v ++ [v a])) (fun b m o z => by
          rw [upd_ne (fun z => m (by rw [z]; exact List.mem_cons_self))]; exact z) (by
          refine Trs.cons (L1 := [Dl]) (L2 := L ++ M) (.lst (L := []) (vs := acc ++ [w]) ?_ (trs_raw _)) (Trs.agree (S := fun b => b ∈ L ++ M) (fun b u z w2 => ?_) _ _ _ t2 fun b m => m)
          · rw [onL_in List.mem_cons_self]; exact upd_same
          · have nb : b ≠ Dl := by
              rintro rfl
              rcases w2 with ⟨us, w2⟩ | w2
              · subst w2
                rw [onL_in List.mem_cons_self, hDl] at z
                cases z
              · exact nd.1 w2
            by_cases m : b ∈ Dl :: (L ++ M)
            · rw [onL_in m] at z ⊢
              rw [upd_ne nb]; exact z
            · rw [onL_out m] at z ⊢; exact z)
        refine ⟨sr_unset P5.sr hlen (fun r h => wipeR_in h hj), P5.fr, P5.tr, P5.nd⟩
    · rw [hr.length, List.length_map, List.take_length] at p
      obtain ⟨G', acc, L, e, P⟩ := p
      obtain ⟨L1, L2, eL, t1, t2⟩ := P.tr.inv
      obtain ⟨q1, q2⟩ := tr_raw_inv t1
      subst q2
      have eL2 : L2 = L := by injection eL with _ z; exact z.symm
      subst eL2
      have gD := (P.fr Dl List.mem_cons_self).2
      have hDl : H' Dl = some (.lst acc) := by rw [onL_in List.mem_cons_self] at q1; exact q1
      have raws : ∀ (ws : List V), Reps X.K G' ws (ws.map .raw) := fun ws => by
        induction ws with
        | nil => exact .nil
        | cons w ws ih => exact .cons (.raw w) ih
      obtain ⟨S2, _⟩ := cm_fin S1 hD e P.drop gD hDl (raws acc)
      refine k _ G' H' (Dl :: L2) (e1.trans e) ⟨S2.tight (fun a m => (P.fr a m).2) (fun i p o m => ?_), fun a m => ⟨ex_none ex0 (P.fr a m).1, (P.fr a m).2⟩, .one (.lst q1 t2), P.nd⟩
      obtain ⟨_, _, u, hu⟩ := S1.own o
      have hp : less (wipe σ ow) (wipeR ρ0 ow) H1 p = none := (P.fr p m).1
      by_cases ex : ∃ k, OwnAt (wipe σ ow) (wipeR ρ0 ow) k p
      · obtain ⟨k, ok⟩ := ex
        exact P.away ok m
      · rw [less_not (fun k ok => ex ⟨k, ok⟩), hu] at hp
        cases hp
end
section
variable {P : Program} {w : World} {K : PySem.W.Frag} {mg : Str → Option Value} {base : Heap} {N : List Str} {y : Str} {st : Stmt} {fa : Addr} {cd : Value} {A : Around} {outer : List Env} {s : Shared} {H : Hp} {E0 : XK}
  {ρ ρ0 : List Sl} {elt src : Expr} {scope : Scope} {x : Str} {tp pos : Pos} {j : Nat}
theorem psn_compL {α : Type} {xs : List α} (enc : α → D) (v : α → D) (hA : At N j x) (hsrc : PD (CxN P w K mg base N y st fa cd A outer s H E0) src ρ ρ0 (.fz (.lst (xs.map enc))))
    (hb : blkC N (defScope st) scope [(x, j)] = true) (hloc : ∀ (s' : Shared) (H' : Hp) (C : Addr) (cl : List (Str × Addr)) (fp : List Addr), Loc (Blk (CxN P w K mg base N y st fa cd A outer s H E0) scope s' H' C cl fp).env.scope x)
    (hf : ∀ (s' : Shared) (H' : Hp) (C : Addr) (cl : List (Str × Addr)) (fp : List Addr), (Blk (CxN P w K mg base N y st fa cd A outer s H E0) scope s' H' C cl fp).fn x = true ∨ (Blk (CxN P w K mg base N y st fa cd A outer s H E0) scope s' H' C cl fp).env.scope.names.lookup x = some .local)
    (hs : ∀ x, foldedSetIterable src (CxN P w K mg base N y st fa cd A outer s H E0).env x = pure x) (hN : N.Nodup) (hl : xs.length ≤ 50000)
    (he : ∀ (s' : Shared) (H' : Hp) (C : Addr) (cl : List (Str × Addr)) (fp : List Addr) (i : Nat) (a : α), xs[i]? = some a → PDP (Blk (CxN P w K mg base N y st fa cd A outer s H E0) scope s' H' C cl fp) elt ((wipeR ρ0 [j]).set j (.fz (enc a))) ((wipeR ρ0 [j]).set j (.fz (enc a))) (v a)) 
    {i : Nat} {u : Str} {py spos : Pos} (hA2 : At N i u) (hyl : (CxN P w K mg base N y st fa cd A outer s H E0).env.scope.names.lookup u = some .local) (hk : (CxN P w K mg base N y st fa cd A outer s H E0).env.scope.kind = .function) (hln : (py.line == pos.line) = true) (hno : (scope.names.any fun (n, k) => n == u && (k == .local || k == .cell)) = false) :
    PSN (CxN P w K mg base N y st fa cd A outer s H E0) (.Assign [.Name u py] (.ListComp elt [⟨.Name x tp, src, [], 0⟩] scope pos) spos) ρ i ρ0 (.lst (xs.map v)) :=
  psn_lcL j [(x, j)] enc v hsrc hl List.mem_cons_self he rfl hN (blkOk_by (N := N) (sc := defScope st) hb) hA.get hloc hf hs hA2.get hyl (sw_true hk hyl hln hno)
end
mutual
def spD : D → D
  | .lst xs => .lst (spDs xs ++ [.str "more"])
  | .tup xs => .tup (spDs xs)
  | d => d
def spDs : List D → List D
  | [] => []
  | d :: ds => spD d :: spDs ds
end
theorem spDs_map : ∀ ds : List D, spDs ds = ds.map spD
  | [] => by unfold spDs; rfl
  | d :: ds => by unfold spDs; rw [spDs_map ds]; rfl
section
variable {G G' : Hp}
mutual
theorem Tr.spo (h1 : ∀ a vs, G a = some (.tup vs) → G' a = some (.tup vs)) : ∀ (d : D) (v : V) (L : List Addr), Tr G v d L → (∀ a ∈ L, ∀ us, G a = some (.lst us) → G' a = some (.lst (us ++ [.str "more"]))) → Tr G' v (spD d) L
  | .non, _, _, .non, _ => by unfold spD; exact .non
  | .bl _, _, _, .bl b, _ => by unfold spD; exact .bl b
  | .int _, _, _, .int i, _ => by unfold spD; exact .int i
  | .str _, _, _, .str s, _ => by unfold spD; exact .str s
  | .raw _, _, _, .raw v, _ => by unfold spD; exact .raw v
  | .lst ds, _, _, .lst (L := L) g r, q => by
    unfold spD
    have z := (Trs.spo h1 ds _ _ r fun a m => q a (List.mem_cons_of_mem _ m)).append (Trs.one (Tr.str (G := G') "more"))
    rw [List.append_nil] at z
    exact .lst (q _ List.mem_cons_self _ g) z
  | .tup ds, _, _, .tup g r, q => by
    unfold spD
    exact .tup (h1 _ _ g) (Trs.spo h1 ds _ _ r q)
theorem Trs.spo (h1 : ∀ a vs, G a = some (.tup vs) → G' a = some (.tup vs)) : ∀ (ds : List D) (vs : List V) (L : List Addr), Trs G vs ds L → (∀ a ∈ L, ∀ us, G a = some (.lst us) → G' a = some (.lst (us ++ [.str "more"]))) → Trs G' vs (spDs ds) L
  | [], _, _, .nil, _ => by unfold spDs; exact .nil
  | d :: ds, _, _, .cons g t, q => by
    unfold spDs
    exact .cons (Tr.spo h1 d _ _ g fun a m => q a (List.mem_append_left _ m)) (Trs.spo h1 ds _ _ t fun a m => q a (List.mem_append_right _ m))
end
end
mutual
theorem pure_spD : ∀ d, pureD d = true → pureD (spD d) = true
  | .non, h => by unfold spD; exact h
  | .bl _, h => by unfold spD; exact h
  | .int _, h => by unfold spD; exact h
  | .str _, h => by unfold spD; exact h
  | .scr _, h => by unfold spD; exact h
  | .dic _, h => by unfold spD; exact h
  | .dicL _, h => by unfold spD; exact h
  | .exc _, h => by unfold spD; exact h
  | .raw _, h => by unfold spD; exact h
  | .lst xs, h => by
    unfold spD pureD
    unfold pureD at h
    rw [pureDs_all, List.all_append, ← pureDs_all, pure_spDs xs h, List.all_cons, List.all_nil]
    have z : pureD (.str "more") = true := by unfold pureD; decide +kernel
    rw [z]
    rfl
  | .tup xs, h => by
    unfold spD pureD
    unfold pureD at h
    exact pure_spDs xs h
theorem pure_spDs : ∀ ds, pureDs ds = true → pureDs (spDs ds) = true
  | [], h => by unfold spDs; exact h
  | d :: ds, h => by
    unfold spDs pureDs
    unfold pureDs at h
    rw [Bool.and_eq_true] at h
    rw [pure_spD d h.1, pure_spDs ds h.2]
    rfl
end
mutual
theorem dep_spD : ∀ d, depD (spD d) = depD d
  | .non => by unfold spD; rfl
  | .bl _ => by unfold spD; rfl
  | .int _ => by unfold spD; rfl
  | .str _ => by unfold spD; rfl
  | .scr _ => by unfold spD; rfl
  | .dic _ => by unfold spD; rfl
  | .dicL _ => by unfold spD; rfl
  | .exc _ => by unfold spD; rfl
  | .raw _ => by unfold spD; rfl
  | .lst xs => by
    unfold spD depD
    have z : ∀ ds : List D, depDs (ds ++ [.str "more"]) = depDs ds := fun ds => by
      induction ds with
      | nil => simp [depDs, depD]
      | cons d ds ih => rw [List.cons_append]; unfold depDs; rw [ih]
    rw [z, dep_spDs xs]
  | .tup xs => by
    unfold spD depD
    rw [dep_spDs xs]
theorem dep_spDs : ∀ ds, depDs (spDs ds) = depDs ds
  | [] => by unfold spDs; rfl
  | d :: ds => by
    unfold spDs depDs
    rw [dep_spD d, dep_spDs ds]
end
mutual
theorem wid_spD : ∀ d, widD (spD d) ≤ widD d + 1
  | .non => by unfold spD; exact Nat.le_succ _
  | .bl _ => by unfold spD; exact Nat.le_succ _
  | .int _ => by unfold spD; exact Nat.le_succ _
  | .str _ => by unfold spD; exact Nat.le_succ _
  | .scr _ => by unfold spD; exact Nat.le_succ _
  | .dic _ => by unfold spD; exact Nat.le_succ _
  | .dicL _ => by unfold spD; exact Nat.le_succ _
  | .exc _ => by unfold spD; exact Nat.le_succ _
  | .raw _ => by unfold spD; exact Nat.le_succ _
  | .lst xs => by
    unfold spD widD
    have z : ∀ ds : List D, widDs (ds ++ [.str "more"]) = widDs ds := fun ds => by
      induction ds with
      | nil => simp [widDs, widD]
      | cons d ds ih => rw [List.cons_append]; unfold widDs; rw [ih]
    have h := wid_spDs xs
    rw [z, List.length_append, spDs_map, List.length_map]
    rw [spDs_map] at h
    simp only [List.length_cons, List.length_nil]
    omega
  | .tup xs => by
    unfold spD widD
    have h := wid_spDs xs
    rw [spDs_map, List.length_map]
    rw [spDs_map] at h
    omega
theorem wid_spDs : ∀ ds, widDs (spDs ds) ≤ widDs ds + 1
  | [] => by unfold spDs; exact Nat.le_succ _
  | d :: ds => by
    unfold spDs widDs
    have h1 := wid_spD d
    have h2 := wid_spDs ds
    omega
end
theorem Fine.spoilt {n : Nat} {d : D} (h : Fine n d) (w : widD d ≤ 999) : Fine n (spD d) := ⟨pure_spD d h.1, by rw [dep_spD]; exact h.2.1, Nat.le_trans (wid_spD d) (by omega)⟩

theorem Trs.split {G : Hp} {vs1 vs2 : List V} {ds1 ds2 : List D} {L : List Addr} (h : Trs G (vs1 ++ vs2) (ds1 ++ ds2) L) (e : vs1.length = ds1.length) : ∃ La Lb, L = La ++ Lb ∧ Trs G vs1 ds1 La ∧ Trs G vs2 ds2 Lb := by
  induction vs1 generalizing ds1 L with
  | nil =>
    cases ds1 with
    | nil => exact ⟨[], L, rfl, .nil, h⟩
    | cons d ds => cases e
  | cons v vs ih =>
    cases ds1 with
    | nil => cases e
    | cons d ds =>
      obtain ⟨L1, L2, rfl, a, b⟩ := Trs.inv h
      obtain ⟨La, Lb, rfl, c, f⟩ := ih b (Nat.succ.inj e)
      exact ⟨L1 ++ La, Lb, by rw [List.append_assoc], .cons a c, f⟩
/-- each list of L got a thing more -/
structure Spo (L : List Addr) (H H' : Hp) : Prop where
  out : ∀ a, a ∉ L → ∀ o, H a = some o → H' a = some o
  inn : ∀ a ∈ L, ∀ us, H a = some (.lst us) → H' a = some (.lst (us ++ [.str "more"]))
theorem Spo.nil {H H' : Hp} (e : Ex H H') : Spo [] H H' := ⟨fun a _ o q => e a o q, fun _ m => nomatch m⟩
theorem Spo.trans {L M : List Addr} {H H' H'' : Hp} (h : Spo L H H') (k : Spo M H' H'') (ap : ∀ a ∈ L, a ∉ M) : Spo (L ++ M) H H'' :=
  ⟨fun a m o q => k.out a (fun z => m (List.mem_append_right _ z)) o (h.out a (fun z => m (List.mem_append_left _ z)) o q), fun a m us q => by
    rcases List.mem_append.mp m with m | m
    · exact k.out a (ap a m) _ (h.inn a m us q)
    · exact k.inn a m us (h.out a (fun z => ap a z m) _ q)⟩
theorem Spo.ex {L : List Addr} {H H' H'' : Hp} (h : Spo L H H') (e : Ex H' H'') : Spo L H H'' := ⟨fun a m o q => e _ _ (h.out a m o q), fun a m us q => e _ _ (h.inn a m us q)⟩
theorem Spo.pre {L : List Addr} {H H' H'' : Hp} (e : Ex H H') (h : Spo L H' H'') : Spo L H H'' := ⟨fun a m o q => h.out a m o (e _ _ q), fun a m us q => h.inn a m us (e _ _ q)⟩
/-- a tree beside what was spoilt -/
theorem Tr.beside {L M : List Addr} {H H' : Hp} {v : V} {d : D} (t : Tr H v d L) (s : Spo M H H') (hM : ∀ a ∈ M, ∃ us, H a = some (.lst us)) (ap : ∀ a ∈ L, a ∉ M) : Tr H' v d L :=
  t.agree (S := fun a => a ∉ M) (fun a u q z => s.out a (fun m => by
    rcases z with ⟨us, z⟩ | z
    · subst z
      obtain ⟨ws, w⟩ := hM a m
      rw [q] at w; cases w
    · exact z m) u q) _ _ _ ap
theorem Trs.beside {L M : List Addr} {H H' : Hp} {vs : List V} {ds : List D} (t : Trs H vs ds L) (s : Spo M H H') (hM : ∀ a ∈ M, ∃ us, H a = some (.lst us)) (ap : ∀ a ∈ L, a ∉ M) : Trs H' vs ds L :=
  Trs.agree (S := fun a => a ∉ M) (fun a u q z => s.out a (fun m => by
    rcases z with ⟨us, z⟩ | z
    · subst z
      obtain ⟨ws, w⟩ := hM a m
      rw [q] at w; cases w
    · exact z m) u q) _ _ _ t ap

/-- the promise of what spoils -/
def SpS (n : Nat) : Sp := fun vs H Q _ => ∃ v d L, vs = [v] ∧ Tr H v d L ∧ L.Nodup ∧ Fine n d ∧ ∀ H', Spo L H H' → Q .non H'
structure OkS (P : Program) (w : World) (K : PySem.W.Frag) (mg : Str → Option Value) (base : Heap) (k : Nat) (x : Str) (n : Nat) : Prop where
  ex : ∃ (fa : Addr) (fd : FuncData) (ps : List Str), FnOk P w K mg base (L2.CX P w) k fa fd ps (SpS n) ∧ mg x = some (.ref fa) ∧ PySem.W.keepIn K (.ref fa) = true ∧ Binds K fd ps []
theorem OkS.mono {P : Program} {w : World} {K : PySem.W.Frag} {mg : Str → Option Value} {base : Heap} {j k : Nat} {x : Str} {n : Nat} (h : OkS P w K mg base j x n) (l : j ≤ k) : OkS P w K mg base k x n := by
  obtain ⟨fa, fd, ps, h1, h2⟩ := h.ex
  exact ⟨fa, fd, ps, h1.mono l, h2⟩

def fzT (ρ : List Sl) : List (Nat × D) → List Sl
  | [] => ρ
  | p :: T => (fzT ρ T).set p.1 (.fz p.2)
def NamesV (σ : L2.St) : List V → List (Nat × D) → Prop
  | [], [] => True
  | v :: vs, p :: T => σ[p.1]? = some (some v) ∧ NamesV σ vs T
  | _, _ => False
theorem NamesV.set {σ : L2.St} {i : Nat} {x : Option V} : ∀ {vs : List V} {T : List (Nat × D)}, NamesV σ vs T → i ∉ T.map (·.1) → NamesV (σ.set i x) vs T
  | [], [], _, _ => trivial
  | v :: vs, p :: T, h, n => by
    have h1 : i ≠ p.1 := fun e => n (by rw [List.map_cons, e]; exact List.mem_cons_self)
    exact ⟨by rw [List.getElem?_set_ne h1]; exact h.1, h.2.set fun m => n (by rw [List.map_cons]; exact List.mem_cons_of_mem _ m)⟩
theorem NamesV.snoc {σ : L2.St} {i : Nat} {v : V} {d : D} (hi : σ[i]? = some (some v)) : ∀ {vs : List V} {T : List (Nat × D)}, NamesV σ vs T → NamesV σ (vs ++ [v]) (T ++ [(i, d)])
  | [], [], _ => ⟨hi, trivial⟩
  | _ :: vs, p :: T, h => ⟨h.1, h.2.snoc hi⟩
theorem NamesV.at {σ : L2.St} {i : Nat} {d : D} {T1 T2 : List (Nat × D)} : ∀ {vs : List V}, NamesV σ vs (T1 ++ (i, d) :: T2) → ∃ vs1 v vs2, vs = vs1 ++ v :: vs2 ∧ vs1.length = T1.length ∧ σ[i]? = some (some v) := by
  induction T1 with
  | nil =>
    intro vs h
    cases vs with
    | nil => exact h.elim
    | cons v vs => exact ⟨[], v, vs, rfl, rfl, h.1⟩
  | cons p T1 ih =>
    intro vs h
    cases vs with
    | nil => exact h.elim
    | cons v vs =>
      obtain ⟨vs1, w, vs2, e, hl, q⟩ := ih h.2
      exact ⟨v :: vs1, w, vs2, by rw [e]; rfl, by rw [List.length_cons, List.length_cons, hl], q⟩
theorem NamesV.swap {σ : L2.St} {i : Nat} {d d' : D} {T1 T2 : List (Nat × D)} : ∀ {vs : List V}, NamesV σ vs (T1 ++ (i, d) :: T2) → NamesV σ vs (T1 ++ (i, d') :: T2) := by
  induction T1 with
  | nil =>
    intro vs h
    cases vs with
    | nil => exact h.elim
    | cons v vs => exact ⟨h.1, h.2⟩
  | cons p T1 ih =>
    intro vs h
    cases vs with
    | nil => exact h.elim
    | cons v vs => exact ⟨h.1, ih h.2⟩
section
variable {K : PySem.W.Frag} {B : Bs} {σ : L2.St} {G H : Hp} {ρ : List Sl} {i : Nat} {v : V} {d : D}
/-- what is known of a name -/
theorem SR.put (S : SR K B σ G H ρ) (h : σ[i]? = some (some v)) (r : Rep K G v d) : SR K B σ G H (ρ.set i (.fz d)) := by
  have z := S.set (i := i) (ValR.of (B := B) (σ := σ) (ρ := ρ) (H := H) r)
  have es : σ.set i (some v) = σ := by
    refine List.ext_getElem? fun j => ?_
    by_cases ej : j = i
    · subst ej
      rw [List.getElem?_set_self (List.getElem?_eq_some_iff.mp h).1, h]
    · rw [List.getElem?_set_ne (Ne.symm ej)]
  rw [es] at z
  exact z
theorem SR.puts : ∀ {T : List (Nat × D)} {vs : List V} {ρ : List Sl}, SR K B σ G H ρ → NamesV σ vs T → Reps K G vs (T.map (·.2)) → SR K B σ G H (fzT ρ T)
  | [], [], _, S, _, _ => S
  | p :: T, v :: vs, _, S, n, r => by
    cases r with
    | cons a b => exact (SR.puts S n.2 b).put n.1 a
  | [], v :: vs, _, _, n, _ => n.elim
  | p :: T, [], _, _, n, _ => n.elim
end
def plainSl : Sl → Bool
  | .no => true
  | .fz _ => true
  | .kn _ _ => true
  | _ => false
/-- back from what was asked of the frozen trees -/
theorem Prv.back {K : PySem.W.Frag} {B : Bs} {σ : L2.St} {G H G' H' : Hp} {ρ ρ' : List Sl} {vs : List V} {ds : List D} {L : List Addr} (P : Prv K B σ G H ρ vs ds L) (S : SR K B σ G' H' ρ') (e : Ex (onL L H G) G') (pl : ρ.all plainSl = true) : Prv K B σ G H' ρ vs ds L := by
  have same : ∀ a ∈ L, H a = H' a := fun a m => by
    obtain ⟨us, q⟩ := P.there a m
    rw [q]
    exact (S.e3 a _ (e a _ (by rw [onL_in m]; exact q))).symm
  have noOwn : ∀ i p, ¬ OwnAt σ ρ i p := fun i p ⟨_, r, h2, o⟩ => by
    have := List.all_eq_true.mp pl r (List.mem_of_getElem? h2)
    cases r <;> first | exact o | cases this
  have S' : SR K B σ G H' ρ := ⟨P.sr.e1, S.e2, (P.exG.trans e).trans S.e3, P.drop.nw, P.sr.len, (fun i r h => by
    obtain ⟨x, h1, h2⟩ := P.drop.sl i r h
    have z := List.all_eq_true.mp pl r (List.mem_of_getElem? h)
    refine ⟨x, h1, ?_⟩
    cases r with
    | no => exact trivial
    | fz d => exact h2
    | kn w d => exact h2
    | ow ds => cases z
    | od ds => cases z
    | op p ds => cases z), fun i j p a _ => absurd a (noOwn i p)⟩
  exact ⟨S'.tight (fun a m => (P.fr a m).2) (fun i p o => absurd o (noOwn i p)), P.fr, P.tr.mono (onL_mono same (Evl.Ex.refl G)), P.nd⟩

structure PSP (X : Cx) (sts : List Stmt) (ρ : List Sl) (T : List (Nat × D)) (E : En) : Prop where
  run : ∀ (B : Bs) (σ : L2.St) (G H : Hp) (M : Ends) (vs : List V) (L : List Addr), Prv X.K B σ G H ρ vs (T.map (·.2)) L → NamesV σ vs T → EnOk X.K B G E M → wpB X sts M σ H
section
variable {X : Cx} {st : Stmt} {sts rest s1 s2 : List Stmt} {c e : Expr} {es : List Expr} {ρ ρ1 ρ2 : List Sl} {T T1 T2 : List (Nat × D)} {E : En} {d : D} {r : Sl} {N : List Str} {i : Nat} {x y : Str} {pos p q : Pos}
theorem psd_forget (i : Nat) (h : PSD X sts (ρ.set i .no) E) : PSD X sts ρ E := .mk fun B σ G H M S k => h B σ G H M (S.weak (List.length_set ..) fun j r q => by
  by_cases ej : j = i
  · subst ej
    have hl : j < ρ.length := by
      have := (List.getElem?_eq_some_iff.mp q).1
      rwa [List.length_set] at this
    rw [List.getElem?_set_self hl] at q
    cases q
    exact .inl rfl
  · rw [List.getElem?_set_ne (Ne.symm ej)] at q
    exact .inr q) k
theorem psp_start (h : PSP X sts ρ [] E) : PSD X sts ρ E := .mk fun B σ G H M S k => h.run B σ G H M [] [] (.nil S) trivial k
theorem psp_drop (h : PSD X sts ρ E) : PSP X sts ρ T E := .mk fun B σ G H M vs L P _ k => h B σ G H M P.drop k
/-- x = e, a tree -/
theorem psp_new (hX : X.N = N) (hA : At N i x) (he : PDP X e ρ ρ1 d) (h : PSP X rest (ρ1.set i .no) (T ++ [(i, d)]) E) (hT : (T.map (·.1)).contains i = false) (hi : (ρ1[i]?).isSome = true) (hN : N.Nodup) (hx : Loc X.env.scope x) (hf : X.fn x = true ∨ X.env.scope.names.lookup x = some .local)
    (hs : swapsWithSole [.Name x p] e pos.line X.env = pure false) (hw : swappedStores [.Name x p] e X.env = pure none)
    (h1 : (assignEach [.Name x p] X.env).map (·.2) = [assign (.Name x p) X.env]) : PSP X (.Assign [.Name x p] e pos :: rest) ρ T E := .mk fun B σ G H M vs L P n k => by
  have hT' : i ∉ T.map (·.1) := fun m => by
    have z := List.contains_iff_mem.mpr m
    rw [hT] at z; cases z
  refine wpB_of (pss_cons (ps_asg canE (pg_name (by rw [hX]; exact hN) (by rw [hX]; exact hA.get) hx hf) hs hw h1) canB) ?_
  refine he.run _ σ G H _ P.sr fun v G1 H1 M1 e1 P1 => ?_
  have P2 := P.add P1 e1
  have hi : i < σ.length := by
    rw [P2.sr.len]
    obtain ⟨r, hr⟩ := Option.isSome_iff_exists.mp hi
    exact (List.getElem?_eq_some_iff.mp hr).1
  refine h.run B _ G1 H1 M _ _ (T := T ++ [(i, d)]) ⟨?_, P2.fr, by rw [List.map_append]; exact P2.tr, P2.nd⟩ ((n.set hT').snoc (List.getElem?_set_self hi)) (k.mono e1)
  have z := P2.sr.set (i := i) (ValR.of (B := _) (σ := σ) (ρ := ρ1) (H := H1) (.raw v))
  refine z.weak (by rw [List.length_set, List.length_set]) fun j r q => ?_
  by_cases ej : j = i
  · subst ej
    rw [List.getElem?_set_self (by rw [← P2.sr.len]; exact hi)] at q
    cases q
    exact .inl rfl
  · rw [List.getElem?_set_ne (Ne.symm ej)] at q
    rw [List.getElem?_set_ne (Ne.symm ej)]
    exact .inr q
theorem psp_newN (he : PSN X st ρ i ρ1 d) (h : PSP X rest (ρ1.set i .no) (T ++ [(i, d)]) E) (hT : (T.map (·.1)).contains i = false) (hi : (ρ1[i]?).isSome = true) : PSP X (st :: rest) ρ T E := .mk fun B σ G H M vs L P n k => by
  have hT' : i ∉ T.map (·.1) := fun m => by
    have z := List.contains_iff_mem.mpr m
    rw [hT] at z; cases z
  refine wpB_of (pss_cons canS canB) ?_
  refine he.run _ σ G H _ P.sr fun v G1 H1 M1 e1 P1 => ?_
  have P2 := P.add P1 e1
  have hi : i < σ.length := by
    rw [P2.sr.len]
    obtain ⟨r, hr⟩ := Option.isSome_iff_exists.mp hi
    exact (List.getElem?_eq_some_iff.mp hr).1
  refine h.run B _ G1 H1 M _ _ (T := T ++ [(i, d)]) ⟨?_, P2.fr, by rw [List.map_append]; exact P2.tr, P2.nd⟩ ((n.set hT').snoc (List.getElem?_set_self hi)) (k.mono e1)
  have z := P2.sr.set (i := i) (ValR.of (B := _) (σ := σ) (ρ := ρ1) (H := H1) (.raw v))
  refine z.weak (by rw [List.length_set, List.length_set]) fun j r q => ?_
  by_cases ej : j = i
  · subst ej
    rw [List.getElem?_set_self (by rw [← P2.sr.len]; exact hi)] at q
    cases q
    exact .inl rfl
  · rw [List.getElem?_set_ne (Ne.symm ej)] at q
    rw [List.getElem?_set_ne (Ne.symm ej)]
    exact .inr q
/-- x = e, nothing of the trees -/
theorem psp_let (hX : X.N = N) (hA : At N i x) (he : PD X e ρ ρ1 r) (h : PSP X rest (ρ1.set i r) T E) (hT : (T.map (·.1)).contains i = false) (hN : N.Nodup) (hx : Loc X.env.scope x) (hf : X.fn x = true ∨ X.env.scope.names.lookup x = some .local)
    (hs : swapsWithSole [.Name x p] e pos.line X.env = pure false) (hw : swappedStores [.Name x p] e X.env = pure none)
    (h1 : (assignEach [.Name x p] X.env).map (·.2) = [assign (.Name x p) X.env]) : PSP X (.Assign [.Name x p] e pos :: rest) ρ T E := .mk fun B σ G H M vs L P n k => by
  have hT' : i ∉ T.map (·.1) := fun m => by
    have z := List.contains_iff_mem.mpr m
    rw [hT] at z; cases z
  refine wpB_of (pss_cons (ps_asg canE (pg_name (by rw [hX]; exact hN) (by rw [hX]; exact hA.get) hx hf) hs hw h1) canB) ?_
  refine he _ σ G H _ P.sr fun v G1 H1 e1 S1 r1 => ?_
  have P1 := P.step S1 e1
  have S2 := S1.set (i := i) r1
  exact h.run B _ G1 H1 M vs L (P.step S2 e1) (n.set hT') (k.mono e1)
theorem Prv.opened {K : PySem.W.Frag} {B : Bs} {σ : L2.St} {G H : Hp} {vs : List V} {L : List Addr} (P : Prv K B σ G H ρ vs (T.map (·.2)) L) (n : NamesV σ vs T) : SR K B σ (onL L H G) H (fzT ρ T) := P.frz.puts n (Trs.rep _ _ _ P.tr)
/-- if c: .., c false, asked of the frozen trees -/
theorem psp_ifF (pl : ρ.all plainSl = true) (hc : PTD X c (fzT ρ T) ρ2 false) (h : PSP X rest ρ T E) : PSP X (.If c s1 [] pos :: rest) ρ T E := .mk fun B σ G H M vs L P n k => by
  refine wpB_of (pss_cons (ps_if canT canB pss_nil) canB) ?_
  refine hc B σ _ H _ (P.opened n) fun G1 H1 e1 S1 => iteF ?_
  exact h.run B σ G H1 M vs L (P.back (ρ' := ρ) ⟨S1.e1, S1.e2, S1.e3, S1.nw, P.sr.len, (fun i r h => by
    obtain ⟨x, h1, h2⟩ := P.drop.sl i r h
    have z := List.all_eq_true.mp pl r (List.mem_of_getElem? h)
    refine ⟨x, h1, ?_⟩
    cases r with
    | no => exact trivial
    | fz d => obtain ⟨v, q1, q2⟩ := h2; exact ⟨v, q1, q2.mono (P.exG.trans e1)⟩
    | kn w d => exact ⟨h2.1, h2.2.mono (P.exG.trans e1)⟩
    | ow ds => cases z
    | od ds => cases z
    | op p ds => cases z), fun i j p ⟨_, r, h2, o⟩ _ => by
      have := List.all_eq_true.mp pl r (List.mem_of_getElem? h2)
      cases r <;> first | exact o.elim | cases this⟩ e1 pl) n k
/-- return e, asked of the frozen trees -/
theorem psp_ret {d : D} (he : PD X e (fzT ρ T) ρ2 (.fz d)) (hp : E.rp ρ2) (h : E.rt (.fz d)) : PSP X [.Return (some e) pos] ρ T E := .mk fun B σ G H M vs L P n k => by
  refine wpB_of (pss_one (ps_ret canE)) ?_
  exact he B σ _ H _ (P.opened n) fun v G1 H1 e1 S1 r1 => k.rt v σ ρ2 G1 H1 _ (P.exG.trans e1) S1 r1 hp h
/-- spoilt(x) -/
theorem psp_spoil {k n : Nat} {f : Str} {pos' : Pos} (F : OkS X.prog X.w X.K X.mg X.base k f n) (hr : Room k X.A) (hg : Gl X f) (hX : X.N = N) (hA : At N i x) (hv : Vis X.env.scope x) (hd : (x == ("__debug__" : Str)) = false) (hcd : (x == ("__classdict__" : Str)) = false)
    (hfine : Fine n d) (h : PSP X rest ρ (T1 ++ (i, spD d) :: T2) E) (hdb : (f == ("__debug__" : Str)) = false)
    (he : starEach [.Name x q] X.env = (false, eval (.Name x q) X.env) :: starEach [] X.env) (hpl : (backTo pos (starEach [] X.env)).any (·.1) = false)
    (hs : swapsWith (.Call (.Name f p) [.Name x q] [] pos) none pos'.line X.env = pure false) :
    PSP X (.Expr (.Call (.Name f p) [.Name x q] [] pos) pos' :: rest) ρ (T1 ++ (i, d) :: T2) E := .mk fun B σ G H M vs L P nm k' => by
  obtain ⟨fa, fd, ps, F, hm, hk, hb⟩ := F.ex
  obtain ⟨vs1, v, vs2, rfl, hl1, hv1⟩ := nm.at
  refine wpB_of (pss_cons (ps_expr (pe_call F hr hg hm hk hb .nil passL (pa_cons canE pa_nil he) hdb he hpl) hs) canB) ?_
  refine wpE_of (pe_var (by rw [hX]; exact hA.get) hv hd hcd) ⟨v, hv1, ?_⟩
  have tr := P.tr
  rw [List.map_append, List.map_cons] at tr
  obtain ⟨La, Lr, eL, ta, tr2⟩ := tr.split (by rw [List.length_map]; exact hl1)
  obtain ⟨Li, Lb, eL2, ti, tb⟩ := tr2.inv
  subst eL2
  subst eL
  have nd := P.nd
  have nd1 := List.nodup_append.mp nd
  have nd2 := List.nodup_append.mp nd1.2.1
  have sub : Ex (onL (La ++ (Li ++ Lb)) H G) H := onL_sub P.sr.e3
  refine ⟨v, d, Li, rfl, ti.mono sub, nd2.1, hfine, fun H' s => ?_⟩
  have lists : ∀ a ∈ Li, ∃ us, onL (La ++ (Li ++ Lb)) H G a = some (.lst us) := ti.isL _ _ _
  have mi : ∀ {a}, a ∈ Li → a ∈ La ++ (Li ++ Lb) := fun m => List.mem_append_right _ (List.mem_append_left _ m)
  -- what was spoilt, by the trees' own heap
  have s' : Spo Li (onL (La ++ (Li ++ Lb)) H G) (onL (La ++ (Li ++ Lb)) H' G) := ⟨fun a m o z => by
    by_cases w : a ∈ La ++ (Li ++ Lb)
    · rw [onL_in w] at z ⊢; exact s.out a m o z
    · rw [onL_out w] at z ⊢; exact z, fun a m us z => by
    rw [onL_in (mi m)] at z ⊢
    exact s.inn a m us z⟩
  have P2 := P.change (H' := H') (es := (T1 ++ (i, spD d) :: T2).map (·.2)) (fun a m o z => s.out a (fun w => m (mi w)) o z) (by
    rw [List.map_append, List.map_cons]
    refine Trs.append (ta.beside s' lists fun a m m2 => nd1.2.2 a m a (List.mem_append_left _ m2) rfl) (.cons (Tr.spo (fun a us z => s'.out a (fun m => by
      obtain ⟨ws, w⟩ := lists a m
      rw [z] at w; cases w) _ z) _ _ _ ti s'.inn) (tb.beside s' lists fun a m m2 => nd2.2.2 a m2 a m rfl)))
  exact h.run B σ G H' M _ _ P2 nm.swap k'
end
theorem noLs_spots (sp : List Spot) : noLs (sp.map encS) = true := noLs_all fun d hd => by
  obtain ⟨p, _, rfl⟩ := List.mem_map.mp hd
  rfl
theorem noLs_plan (p : Plan) : noLs (p.map encStep) = true := noLs_all fun d hd => by
  obtain ⟨st, _, rfl⟩ := List.mem_map.mp hd
  cases st <;> rfl
structure EnQ where
  nx : List Sl → List D → Prop
  rt : Sl → Prop
  bk : List Sl → List D → Prop := fun _ _ => False
  ct : List Sl → List D → Prop := fun _ _ => False
structure EnQOk (K : PySem.W.Frag) (B : Bs) (G : Hp) (vs : List V) (L : List Addr) (E : EnQ) (M : Ends) : Prop where
  nx : ∀ σ' G' H' ρ' ds, Ex G G' → Prv K B σ' G' H' ρ' vs ds L → E.nx ρ' ds → M.nx σ' H'
  rt : ∀ v σ' ρ' G' H' r, Ex G G' → SR K B σ' G' H' ρ' → ValR K B σ' ρ' G' H' v r → E.rt r → M.rt v H'
  bk : ∀ σ' G' H' ρ' ds, Ex G G' → Prv K B σ' G' H' ρ' vs ds L → E.bk ρ' ds → M.bk σ' H'
  ct : ∀ σ' G' H' ρ' ds, Ex G G' → Prv K B σ' G' H' ρ' vs ds L → E.ct ρ' ds → M.ct σ' H'
theorem EnQOk.mono {K : PySem.W.Frag} {B : Bs} {G G' : Hp} {vs : List V} {L : List Addr} {E : EnQ} {M : Ends} (h : EnQOk K B G vs L E M) (e : Ex G G') : EnQOk K B G' vs L E M :=
  ⟨fun a b c d f x => h.nx a b c d f (e.trans x), fun a b c d f g x => h.rt a b c d f g (e.trans x), fun a b c d f x => h.bk a b c d f (e.trans x), fun a b c d f x => h.ct a b c d f (e.trans x)⟩
structure PSQ (X : Cx) (vs : List V) (sts : List Stmt) (ρ : List Sl) (ds : List D) (E : EnQ) : Prop where
  run : ∀ (B : Bs) (σ : L2.St) (G H : Hp) (M : Ends) (L : List Addr), Prv X.K B σ G H ρ vs ds L → EnQOk X.K B G vs L E M → wpB X sts M σ H
structure PSQ1 (X : Cx) (vs : List V) (st : Stmt) (ρ : List Sl) (ds : List D) (E : EnQ) : Prop where
  run : ∀ (B : Bs) (σ : L2.St) (G H : Hp) (M : Ends) (L : List Addr), Prv X.K B σ G H ρ vs ds L → EnQOk X.K B G vs L E M → wpS X st M σ H
def EnQ.loop (E : EnQ) (W : List Sl → List D → Prop) : EnQ := { nx := W, rt := E.rt, bk := E.nx, ct := W }
/-- the ends of a step that leaves the trees alone -/
def EnQ.at (E : EnQ) (ds : List D) : En := { nx := fun ρ => E.nx ρ ds, rt := fun r => E.rt r ∧ ¬ Own r, bk := fun ρ => E.bk ρ ds, ct := fun ρ => E.ct ρ ds }
section
variable {X : Cx} {st : Stmt} {sts rest s1 s2 : List Stmt} {a c e : Expr} {es : List Expr} {ρ ρ1 ρ2 : List Sl} {vs : List V} {ds : List D} {E : EnQ} {d : D} {r : Sl} {N : List Str} {i j : Nat} {x y : Str} {pos p q : Pos}
theorem psq_nil (h : E.nx ρ ds) : PSQ X vs [] ρ ds E := .mk fun B σ G H M L P k => wpB_of pss_nil (k.nx σ G H ρ ds (Evl.Ex.refl G) P h)
theorem psq_one (h : PSQ1 X vs st ρ ds E) : PSQ X vs [st] ρ ds E := .mk fun B σ G H M L P k => wpB_of (pss_one canS) (h.run B σ G H M L P k)
theorem psq_cons (h : PSQ1 X vs st ρ ds { E with nx := fun ρ' ds' => PSQ X vs rest ρ' ds' E }) : PSQ X vs (st :: rest) ρ ds E := .mk fun B σ G H M L P k =>
  wpB_of (pss_cons canS canB) (h.run B σ G H _ L P ⟨fun σ' G' H' ρ' ds' e P' q => q.run B σ' G' H' M L P' (k.mono e), k.rt, k.bk, k.ct⟩)
/-- a statement that leaves the trees alone -/
theorem psq1_of (h : PS1 X st ρ (E.at ds)) : PSQ1 X vs st ρ ds E := .mk fun B σ G H M L P k =>
  h _ σ G H M P.sr ⟨fun σ' G' H' ρ' e S' q => k.nx σ' G' H' ρ' ds e (P.step S' e) q, fun v σ' ρ' G' H' r e S' hv _ q => k.rt v σ' ρ' G' H' r e (P.step S' e).drop ⟨hv.1, by
    obtain ⟨_, h2, _⟩ := hv
    cases r with
    | no => exact trivial
    | fz d => exact h2
    | kn w d => exact h2
    | ow ds => exact absurd trivial q.2
    | od ds => exact absurd trivial q.2
    | op p ds => exact absurd trivial q.2, hv.2.2⟩ q.1, fun σ' G' H' ρ' e S' q => k.bk σ' G' H' ρ' ds e (P.step S' e) q, fun σ' G' H' ρ' e S' q => k.ct σ' G' H' ρ' ds e (P.step S' e) q⟩
theorem psq1_if {k : Bool} (hc : PTD X c ρ ρ1 k) (h1 : k = true → PSQ X vs s1 ρ1 ds E) (h2 : k = false → PSQ X vs s2 ρ1 ds E) : PSQ1 X vs (.If c s1 s2 pos) ρ ds E := .mk fun B σ G H M L P q =>
  wpS_of (ps_if canT canB canB) (hc _ σ G H _ P.sr fun G1 H1 e1 S1 => by
    have P1 := P.step S1 e1
    cases k with
    | true => exact iteT ((h1 rfl).run B σ G1 H1 M L P1 (q.mono e1))
    | false => exact iteF ((h2 rfl).run B σ G1 H1 M L P1 (q.mono e1)))
theorem psq1_while {body : List Stmt} (I : Nat → List Sl → List D → Prop) (m0 : Nat) (h0 : I m0 ρ ds)
    (hs : ∀ (m : Nat) (ρ' : List Sl) (ds' : List D), I m ρ' ds' → ∃ k ρ2, PTD X c ρ' ρ2 k ∧ (k = true → PSQ X vs body ρ2 ds' (E.loop fun ρ3 ds3 => ∃ m', m' < m ∧ I m' ρ3 ds3)) ∧ (k = false → E.nx ρ2 ds'))
    (hp : PassesOwn (model X.prog X.w) X.A X.env X.xe) : PSQ1 X vs (.While c body [] pos) ρ ds E := .mk fun B σ G H M L P k => by
  refine wpS_of (ps_while hp canT canB) ?_
  refine ⟨fun m σ' H' => ∃ G' ρ' ds', Ex G G' ∧ Prv X.K B σ' G' H' ρ' vs ds' L ∧ I m ρ' ds', ⟨m0, G, ρ, ds, Evl.Ex.refl G, P, h0⟩, ?_⟩
  rintro m σ' H' ⟨G', ρ', ds', e', P', hI⟩
  obtain ⟨t, ρ2, hc, hb, hn⟩ := hs m ρ' ds' hI
  refine hc _ σ' G' H' _ P'.sr fun G2 H2 e2 S2 => ?_
  have P2 := P'.step S2 e2
  cases t with
  | true =>
    refine iteT ⟨fun σ3 H3 => ∃ G3 ρ3 ds3, Ex G G3 ∧ Prv X.K B σ3 G3 H3 ρ3 vs ds3 L ∧ ∃ m', m' < m ∧ I m' ρ3 ds3, fun σ3 H3 ⟨G3, ρ3, ds3, e3, S3, m', hm, hI'⟩ => ⟨m', hm, G3, ρ3, ds3, e3, S3, hI'⟩, ?_⟩
    refine (hb rfl).run B σ' G2 H2 _ L P2 ⟨?_, ?_, ?_, ?_⟩
    · exact fun σ3 G3 H3 ρ3 ds3 e3 S3 q => ⟨G3, ρ3, ds3, (e'.trans e2).trans e3, S3, q⟩
    · exact fun v σ3 ρ3 G3 H3 r e3 S3 v3 q => k.rt v σ3 ρ3 G3 H3 r ((e'.trans e2).trans e3) S3 v3 q
    · exact fun σ3 G3 H3 ρ3 ds3 e3 S3 q => k.nx σ3 G3 H3 ρ3 ds3 ((e'.trans e2).trans e3) S3 q
    · exact fun σ3 G3 H3 ρ3 ds3 e3 S3 q => ⟨G3, ρ3, ds3, (e'.trans e2).trans e3, S3, q⟩
  | false => exact iteF (k.nx σ' G2 H2 ρ2 ds' (e'.trans e2) P2 (hn rfl))
theorem psq1_forR {body : List Stmt} {n : Int} {rp cp : Pos} (hX : X.N = N) (hA : At N j x) (hi : PD X a ρ ρ1 (.fz (.int n))) (I : Nat → List Sl → List D → Prop) (hn : n ≤ 100000 ∧ -100000 ≤ n) (h0 : I 0 ρ1 ds)
    (hs : ∀ (i : Nat) (ρ' : List Sl) (ds' : List D), (i : Int) < n → I i ρ' ds' → PSQ X vs body (ρ'.set j (.fz (.int (i : Int)))) ds' (E.loop (I (i + 1)))) (hd : ∀ ρ' ds', I n.toNat ρ' ds' → E.nx ρ' ds') (hg : Gl X "range") (hm : X.mg "range" = none)
    (hp : PassesOwn (model X.prog X.w) X.A X.env X.xe) (hc : X.calm = true) (hN : N.Nodup) (hx : Loc X.env.scope x) (hf : X.fn x = true ∨ X.env.scope.names.lookup x = some .local)
    (hst : starEach [a] X.env = [(false, eval a X.env)])
    (hfs : ∀ x, foldedSetIterable (.Call (.Name "range" rp) [a] [] cp) X.env x = pure x) : PSQ1 X vs (.For (.Name x p) (.Call (.Name "range" rp) [a] [] cp) body [] pos) ρ ds E := .mk fun B σ G H M L P k => by
  refine wpS_of (ps_for hp hc (pi_range1 hg hm (pa_cons canE pa_nil hst) hst) (pg_name (by rw [hX]; exact hN) (by rw [hX]; exact hA.get) hx hf) canB hfs) ?_
  refine hi _ σ G H _ P.sr fun v G1 H1 e1 S1 r1 => ?_
  have P1 := P.step S1 e1
  have z := r1.rep
  cases z
  refine ⟨n, rfl, by omega, by omega, ?_⟩
  refine for_range (lo := 0) (n := n.toNat) (fun i σ' H' => ∃ G' ρ' ds', Ex G1 G' ∧ Prv X.K B σ' G' H' ρ' vs ds' L ∧ I i ρ' ds') ⟨G1, ρ1, ds, Evl.Ex.refl G1, P1, h0⟩ ?_ ?_
  · rintro i σ' H' hlt ⟨G', ρ', ds', e', P', hI⟩
    have ez : (0 : Int) + (i : Int) = (i : Int) := Int.zero_add _
    rw [ez]
    refine (hs i ρ' ds' (by omega) hI).run B _ G' H' _ L (P'.set (.int _)) ⟨?_, ?_, ?_, ?_⟩
    · exact fun σ2 G2 H2 ρ2 ds2 e2 S2 q => ⟨G2, ρ2, ds2, e'.trans e2, S2, q⟩
    · exact fun v σ2 ρ2 G2 H2 r e2 S2 v2 q => k.rt v σ2 ρ2 G2 H2 r (e1.trans (e'.trans e2)) S2 v2 q
    · exact fun σ2 G2 H2 ρ2 ds2 e2 S2 q => k.nx σ2 G2 H2 ρ2 ds2 (e1.trans (e'.trans e2)) S2 q
    · exact fun σ2 G2 H2 ρ2 ds2 e2 S2 q => ⟨G2, ρ2, ds2, e'.trans e2, S2, q⟩
  · rintro σ' H' ⟨G', ρ', ds', e', P', hI⟩
    exact k.nx σ' G' H' ρ' ds' (e1.trans e') P' (hd ρ' ds' hI)
end
theorem trs_mem {G : Hp} {q : Addr} : ∀ {us : List V} {ds : List D} {L : List Addr} {k : Nat} {es : List D}, Trs G us ds L → us[k]? = some (.ref q) → ds[k]? = some (.lst es) → q ∈ L
  | [], _, _, _, _, _, h, _ => by cases h
  | _ :: _, [], _, _, _, _, _, h => by cases h
  | u :: us, d :: ds, L, 0, es, t, hu, hk => by
    obtain ⟨M1, M2, rfl, s1, s2⟩ := t.inv
    simp at hu hk
    subst hu; subst hk
    cases s1 with
    | lst _ _ => exact List.mem_append_left _ List.mem_cons_self
  | u :: us, d :: ds, L, k + 1, es, t, hu, hk => by
    obtain ⟨M1, M2, rfl, s1, s2⟩ := t.inv
    exact List.mem_append_right _ (trs_mem s2 (by simpa using hu) (by simpa using hk))
theorem trs_at {G : Hp} : ∀ {us : List V} {ds : List D} {L : List Addr} {k : Nat} {es : List D}, Trs G us ds L → ds[k]? = some (.lst es) → ∃ q ws, us[k]? = some (.ref q) ∧ G q = some (.lst ws) ∧ ws.length = es.length
  | [], [], _, _, _, _, h => by cases h
  | [], _ :: _, _, _, _, t, _ => by cases t
  | _ :: _, [], _, _, _, t, h => by cases h
  | u :: us, d :: ds, L, 0, es, t, hk => by
    obtain ⟨M1, M2, rfl, s1, s2⟩ := t.inv
    simp at hk
    subst hk
    cases s1 with
    | @lst q ws _ _ g s1 => exact ⟨q, ws, rfl, g, s1.length⟩
  | u :: us, d :: ds, L, k + 1, es, t, hk => by
    obtain ⟨M1, M2, rfl, s1, s2⟩ := t.inv
    obtain ⟨q, ws, h1, h2⟩ := trs_at s2 (k := k) (by simpa using hk)
    exact ⟨q, ws, by simpa using h1, h2⟩
/-- one list of a list gets a thing more -/
theorem trs_app {G G' : Hp} {q : Addr} {ws : List V} {w : V} {d : D} (h1 : ∀ a u, a ≠ q → G a = some u → G' a = some u) (h2 : G q = some (.lst ws)) (h3 : G' q = some (.lst (ws ++ [w]))) (hd : Tr G' w d []) :
    ∀ {us : List V} {ds : List D} {L : List Addr} {k : Nat} {es : List D}, Trs G us ds L → us[k]? = some (.ref q) → ds[k]? = some (.lst es) → L.Nodup → Trs G' us (ds.set k (.lst (es ++ [d]))) L := by
  have keep : ∀ {v : V} {e : D} {M : List Addr}, Tr G v e M → q ∉ M → Tr G' v e M := fun t n => t.agree (S := fun a => a ≠ q) (fun a u g z => h1 a u (by
    rintro rfl
    rcases z with ⟨us, z⟩ | z
    · subst z; rw [h2] at g; cases g
    · exact z rfl) g) _ _ _ fun a m e => n (e ▸ m)
  have keeps : ∀ {vs : List V} {es : List D} {M : List Addr}, Trs G vs es M → q ∉ M → Trs G' vs es M := fun t n => Trs.agree (S := fun a => a ≠ q) (fun a u g z => h1 a u (by
    rintro rfl
    rcases z with ⟨us, z⟩ | z
    · subst z; rw [h2] at g; cases g
    · exact z rfl) g) _ _ _ t fun a m e => n (e ▸ m)
  intro us ds
  induction ds generalizing us with
  | nil => intro L k es t _ z; cases z
  | cons e ds ih =>
    intro L k es t hu hk nd
    cases us with
    | nil => cases t
    | cons u us =>
      obtain ⟨L1, L2, rfl, t1, t2⟩ := t.inv
      have nds := List.nodup_append.mp nd
      cases k with
      | zero =>
        simp at hu hk
        subst hu; subst hk
        cases t1 with
        | @lst _ vs _ L0 g t1 =>
          rw [h2] at g
          cases g
          have nq := (List.nodup_cons.mp nds.1).1
          have z := (keeps t1 nq).append (.one hd)
          rw [List.append_nil] at z
          exact .cons (.lst h3 z) (keeps t2 fun m => nds.2.2 q List.mem_cons_self q m rfl)
      | succ k =>
        have hu' : us[k]? = some (.ref q) := by simpa using hu
        have hk' : ds[k]? = some (.lst es) := by simpa using hk
        have mq : q ∈ L2 := trs_mem t2 hu' hk'
        exact .cons (keep t1 fun m => nds.2.2 q m q mq rfl) (ih t2 hu' hk' nds.2.1)
section
variable {X : Cx} {sts rest : List Stmt} {a c e ke : Expr} {ρ ρ1 ρ2 : List Sl} {vs : List V} {ds dss es : List D} {E : EnQ} {E0 : En} {d : D} {v : V} {N : List Str} {i k : Nat} {x : Str} {pos p q pos' ap sp : Pos}
/-- x[k].append(e), x a private list of lists -/
theorem psq1_app2 (ho : ρ[i]? = some (.fz (.raw v))) (pl : ρ.all plainSl = true) (hdk : dss[k]? = some (.lst es)) (hl : es.length < 100000) (fl : Flat d)
    (hsub : ∀ (us : List V) (u : V), us[k]? = some u → PD X (.Subscript a ke sp) (ρ.set i (.fz (.lst (us.map .raw)))) (ρ.set i (.fz (.lst (us.map .raw)))) (.fz (.raw u)))
    (he : ∀ us : List V, PD X e (ρ.set i (.fz (.lst (us.map .raw)))) (ρ.set i (.fz (.lst (us.map .raw)))) (.fz d))
    (h : E.nx ρ [.lst (dss.set k (.lst (es ++ [d])))])
    (hps : ∀ (ho : PE X (.Subscript a ke sp) (wpE X (.Subscript a ke sp))) (ha : PA X [e] (tCons (wpE X e) tNil)), PE X (.Call (.Attribute (.Subscript a ke sp) "append" ap) [e] [] pos') (tBM X.K "list" rAppend (wpE X (.Subscript a ke sp)) (tCons (wpE X e) tNil)))
    (hpa : starEach [e] X.env = (false, eval e X.env) :: starEach [] X.env)
    (hs : swapsWith (.Call (.Attribute (.Subscript a ke sp) "append" ap) [e] [] pos') none pos.line X.env = pure false) :
    PSQ1 X [v] (.Expr (.Call (.Attribute (.Subscript a ke sp) "append" ap) [e] [] pos') pos) ρ [.lst dss] E := .mk fun B σ G H M L P k' => by
  refine wpS_of (ps_expr (hps canE (pa_cons canE pa_nil hpa)) hs) ?_
  have t := P.tr.inv1
  obtain ⟨v', hv', rv⟩ := P.sr.get ho
  cases rv
  cases t with
  | @lst p0 us _ L0 g t =>
    obtain ⟨q, ws, hu, hq, hwl⟩ := trs_at t hdk
    have mq : q ∈ p0 :: L0 := List.mem_cons_of_mem _ (trs_mem t hu hdk)
    have raws : ∀ {G' : Hp} (ws : List V), Reps X.K G' ws (ws.map .raw) := fun {G'} ws => by
      induction ws with
      | nil => exact .nil
      | cons w ws ih => exact .cons (.raw w) ih
    have S0 := P.frz.put hv' (d := .lst (us.map .raw)) (.lst g (raws us))
    refine (hsub us _ hu) B σ _ H _ S0 fun w G1 H1 e1 S1 r1 => ?_
    have z := r1.rep
    cases z
    have hq1 : H1 q = some (.lst ws) := S1.e3 _ _ (e1 _ _ hq)
    refine ⟨.inl ⟨rfl, _, .inl (.inl hq1)⟩, ?_⟩
    refine (he us) B σ G1 H1 _ S1 fun w2 G2 H2 e2 S2 r2 => ?_
    have hq2 : H2 q = some (.lst ws) := S2.e3 _ _ (e2 _ _ (e1 _ _ hq))
    refine ⟨q, ws, w2, rfl, rfl, hq2, by rw [hwl]; exact Evl.sz_lt hl, ?_⟩
    have P2 := P.back S2 (e1.trans e2) pl
    have t2 := P2.tr.inv1
    have g2 : onL (p0 :: L0) H2 G p0 = some (.lst us) := by
      have z : onL (p0 :: L0) H G p0 = some (.lst us) := g
      rw [onL_in List.mem_cons_self] at z ⊢
      exact S2.e3 _ _ ((e1.trans e2) _ _ g)
    have nd := List.nodup_cons.mp P.nd
    have pq : p0 ≠ q := fun e => nd.1 (by rw [e]; exact trs_mem t hu hdk)
    cases t2 with
    | @lst _ us2 _ _ g3 t2 =>
      rw [g2] at g3
      cases g3
      refine k'.nx σ G _ ρ _ (Evl.Ex.refl G) (P2.change (H' := upd H2 q (.lst (ws ++ [w2]))) (es := [.lst (dss.set k (.lst (es ++ [d])))]) (fun b m o z => by
        rw [upd_ne (fun e => m (by rw [e]; exact mq))]; exact z) (.one (.lst (vs := us) ?_ (trs_app (q := q) (ws := ws) (w := w2) (fun b u nb z => ?_) ?_ ?_ ?_ t2 hu hdk nd.2)))) h
      · rw [onL_in List.mem_cons_self, upd_ne pq]
        rw [onL_in List.mem_cons_self] at g2
        exact g2
      · by_cases m : b ∈ p0 :: L0
        · rw [onL_in m] at z ⊢; rw [upd_ne nb]; exact z
        · rw [onL_out m] at z ⊢; exact z
      · rw [onL_in mq]; exact hq2
      · rw [onL_in mq]; exact upd_same
      · cases fl with
        | non => have z := r2.rep; cases z; exact .non
        | bl b => have z := r2.rep; cases z; exact .bl _
        | int b => have z := r2.rep; cases z; exact .int _
        | str b => have z := r2.rep; cases z; exact .str _
/-- x = e, a tree; the block goes on beside it -/
theorem psq_start {st : Stmt} (he : PSN X st ρ i ρ1 d) (h : ∀ v, PSQ X [v] rest (ρ1.set i (.fz (.raw v))) [d] E) (hE : ∀ ρ' ds', E.nx ρ' ds' → E0.nx ρ') (hr : ∀ r, E.rt r → E0.rt r) (hb : ∀ ρ' ds', ¬ E.bk ρ' ds') (hct : ∀ ρ' ds', ¬ E.ct ρ' ds') (hrp : ∀ ρ', E0.rp ρ') : PSD X (st :: rest) ρ E0 := .mk fun B σ G H M S k => by
  refine wpB_of (pss_cons canS canB) ?_
  refine he.run _ σ G H _ S fun v G1 H1 L e1 P1 => ?_
  exact (h v).run B _ G1 H1 M L (P1.set (i := i) (.raw v)) ⟨fun σ' G' H' ρ' ds' e2 P' q => k.nx σ' G' H' ρ' (e1.trans e2) P'.drop (hE _ _ q), fun v σ' ρ' G' H' r e2 S' hv q => k.rt v σ' ρ' G' H' r (e1.trans e2) S' hv (hrp _) (hr _ q), fun _ _ _ _ _ _ _ q => absurd q (hb _ _), fun _ _ _ _ _ _ _ q => absurd q (hct _ _)⟩
/-- the tree stands for good from now on -/
theorem psq_stop (ho : ρ[i]? = some (.fz (.raw v))) (h : PSD X sts (ρ.set i (.fz d)) { nx := fun _ => False, rt := E.rt }) : PSQ X [v] sts ρ [d] E := .mk fun B σ G H M L P k => by
  obtain ⟨v', hv', rv⟩ := P.sr.get ho
  cases rv
  refine h B σ _ H M (P.frz.put hv' (Tr.rep _ _ _ P.tr.inv1)) ⟨fun _ _ _ _ _ _ z => z.elim, fun v σ' ρ' G' H' r e2 S' hv _ q => k.rt v σ' ρ' G' H' r (P.exG.trans e2) S' hv q, fun _ _ _ _ _ _ z => z.elim, fun _ _ _ _ _ _ z => z.elim⟩
end
section
variable {X : Cx} {c : Expr} {body : List Stmt} {ρ ρ2 : List Sl} {vs : List V} {ds : List D} {E : EnQ} {W : List Sl → List D → Prop} {pos : Pos}
def TurnQ (X : Cx) (vs : List V) (c : Expr) (body : List Stmt) (ρ : List Sl) (ds : List D) (E : EnQ) (W : List Sl → List D → Prop) : Prop :=
  ∃ k ρ2, PTD X c ρ ρ2 k ∧ (k = true → PSQ X vs body ρ2 ds (E.loop W)) ∧ (k = false → E.nx ρ2 ds)
theorem turnq_yes {k : Bool} (h : PTD X c ρ ρ2 k) (hk : k = true) (hb : PSQ X vs body ρ2 ds (E.loop W)) : TurnQ X vs c body ρ ds E W := ⟨k, ρ2, h, fun _ => hb, fun z => by rw [hk] at z; cases z⟩
theorem turnq_no {k : Bool} (h : PTD X c ρ ρ2 k) (hk : k = false) (hn : E.nx ρ2 ds) : TurnQ X vs c body ρ ds E W := ⟨k, ρ2, h, (fun z => by rw [hk] at z; cases z), fun _ => hn⟩
theorem psq1_loop (I : Nat → List Sl → List D → Prop) (m0 : Nat) (h0 : I m0 ρ ds) (hs : ∀ (m : Nat) (ρ' : List Sl) (ds' : List D), I m ρ' ds' → TurnQ X vs c body ρ' ds' E (fun ρ3 ds3 => ∃ m', m' < m ∧ I m' ρ3 ds3)) (hp : PassesOwn (model X.prog X.w) X.A X.env X.xe) : PSQ1 X vs (.While c body [] pos) ρ ds E :=
  psq1_while I m0 h0 (fun m ρ' ds' h => hs m ρ' ds' h) hp
end
section
variable {X : Cx} {ρ : List Sl} {d : D} {v : V} {N : List Str} {i : Nat} {x : Str} {pos : Pos}
theorem pd_atK (hX : X.N = N) (hA : At N i x) (h : ρ[i]? = some (.kn v d)) (hv : Vis X.env.scope x) (hd : (x == ("__debug__" : Str)) = false) (hcd : (x == ("__classdict__" : Str)) = false) : PD X (.Name x pos) ρ ρ (.fz d) := .mk fun B σ G H Q S k => wpE_of (pe_var (by rw [hX]; exact hA.get) hv hd hcd) (by
  obtain ⟨y, h1, rfl, h2⟩ := S.sl i _ h
  exact ⟨v, h1, k v G H (Evl.Ex.refl G) S (.of h2)⟩)
theorem pd_atKr (hX : X.N = N) (hA : At N i x) (h : ρ[i]? = some (.kn v d)) (hv : Vis X.env.scope x) (hd : (x == ("__debug__" : Str)) = false) (hcd : (x == ("__classdict__" : Str)) = false) : PD X (.Name x pos) ρ ρ (.fz (.raw v)) := .mk fun B σ G H Q S k => wpE_of (pe_var (by rw [hX]; exact hA.get) hv hd hcd) (by
  obtain ⟨y, h1, rfl, h2⟩ := S.sl i _ h
  exact ⟨v, h1, k v G H (Evl.Ex.refl G) S (.of (.raw v))⟩)
end
section
variable {K : PySem.W.Frag} {B : Bs} {σ : L2.St} {G H : Hp} {ρ : List Sl} {v : V} {d : D} {L : List Addr}
/-- a name's value is known from now on -/
theorem SR.setK {i : Nat} (S : SR K B σ G H ρ) (r : Rep K G v d) : SR K B (σ.set i (some v)) G H (ρ.set i (.kn v d)) := S.set ⟨(fun z => nomatch z), ⟨rfl, r⟩, fun z => False.elim z⟩
theorem SR.getK {i : Nat} (S : SR K B σ G H ρ) (h : ρ[i]? = some (.kn v d)) : σ[i]? = some (some v) ∧ Rep K G v d := by
  obtain ⟨y, h1, rfl, h2⟩ := S.sl i _ h
  exact ⟨h1, h2⟩
def offL (L : List Addr) (G : Hp) : Hp := fun a => if a ∈ L then none else G a
theorem offL_in {a : Addr} (h : a ∈ L) : offL L G a = none := if_pos h
theorem offL_out {a : Addr} (h : a ∉ L) : offL L G a = G a := if_neg h
theorem offL_ex : Ex (offL L G) G := fun a o e => by
  by_cases m : a ∈ L
  · rw [offL_in m] at e; cases e
  · rw [offL_out m] at e; exact e
/-- a frozen tree of new lists is a private one, all names forgotten -/
theorem Prv.ofFrozen (S : SR K B σ G H ρ) (t : Tr G v d L) (nd : L.Nodup) (hF : ∀ a ∈ L, B.F a = none) (e : Ex B.V0 B.F) : Prv K B σ (offL L G) H (List.replicate σ.length .no) [v] [d] L ∧ Ex B.V0 (offL L G) := by
  have same : ∀ a u, G a = some u → onL L H (offL L G) a = some u := fun a u q => by
    by_cases m : a ∈ L
    · rw [onL_in m]; exact S.e3 a u q
    · rw [onL_out m, offL_out m]; exact q
  have ex0 : Ex B.V0 (offL L G) := fun a o q => by
    rw [offL_out (fun m => by have z := hF a m; rw [e a o q] at z; cases z)]
    exact S.e1 a o q
  have no : ∀ (i : Nat) r, (List.replicate σ.length Sl.no)[i]? = some r → r = .no := fun i r h => List.eq_of_mem_replicate (List.mem_of_getElem? h)
  have S' : SR K B σ (offL L G) H (List.replicate σ.length .no) := ⟨ex0, S.e2, offL_ex.trans S.e3, fun a o q q2 => S.nw a o (offL_ex a o q) q2, by rw [List.length_replicate], fun i r h => by
    have z := no i r h
    subst z
    have hi : i < σ.length := by
      have := (List.getElem?_eq_some_iff.mp h).1
      rwa [List.length_replicate] at this
    exact ⟨_, List.getElem?_eq_getElem hi, trivial⟩, fun i j p ⟨_, r, h, o⟩ _ => by rw [no i r h] at o; exact False.elim o⟩
  exact ⟨⟨S'.tight (fun a m => offL_in m) (fun i p ⟨_, r, h, o⟩ => by rw [no i r h] at o; exact False.elim o), fun a m => ⟨hF a m, offL_in m⟩, .one (t.mono same), nd⟩, ex0⟩
theorem Trs.del {G : Hp} {us : List V} {es : List D} {v : V} {d : D} {vs : List V} {ds : List D} {L : List Addr} (h : Trs G (us ++ v :: vs) (es ++ d :: ds) L) (e : us.length = es.length) : ∃ La Lb Lc, L = La ++ (Lb ++ Lc) ∧ Trs G us es La ∧ Tr G v d Lb ∧ Trs G vs ds Lc := by
  obtain ⟨La, Lr, rfl, a, b⟩ := h.split e
  obtain ⟨Lb, Lc, rfl, c, f⟩ := b.inv
  exact ⟨La, Lb, Lc, rfl, a, c, f⟩
theorem onL_less {L M : List Addr} {H F : Hp} (h : ∀ a ∈ M, a ∈ L) (hF : ∀ a ∈ L, F a = none) : Ex (onL M H F) (onL L H F) := fun a o q => by
  by_cases m : a ∈ M
  · rw [onL_in m] at q; rw [onL_in (h a m)]; exact q
  · rw [onL_out m] at q
    rw [onL_out (fun m2 => by rw [hF a m2] at q; cases q)]
    exact q
/-- a tree is forgotten -/
theorem Prv.del {us vs : List V} {es ds : List D} (P : Prv K B σ G H ρ (us ++ v :: vs) (es ++ d :: ds) L) (e : us.length = es.length) : ∃ M, Prv K B σ G H ρ (us ++ vs) (es ++ ds) M := by
  obtain ⟨La, Lb, Lc, rfl, a, b, c⟩ := P.tr.del e
  have sub : ∀ x ∈ La ++ Lc, x ∈ La ++ (Lb ++ Lc) := fun x m => by
    rcases List.mem_append.mp m with m | m
    · exact List.mem_append_left _ m
    · exact List.mem_append_right _ (List.mem_append_right _ m)
  have nd := List.nodup_append.mp P.nd
  have nd2 := List.nodup_append.mp nd.2.1
  refine ⟨La ++ Lc, P.sr.loose (onL_less sub fun x m => (P.fr x m).1), fun x m => P.fr x (sub x m), ?_, List.nodup_append.mpr ⟨nd.1, nd2.2.1, fun x m y m2 => nd.2.2 x m y (List.mem_append_right _ m2)⟩⟩
  have tr : ∀ {ws : List V} {fs : List D} {M : List Addr}, Trs (onL (La ++ (Lb ++ Lc)) H G) ws fs M → (∀ x ∈ M, x ∈ La ++ Lc) → Trs (onL (La ++ Lc) H G) ws fs M := fun t h => Trs.agree (S := fun x => x ∈ La ++ Lc) (fun x u q z => by
    rcases z with ⟨ws, z⟩ | z
    · subst z
      by_cases m : x ∈ La ++ (Lb ++ Lc)
      · obtain ⟨ks, hk⟩ := P.there x m
        rw [onL_in m, hk] at q; cases q
      · rw [onL_out m] at q
        rw [onL_out (fun m2 => m (sub x m2))]
        exact q
    · rw [onL_in (sub x z)] at q
      rw [onL_in z]; exact q) _ _ _ t h
  exact (tr a fun x m => List.mem_append_left _ m).append (tr c fun x m => List.mem_append_right _ m)
end

structure EnR where
  nx : List Sl → List V → List D → Prop
  tr : D → Prop
  bk : List Sl → List V → List D → Prop := fun _ _ _ => False
  ct : List Sl → List V → List D → Prop := fun _ _ _ => False
structure EnROk (K : PySem.W.Frag) (B : Bs) (G : Hp) (E : EnR) (M : Ends) : Prop where
  nx : ∀ σ' G' H' ρ' vs ds L, Ex G G' → Prv K B σ' G' H' ρ' vs ds L → E.nx ρ' vs ds → M.nx σ' H'
  tr : ∀ v σ' ρ' G' H' d L, Ex G G' → Prv K B σ' G' H' ρ' [v] [d] L → E.tr d → M.rt v H'
  bk : ∀ σ' G' H' ρ' vs ds L, Ex G G' → Prv K B σ' G' H' ρ' vs ds L → E.bk ρ' vs ds → M.bk σ' H'
  ct : ∀ σ' G' H' ρ' vs ds L, Ex G G' → Prv K B σ' G' H' ρ' vs ds L → E.ct ρ' vs ds → M.ct σ' H'
theorem EnROk.mono {K : PySem.W.Frag} {B : Bs} {G G' : Hp} {E : EnR} {M : Ends} (h : EnROk K B G E M) (e : Ex G G') : EnROk K B G' E M :=
  ⟨fun a b c d f g i x => h.nx a b c d f g i (e.trans x), fun a b c d f g i x => h.tr a b c d f g i (e.trans x), fun a b c d f g i x => h.bk a b c d f g i (e.trans x), fun a b c d f g i x => h.ct a b c d f g i (e.trans x)⟩
structure PSR (X : Cx) (sts : List Stmt) (ρ : List Sl) (vs : List V) (ds : List D) (E : EnR) : Prop where
  run : ∀ (B : Bs) (σ : L2.St) (G H : Hp) (M : Ends) (L : List Addr), Prv X.K B σ G H ρ vs ds L → EnROk X.K B G E M → wpB X sts M σ H
structure PSR1 (X : Cx) (st : Stmt) (ρ : List Sl) (vs : List V) (ds : List D) (E : EnR) : Prop where
  run : ∀ (B : Bs) (σ : L2.St) (G H : Hp) (M : Ends) (L : List Addr), Prv X.K B σ G H ρ vs ds L → EnROk X.K B G E M → wpS X st M σ H
def EnR.loop (E : EnR) (W : List Sl → List V → List D → Prop) : EnR := { nx := W, tr := E.tr, bk := E.nx, ct := W }
def EnR.at (E : EnR) (vs : List V) (ds : List D) : En := { nx := fun ρ => E.nx ρ vs ds, rt := fun _ => False, bk := fun ρ => E.bk ρ vs ds, ct := fun ρ => E.ct ρ vs ds }
section
variable {X : Cx} {st : Stmt} {sts rest s1 s2 : List Stmt} {a c e : Expr} {es : List Expr} {ρ ρ1 ρ2 : List Sl} {vs us : List V} {ds fs : List D} {E : EnR} {E0 : En} {T : D → Prop} {d : D} {v u : V} {N : List Str} {i j : Nat} {x y : Str} {pos p q pos' ap : Pos}
theorem psr_nil (h : E.nx ρ vs ds) : PSR X [] ρ vs ds E := .mk fun B σ G H M L P k => wpB_of pss_nil (k.nx σ G H ρ vs ds L (Evl.Ex.refl G) P h)
theorem psr_one (h : PSR1 X st ρ vs ds E) : PSR X [st] ρ vs ds E := .mk fun B σ G H M L P k => wpB_of (pss_one canS) (h.run B σ G H M L P k)
theorem psr_cons (h : PSR1 X st ρ vs ds { E with nx := fun ρ' vs' ds' => PSR X rest ρ' vs' ds' E }) : PSR X (st :: rest) ρ vs ds E := .mk fun B σ G H M L P k =>
  wpB_of (pss_cons canS canB) (h.run B σ G H _ L P ⟨fun σ' G' H' ρ' vs' ds' L' e P' q => q.run B σ' G' H' M L' P' (k.mono e), k.tr, k.bk, k.ct⟩)
theorem psr1_of (h : PS1 X st ρ (E.at vs ds)) : PSR1 X st ρ vs ds E := .mk fun B σ G H M L P k =>
  h _ σ G H M P.sr ⟨fun σ' G' H' ρ' e S' q => k.nx σ' G' H' ρ' vs ds L e (P.step S' e) q, fun _ _ _ _ _ _ _ _ _ _ z => z.elim, fun σ' G' H' ρ' e S' q => k.bk σ' G' H' ρ' vs ds L e (P.step S' e) q, fun σ' G' H' ρ' e S' q => k.ct σ' G' H' ρ' vs ds L e (P.step S' e) q⟩
theorem psr1_if {k : Bool} (hc : PTD X c ρ ρ1 k) (h1 : k = true → PSR X s1 ρ1 vs ds E) (h2 : k = false → PSR X s2 ρ1 vs ds E) : PSR1 X (.If c s1 s2 pos) ρ vs ds E := .mk fun B σ G H M L P q =>
  wpS_of (ps_if canT canB canB) (hc _ σ G H _ P.sr fun G1 H1 e1 S1 => by
    have P1 := P.step S1 e1
    cases k with
    | true => exact iteT ((h1 rfl).run B σ G1 H1 M L P1 (q.mono e1))
    | false => exact iteF ((h2 rfl).run B σ G1 H1 M L P1 (q.mono e1)))
theorem psr1_if2 {b : Prop} {_ : Decidable b} (hc : PTD X c ρ ρ1 (decide b)) (h1 : b → PSR X s1 ρ1 vs ds E) (h2 : ¬ b → PSR X s2 ρ1 vs ds E) : PSR1 X (.If c s1 s2 pos) ρ vs ds E :=
  psr1_if hc (fun z => h1 (of_decide_eq_true z)) (fun z => h2 (of_decide_eq_false z))
theorem psr1_forR {body : List Stmt} {n : Int} {rp cp : Pos} (hX : X.N = N) (hA : At N j x) (hi : PD X a ρ ρ1 (.fz (.int n))) (I : Nat → List Sl → List V → List D → Prop) (hn : n ≤ 100000 ∧ -100000 ≤ n) (h0 : I 0 ρ1 vs ds)
    (hs : ∀ (i : Nat) (ρ' : List Sl) (vs' : List V) (ds' : List D), (i : Int) < n → I i ρ' vs' ds' → PSR X body (ρ'.set j (.fz (.int (i : Int)))) vs' ds' (E.loop (I (i + 1)))) (hd : ∀ ρ' vs' ds', I n.toNat ρ' vs' ds' → E.nx ρ' vs' ds') (hg : Gl X "range") (hm : X.mg "range" = none)
    (hp : PassesOwn (model X.prog X.w) X.A X.env X.xe) (hc : X.calm = true) (hN : N.Nodup) (hx : Loc X.env.scope x) (hf : X.fn x = true ∨ X.env.scope.names.lookup x = some .local)
    (hst : starEach [a] X.env = [(false, eval a X.env)])
    (hfs : ∀ x, foldedSetIterable (.Call (.Name "range" rp) [a] [] cp) X.env x = pure x) : PSR1 X (.For (.Name x p) (.Call (.Name "range" rp) [a] [] cp) body [] pos) ρ vs ds E := .mk fun B σ G H M L P k => by
  refine wpS_of (ps_for hp hc (pi_range1 hg hm (pa_cons canE pa_nil hst) hst) (pg_name (by rw [hX]; exact hN) (by rw [hX]; exact hA.get) hx hf) canB hfs) ?_
  refine hi _ σ G H _ P.sr fun v G1 H1 e1 S1 r1 => ?_
  have P1 := P.step S1 e1
  have z := r1.rep
  cases z
  refine ⟨n, rfl, by omega, by omega, ?_⟩
  refine for_range (lo := 0) (n := n.toNat) (fun i σ' H' => ∃ G' ρ' vs' ds' L', Ex G1 G' ∧ Prv X.K B σ' G' H' ρ' vs' ds' L' ∧ I i ρ' vs' ds') ⟨G1, ρ1, vs, ds, L, Evl.Ex.refl G1, P1, h0⟩ ?_ ?_
  · rintro i σ' H' hlt ⟨G', ρ', vs', ds', L', e', P', hI⟩
    have ez : (0 : Int) + (i : Int) = (i : Int) := Int.zero_add _
    rw [ez]
    refine (hs i ρ' vs' ds' (by omega) hI).run B _ G' H' _ L' (P'.set (.int _)) ⟨?_, ?_, ?_, ?_⟩
    · exact fun σ2 G2 H2 ρ2 vs2 ds2 L2 e2 S2 q => ⟨G2, ρ2, vs2, ds2, L2, e'.trans e2, S2, q⟩
    · exact fun v σ2 ρ2 G2 H2 d L2 e2 S2 q => k.tr v σ2 ρ2 G2 H2 d L2 (e1.trans (e'.trans e2)) S2 q
    · exact fun σ2 G2 H2 ρ2 vs2 ds2 L2 e2 S2 q => k.nx σ2 G2 H2 ρ2 vs2 ds2 L2 (e1.trans (e'.trans e2)) S2 q
    · exact fun σ2 G2 H2 ρ2 vs2 ds2 L2 e2 S2 q => ⟨G2, ρ2, vs2, ds2, L2, e'.trans e2, S2, q⟩
  · rintro σ' H' ⟨G', ρ', vs', ds', L', e', P', hI⟩
    exact k.nx σ' G' H' ρ' vs' ds' L' (e1.trans e') P' (hd ρ' vs' ds' hI)
theorem psr1_cut (W : List Sl → List V → List D → Prop) (h : PSR1 X st ρ vs ds { E with nx := W }) (hw : ∀ ρ' vs' ds', W ρ' vs' ds' → E.nx ρ' vs' ds') : PSR1 X st ρ vs ds E := .mk fun B σ G H M L P k =>
  h.run B σ G H M L P ⟨fun σ' G' H' ρ' vs' ds' L' e P' q => k.nx σ' G' H' ρ' vs' ds' L' e P' (hw _ _ _ q), k.tr, k.bk, k.ct⟩
/-- a name gets one more tree -/
theorem psr1_new (he : PSN X st ρ i ρ1 d) (h : ∀ v, E.nx (ρ1.set i (.fz (.raw v))) (vs ++ [v]) (ds ++ [d])) : PSR1 X st ρ vs ds E := .mk fun B σ G H M L P k =>
  he.run _ σ G H M P.sr fun v G1 H1 L1 e1 P1 => k.nx _ G1 H1 _ _ _ _ e1 ((P.add P1 e1).set (.raw v)) (h v)
/-- a tree is forgotten -/
theorem psr_del (h : PSR X sts ρ (us ++ vs) (fs ++ ds) E) (e : us.length = fs.length) : PSR X sts ρ (us ++ v :: vs) (fs ++ d :: ds) E := .mk fun B σ G H M L P k => by
  obtain ⟨M', P'⟩ := P.del e
  exact h.run B σ G H M M' P' k
theorem psr_start (h : PSR X sts ρ [] [] { nx := fun _ _ _ => False, tr := T }) : PST X sts ρ E0 T := .mk fun B σ G H M S k t =>
  h.run B σ G H M [] (.nil S) ⟨fun _ _ _ _ _ _ _ _ _ z => z.elim, fun v σ' ρ' G' H' d L e P q => t v σ' ρ' G' H' d L e P q, fun _ _ _ _ _ _ _ _ _ z => z.elim, fun _ _ _ _ _ _ _ _ _ z => z.elim⟩
/-- return x, a private tree -/
theorem psr_retT (hX : X.N = N) (hA : At N i x) (ho : ρ[i]? = some (.fz (.raw v))) (h : E.tr d) (hv : Vis X.env.scope x) (hd : (x == ("__debug__" : Str)) = false) (hcd : (x == ("__classdict__" : Str)) = false) : PSR X [.Return (some (.Name x q)) pos] ρ [v] [d] E := .mk fun B σ G H M L P k => by
  obtain ⟨v', hv', rv⟩ := P.sr.get ho
  cases rv
  refine wpB_of (pss_one (ps_ret (pe_var (by rw [hX]; exact hA.get) hv hd hcd))) ⟨v, hv', ?_⟩
  exact k.tr v σ ρ G H d L (Evl.Ex.refl G) P h
/-- x.append((.., .., u)), x and u private trees -/
theorem psr1_appT {es : List D} {n m : Int} (hX : X.N = N) (hA : At N i x) (ho : ρ[i]? = some (.fz (.raw v))) (he : PD X e ρ ρ (.fz (.tup [.int n, .int m, .raw u]))) (h : E.nx ρ [v] [.lst (es ++ [.tup [.int n, .int m, d]])]) (hl : es.length < 100000) (hv : Vis X.env.scope x)
    (hd : (x == ("__debug__" : Str)) = false) (hcd : (x == ("__classdict__" : Str)) = false)
    (hps : ∀ (ho : PE X (.Name x p) (wpE X (.Name x p))) (ha : PA X [e] (tCons (wpE X e) tNil)), PE X (.Call (.Attribute (.Name x p) "append" ap) [e] [] pos') (tBM X.K "list" rAppend (wpE X (.Name x p)) (tCons (wpE X e) tNil)))
    (hpa : starEach [e] X.env = (false, eval e X.env) :: starEach [] X.env)
    (hs : swapsWith (.Call (.Attribute (.Name x p) "append" ap) [e] [] pos') none pos.line X.env = pure false) :
    PSR1 X (.Expr (.Call (.Attribute (.Name x p) "append" ap) [e] [] pos') pos) ρ [v, u] [.lst es, d] E := .mk fun B σ G H M L P k => by
  refine wpS_of (ps_expr (hps canE (pa_cons canE pa_nil hpa)) hs) ?_
  obtain ⟨v', hv', rv⟩ := P.sr.get ho
  cases rv
  obtain ⟨Lv, Lr, eL, tv, tr⟩ := P.tr.inv
  cases tv with
  | @lst b us _ Le g te =>
    have mb : b ∈ L := by rw [eL]; exact List.mem_append_left _ List.mem_cons_self
    rw [onL_in mb] at g
    refine wpE_of (pe_var (by rw [hX]; exact hA.get) hv hd hcd) ⟨.ref b, hv', ?_⟩
    refine ⟨.inl ⟨rfl, _, .inl (.inl g)⟩, ?_⟩
    refine he _ σ G H _ P.sr fun w G2 H2 e2 S2 r2 => ?_
    have P2 := P.step S2 e2
    obtain ⟨Lv2, Lr2, eL2, tv2, tr2⟩ := P2.tr.inv
    have z := r2.rep
    cases z with
    | @tup t ws _ ht hws =>
      cases hws with
      | cons w1 hws => cases hws with
        | cons w2 hws => cases hws with
          | cons w3 hws =>
            cases hws; cases w1; cases w2; cases w3
            cases tv2 with
            | @lst _ us2 _ Le2 g2 te2 =>
              have g2' := g2
              rw [onL_in mb] at g2'
              have tu := tr2.inv1
              have nd := P2.nd
              rw [eL2, List.cons_append] at nd
              have nb := (List.nodup_cons.mp nd).1
              have hz : us2.length < sizeLine := by rw [te2.length]; exact Evl.sz_lt hl
              refine ⟨b, us2, _, rfl, rfl, g2', hz, ?_⟩
              have P3 := P2.change (H' := upd H2 b (.lst (us2 ++ [.ref t]))) (ws := [.ref b]) (es := [.lst (es ++ [.tup [.int n, .int m, d]])]) (fun a m' o q => by
                rw [upd_ne (fun e => m' (by rw [e]; exact mb))]; exact q) (by
                have keep : ∀ a u, onL L H2 G2 a = some u → ((∃ ws, u = .tup ws) ∨ a ≠ b) → onL L (upd H2 b (.lst (us2 ++ [.ref t]))) G2 a = some u := fun a u q z => by
                  have na : a ≠ b := by
                    rintro rfl
                    rcases z with ⟨ws, z⟩ | z
                    · subst z; rw [g2] at q; cases q
                    · exact z rfl
                  by_cases m' : a ∈ L
                  · rw [onL_in m'] at q ⊢; rw [upd_ne na]; exact q
                  · rw [onL_out m'] at q ⊢; exact q
                have t1 := Trs.agree (S := fun a => a ≠ b) keep _ _ _ te2 fun a m' e => nb (List.mem_append_left _ (e ▸ m'))
                have t2 := Tr.agree (S := fun a => a ≠ b) keep _ _ _ tu fun a m' e => nb (List.mem_append_right _ (e ▸ m'))
                have tt : G2 t = some (.tup [.int n, .int m, u]) := ht
                have nt : t ∉ L := fun m' => by
                  rw [(P2.fr t m').2] at tt; cases tt
                have t3 : Tr (onL L (upd H2 b (.lst (us2 ++ [.ref t]))) G2) (.ref t) (.tup [.int n, .int m, d]) Lr2 := by
                  have z := Tr.tup (G := onL L (upd H2 b (.lst (us2 ++ [.ref t]))) G2) (a := t) (by rw [onL_out nt]; exact tt) (.cons (.int n) (.cons (.int m) (.cons t2 .nil)))
                  simpa using z
                have z := Trs.one (Tr.lst (G := onL L (upd H2 b (.lst (us2 ++ [.ref t]))) G2) (a := b) (by rw [onL_in mb]; exact upd_same) (t1.append (.one t3)))
                rw [eL2]
                rw [eL2] at z
                exact z)
              exact k.nx σ G2 _ ρ [.ref b] _ L e2 P3 h
end
section
variable {K : PySem.W.Frag} {B : Bs} {σ : L2.St} {G H : Hp} {ρ : List Sl} {v u : V} {d : D} {ds : List D} {L M : List Addr}
theorem SR.putK {i : Nat} (S : SR K B σ G H ρ) (h : σ[i]? = some (some v)) (r : Rep K G v d) : SR K B σ G H (ρ.set i (.kn v d)) := by
  have z := S.setK (i := i) r
  have es : σ.set i (some v) = σ := by
    refine List.ext_getElem? fun j => ?_
    by_cases ej : j = i
    · subst ej
      rw [List.getElem?_set_self (List.getElem?_eq_some_iff.mp h).1, h]
    · rw [List.getElem?_set_ne (Ne.symm ej)]
  rw [es] at z
  exact z
theorem Tr.sub0 (t : Tr G v d L) (k : Tr G u (.tup (.raw v :: ds)) M) : Tr G u (.tup (d :: ds)) (L ++ M) := by
  cases k with
  | @tup a vs _ _ h k =>
    cases vs with
    | nil => cases k
    | cons x vs =>
      obtain ⟨L1, L2, e, t1, t2⟩ := k.inv
      cases t1
      subst e
      exact .tup h (.cons t t2)
theorem wp_seq {X : Cx} {st : Stmt} {rest : List Stmt} {M : Ends} {W : List Sl → Prop} (h : PS1 X st ρ { nx := W, rt := fun _ => False }) (S : SR X.K B σ G H ρ) (k : ∀ σ' G' H' ρ', Ex G G' → SR X.K B σ' G' H' ρ' → W ρ' → wpB X rest M σ' H') : wpB X (st :: rest) M σ H :=
  wpB_of (pss_cons canS canB) (h B σ G H _ S ⟨fun σ' G' H' ρ' e S' q => k σ' G' H' ρ' e S' q, fun _ _ _ _ _ _ _ _ _ _ z => z.elim, fun _ _ _ _ _ _ z => z.elim, fun _ _ _ _ _ _ z => z.elim⟩)
end
theorem okt_mkB {P : Program} {w : World} {K : PySem.W.Frag} {mg : Str → Option Value} {base : Heap} {k : Nat} {x : Str} {st : Stmt} {N ps : List Str} {f : TD} (F : Def K mg x st ps) (S : FnScope N ps (defScope st)) (len : ∀ ds d, f ds d → ds.length = ps.length)
    (body : ∀ (fa : Addr) (cd : Value) (A : Around) (outer : List Env) (s : Shared) (H : Hp) (E : XK) (ds : List D) (d : D), Room k (CxN P w K mg base N x st fa cd A outer s H E).A → f ds d →
      ∀ (σ : L2.St) (G H' : Hp) (M : Ends), Ex G H' → SR K ⟨G, H'⟩ σ G H' (startR N ds) → (∀ v σ' ρ' G2 H2 d' L, Ex G G2 → Prv K ⟨G, H'⟩ σ' G2 H2 ρ' [v] [d'] L → d' = d → M.rt v H2) → wpB (CxN P w K mg base N x st fa cd A outer s H E) (defBody st) M σ H') : OkT P w K mg base (k + 1) x f := by
  obtain ⟨fa, fd, F, hm, hb⟩ := F.ex
  refine ⟨fa, fd, ps, F.okX S (fun vs H Q E h => ?_) (fun cdv A outer s H vs Q E hr h => ?_), hm, F.kp, hb⟩
  · obtain ⟨G, ds, d, _, hr, hf, _⟩ := h
    rw [hr.length, len ds d hf]
  · obtain ⟨G, ds, d, eG, hrep, hf, q⟩ := h
    refine ⟨_, PSs.nox (canB (X := CxN P w K mg base N x st fa cdv A outer s H E)), ?_⟩
    refine body fa cdv A outer s H E ds d hr hf (L2.start N vs) G H _ eG (sr_start eG hrep) ?_
    rintro v σ' ρ' G' H' d' L e P rfl
    exact q v G' H' L e P.drop.e2 P.sr.e3 P.drop.nw P.fr P.tr P.nd
/-- the law's own tick: the shop's workers are handed on as they are -/
def SpI (K : PySem.W.Frag) : Sp := fun vs H Q _ => ∃ (G : Hp) (a : Addr) (w q : V) (s : Shop), vs = [.ref a] ∧ Ex G H ∧ G a = some (.tup [w, .int s.now, q]) ∧ Rep K G w (.lst (s.ws.map encW)) ∧ Rep K G q (.lst (s.sp.map encS)) ∧ ShopOk s ∧
  ∀ v G' H' L, Ex G G' → Ex H H' → Ex G' H' → (∀ a o, G' a = some o → G a = none → H a = none) → (∀ a ∈ L, H a = none ∧ G' a = none) → Trs (onL L H' G') [v] [.tup [.tup [.raw w, .int (tickS s).1.now, .lst ((tickS s).1.sp.map encS)], encOpt (tickS s).2]] L → L.Nodup → Q v H'
structure OkI (P : Program) (w : World) (K : PySem.W.Frag) (mg : Str → Option Value) (base : Heap) (k : Nat) (x : Str) (n : Nat) : Prop where
  ex : ∃ (fa : Addr) (fd : FuncData) (ps : List Str), FnOk P w K mg base (L2.CX P w) k fa fd ps (SpI K) ∧ mg x = some (.ref fa) ∧ PySem.W.keepIn K (.ref fa) = true ∧ Binds K fd ps []
theorem OkI.mono {P : Program} {w : World} {K : PySem.W.Frag} {mg : Str → Option Value} {base : Heap} {j k : Nat} {x : Str} {n : Nat} (h : OkI P w K mg base j x n) (l : j ≤ k) : OkI P w K mg base k x n := by
  obtain ⟨fa, fd, ps, h1, h2⟩ := h.ex
  exact ⟨fa, fd, ps, h1.mono l, h2⟩
theorem Tr.flatOpt {G : Hp} {v : V} {o : Option Nat} {L : List Addr} (h : Tr G v (encOpt o) L) : L = [] := Tr.noL_nil _ _ _ (by cases o <;> rfl) h
section
variable {X : Cx} {e : Expr} {ρ ρ1 : List Sl} {x : Str} {pos p : Pos}
theorem pdp_callI {k n : Nat} {s : Shop} (F : OkI X.prog X.w X.K X.mg X.base k x n) (hr : Room k X.A) (hg : Gl X x) (ha : PDP X e ρ ρ1 (encShop s)) (ok : ShopOk s) (hws : (tickS s).1.ws = s.ws) (hdb : (x == ("__debug__" : Str)) = false)
    (he : starEach [e] X.env = (false, eval e X.env) :: starEach [] X.env) (hpl : (backTo pos (starEach [] X.env)).any (·.1) = false) : PDP X (.Call (.Name x p) [e] [] pos) ρ ρ1 (.tup [encShop (tickS s).1, encOpt (tickS s).2]) := .mk fun B σ G0 H Q S k => by
  obtain ⟨fa, fd, ps, F, hm, hk, hb⟩ := F.ex
  refine wpE_of (pe_call F hr hg hm hk hb .nil passL (pa_cons canE pa_nil he) hdb he hpl) ?_
  refine ha.run B σ G0 H _ S fun v1 G1 H1 L1 e1 P1 => ?_
  have S1 := P1.frz
  obtain ⟨a, us, rfl, hGa, P2⟩ := Prv.untup P1
  have tr := P2.tr
  have lus := tr.length
  match us, lus, tr, hGa with
  | [w, y, q], _, tr, hGa =>
    obtain ⟨Lw, Lr, rfl, tw, tr2⟩ := tr.inv
    obtain ⟨Ly, Lr2, eLr, ty, tr3⟩ := tr2.inv
    subst eLr
    cases ty
    have tq := tr3.inv1
    have nd1 := List.nodup_append.mp P1.nd
    refine ⟨onL (Lw ++ ([] ++ Lr2)) H1 G1, a, w, q, s, rfl, S1.e3, ?_, tw.rep, tq.rep, ok, fun v G' H' L2 g1 g2 g3 g4 g5 g6 g7 => ?_⟩
    · rw [onL_out (fun m => by rw [(P1.fr a m).2] at hGa; cases hGa)]
      exact hGa
    · generalize hL1 : Lw ++ ([] ++ Lr2) = L1 at *
      have subW : ∀ b ∈ Lw, b ∈ L1 := fun b m => by rw [← hL1]; exact List.mem_append_left _ m
      -- the view behind the call, less the old lists
      have exG : Ex G1 (offL L1 G') := fun b o z => by
        rw [offL_out (fun m => by rw [(P1.fr b m).2] at z; cases z)]
        exact g1 b o (P1.exG b o z)
      have S2 := P1.drop.call exG g2 (offL_ex.trans g3) (fun b o z1 z2 => by
        by_cases m : b ∈ L1
        · rw [offL_in m] at z1; cases z1
        · rw [offL_out m] at z1
          exact g4 b o z1 (by rw [onL_out m]; exact z2))
      have in1 : ∀ b ∈ L1, ∃ ks, H1 b = some (.lst ks) := P1.there
      have noTup : ∀ b, b ∈ L1 → ∀ ks, G' b ≠ some (.tup ks) := fun b m ks z => by
        obtain ⟨js, hj⟩ := in1 b m
        have := g1 b _ (show onL L1 H1 G1 b = some (.lst js) by rw [onL_in m]; exact hj)
        rw [this] at z; cases z
      have frL : ∀ b ∈ Lw ++ L2, B.F b = none ∧ offL L1 G' b = none := fun b m => by
        rcases List.mem_append.mp m with m | m
        · exact ⟨(P1.fr b (subW b m)).1, offL_in (subW b m)⟩
        · refine ⟨ex_none P1.drop.e2 (g5 b m).1, ?_⟩
          by_cases m2 : b ∈ L1
          · exact offL_in m2
          · rw [offL_out m2]; exact (g5 b m).2
      have apart : ∀ b ∈ Lw, b ∉ L2 := fun b m m2 => by
        obtain ⟨js, hj⟩ := in1 b (subW b m)
        rw [(g5 b m2).1] at hj; cases hj
      refine k v (offL L1 G') H' (Lw ++ L2) (e1.trans exG) ⟨S2.tight (fun b m => (frL b m).2) (fun i b o m => ?_), frL, ?_, List.nodup_append.mpr ⟨nd1.1, g7, fun b m c m2 e => apart b m (e ▸ m2)⟩⟩
      · rcases List.mem_append.mp m with m | m
        · exact P1.away o (subW b m)
        · obtain ⟨_, _, u, hu⟩ := P1.drop.own o
          rw [(g5 b m).1] at hu; cases hu
      · -- the new tree, in the joint heap
        have t6 := Trs.agree (G' := onL (Lw ++ L2) H' (offL L1 G')) (S := fun b => b ∈ L2) (fun b u z z2 => by
          by_cases m : b ∈ L2
          · rw [onL_in m] at z
            rw [onL_in (List.mem_append_right _ m)]; exact z
          · rcases z2 with ⟨ks, z2⟩ | z2
            · subst z2
              rw [onL_out m] at z
              have n1 : b ∉ L1 := fun m1 => noTup b m1 ks z
              rw [onL_out (fun m2 => (List.mem_append.mp m2).elim (fun m3 => n1 (subW b m3)) m), offL_out n1]
              exact z
            · exact absurd z2 m) _ _ _ g6 fun b m => m
        have tw' := Tr.agree (G' := onL (Lw ++ L2) H' (offL L1 G')) (S := fun b => b ∈ Lw) (fun b u z z2 => by
          rcases z2 with ⟨ks, z2⟩ | z2
          · subst z2
            have n1 : b ∉ L1 := fun m1 => by
              obtain ⟨js, hj⟩ := in1 b m1
              rw [onL_in m1, hj] at z; cases z
            rw [onL_out n1] at z
            have z3 := P1.drop.e3 b _ z
            rw [onL_out (fun m2 => (List.mem_append.mp m2).elim (fun m3 => n1 (subW b m3)) (fun m3 => by rw [(g5 b m3).1] at z3; cases z3))]
            exact exG b _ z
          · rw [onL_in (subW b z2)] at z
            rw [onL_in (List.mem_append_left _ z2)]
            exact g2 b u z) _ _ _ tw fun b m => m
        have t7 := t6.inv1
        cases t7 with
        | @tup c vs _ _ hc t8 =>
          have l8 := t8.length
          match vs, l8, hc, t8 with
          | [x1, x2], _, hc, t8 =>
            obtain ⟨M1, M2, eM, s1, s2⟩ := t8.inv
            subst eM
            have z1 := Tr.sub0 tw' s1
            have z2 := Tr.tup (G := onL (Lw ++ (M1 ++ M2)) H' (offL L1 G')) hc (.cons z1 s2)
            rw [List.append_assoc] at z2
            have ee : D.tup [encShop (tickS s).1, encOpt (tickS s).2] = .tup [.tup [.lst (s.ws.map encW), .int (tickS s).1.now, .lst ((tickS s).1.sp.map encS)], encOpt (tickS s).2] := by
              unfold encShop
              rw [hws]
            rw [ee]
            exact .one z2
end
section
variable {X : Cx}
theorem cr_range1 : CallR X (.type "range") (fun vs H Q => ∃ i, vs = [V.int i] ∧ ∀ p, H p = none → Q (.ref p) (upd H p (.rng 0 i))) := by
  intro pins s σ H vs us Q I r h
  obtain ⟨i, rfl, q⟩ := h
  obtain ⟨u1, rfl, ri⟩ := vals1 r
  obtain ⟨t, rfl⟩ := ri
  refine call_range_1 ⟨.ref s.heap.objs.size, upd H s.heap.objs.size (.rng 0 i), I.laid (t' := s.toks + 1 + 1) (fun b o e => Heap.get?_push_of_some _ e) (by omega) ?_, rfl, q _ (I.hok.fresh (Nat.le_refl _))⟩
  exact ⟨s.toks, t, s.toks + 1, Heap.get?_push_size _ rfl⟩
theorem op_notIn_rng : OpR X (compareOp .NotIn) (fun x y H Q => ∃ i a lo hi, x = V.int i ∧ y = V.ref a ∧ H a = some (.rng lo hi) ∧ Q (.bl (!decide (lo ≤ i ∧ i < hi))) H) := by
  intro pins s σ H x y v u Q I rx ry h
  obtain ⟨i, a, lo, hi, rfl, rfl, ha, q⟩ := h
  obtain ⟨k, rfl⟩ := rx
  obtain rfl : u = Value.ref a := ry
  obtain ⟨t1, t2, t3, ho⟩ := I.hok a _ ha
  show wpAny _ _ (do return Value.bool (!(← contains (Value.ref a) (Value.int i k)))) _ _ s
  refine wpAny_bind (wpAny_contains_slot (T := "range") ⟨_, ho, rfl⟩ F.slot_range_contains (call_meets F.slot_range_contains ⟨_, ho, rfl⟩ F.entry_range_contains (F.args_range_contains_2 _ _) (q_contains a lo hi i t1 t2 t3 k)
    ⟨ho, wpAny_truthy_bool (wpAny_pure ⟨.bl _, H, I, rfl, ?_⟩)⟩))
  rw [place1]
  exact q
theorem op_mul_str : OpR X (binaryOp .Mult) (fun x y H Q => ∃ z k, x = V.str z ∧ y = V.int (if k = true then 1 else 0) ∧ Q (.str (if k = true then z else Str.empty)) H) := by
  intro pins s σ H x y v u Q I rx ry h
  obtain ⟨z, k, rfl, rfl, q⟩ := h
  obtain ⟨t, rfl⟩ := rx
  obtain ⟨t', rfl⟩ := ry
  cases k with
  | true =>
    refine P.mul_str (by decide) (fun _ h => ?_) (fun _ h => ?_) ?_
    · exact absurd h (by simp)
    · exact absurd h (by simp)
    · show (if (1 : Int) < 1 then Made.str Str.empty else if ((1 : Int) == 1 || z.length == 0) = true then Made.val (.str z t) else _).post _ s
      rw [if_neg (by decide), if_pos (by simp)]
      exact ⟨.str z, H, I, ⟨t, rfl⟩, q⟩
  | false =>
    refine P.mul_str_none (by decide) (by decide) ?_
    exact ⟨.str Str.empty, H, I.kept (t' := s.toks + 1) (fun b o e => e), ⟨_, rfl⟩, q⟩
end
section
variable {X : Cx} {a b c e : Expr} {es : List Expr} {ρ ρ1 ρ2 ρ3 : List Sl} {d : D} {xs ys : List D} {i j n : Int} {pos p q cp : Pos}
theorem ptd_inRng2 (ha : PD X a ρ ρ1 (.fz (.int n))) (hb : PD X b ρ1 ρ2 (.fz (.int i))) (hc : PD X c ρ2 ρ3 (.fz (.int j))) (hg : Gl X "range") (hm : X.mg "range" = none)
    (he : starEach [b, c] X.env = (false, eval b X.env) :: starEach [c] X.env) (he2 : starEach [c] X.env = (false, eval c X.env) :: starEach [] X.env) (hpl : (backTo cp (starEach [c] X.env)).any (·.1) = false) (hmk : behindInMarks .In (.Call (.Name "range" p) [b, c] [] cp) = false) :
    PTD X (.Compare a [.In] [.Call (.Name "range" p) [b, c] [] cp] pos) ρ ρ3 (decide (i ≤ n ∧ n < j)) := .mk fun B σ G H Q S k =>
  wpT_of (pt_cmpR op_in_rng canE (pe_callTy cr_range2 hg hm PyProof.Rows.boot_range (pa_cons canE (pa_cons canE pa_nil he2) he) (by decide) (by decide) he hpl) hmk)
    (ha B σ G H _ S fun v G1 H1 e1 S1 r1 => hb B σ G1 H1 _ S1 fun w G2 H2 e2 S2 r2 => hc B σ G2 H2 _ S2 fun u G3 H3 e3 S3 r3 => by
      have z1 := r1.rep
      have z2 := r2.rep
      have z3 := r3.rep
      cases z1; cases z2; cases z3
      exact ⟨i, j, rfl, fun l hl => ⟨n, l, i, j, rfl, rfl, upd_same, _, rfl, k G3 _ ((e1.trans e2).trans e3) (S3.alloc hl)⟩⟩)
theorem ptd_notInRng2 (ha : PD X a ρ ρ1 (.fz (.int n))) (hb : PD X b ρ1 ρ2 (.fz (.int i))) (hc : PD X c ρ2 ρ3 (.fz (.int j))) (hg : Gl X "range") (hm : X.mg "range" = none)
    (he : starEach [b, c] X.env = (false, eval b X.env) :: starEach [c] X.env) (he2 : starEach [c] X.env = (false, eval c X.env) :: starEach [] X.env) (hpl : (backTo cp (starEach [c] X.env)).any (·.1) = false) (hmk : behindInMarks .NotIn (.Call (.Name "range" p) [b, c] [] cp) = false) :
    PTD X (.Compare a [.NotIn] [.Call (.Name "range" p) [b, c] [] cp] pos) ρ ρ3 (!decide (i ≤ n ∧ n < j)) := .mk fun B σ G H Q S k =>
  wpT_of (pt_cmpR op_notIn_rng canE (pe_callTy cr_range2 hg hm PyProof.Rows.boot_range (pa_cons canE (pa_cons canE pa_nil he2) he) (by decide) (by decide) he hpl) hmk)
    (ha B σ G H _ S fun v G1 H1 e1 S1 r1 => hb B σ G1 H1 _ S1 fun w G2 H2 e2 S2 r2 => hc B σ G2 H2 _ S2 fun u G3 H3 e3 S3 r3 => by
      have z1 := r1.rep
      have z2 := r2.rep
      have z3 := r3.rep
      cases z1; cases z2; cases z3
      exact ⟨i, j, rfl, fun l hl => ⟨n, l, i, j, rfl, rfl, upd_same, _, rfl, k G3 _ ((e1.trans e2).trans e3) (S3.alloc hl)⟩⟩)
theorem ptd_inRng1 (ha : PD X a ρ ρ1 (.fz (.int n))) (hb : PD X b ρ1 ρ2 (.fz (.int i))) (hg : Gl X "range") (hm : X.mg "range" = none)
    (he : starEach [b] X.env = (false, eval b X.env) :: starEach [] X.env) (hpl : (backTo cp (starEach [] X.env)).any (·.1) = false) (hmk : behindInMarks .In (.Call (.Name "range" p) [b] [] cp) = false) :
    PTD X (.Compare a [.In] [.Call (.Name "range" p) [b] [] cp] pos) ρ ρ2 (decide (0 ≤ n ∧ n < i)) := .mk fun B σ G H Q S k =>
  wpT_of (pt_cmpR op_in_rng canE (pe_callTy cr_range1 hg hm PyProof.Rows.boot_range (pa_cons canE pa_nil he) (by decide) (by decide) he hpl) hmk)
    (ha B σ G H _ S fun v G1 H1 e1 S1 r1 => hb B σ G1 H1 _ S1 fun w G2 H2 e2 S2 r2 => by
      have z1 := r1.rep
      have z2 := r2.rep
      cases z1; cases z2
      exact ⟨i, rfl, fun l hl => ⟨n, l, 0, i, rfl, rfl, upd_same, _, rfl, k G2 _ (e1.trans e2) (S2.alloc hl)⟩⟩)
/-- tuple(xs), xs a list -/
theorem pd_tupleL (ha : PD X a ρ ρ1 (.fz (.lst xs))) (hm : X.mg "tuple" = none) (hg : Gl X "tuple") (he : starEach [a] X.env = (false, eval a X.env) :: starEach [] X.env) : PD X (.Call (.Name "tuple" p) [a] [] pos) ρ ρ1 (.fz (.tup xs)) := .mk fun B σ G H Q S k =>
  wpE_of (pe_tupleOf hg hm canE he) (ha B σ G H _ S fun v G1 H1 e1 S1 r1 => by
    have z := r1.rep
    cases z with
    | @lst l vs _ h1 h2 =>
      refine .inl ⟨l, vs, rfl, SqL.of (S1.e3 _ _ h1), fun q hq => ?_⟩
      have e2 : Ex G1 (upd G1 q (.tup vs)) := Evl.Ex.new (ex_none S1.e3 hq)
      exact k _ (upd G1 q (.tup vs)) _ (e1.trans e2) (S1.allocV hq) (.of (.tup upd_same (h2.mono e2))))
/-- t[:n], less than the whole -/
theorem pd_cutT {m : Nat} (ha : PD X a ρ ρ1 (.fz (.tup xs))) (hb : PD X b ρ1 ρ2 (.fz (.int i))) (hi : i = (m : Int)) (hl : m < xs.length) : PD X (.Subscript a (.Slice none (some b) none q) pos) ρ ρ2 (.fz (.tup (xs.take m))) := .mk fun B σ G H Q S k =>
  wpE_of (pe_slice sl_tup canE po_none (po_some canE)) (ha B σ G H _ S fun v G1 H1 e1 S1 r1 => by
    have z := r1.rep
    cases z with
    | @tup l vs _ h1 h2 =>
      refine hb B σ G1 H1 _ S1 fun w G2 H2 e2 S2 r2 => ?_
      subst hi
      have y := r2.rep
      cases y
      have hvl := h2.length
      refine ⟨_, rfl, l, vs, rfl, SqT.of (S2.e3 _ _ (e2 _ _ h1)), ?_, fun q hq => ?_⟩
      · rw [HT.sIx_nat]
        rintro ⟨_, h⟩
        omega
      · have e3 : Ex G2 (upd G2 q (.tup (cutV vs none (some (m : Int))))) := Evl.Ex.new (ex_none S2.e3 hq)
        refine k _ _ _ ((e1.trans e2).trans e3) (S2.allocV hq) (.of (.tup upd_same ?_))
        have z := ((h2.mono e2).cut none (some (m : Int))).mono e3
        rw [cutD_to] at z
        exact z)
/-- t + u, both not empty -/
theorem pd_catT (ha : PD X a ρ ρ1 (.fz (.tup xs))) (hb : PD X b ρ1 ρ2 (.fz (.tup ys))) (hx : xs ≠ []) (hy : ys ≠ []) (hl : xs.length + ys.length ≤ 100000) : PD X (.BinOp a .Add b pos) ρ ρ2 (.fz (.tup (xs ++ ys))) := pd_op op_catT ha hb fun B σ ρ G H v u Q S hx' hy' k => by
  cases hx' with
  | @tup l vs _ h1 h2 =>
    cases hy' with
    | @tup l2 ws _ h3 h4 =>
      refine ⟨l, l2, vs, ws, rfl, rfl, SqT.of (S.e3 _ _ h1), SqT.of (S.e3 _ _ h3), fun z => hx ?_, by rw [h2.length, h4.length]; exact small hl, fun z => absurd ?_ hy, fun _ p hp => ?_⟩
      · subst z; cases h2; rfl
      · subst z; cases h4; rfl
      · have e3 : Ex G (upd G p (.tup (vs ++ ws))) := Evl.Ex.new (ex_none S.e3 hp)
        exact k _ _ _ e3 (S.allocV hp) (.of (.tup upd_same ((h2.append h4).mono e3)))
/-- "..", as often as a truth says -/
theorem pd_mulS {z : Str} {k : Bool} (ha : PD X a ρ ρ1 (.fz (.str z))) (hb : PD X b ρ1 ρ2 (.fz (.int (if k = true then 1 else 0)))) : PD X (.BinOp a .Mult b pos) ρ ρ2 (.fz (.str (if k = true then z else Str.empty))) := pd_op op_mul_str ha hb fun B σ ρ G H v u Q S hx hy q => by
  cases hx; cases hy
  exact ⟨z, k, rfl, rfl, ok0 S q (.str _)⟩
end
def stp (k : Str) (n : Int) : D := .tup [.str k, .int n]
def badStepL (m : Int) : List D := [stp "work" 0, stp "work" (101 + m % 2 * m), stp "hold" (10 + m % 2 * m), stp "hold" (-1), stp "Work" 1, stp "works" 1, stp "hol" 1, .tup [.str "work", .bl true], .tup [.str "work", .int 1, .int 1], .lst [.str "work", .int 1], .str "work", .tup [.str "work", .non], .tup [.int 5, .int 5]]
def pick (xs : List D) (i : Int) : D := (xs[i.toNat]?).getD .non
theorem pick_at {xs : List D} {i : Int} (h0 : 0 ≤ i) (h1 : i < (xs.length : Int)) : ixD (.lst xs) (.int i) = some (pick xs i) := by
  obtain ⟨n, rfl⟩ : ∃ n : Nat, i = (n : Int) := ⟨i.toNat, by omega⟩
  have hn : n < xs.length := by omega
  show atI xs (n : Int) = _
  have e : xs[n]? = some xs[n] := List.getElem?_eq_getElem hn
  rw [atI_nat e]
  unfold pick
  rw [Int.toNat_natCast, e]
  rfl
theorem pick_mem {xs : List D} {i : Int} (h0 : 0 ≤ i) (h1 : i < (xs.length : Int)) : pick xs i ∈ xs := by
  have hn : i.toNat < xs.length := by omega
  unfold pick
  rw [List.getElem?_eq_getElem hn]
  exact List.getElem_mem hn
def badStepF (n : Int) : D := pick (badStepL (n / 12)) (n % 13)
theorem fine_stp (k : Str) (n : Int) (h : PyData.strOk k = true) : Fine 1 (stp k n) := Fine.tup (n := 0) (fun d hd => by
  simp only [List.mem_cons, List.not_mem_nil, or_false] at hd
  rcases hd with rfl | rfl
  · exact Fine.str 0 k h
  · exact Fine.int 0 n) (by show 2 ≤ 1000; decide)
theorem badStepF_fine (n : Int) : Fine 1 (badStepF n) := by
  have hm : badStepF n ∈ badStepL (n / 12) := pick_mem (by omega) (by show n % 13 < 13; omega)
  have two : ∀ a b : D, Fine 0 a → Fine 0 b → Fine 1 (.tup [a, b]) := fun a b ha hb => Fine.tup (fun d hd => by
    simp only [List.mem_cons, List.not_mem_nil, or_false] at hd
    rcases hd with rfl | rfl <;> assumption) (by show 2 ≤ 1000; decide)
  have sw : Fine 0 (.str "work") := Fine.str 0 _ (by decide +kernel)
  generalize badStepF n = d at hm
  unfold badStepL at hm
  simp only [List.mem_cons, List.not_mem_nil, or_false] at hm
  rcases hm with rfl | rfl | rfl | rfl | rfl | rfl | rfl | rfl | rfl | rfl | rfl | rfl | rfl
  · exact fine_stp _ _ (by decide +kernel)
  · exact fine_stp _ _ (by decide +kernel)
  · exact fine_stp _ _ (by decide +kernel)
  · exact fine_stp _ _ (by decide +kernel)
  · exact fine_stp _ _ (by decide +kernel)
  · exact fine_stp _ _ (by decide +kernel)
  · exact fine_stp _ _ (by decide +kernel)
  · exact two _ _ sw (Fine.bl 0 _)
  · exact Fine.tup (n := 0) (fun d hd => by
      simp only [List.mem_cons, List.not_mem_nil, or_false] at hd
      rcases hd with rfl | rfl | rfl
      · exact sw
      · exact Fine.int 0 _
      · exact Fine.int 0 _) (by show 3 ≤ 1000; decide)
  · exact Fine.lst (n := 0) (fun d hd => by
      simp only [List.mem_cons, List.not_mem_nil, or_false] at hd
      rcases hd with rfl | rfl
      · exact sw
      · exact Fine.int 0 _) (by show 2 ≤ 1000; decide)
  · exact Fine.str 1 _ (by decide +kernel)
  · exact two _ _ sw (Fine.non 0)
  · exact two _ _ (Fine.int 0 _) (Fine.int 0 _)
def atP (p : List D) (m : Int) : Nat := (m % ((p.length : Int) + 1)).toNat
theorem atP_eq (p : List D) (m : Int) : m % ((p.length : Int) + 1) = (atP p m : Int) ∧ atP p m ≤ p.length := by
  have h1 := Int.emod_nonneg m (show (p.length : Int) + 1 ≠ 0 by omega)
  have h2 := Int.emod_lt_of_pos m (show (0 : Int) < (p.length : Int) + 1 by omega)
  unfold atP
  omega
def lowT (m : Int) : Int := ([5, 4, 0] : List Int).getD (m % 3).toNat 0
def badPlanL (p : List D) : List D := [.lst [], .tup p, .non, .str "plan", .lst (p ++ List.replicate 41 (stp "work" 1))]
def badPlanF (p : List D) (n : Int) : D :=
  if n % 7 = 0 then pick (badPlanL p) (n / 7 % 5)
  else if n % 7 = 1 then .lst (p.take (atP p (n / 7)) ++ [badStepF (n / 7 / 40)] ++ p.drop (atP p (n / 7)))
  else if n % 7 = 2 then .lst (p ++ [stp "hold" (n / 7 / 40 % 10)])
  else if n % 7 = 3 then .lst (p.take (atP p (n / 7)) ++ [stp "free" (n / 7 / 40 % 10)] ++ p.drop (atP p (n / 7)))
  else if n % 7 = 4 then .lst (p.take (atP p (n / 7)) ++ p.drop (atP p (n / 7) + 1) ++ [stp "work" 1])
  else if n % 7 = 5 then .lst (p.take (atP p (n / 7)) ++ [stp "hold" (n / 7 / 40 % 10)] ++ p.drop (atP p (n / 7)) ++ [stp "free" (n / 7 / 40 % 10)])
  else .lst [stp "hold" 5, stp "hold" (lowT (n / 7)), stp "free" 5, stp "free" (lowT (n / 7))]
/-- a plan so far: its steps fine, not many -/
def Pl (c : Nat) (p : List D) : Prop := (∀ e ∈ p, Fine 1 e) ∧ p.length ≤ c
theorem Pl.fine {c : Nat} {p : List D} (h : Pl c p) (hc : c ≤ 1000) : Fine 2 (.lst p) := Fine.lst h.1 (by have := h.2; omega)
/-- what a plan became: fine, and if it is a list, of fine steps -/
def PlD (c : Nat) (d : D) : Prop := Fine 2 d ∧ ∀ p, d = .lst p → Pl c p
theorem PlD.of {c : Nat} {p : List D} (h : Pl c p) (hc : c ≤ 1000) : PlD c (.lst p) := ⟨h.fine hc, fun q e => by cases e; exact h⟩
theorem Pl.app {c d : Nat} {p q : List D} (h : Pl c p) (k : Pl d q) : Pl (c + d) (p ++ q) := ⟨fun e he => (List.mem_append.mp he).elim (h.1 e) (k.1 e), by rw [List.length_append]; have := h.2; have := k.2; omega⟩
theorem Pl.one {d : D} (h : Fine 1 d) : Pl 1 [d] := ⟨fun e he => by rw [List.mem_singleton.mp he]; exact h, Nat.le_refl _⟩
theorem Pl.cut {c : Nat} {p : List D} (h : Pl c p) (i : Nat) {x : D} (hx : Fine 1 x) : Pl (c + 1) (p.take i ++ [x] ++ p.drop i) := by
  refine ⟨fun e he => ?_, ?_⟩
  · rcases List.mem_append.mp he with he | he
    · rcases List.mem_append.mp he with he | he
      · exact h.1 e (List.mem_of_mem_take he)
      · rw [List.mem_singleton.mp he]; exact hx
    · exact h.1 e (List.mem_of_mem_drop he)
  · have := h.2
    rw [List.length_append, List.length_append, List.length_take, List.length_drop, List.length_singleton]
    omega
theorem badPlanF_ok {c : Nat} {p : List D} (h : Pl c p) (hc : c ≤ 500) (n : Int) : PlD (c + 41) (badPlanF p n) := by
  have up : ∀ {q : List D} {e : Nat}, Pl e q → e ≤ c + 41 → PlD (c + 41) (.lst q) := fun hq he => PlD.of ⟨hq.1, Nat.le_trans hq.2 he⟩ (by omega)
  have sH : ∀ m, Fine 1 (stp "hold" m) := fun m => fine_stp _ _ (by decide +kernel)
  have sF : ∀ m, Fine 1 (stp "free" m) := fun m => fine_stp _ _ (by decide +kernel)
  have sW : ∀ m, Fine 1 (stp "work" m) := fun m => fine_stp _ _ (by decide +kernel)
  unfold badPlanF
  split
  · have hm : pick (badPlanL p) (n / 7 % 5) ∈ badPlanL p := pick_mem (by omega) (by show n / 7 % 5 < 5; omega)
    generalize pick (badPlanL p) (n / 7 % 5) = d at hm
    unfold badPlanL at hm
    simp only [List.mem_cons, List.not_mem_nil, or_false] at hm
    rcases hm with rfl | rfl | rfl | rfl | rfl
    · exact up (e := 0) ⟨(fun e he => nomatch he), Nat.le_refl _⟩ (by omega)
    · exact ⟨Fine.tup h.1 (by have := h.2; omega), fun q e => nomatch e⟩
    · exact ⟨Fine.non 2, fun q e => nomatch e⟩
    · exact ⟨Fine.str 2 _ (by decide +kernel), fun q e => nomatch e⟩
    · exact up (h.app (d := 41) ⟨fun e he => by rw [List.eq_of_mem_replicate he]; exact sW 1, by rw [List.length_replicate]; exact Nat.le_refl _⟩) (Nat.le_refl _)
  split
  · exact up (h.cut _ (badStepF_fine _)) (by omega)
  split
  · exact up (h.app (Pl.one (sH _))) (by omega)
  split
  · exact up (h.cut _ (sF _)) (by omega)
  split
  · refine up (e := c + 1) ⟨fun e he => ?_, ?_⟩ (by omega)
    · rcases List.mem_append.mp he with he | he
      · rcases List.mem_append.mp he with he | he
        · exact h.1 e (List.mem_of_mem_take he)
        · exact h.1 e (List.mem_of_mem_drop he)
      · rw [List.mem_singleton.mp he]; exact sW 1
    · have := h.2
      rw [List.length_append, List.length_append, List.length_take, List.length_drop, List.length_singleton]
      omega
  split
  · exact up ((h.cut _ (sH _)).app (Pl.one (sF _))) (by omega)
  · refine up (e := 4) ⟨fun e he => ?_, Nat.le_refl _⟩ (by omega)
    simp only [List.mem_cons, List.not_mem_nil, or_false] at he
    rcases he with rfl | rfl | rfl | rfl
    · exact sH _
    · exact sH _
    · exact sF _
    · exact sF _
/-- a worker so far: three things, the last a list of fine steps -/
structure Trip (c : Nat) (d : D) : Prop where
  ex : ∃ a b p, d = .tup [a, b, .lst p] ∧ Fine 2 a ∧ Fine 2 b ∧ Pl c p
/-- what a worker became -/
def Loose (c : Nat) (d : D) : Prop := Fine 3 d ∧ ∀ a b e, d = .tup [a, b, e] → Fine 2 a ∧ Fine 2 b ∧ PlD c e
def triL (a b : D) (p : List D) : List D := [.lst [a, b, .lst p], .tup [a, b], .tup [a, b, .lst p, .int 0], .non, .int 5]
def rankB (xs : List D) (m : Int) : List D := [.int 0, .int (-5), .int (1000001 + m / 54 % 2 * m), .bl true, .non, (match pick xs (m % (xs.length : Int)) with | .tup (a :: _) => a | _ => .non)]
def startL (m : Int) : List D := [.int (-1), .int (1001 + m / 5 % 2 * m), .bl false, .non, .int 1000]
def workerB (xs : List D) (a b : D) (p : List D) (n : Int) : D :=
  if n / 9 % 6 = 0 then pick (triL a b p) (n / 54 % 5)
  else if n / 9 % 6 = 1 then .tup [pick (rankB xs (n / 54)) (n / 54 / 9 % 6), b, .lst p]
  else if n / 9 % 6 = 2 then .tup [a, pick (startL (n / 54)) (n / 54 % 5), .lst p]
  else .tup [a, b, badPlanF p (n / 54)]
def kB1 (xs : List D) (n : Int) : Nat := (n % (xs.length : Int)).toNat
def spoiltF (xs : List D) (n : Int) : List D := match pick xs (n % (xs.length : Int)) with
  | .tup [a, b, .lst p] => xs.take (kB1 xs n) ++ [workerB xs a b p n] ++ xs.drop (kB1 xs n + 1)
  | _ => []
theorem Trip.loose {c : Nat} {d : D} (h : Trip c d) (hc : c ≤ 1000) : Loose c d := by
  obtain ⟨a, b, p, rfl, ha, hb, hp⟩ := h.ex
  refine ⟨Fine.tup (n := 2) (fun d hd => by
    simp only [List.mem_cons, List.not_mem_nil, or_false] at hd
    rcases hd with rfl | rfl | rfl
    · exact ha
    · exact hb
    · exact hp.fine hc) (by show 3 ≤ 1000; decide), fun a' b' e he => ?_⟩
  cases he
  exact ⟨ha, hb, .of hp hc⟩
theorem fine_up {n m : Nat} {d : D} (h : Fine n d) (l : n ≤ m) : Fine m d := ⟨h.1, Nat.le_trans h.2.1 l, h.2.2⟩
theorem fine3 {a b e : D} (ha : Fine 2 a) (hb : Fine 2 b) (he : Fine 2 e) : Fine 3 (.tup [a, b, e]) := Fine.tup (n := 2) (fun d hd => by
  simp only [List.mem_cons, List.not_mem_nil, or_false] at hd
  rcases hd with rfl | rfl | rfl <;> assumption) (by show 3 ≤ 1000; decide)
theorem loose3 {c : Nat} {a b e : D} (ha : Fine 2 a) (hb : Fine 2 b) (he : PlD c e) : Loose c (.tup [a, b, e]) := ⟨fine3 ha hb he.1, fun _ _ _ q => by cases q; exact ⟨ha, hb, he⟩⟩
theorem PlD.up {c e : Nat} {d : D} (h : PlD c d) (l : c ≤ e) : PlD e d := ⟨h.1, fun p q => ⟨(h.2 p q).1, Nat.le_trans (h.2 p q).2 l⟩⟩
theorem Loose.up {c e : Nat} {d : D} (h : Loose c d) (l : c ≤ e) : Loose e d := ⟨h.1, fun a b x q => ⟨(h.2 a b x q).1, (h.2 a b x q).2.1, (h.2 a b x q).2.2.up l⟩⟩
theorem workerB_ok {c : Nat} {xs : List D} {a b : D} {p : List D} (ha : Fine 2 a) (hb : Fine 2 b) (hp : Pl c p) (hc : c ≤ 500) (hx : ∀ d ∈ xs, Trip c d) (hl : 1 ≤ xs.length) (n : Int) : Loose (c + 41) (workerB xs a b p n) := by
  have hpl : PlD (c + 41) (.lst p) := (PlD.of hp (by omega)).up (by omega)
  unfold workerB
  split
  · have hm : pick (triL a b p) (n / 54 % 5) ∈ triL a b p := pick_mem (by omega) (by show n / 54 % 5 < 5; omega)
    generalize pick (triL a b p) (n / 54 % 5) = d at hm
    unfold triL at hm
    simp only [List.mem_cons, List.not_mem_nil, or_false] at hm
    rcases hm with rfl | rfl | rfl | rfl | rfl
    · exact ⟨Fine.lst (n := 2) (fun d hd => by
        simp only [List.mem_cons, List.not_mem_nil, or_false] at hd
        rcases hd with rfl | rfl | rfl
        · exact ha
        · exact hb
        · exact hpl.1) (by show 3 ≤ 1000; decide), fun _ _ _ q => nomatch q⟩
    · exact ⟨Fine.tup (n := 2) (fun d hd => by
        simp only [List.mem_cons, List.not_mem_nil, or_false] at hd
        rcases hd with rfl | rfl
        · exact ha
        · exact hb) (by show 2 ≤ 1000; decide), fun _ _ _ q => by cases q⟩
    · exact ⟨Fine.tup (n := 2) (fun d hd => by
        simp only [List.mem_cons, List.not_mem_nil, or_false] at hd
        rcases hd with rfl | rfl | rfl | rfl
        · exact ha
        · exact hb
        · exact hpl.1
        · exact Fine.int 2 _) (by show 4 ≤ 1000; decide), fun _ _ _ q => by cases q⟩
    · exact ⟨Fine.non 3, fun _ _ _ q => nomatch q⟩
    · exact ⟨Fine.int 3 _, fun _ _ _ q => nomatch q⟩
  split
  · refine loose3 ?_ hb hpl
    have hm : pick (rankB xs (n / 54)) (n / 54 / 9 % 6) ∈ rankB xs (n / 54) := pick_mem (by omega) (by show n / 54 / 9 % 6 < 6; omega)
    generalize pick (rankB xs (n / 54)) (n / 54 / 9 % 6) = d at hm
    unfold rankB at hm
    simp only [List.mem_cons, List.not_mem_nil, or_false] at hm
    rcases hm with rfl | rfl | rfl | rfl | rfl | rfl
    · exact Fine.int 2 _
    · exact Fine.int 2 _
    · exact Fine.int 2 _
    · exact Fine.bl 2 _
    · exact Fine.non 2
    · have hk : pick xs (n / 54 % (xs.length : Int)) ∈ xs := pick_mem (Int.emod_nonneg _ (by omega)) (Int.emod_lt_of_pos _ (by omega))
      obtain ⟨a', b', p', e, ha', _⟩ := (hx _ hk).ex
      rw [e]
      exact ha'
  split
  · refine loose3 ha ?_ hpl
    have hm : pick (startL (n / 54)) (n / 54 % 5) ∈ startL (n / 54) := pick_mem (by omega) (by show n / 54 % 5 < 5; omega)
    generalize pick (startL (n / 54)) (n / 54 % 5) = d at hm
    unfold startL at hm
    simp only [List.mem_cons, List.not_mem_nil, or_false] at hm
    rcases hm with rfl | rfl | rfl | rfl | rfl
    · exact Fine.int 2 _
    · exact Fine.int 2 _
    · exact Fine.bl 2 _
    · exact Fine.non 2
    · exact Fine.int 2 _
  · exact loose3 ha hb (badPlanF_ok hp hc _)
theorem spoiltF_at {c : Nat} {xs : List D} (hx : ∀ d ∈ xs, Trip c d) (hl : 1 ≤ xs.length) (n : Int) : ∃ a b p, xs[kB1 xs n]? = some (.tup [a, b, .lst p]) ∧ n % (xs.length : Int) = (kB1 xs n : Int) ∧ kB1 xs n < xs.length ∧ Fine 2 a ∧ Fine 2 b ∧ Pl c p ∧ spoiltF xs n = xs.take (kB1 xs n) ++ [workerB xs a b p n] ++ xs.drop (kB1 xs n + 1) := by
  have h0 := Int.emod_nonneg n (show (xs.length : Int) ≠ 0 by omega)
  have h1 := Int.emod_lt_of_pos n (show (0 : Int) < (xs.length : Int) by omega)
  have hk : kB1 xs n < xs.length := by unfold kB1; omega
  have hm : pick xs (n % (xs.length : Int)) ∈ xs := pick_mem h0 h1
  obtain ⟨a, b, p, e, ha, hb, hp⟩ := (hx _ hm).ex
  have e2 : xs[kB1 xs n]? = some (.tup [a, b, .lst p]) := by
    rw [← e]
    unfold pick
    show xs[(n % (xs.length : Int)).toNat]? = some ((xs[(n % (xs.length : Int)).toNat]?).getD .non)
    rw [List.getElem?_eq_getElem (show (n % (xs.length : Int)).toNat < xs.length from hk)]
    rfl
  refine ⟨a, b, p, e2, by unfold kB1; omega, hk, ha, hb, hp, ?_⟩
  unfold spoiltF
  rw [e]
theorem spoiltF_ok {c : Nat} {xs : List D} (hx : ∀ d ∈ xs, Trip c d) (hl : 1 ≤ xs.length) (hc : c ≤ 500) (n : Int) : (spoiltF xs n).length = xs.length ∧ ∀ d ∈ spoiltF xs n, Loose (c + 41) d := by
  obtain ⟨a, b, p, e2, ek, hk, ha, hb, hp, e⟩ := spoiltF_at hx hl n
  rw [e]
  refine ⟨?_, fun d hd => ?_⟩
  · rw [List.length_append, List.length_append, List.length_take, List.length_drop, List.length_singleton]
    omega
  · rcases List.mem_append.mp hd with hd | hd
    · rcases List.mem_append.mp hd with hd | hd
      · exact ((hx d (List.mem_of_mem_take hd)).loose (by omega)).up (by omega)
      · rw [List.mem_singleton.mp hd]
        exact workerB_ok ha hb hp hc hx hl n
    · exact ((hx d (List.mem_of_mem_drop hd)).loose (by omega)).up (by omega)
def trip3B : D → Bool
  | .tup [_, _, _] => true
  | _ => false
def lastL : D → Bool
  | .tup [_, _, .lst _] => true
  | _ => false
theorem Loose.trip {c : Nat} {d : D} (h : Loose c d) (k : lastL d = true) : Trip c d := by
  unfold lastL at k
  split at k
  · rename_i a b p
    obtain ⟨ha, hb, he⟩ := h.2 a b _ rfl
    exact ⟨⟨a, b, p, rfl, ha, hb, he.2 p rfl⟩⟩
  · cases k
theorem encW_trip (w : Worker) (h : w.plan.length ≤ 40) : Trip 40 (encW w) := by
  refine ⟨⟨_, _, _, rfl, Fine.int 2 _, Fine.int 2 _, fun e he => ?_, by rw [List.length_map]; exact h⟩⟩
  obtain ⟨st, _, rfl⟩ := List.mem_map.mp he
  exact Fine.step 0 st
/-- what the law builds -/
def built1 (ns : List Int) (ws : List D) : List D := if cellN ns 18 % 4 > 0 then spoiltF ws (mixed (cellN ns 19) 5) else ws
def built2 (ns : List Int) (xs : List D) : List D := if cellN ns 18 % 4 = 3 ∧ xs.all lastL = true then spoiltF xs (mixed (cellN ns 20) 6) else xs
def built3 (ns : List Int) (xs : List D) : List D := if cellN ns 18 / 4 % 12 = 1 then ((List.replicate 9 xs).flatten).take 9 else xs
def built4 (ns : List Int) (xs : List D) : List D := if cellN ns 18 / 4 % 12 = 2 then [] else xs
def builtF (ns : List Int) (ws : List D) : List D := built4 ns (built3 ns (built2 ns (built1 ns ws)))
theorem built1_ok {ns : List Int} {ws : List D} (h : ∀ d ∈ ws, Trip 40 d) (hl : 1 ≤ ws.length ∧ ws.length ≤ 8) : (built1 ns ws).length = ws.length ∧ ∀ d ∈ built1 ns ws, Loose 81 d := by
  unfold built1
  split
  · exact spoiltF_ok h hl.1 (by decide) _
  · exact ⟨rfl, fun d hd => ((h d hd).loose (by decide)).up (by decide)⟩
theorem built2_ok {ns : List Int} {xs : List D} (h : ∀ d ∈ xs, Loose 81 d) (hl : 1 ≤ xs.length ∧ xs.length ≤ 8) : (built2 ns xs).length = xs.length ∧ ∀ d ∈ built2 ns xs, Loose 122 d := by
  unfold built2
  split
  · rename_i hc
    exact spoiltF_ok (fun d hd => (h d hd).trip (List.all_eq_true.mp hc.2 d hd)) hl.1 (by decide) _
  · exact ⟨rfl, fun d hd => (h d hd).up (by decide)⟩
theorem built3_ok {ns : List Int} {xs : List D} (h : ∀ d ∈ xs, Loose 122 d) (hl : 1 ≤ xs.length ∧ xs.length ≤ 8) : (built3 ns xs).length ≤ 9 ∧ ∀ d ∈ built3 ns xs, Loose 122 d := by
  unfold built3
  split
  · refine ⟨by rw [List.length_take]; omega, fun d hd => ?_⟩
    obtain ⟨l, h2, h3⟩ := List.mem_flatten.mp (List.mem_of_mem_take hd)
    rw [(List.mem_replicate.mp h2).2] at h3
    exact h d h3
  · exact ⟨by omega, h⟩
theorem builtF_ok {ns : List Int} {ws : List D} (h : ∀ d ∈ ws, Trip 40 d) (hl : 1 ≤ ws.length ∧ ws.length ≤ 8) : (builtF ns ws).length ≤ 9 ∧ ∀ d ∈ builtF ns ws, Loose 122 d := by
  obtain ⟨l1, o1⟩ := built1_ok (ns := ns) h hl
  obtain ⟨l2, o2⟩ := built2_ok (ns := ns) o1 (by omega)
  obtain ⟨l3, o3⟩ := built3_ok (ns := ns) o2 (by omega)
  unfold builtF built4
  split
  · exact ⟨Nat.zero_le _, fun d hd => nomatch hd⟩
  · exact ⟨l3, o3⟩
theorem builtF_fine {ns : List Int} {ws : List D} (h : ∀ d ∈ ws, Trip 40 d) (hl : 1 ≤ ws.length ∧ ws.length ≤ 8) : Fine 60 (.lst (builtF ns ws)) := by
  obtain ⟨a, b⟩ := builtF_ok (ns := ns) h hl
  exact Fine.lst (n := 59) (fun d hd => fine_up (b d hd).1 (by decide)) (by omega)
section
variable {X : Cx} {body : List Stmt} {h₀ : ExceptHandler} {hds : List ExceptHandler} {l : List (Value × List Stmt)} {ρ : List Sl} {E : En} {T : D → Prop} {pos : Pos}
theorem pst1_tryMany (hh : Hds X (h₀ :: hds) l) (hs : X.stack = X.env :: X.outer) (hf : X.env.frame = some X.env.locals)
    (hb : ∀ (pn : List (Addr × Obj)) (xe : Value → Shared → Prop), PST (X.tr pn xe).nox body ρ E T) : PST1 X (.Try body (h₀ :: hds) [] [] pos) ρ E T := .mk fun B σ G H M S k t => by
  refine wpS_of (ps_try_many (tb := tBody X body) hs hf takes_none5 (fun W pn xe tk po => ⟨fun pins s σ H D I h => h pn xe tk po pins s I⟩) hh.ok) ?_
  intro pn xe tk po
  exact wpB_of (PSs.nox canB) ((hb pn xe).run B σ G H _ S ⟨k.nx, k.rt, k.bk, k.ct⟩ t)
theorem pst1_tryAs {x n : Str} {c : Value} {i : Nat} {N : List Str} {suite : List Stmt} {b₀ : Stmt} {np pos' : Pos} (hX : X.N = N) (hA : At N i n) (hN : N.Nodup) (hln : X.env.kindOf n = some .local) (hc : L2.Names X x c) (hs : X.stack = X.env :: X.outer) (hf : X.env.frame = some X.env.locals)
    (hb : ∀ (pn : List (Addr × Obj)) (xe : Value → Shared → Prop), PST (X.tr pn xe).nox body ρ E T) :
    PST1 X (.Try body [.ExceptHandler (some (.Name x np)) (some n) (b₀ :: suite) pos'] [] [] pos) ρ E T := .mk fun B σ G H M S k t => by
  refine wpS_of (ps_try_as (i := i) (tb := tBody X body) (ts := tsB X (b₀ :: suite)) hs hf (by rw [hX]; exact hN) (by rw [hX]; exact hA.get) hln hc takes_none5 (fun W pn xe tk po => ⟨fun pins s σ H D I h => h pn xe tk po pins s I⟩) (fun a oe cls d pn hz hf => ⟨fun pins s σ H D I h => h oe pn hz hf pins s I⟩)) ?_
  intro pn xe tk po
  exact wpB_of (PSs.nox canB) ((hb pn xe).run B σ G H _ S ⟨k.nx, k.rt, k.bk, k.ct⟩ t)
end
def topS (i : Nat) : Stmt := PySem.Challenge.pw_lenthaste_k01_begun.main.body.getD i (.Pass ⟨0, 0, 0, 0⟩)
abbrev s_is_number : Stmt := topS 11
abbrev n_is_number : List Str := ["thing", "least", "most"]
theorem sc_is_number : FnScope n_is_number ["thing", "least", "most"] (defScope s_is_number) := ⟨rfl, rfl, rfl, by decide +kernel, rfl, by decide +kernel, by decide +kernel⟩
abbrev s_is_step : Stmt := topS 12
abbrev n_is_step : List Str := ["thing"]
theorem sc_is_step : FnScope n_is_step ["thing"] (defScope s_is_step) := ⟨rfl, rfl, rfl, by decide +kernel, rfl, by decide +kernel, by decide +kernel⟩
abbrev s_tools_behind : Stmt := topS 13
abbrev n_tools_behind : List Str := ["tools", "step", "tool"]
theorem sc_tools_behind : FnScope n_tools_behind ["tools", "step"] (defScope s_tools_behind) := ⟨rfl, rfl, rfl, by decide +kernel, rfl, by decide +kernel, by decide +kernel⟩
abbrev s_fits : Stmt := topS 14
abbrev n_fits : List Str := ["tools", "step"]
theorem sc_fits : FnScope n_fits ["tools", "step"] (defScope s_fits) := ⟨rfl, rfl, rfl, by decide +kernel, rfl, by decide +kernel, by decide +kernel⟩
abbrev s_is_plan : Stmt := topS 15
abbrev n_is_plan : List Str := ["thing", "tools", "step"]
theorem sc_is_plan : FnScope n_is_plan ["thing"] (defScope s_is_plan) := ⟨rfl, rfl, rfl, by decide +kernel, rfl, by decide +kernel, by decide +kernel⟩
abbrev s_look_at : Stmt := topS 20
abbrev n_look_at : List Str := ["worker", "ranks"]
theorem sc_look_at : FnScope n_look_at ["worker", "ranks"] (defScope s_look_at) := ⟨rfl, rfl, rfl, by decide +kernel, rfl, by decide +kernel, by decide +kernel⟩
abbrev s_shop_of : Stmt := topS 21
abbrev n_shop_of : List Str := ["workers", "now", "spots", "worker"]
theorem sc_shop_of : FnScope n_shop_of ["workers", "now", "spots"] (defScope s_shop_of) := ⟨rfl, rfl, rfl, by decide +kernel, rfl, by decide +kernel, by decide +kernel⟩
abbrev s_begun : Stmt := topS 22
abbrev n_begun : List Str := ["workers", "ranks", "worker"]
theorem sc_begun : FnScope n_begun ["workers"] (defScope s_begun) := ⟨rfl, rfl, rfl, by decide +kernel, rfl, by decide +kernel, by decide +kernel⟩
abbrev s__law_cell_at : Stmt := topS 24
abbrev n__law_cell_at : List Str := ["_law_script", "_law_k"]
theorem sc__law_cell_at : FnScope n__law_cell_at ["_law_script", "_law_k"] (defScope s__law_cell_at) := ⟨rfl, rfl, rfl, by decide +kernel, rfl, by decide +kernel, by decide +kernel⟩
abbrev s__law_mixed : Stmt := topS 25
abbrev n__law_mixed : List Str := ["_law_cell", "_law_k", "_law_number"]
theorem sc__law_mixed : FnScope n__law_mixed ["_law_cell", "_law_k"] (defScope s__law_mixed) := ⟨rfl, rfl, rfl, by decide +kernel, rfl, by decide +kernel, by decide +kernel⟩
abbrev s__law_whole : Stmt := topS 26
abbrev n__law_whole : List Str := ["_law_found"]
theorem sc__law_whole : FnScope n__law_whole ["_law_found"] (defScope s__law_whole) := ⟨rfl, rfl, rfl, by decide +kernel, rfl, by decide +kernel, by decide +kernel⟩
abbrev s__law_alike : Stmt := topS 27
abbrev n__law_alike : List Str := ["_law_found", "_law_due_here", "_law_k"]
theorem sc__law_alike : FnScope n__law_alike ["_law_found", "_law_due_here"] (defScope s__law_alike) := ⟨rfl, rfl, rfl, by decide +kernel, rfl, by decide +kernel, by decide +kernel⟩
abbrev s__law_spoilt : Stmt := topS 28
abbrev n__law_spoilt : List Str := ["_law_thing", "_law_one"]
theorem sc__law_spoilt : FnScope n__law_spoilt ["_law_thing"] (defScope s__law_spoilt) := ⟨rfl, rfl, rfl, by decide +kernel, rfl, by decide +kernel, by decide +kernel⟩
abbrev s__law_plan : Stmt := topS 29
abbrev n__law_plan : List Str := ["_law_number", "_law_most", "_law_steps", "_law_tools", "_law_k", "_law_more", "_law_low", "_law_tool"]
theorem sc__law_plan : FnScope n__law_plan ["_law_number", "_law_most"] (defScope s__law_plan) := ⟨rfl, rfl, rfl, by decide +kernel, rfl, by decide +kernel, by decide +kernel⟩
abbrev s__law_ranks : Stmt := topS 30
abbrev n__law_ranks : List Str := ["_law_number", "_law_many", "_law_found", "_law_k", "_law_more", "_law_rank"]
theorem sc__law_ranks : FnScope n__law_ranks ["_law_number", "_law_many"] (defScope s__law_ranks) := ⟨rfl, rfl, rfl, by decide +kernel, rfl, by decide +kernel, by decide +kernel⟩
abbrev s__law_ladder : Stmt := topS 31
abbrev n__law_ladder : List Str := ["_law_k", "_law_many", "_law_number", "_law_steps"]
theorem sc__law_ladder : FnScope n__law_ladder ["_law_k", "_law_many", "_law_number"] (defScope s__law_ladder) := ⟨rfl, rfl, rfl, by decide +kernel, rfl, by decide +kernel, by decide +kernel⟩
abbrev s__law_workers : Stmt := topS 32
abbrev n__law_workers : List Str := ["_law_script", "_law_most", "_law_late", "_law_many", "_law_first", "_law_degrees", "_law_workers_here", "_law_k", "_law_start", "_law_number", "_law_plan_here"]
theorem sc__law_workers : FnScope n__law_workers ["_law_script", "_law_most", "_law_late"] (defScope s__law_workers) := ⟨rfl, rfl, rfl, by decide +kernel, rfl, by decide +kernel, by decide +kernel⟩
abbrev s__law_bad_step : Stmt := topS 33
abbrev n__law_bad_step : List Str := ["_law_number", "_law_more", "_law_some"]
theorem sc__law_bad_step : FnScope n__law_bad_step ["_law_number"] (defScope s__law_bad_step) := ⟨rfl, rfl, rfl, by decide +kernel, rfl, by decide +kernel, by decide +kernel⟩
abbrev s__law_bad_plan : Stmt := topS 34
abbrev n__law_bad_plan : List Str := ["_law_plan_here", "_law_number", "_law_way", "_law_more", "_law_at"]
theorem sc__law_bad_plan : FnScope n__law_bad_plan ["_law_plan_here", "_law_number"] (defScope s__law_bad_plan) := ⟨rfl, rfl, rfl, by decide +kernel, rfl, by decide +kernel, by decide +kernel⟩
abbrev s__law_spoilt_worker : Stmt := topS 35
abbrev n__law_spoilt_worker : List Str := ["_law_workers_here", "_law_number", "_law_k", "_law_worker", "_law_way", "_law_more", "_law_some"]
theorem sc__law_spoilt_worker : FnScope n__law_spoilt_worker ["_law_workers_here", "_law_number"] (defScope s__law_spoilt_worker) := ⟨rfl, rfl, rfl, by decide +kernel, rfl, by decide +kernel, by decide +kernel⟩
abbrev s__law_plan_good : Stmt := topS 36
abbrev n__law_plan_good : List Str := ["_law_plan_here", "_law_tools", "_law_step", "_law_tool"]
theorem sc__law_plan_good : FnScope n__law_plan_good ["_law_plan_here"] (defScope s__law_plan_good) := ⟨rfl, rfl, rfl, by decide +kernel, rfl, by decide +kernel, by decide +kernel⟩
abbrev s__law_due : Stmt := topS 37
abbrev n__law_due : List Str := ["_law_workers_here", "_law_degrees", "_law_worker"]
theorem sc__law_due : FnScope n__law_due ["_law_workers_here"] (defScope s__law_due) := ⟨rfl, rfl, rfl, by decide +kernel, rfl, by decide +kernel, by decide +kernel⟩
abbrev s__law_told : Stmt := topS 38
abbrev n__law_told : List Str := ["_law_workers_here", "_law_way", "e", "_law_some"]
theorem sc__law_told : FnScope n__law_told ["_law_workers_here", "_law_way"] (defScope s__law_told) := ⟨rfl, rfl, rfl, by decide +kernel, rfl, by decide +kernel, by decide +kernel⟩
abbrev s__law_built : Stmt := topS 39
abbrev n__law_built : List Str := ["_law_script", "_law_workers_here", "_law_ways", "_law_worker"]
theorem sc__law_built : FnScope n__law_built ["_law_script"] (defScope s__law_built) := ⟨rfl, rfl, rfl, by decide +kernel, rfl, by decide +kernel, by decide +kernel⟩
abbrev s_law : Stmt := topS 40
abbrev n_law : List Str := ["_law_script", "_law_workers_here", "_law_due_here", "_law_found"]
theorem sc_law : FnScope n_law ["_law_script"] (defScope s_law) := ⟨rfl, rfl, rfl, by decide +kernel, rfl, by decide +kernel, by decide +kernel⟩
local macro_rules | `(tactic| walk_at "cmul") => `(tactic| first | exact Or.inr ⟨by decide, by decide⟩ | exact Or.inl ⟨by decide, by decide⟩ | exact Or.inl ⟨by omega, by omega⟩ | exact Or.inr ⟨by omega, by omega⟩)
local macro_rules | `(tactic| walk_at "vis") => `(tactic| first | exact Or.inl rfl | exact Or.inr (Or.inl rfl) | exact Or.inr (Or.inr rfl))
local macro_rules | `(tactic| walk_at "loc") => `(tactic| first | exact Or.inl rfl | exact Or.inr rfl)
local macro_rules | `(tactic| walk_at "bin") => `(tactic| first | exact BinR.add | exact BinR.sub | exact BinR.mod (by decide) | exact BinR.div (by decide) | exact BinR.mul (by walk_at "cmul") | exact BinR.pow ⟨by decide, by decide, by decide⟩ | assumption | exact binR_rep1 (by omega) | exact BinR.cat (by simp; omega) | exact BinR.cat (by simp))
local macro_rules | `(tactic| walk_at "cmp") => `(tactic| first | exact CmpR.lt | exact CmpR.le | exact CmpR.gt | exact CmpR.ge | exact CmpR.eqI | exact CmpR.neI | exact CmpR.eqS | exact CmpR.neS | exact CmpR.isN | exact CmpR.notN | exact CmpR.neB | exact CmpR.eqB | assumption)
local macro_rules | `(tactic| walk_at "ix") => `(tactic| first | rfl | assumption | exact ixD_map (by assumption) | exact ixD_last)
local macro_rules | `(tactic| walk_at "lend") => `(tactic| first | exact lenD_map | rfl | assumption)
local macro_rules | `(tactic| walk_at "N") => `(tactic| first | with_reducible exact CxN_N | with_reducible exact Blk_N CxN_N | with_reducible exact Tr_N CxN_N | with_reducible exact Suite_N CxN_N)
local macro_rules | `(tactic| walk_at "at") => `(tactic| first | with_reducible exact At.z | (with_reducible apply At.s; walk_at "at"))
local macro_rules | `(tactic| walk_at "name") => `(tactic| first | ((with_reducible apply pd_at); (walk_at "N"); (walk_at "at"); (rfl); (walk_at "vis"); (decide); (decide)) | ((with_reducible apply pd_atK); (walk_at "N"); (walk_at "at"); (rfl); (walk_at "vis"); (decide); (decide)))
local macro_rules | `(tactic| walk_at "nomark") => `(tactic| first | exact nomark _ | rfl)
local macro_rules | `(tactic| walk_at "pd") => `(tactic| first
  | with_reducible exact pd_int | with_reducible exact pd_str | with_reducible exact pd_non | with_reducible exact pd_bl
  | with_reducible exact pd_dict0
  | walk_at "name"
  | ((with_reducible apply pd_con); (assumption); (rfl); (decide))
  | ((with_reducible apply pd_neg); (walk_at "pd"))
  | ((with_reducible apply pd_get); (assumption); (walk_at "pd"); (walk_at "pd"); (exact ⟨rfl, rfl, rfl, rfl⟩))
  | ((with_reducible apply pd_ixG); (walk_at "pdz"); (walk_at "pd"); (walk_at "ix"); (intro _ _; rfl))
  | ((with_reducible apply pd_ixO); (walk_at "N"); (walk_at "at"); (rfl); (walk_at "pd"); (walk_at "ix"); (walk_at "vis"); (decide); (decide); (intro _ _; rfl))
  | ((with_reducible apply pd_revN); (walk_at "pdz"))
  | ((with_reducible apply pd_bin); (walk_at "pdz"); (walk_at "pdz"); (walk_at "bin"))
  | ((with_reducible apply pd_cmpG); (walk_at "pdz"); (walk_at "pdz"); (walk_at "cmp"); (walk_at "nomark"))
  | ((with_reducible apply pd_neN); (assumption); (walk_at "pdz"); (walk_at "pdz"); (walk_at "fine"); (walk_at "fine"))
  | ((with_reducible apply pd_eqN); (assumption); (walk_at "pdz"); (walk_at "pdz"); (walk_at "fine"); (walk_at "fine"))
  | ((with_reducible apply pd_lenG); (walk_at "pdz"); (assumption); (rfl); (walk_at "lend"); (rfl); (rfl))
  | ((with_reducible apply pd_lenO); (walk_at "N"); (walk_at "at"); (rfl); (walk_at "vis"); (decide); (decide); (assumption); (rfl); (rfl); (rfl))
  | ((with_reducible apply pd_popO); (walk_at "N"); (walk_at "at"); (rfl); (walk_at "pd"); (assumption); (assumption); (omega); (walk_at "vis"); (decide); (decide); (intro ho ha; exact pe_bm PySem.F.plainAttrs_list PySem.F.slot_list_pop PySem.F.type_list_pop mt_popAt ho ha); (rfl))
  | ((with_reducible apply pd_maxDN); (assumption); (rfl); (walk_at "pdz"); (walk_at "pd"); (assumption); (rfl); (rfl); (rfl); (rfl); (rfl); (rfl); (rfl))
  | ((with_reducible apply pd_minN); (rfl); (walk_at "pd"); (walk_at "pd"); (assumption); (rfl); (rfl); (rfl); (rfl))
  | ((with_reducible apply pd_maxN); (rfl); (walk_at "pd"); (walk_at "pd"); (assumption); (rfl); (rfl); (rfl); (rfl))
  | ((with_reducible apply pd_maxLN); (rfl); (walk_at "pdz"); (assumption); (assumption); (rfl); (rfl); (rfl))
  | ((with_reducible apply pd_sumN); (rfl); (walk_at "pdz"); (assumption); (rfl); (rfl); (rfl))
  | ((with_reducible apply pd_intN); (walk_at "pd"); (assumption); (rfl); (rfl); (rfl))
  | ((with_reducible apply pd_listN); (walk_at "pdz"); (assumption); (rfl); (rfl); (rfl))
  | ((with_reducible apply pd_slTo); (walk_at "pd"); (walk_at "pd"); (rfl))
  | ((with_reducible apply pd_slFrom); (walk_at "pd"); (walk_at "pd"); (rfl))
  | ((with_reducible apply pd_and); (walk_at "pd"); (intro _; walk_at "pd"))
  | ((with_reducible apply pd_or); (walk_at "pd"); (intro _; walk_at "pd"))
  | ((with_reducible apply pd_one); (walk_at "pd"))
  | ((with_reducible apply pd_not); (walk_at "pd"))
  | ((with_reducible apply pd_isi); (walk_at "pd"); (first | rfl | assumption); (first | with_reducible exact Y.boot_int | with_reducible exact Y.boot_bool | with_reducible exact Y.boot_str | with_reducible exact Y.boot_list | with_reducible exact Y.boot_tuple | with_reducible exact Y.boot_dict);
      (first | with_reducible exact kit_int _ | with_reducible exact kit_bool _ | with_reducible exact kit_str _ | with_reducible exact kit_list _ | with_reducible exact kit_tuple _ | with_reducible exact kit_dict _); (assumption); (rfl); (assumption); (rfl); (decide); (decide); (rfl); (rfl); (rfl))
  | walk_at "call"
  | ((with_reducible apply pd_tup); (walk_at "pa"); (exact Nat.le_of_ble_eq_true rfl))
  | ((with_reducible apply pd_lst); (walk_at "pa"); (exact Nat.le_of_ble_eq_true rfl)))
local macro_rules | `(tactic| walk_at "call") => `(tactic| first
  | ((with_reducible apply pd_callN); (with_reducible assumption); (walk_at "pa"); (walk_at "spec"); (first | assumption | exact Room.mono (by assumption) (by first | decide | omega)); (rfl); (intro z; cases z); (decide); (rfl); (rfl))
  | ((with_reducible apply pd_callM); (with_reducible assumption); (walk_at "pa"); (walk_at "spec"); (first | assumption | exact Room.mono (by assumption) (by first | decide | omega)); (rfl); (intro z; cases z); (decide); (rfl); (rfl)))
local macro_rules | `(tactic| walk_at "spec") => `(tactic| first | assumption | exact ⟨_, rfl, rfl⟩ | exact ⟨_, _, rfl, rfl⟩ | exact ⟨_, _, _, rfl, rfl⟩ | exact ⟨_, rfl, by assumption, rfl⟩ | exact ⟨_, _, rfl, by assumption, rfl⟩ | exact ⟨_, _, _, rfl, by assumption, rfl⟩ | exact ⟨_, _, rfl, by assumption, by assumption, rfl⟩ | exact ⟨_, _, _, rfl, by assumption, by assumption, rfl⟩ | exact ⟨_, _, _, _, rfl, by assumption, by assumption, rfl⟩ | exact ⟨_, _, _, _, rfl, by assumption, by assumption, by assumption, rfl⟩)
local macro_rules | `(tactic| walk_at "pa") => `(tactic| first | with_reducible exact pad_nil | ((with_reducible apply pad_cons); (walk_at "pdz"); (walk_at "pa"); (rfl)))
local macro_rules | `(tactic| walk_at "pdz") => `(tactic| first | (walk_at "pd") | ((with_reducible apply pd_frz); walk_at "pd"))
local macro_rules | `(tactic| walk_at "pt") => `(tactic| first
  | ((with_reducible apply ptd_cmpG); (walk_at "pdz"); (walk_at "pdz"); (walk_at "cmp"); (walk_at "nomark"))
  | ((with_reducible apply ptd_neN); (assumption); (walk_at "pdz"); (walk_at "pdz"); (walk_at "fine"); (walk_at "fine"))
  | ((with_reducible apply ptd_eqN); (assumption); (walk_at "pdz"); (walk_at "pdz"); (walk_at "fine"); (walk_at "fine"))
  | ((with_reducible apply ptd_not); walk_at "pt")
  | ((with_reducible apply ptd_of); walk_at "pw")
  | ((with_reducible apply ptd_val); (walk_at "pd"); (intro _; rfl)))
local macro_rules | `(tactic| walk_at "no") => `(tactic| (exfalso; simp_all [isHold, isFree, isWork]; done))
local macro_rules | `(tactic| walk_at "pw") => `(tactic| first
  | ((with_reducible apply pwd_and); (walk_at "pt"); (intro _; walk_at "pw"))
  | ((with_reducible apply pwd_or); (walk_at "pt"); (intro _; walk_at "pw"))
  | ((with_reducible apply pwd_and1); (walk_at "pt"))
  | ((with_reducible apply pwd_or1); (walk_at "pt")))
local macro_rules | `(tactic| walk_at "let") => `(tactic| ((with_reducible apply ps1_let); (walk_at "N"); (walk_at "at"); (walk_at "pd"); (rotate_left); (decide +kernel); (walk_at "loc"); (first | exact Or.inl rfl | exact Or.inr rfl); (rfl); (rfl); (rfl)))
local macro_rules | `(tactic| walk_at "letz") => `(tactic| ((with_reducible apply ps1_let); (walk_at "N"); (walk_at "at"); (walk_at "pdz"); (rotate_left); (decide +kernel); (walk_at "loc"); (first | exact Or.inl rfl | exact Or.inr rfl); (rfl); (rfl); (rfl)))
local macro_rules | `(tactic| walk_at "ret") => `(tactic| ((apply psd_one); (with_reducible apply ps1_ret); (walk_at "pd"); (first | exact trivial | skip)))
local macro_rules | `(tactic| walk_at "retz") => `(tactic| ((apply psd_one); (with_reducible apply ps1_ret); (walk_at "pdz"); (first | exact trivial | skip)))
local macro_rules | `(tactic| walk_at "app") => `(tactic| ((with_reducible apply ps1_app); (walk_at "N"); (walk_at "at"); (walk_at "pdz"); (rfl); (rotate_left 2); (exact ⟨_, rfl⟩); (walk_at "vis"); (decide); (decide); (intro ho ha; exact pe_bm PySem.F.plainAttrs_list PySem.F.slot_list_append PySem.F.type_list_append mt_append ho ha); (rfl); (rfl)))
local macro_rules | `(tactic| walk_at "for") => `(tactic| ((with_reducible apply ps1_eachL); (walk_at "N"); (walk_at "at"); (walk_at "pdz"); (rotate_left 3); (exact PassesOwn.never); (rfl); (decide +kernel); (walk_at "loc"); (first | exact Or.inl rfl | exact Or.inr rfl); (intro _; rfl)))
local macro_rules | `(tactic| walk_at "range") => `(tactic| ((with_reducible apply ps1_eachR); (walk_at "N"); (walk_at "at"); (walk_at "pd"); (rotate_left 4); (rfl); (assumption); (exact PassesOwn.never); (rfl); (decide +kernel); (walk_at "loc"); (first | exact Or.inl rfl | exact Or.inr rfl); (rfl); (intro _; rfl)))
local macro_rules | `(tactic| walk_at "letf") => `(tactic| ((with_reducible apply ps1_let); (walk_at "N"); (walk_at "at"); ((with_reducible apply pd_frz); walk_at "pd"); (rotate_left); (decide +kernel); (walk_at "loc"); (first | exact Or.inl rfl | exact Or.inr rfl); (rfl); (rfl); (rfl)))
local macro_rules | `(tactic| walk_at "do") => `(tactic| ((with_reducible apply ps1_expr); (walk_at "pd"); (rotate_left); (rfl)))
local macro_rules | `(tactic| walk_at "ifF") => `(tactic| ((with_reducible apply ps1_ifF); ((with_reducible apply ptd_eq); (walk_at "pt"))))
local macro_rules | `(tactic| walk_at "ifT") => `(tactic| ((with_reducible apply ps1_ifT); ((with_reducible apply ptd_eq); (walk_at "pt"))))
local macro_rules | `(tactic| walk_at "if2") => `(tactic| ((with_reducible apply ps1_if2); (walk_at "pt")))
local macro_rules | `(tactic| walk_at "if") => `(tactic| ((with_reducible apply ps1_if); (walk_at "pt")))
local macro_rules | `(tactic| walk_at "dput") => `(tactic| ((with_reducible apply ps1_dput); (assumption); (walk_at "N"); (walk_at "at"); (walk_at "pd"); (rfl); (walk_at "pd"); (rotate_left 2); (walk_at "vis"); (decide); (decide); (rfl)))
local macro_rules | `(tactic| walk_at "retM") => `(tactic| ((apply psd_one); (with_reducible apply ps1_ret); (first | ((with_reducible apply pd_atM); (walk_at "N"); (walk_at "at"); (rfl); (walk_at "vis"); (decide); (decide)) | ((with_reducible apply pd_atMD); (walk_at "N"); (walk_at "at"); (rfl); (walk_at "vis"); (decide); (decide))); (first | exact trivial | skip)))
local macro_rules | `(tactic| walk_at "letfD") => `(tactic| ((with_reducible apply ps1_let); (walk_at "N"); (walk_at "at"); ((with_reducible apply pd_frzD); walk_at "pd"); (rotate_left); (decide +kernel); (walk_at "loc"); (first | exact Or.inl rfl | exact Or.inr rfl); (rfl); (rfl); (rfl)))
local macro_rules | `(tactic| walk_at "ptl") => `(tactic| ((with_reducible apply ptd_lend); (walk_at "pt")))
local macro_rules | `(tactic| walk_at "pdl") => `(tactic| ((with_reducible apply pd_lend); (walk_at "pd"); (first | exact Flat.int _ | exact Flat.bl _ | exact Flat.non | exact Flat.str _)))
local macro_rules | `(tactic| walk_at "appl") => `(tactic| ((with_reducible apply ps1_app); (walk_at "N"); (walk_at "at"); (walk_at "pdl"); (rfl); (rotate_left 2); (exact ⟨_, rfl⟩); (walk_at "vis"); (decide); (decide); (intro ho ha; exact pe_bm PySem.F.plainAttrs_list PySem.F.slot_list_append PySem.F.type_list_append mt_append ho ha); (rfl); (rfl)))
local macro_rules | `(tactic| walk_at "while") => `(tactic| ((with_reducible apply ps1_loop); (rotate_left 2); (exact PassesOwn.never)))
local macro_rules | `(tactic| walk_at "ifAndF") => `(tactic| ((with_reducible apply ps1_ifF); (with_reducible apply ptd_of); (with_reducible apply pwd_andF); (walk_at "pt")))
local macro_rules | `(tactic| walk_at "compR") => `(tactic| ((walk_at "at"); (walk_at "pdz"); (rfl); (assumption); (decide +kernel); (intros; first | exact Or.inl rfl | exact Or.inr rfl); (intros; first | exact Or.inl rfl | exact Or.inr rfl); (rfl); (intro _; rfl); (decide +kernel)))
local macro_rules | `(tactic| walk_at "compL") => `(tactic| ((walk_at "at"); (walk_at "pdz"); (decide +kernel); (intros; first | exact Or.inl rfl | exact Or.inr rfl); (intros; first | exact Or.inl rfl | exact Or.inr rfl); (intro _; rfl); (decide +kernel)))
local macro_rules | `(tactic| walk_at "letl") => `(tactic| ((with_reducible apply ps1_let); (walk_at "N"); (walk_at "at"); (walk_at "pdl"); (rotate_left); (decide +kernel); (walk_at "loc"); (first | exact Or.inl rfl | exact Or.inr rfl); (rfl); (rfl); (rfl)))
local macro_rules | `(tactic| walk_at "rem") => `(tactic| ((with_reducible apply ps1_rem); (walk_at "N"); (walk_at "at"); (walk_at "pd"); (rfl); (rotate_left 2); (exact ⟨_, rfl⟩); (walk_at "vis"); (decide); (decide); (intro ho ha; exact pe_bm PySem.F.plainAttrs_list PySem.F.slot_list_remove PySem.F.type_list_remove mt_remove ho ha); (rfl); (rfl)))
local macro_rules | `(tactic| walk_at "fine") => `(tactic| first | assumption | exact Fine.nil _ | exact Fine.ints _ _ (by omega) | exact Fine.int _ _ | exact Fine.non _ | exact Fine.bl _ _)
local macro_rules | `(tactic| walk_at "ifl") => `(tactic| ((with_reducible apply ps1_if); (walk_at "ptl")))
local macro_rules | `(tactic| walk_at "iflT") => `(tactic| ((with_reducible apply ps1_ifT); ((with_reducible apply ptd_eq); (walk_at "ptl"))))
local macro_rules | `(tactic| walk_at "iflF") => `(tactic| ((with_reducible apply ps1_ifF); ((with_reducible apply ptd_eq); (walk_at "ptl"))))
local macro_rules | `(tactic| walk_at "yes") => `(tactic| ((apply turn_yes); (first | (walk_at "pt") | (walk_at "ptl"))))
local macro_rules | `(tactic| walk_at "out") => `(tactic| ((apply turn_no); (first | (walk_at "pt") | (walk_at "ptl"))))
local macro_rules | `(tactic| walk_at "pdf") => `(tactic| ((with_reducible apply pd_atF); (walk_at "N"); (walk_at "at"); (rfl); (walk_at "vis"); (decide); (decide)))
local macro_rules | `(tactic| walk_at "retF") => `(tactic| ((apply psd_one); (with_reducible apply ps1_ret); (walk_at "pdf"); (first | exact trivial | skip)))
local macro_rules | `(tactic| walk_at "retfz") => `(tactic| ((apply psd_one); (with_reducible apply ps1_ret); ((with_reducible apply pd_frz); (walk_at "pd")); (first | exact trivial | skip)))
local macro_rules | `(tactic| walk_at "letcR") => `(tactic| ((walk_at "at"); (walk_at "pdz"); (rfl); (assumption); (decide +kernel); (intros; first | exact Or.inl rfl | exact Or.inr rfl); (intros; first | exact Or.inl rfl | exact Or.inr rfl); (rfl); (intro _; rfl); (decide +kernel); (rotate_left 3); (walk_at "at"); (rotate_left 1); (rfl); (rfl); (rfl); (decide +kernel)))
local macro_rules | `(tactic| walk_at "letcL") => `(tactic| ((walk_at "at"); (walk_at "pdz"); (decide +kernel); (intros; first | exact Or.inl rfl | exact Or.inr rfl); (intros; first | exact Or.inl rfl | exact Or.inr rfl); (intro _; rfl); (decide +kernel); (rotate_left 3); (walk_at "at"); (rotate_left 1); (rfl); (rfl); (rfl); (decide +kernel)))
local macro_rules | `(tactic| walk_at "outAnd") => `(tactic| ((apply turn_no); (with_reducible apply ptd_of); (with_reducible apply pwd_andF); (with_reducible apply ptd_eq); (walk_at "pt")))
local macro_rules | `(tactic| walk_at "ifAndE") => `(tactic| ((with_reducible apply ps1_ifF); (with_reducible apply ptd_of); (with_reducible apply pwd_andF); (with_reducible apply ptd_eq); (walk_at "pt")))
local macro_rules | `(tactic| walk_at "extP") => `(tactic| ((with_reducible apply ps1_extP); (walk_at "N"); (walk_at "at"); (walk_at "pdz"); (rfl); (rotate_left 2); (walk_at "vis"); (decide); (decide); (intro ho ha; exact pe_bm PySem.F.plainAttrs_list PySem.F.slot_list_extend PySem.F.type_list_extend mt_extend ho ha); (rfl); (rfl)))
local macro_rules | `(tactic| walk_at "setL") => `(tactic| ((with_reducible apply ps1_setLN); (walk_at "N"); (walk_at "at"); (walk_at "pd"); (rfl); (walk_at "pd"); (rotate_left 2); (walk_at "vis"); (decide); (decide); (intro _; rfl); (rfl); (rfl); (rfl)))
local macro_rules | `(tactic| walk_at "pp") => `(tactic| first | ((with_reducible apply pdp_flat); (walk_at "pd"); (rfl)) | ((with_reducible apply pdp_own); (walk_at "pd"); (first | rfl | exact noLs_spots _ | exact noLs_plan _)) | ((with_reducible apply pdp_callN); (with_reducible assumption); (walk_at "pa"); (walk_at "spec"); (first | assumption | exact Room.mono (by assumption) (by first | decide | omega)); (rfl); (decide); (rfl); (rfl)) | ((with_reducible apply pdp_tup); (walk_at "pap"); (exact Nat.le_of_ble_eq_true rfl)))
local macro_rules | `(tactic| walk_at "pap") => `(tactic| first | with_reducible exact pap_nil | ((with_reducible apply pap_cons); (walk_at "pp"); (walk_at "pap"); (rfl)))
section
variable {P : Program} {w : World} {K : PySem.W.Frag} {mg : Str → Option Value} {base : Heap}
def f_tools_behind : FD := fun ds r => ∃ ts st, ds = [encInts ts, encStep st] ∧ ts.length ≤ 1000 ∧ r = .fz (encInts (toolsBehind ts st))
theorem ok_tools_behind (F : Def K mg "tools_behind" s_tools_behind ["tools", "step"]) : Ok P w K mg base 1 "tools_behind" f_tools_behind := by
  refine ok_mk F sc_tools_behind (fun ds r h => ?_) (fun fa cd A outer s H E ds r hr h => ?_)
  · obtain ⟨ts, st, rfl, _⟩ := h; rfl
  obtain ⟨ts, st, rfl, hl, rfl⟩ := h
  show PSD _ _ [.fz (encInts ts), .fz (encStep st), .no] _
  refine psd_cons (ps1_if (by walk_at "pt") (fun hk => ?_) (fun hk => psd_nil ?_))
  · rw [kHold] at hk
    refine psd_one (ps1_ret (pd_frz (pd_bin (by walk_at "pdz") (by walk_at "pdz") (.cat (xs := ts.map .int) (ys := [.int (numOf st)]) (by simp; omega)))) trivial ?_)
    show Sl.fz _ = Sl.fz _
    cases st <;> first | walk_at "no" | simp [encInts, toolsBehind, numOf]
  · rw [kHold] at hk
    refine psd_cons (ps1_if (by walk_at "pt") (fun hk2 => ?_) (fun hk2 => psd_nil ?_))
    · rw [kFree] at hk2
      refine psd_one (ps1_ret (pd_frz (pd_lcL (xs := ts) 2 [("tool", 2)] .int (fun x => !decide (x = numOf st)) .int (by walk_at "pd") (by omega) (by decide) (fun s H C cl fp i a ha => tsd_one (by walk_at "pt")) (fun s H C cl fp i a ha hb => by walk_at "pd") rfl sc_tools_behind.nd (blkOk_by (N := n_tools_behind) (sc := defScope s_tools_behind) (by decide +kernel)) rfl (fun _ _ _ _ _ => Or.inl rfl) (fun _ _ _ _ _ => Or.inr rfl))) trivial ?_)
      cases st <;> first | walk_at "no" | rfl
    · rw [kFree] at hk2
      refine psd_one (ps1_ret (by walk_at "pd") trivial ?_)
      cases st <;> first | walk_at "no" | walk_at "no" | rfl
end
section
variable {P : Program} {w : World} {K : PySem.W.Frag} {mg : Str → Option Value} {base : Heap}
def f_tools_at : FD := fun ds r => ∃ (p : Plan) (n : Nat), ds = [encPlan p, .int (n : Int)] ∧ p.length ≤ 200 ∧ r = .fz (encInts (toolsAt p n))
end
section
variable {P : Program} {w : World} {K : PySem.W.Frag} {mg : Str → Option Value} {base : Heap}
def f_is_number : FD := fun ds r => ∃ (d : D) (lo hi : Int), ds = [d, .int lo, .int hi] ∧ knownD d = true ∧ r = .fz (.bl (numB d lo hi))
theorem ok_is_number (F : Def K mg "is_number" s_is_number ["thing", "least", "most"]) (m1 : mg "isinstance" = none) (m2 : mg "int" = none) (m3 : mg "bool" = none) : Ok P w K mg base 1 "is_number" f_is_number := by
  refine ok_mk F sc_is_number (fun ds r h => ?_) (fun fa cd A outer s H E ds r hr h => ?_)
  · obtain ⟨d, lo, hi, rfl, _⟩ := h; rfl
  obtain ⟨d, lo, hi, rfl, hk, rfl⟩ := h
  show PSD _ _ [.fz d, .fz (.int lo), .fz (.int hi)] _
  by_cases hd : ∃ n, d = .int n
  · obtain ⟨n, rfl⟩ := hd
    walk_at "ret"
    show Sl.fz _ = Sl.fz _
    simp [numB, isIntD, isBoolD]
  · have h0 : (isIntD d && !isBoolD d) = false ∧ numB d lo hi = false := by
      cases d <;> first | exact ⟨rfl, rfl⟩ | exact absurd ⟨_, rfl⟩ hd
    rw [h0.2]
    refine psd_one ?_
    with_reducible apply ps1_ret
    · with_reducible apply pd_eq
      · with_reducible apply pd_and (l := false)
        · walk_at "pd"
        · intro h1
          with_reducible apply pd_eq
          · with_reducible apply pd_and (l := false)
            · walk_at "pd"
            · intro h2
              rw [h1, h2] at h0
              exact absurd h0.1 (by decide)
          · rw [Bool.and_false]
      · rw [Bool.and_false]
    · trivial
    · rfl
end
section
variable {P : Program} {w : World} {K : PySem.W.Frag} {mg : Str → Option Value} {base : Heap}
def f_place_behind : FD := fun ds r => ∃ (p : Plan) (n : Nat), ds = [encPlan p, .int (n : Int)] ∧ p.length ≤ 200 ∧ n < p.length ∧ r = .fz (.int (skipF p (n + 1) : Int))
def f_shop_of : FD := fun ds r => ∃ (s : Shop), ds = [.lst (s.ws.map encW), .int s.now, .lst (s.sp.map encS)] ∧ s.ws.length ≤ 100 ∧ r = .fz (encShop s)
theorem ok_shop_of (F : Def K mg "shop_of" s_shop_of ["workers", "now", "spots"]) (ml : mg "list" = none) : Ok P w K mg base 1 "shop_of" f_shop_of := by
  refine ok_mk F sc_shop_of (fun ds r h => ?_) (fun fa cd A outer s H E ds r hr h => ?_)
  · obtain ⟨s, rfl, _⟩ := h; rfl
  obtain ⟨s, rfl, hl, rfl⟩ := h
  show PSD _ _ [.fz (.lst (s.ws.map encW)), .fz (.int s.now), .fz (.lst (s.sp.map encS)), .no] _
  refine psd_one ?_
  with_reducible apply ps1_ret
  · with_reducible apply pd_tup
    · with_reducible apply pad_cons
      · with_reducible apply pd_eq
        · with_reducible apply pd_frz
          apply pd_compL encW (fun _ => true) encW
          walk_at "compL"
          · omega
          · intros
            exact tsd_nil
          · intro s' H' C cl fp i a ha hb
            show PD _ _ _ _ (.fz (.tup [.int a.rank, .int a.start, .lst (a.plan.map encStep)]))
            walk_at "pd"
        · show _ = Sl.fz (.lst (s.ws.map encW))
          rw [List.filter_eq_self.mpr (fun _ _ => rfl)]
      · walk_at "pa"
      · rfl
    · exact Nat.le_of_ble_eq_true rfl
  · trivial
  · rfl
def f_with_spot : FD := fun ds r => ∃ (s : Shop) (now : Int) (k : Nat) (q : Spot), ds = [encShop s, .int now, .int (k : Int), encS q] ∧ ShopOk s ∧ k < s.ws.length ∧ r = .fz (encShop (setSp s now k q))
def f_behind_step : FD := fun ds r => ∃ (s : Shop) (now : Int) (k : Nat) (wk : Worker) (p : Spot), ds = [encShop s, .int now, .int (k : Int)] ∧ ShopOk s ∧ s.ws[k]? = some wk ∧ s.sp[k]? = some p ∧ p.place < wk.plan.length ∧ r = .fz (encShop (setSp s now k (nextSp wk p)))
def f_worked : FD := fun ds r => ∃ (s : Shop) (k : Nat) (wk : Worker) (p : Spot) (n : Int), ds = [encShop s, .int (k : Int)] ∧ ShopOk s ∧ s.ws[k]? = some wk ∧ s.sp[k]? = some p ∧ wk.plan[p.place]? = some (.work n) ∧ r = .fz (encShop (workS s k))
def encTick (r : Shop × Option Nat) : D := .tup [encShop r.1, encOpt r.2]
def f_tick : FD := fun ds r => ∃ (s : Shop), ds = [encShop s] ∧ ShopOk s ∧ r = .fz (encTick (tickS s))
end
section
variable {P : Program} {w : World} {K : PySem.W.Frag} {mg : Str → Option Value} {base : Heap}
def t_shop_of : TD := fun ds d => ∃ (s : Shop), ds = [.lst (s.ws.map encW), .int s.now, .lst (s.sp.map encS)] ∧ s.ws.length ≤ 100 ∧ d = encShop s
theorem okt_shop_of (F : Def K mg "shop_of" s_shop_of ["workers", "now", "spots"]) (ml : mg "list" = none) : OkT P w K mg base 1 "shop_of" t_shop_of := by
  refine okt_mk F sc_shop_of (fun ds r h => ?_) (fun fa cd A outer s H E ds r hr h => ?_)
  · obtain ⟨s, rfl, _⟩ := h; rfl
  obtain ⟨s, rfl, hl, rfl⟩ := h
  show PST _ _ [.fz (.lst (s.ws.map encW)), .fz (.int s.now), .fz (.lst (s.sp.map encS)), .no] _ _
  apply pst_ret (d := .tup [.lst (s.ws.map encW), .int s.now, .lst (s.sp.map encS)])
  rotate_left
  · rfl
  rotate_left
  with_reducible apply pdp_tup
  · with_reducible apply pap_cons
    · apply pdp_compL encW encW
      walk_at "compL"
      · omega
      · intro s' H' C cl fp i a ha
        show PDP _ _ _ _ (.tup [.int a.rank, .int a.start, .lst (a.plan.map encStep)])
        walk_at "pp"
    · walk_at "pap"
    · rfl
  · exact Nat.le_of_ble_eq_true rfl
def t_with_spot : TD := fun ds d => ∃ (s : Shop) (now : Int) (k : Nat) (q : Spot), ds = [encShop s, .int now, .int (k : Int), encS q] ∧ ShopOk s ∧ k < s.ws.length ∧ d = encShop (setSp s now k q)
def t_behind_step : TD := fun ds d => ∃ (s : Shop) (now : Int) (k : Nat) (wk : Worker) (p : Spot), ds = [encShop s, .int now, .int (k : Int)] ∧ ShopOk s ∧ s.ws[k]? = some wk ∧ s.sp[k]? = some p ∧ p.place < wk.plan.length ∧ d = encShop (setSp s now k (nextSp wk p))
def t_worked : TD := fun ds d => ∃ (s : Shop) (k : Nat) (wk : Worker) (p : Spot) (n : Int), ds = [encShop s, .int (k : Int)] ∧ ShopOk s ∧ s.ws[k]? = some wk ∧ s.sp[k]? = some p ∧ wk.plan[p.place]? = some (.work n) ∧ d = encShop (workS s k)
def t_tick : TD := fun ds d => ∃ (s : Shop), ds = [encShop s] ∧ ShopOk s ∧ d = encTick (tickS s)
end
section
variable {P : Program} {w : World} {K : PySem.W.Frag} {mg : Str → Option Value} {base : Heap}
theorem pure_known {d : D} (h : pureD d = true) : knownD d = true := by
  cases d <;> first | rfl | (unfold pureD at h; cases h)
theorem pure_tup {ds : List D} (h : pureD (.tup ds) = true) : ∀ d ∈ ds, pureD d = true := by
  unfold pureD at h
  rw [pureDs_all, List.all_eq_true] at h
  exact h
theorem pure_lst {ds : List D} (h : pureD (.lst ds) = true) : ∀ d ∈ ds, pureD d = true := by
  unfold pureD at h
  rw [pureDs_all, List.all_eq_true] at h
  exact h
theorem inD_kinds (k : Str) : CmpR .In (.str k) (.tup [.str ("hold" : Str), .str ("free" : Str)]) (((("hold" : Str) == k) || (("free" : Str) == k))) := by
  have z := CmpR.inT (d := .str k) (ds := [.str ("hold" : Str), .str ("free" : Str)]) rfl rfl
  have e : inD (.str k) [.str ("hold" : Str), .str ("free" : Str)] = ((("hold" : Str) == k) || (("free" : Str) == k)) := by
    show ((("hold" : Str) == k) || ((("free" : Str) == k) || false)) = _
    rw [Bool.or_false]
  rw [e] at z
  exact z
def f_is_step : FD := fun ds r => ∃ (d : D), ds = [d] ∧ pureD d = true ∧ r = .fz (.bl (isStepB d))
theorem ok_is_step (F : Def K mg "is_step" s_is_step ["thing"]) (h1 : Ok P w K mg base 1 "is_number" f_is_number) (c1 : ConI mg "MOST_TICKS" 100) (c2 : ConI mg "MOST_TOOL" 9) (m1 : mg "isinstance" = none) (m2 : mg "tuple" = none) (m3 : mg "str" = none) (m4 : mg "len" = none) : Ok P w K mg base 2 "is_step" f_is_step := by
  refine ok_mk F sc_is_step (fun ds r h => ?_) (fun fa cd A outer s H E ds r hr h => ?_)
  · obtain ⟨d, rfl, _⟩ := h; rfl
  obtain ⟨d, rfl, hd, rfl⟩ := h
  have hk := pure_known hd
  show PSD _ _ [.fz d] _
  refine psd_cons ?_
  -- no tuple
  have no1 : isTupD d = false → isStepB d = false := fun h => by cases d <;> first | rfl | cases h
  cases ht : isTupD d with
  | false =>
    with_reducible apply ps1_ifT
    · with_reducible apply ptd_eq
      · with_reducible apply ptd_of
        with_reducible apply pwd_or (l := false)
        · walk_at "pt"
        · intro hx
          rw [ht] at hx
          cases hx
      · rw [ht]; rfl
    rw [no1 ht]
    walk_at "ret"
    rfl
  | true =>
    cases d with
    | tup ds =>
      have hp := pure_tup hd
      by_cases hl : ds.length = 2
      · match ds, hl with
        | [x, y], _ =>
          have kx := pure_known (hp x List.mem_cons_self)
          have ky := pure_known (hp y (List.mem_cons_of_mem _ List.mem_cons_self))
          cases hx : isStrD x with
          | false =>
            with_reducible apply ps1_ifT
            · with_reducible apply ptd_eq
              · with_reducible apply ptd_of
                with_reducible apply pwd_or
                · walk_at "pt"
                · intro _
                  with_reducible apply pwd_or
                  · walk_at "pt"
                  · intro _
                    with_reducible apply pwd_or1
                    walk_at "pt"
              · rw [hx]; simp
            have e : isStepB (.tup [x, y]) = false := by cases x <;> first | rfl | cases hx
            rw [e]
            walk_at "ret"
            rfl
          | true =>
            cases x with
            | str k =>
              with_reducible apply ps1_ifF
              · with_reducible apply ptd_eq
                · with_reducible apply ptd_of
                  with_reducible apply pwd_or
                  · walk_at "pt"
                  · intro _
                    with_reducible apply pwd_or
                    · walk_at "pt"
                    · intro _
                      with_reducible apply pwd_or1
                      walk_at "pt"
                · rfl
              refine psd_nil ?_
              have e : isStepB (.tup [.str k, y]) = if (k == ("work" : Str)) = true then numB y 1 100 else ((("hold" : Str) == k) || (("free" : Str) == k)) && numB y 0 9 := rfl
              have g1 : f_is_number [y, .int 1, .int 100] (.fz (.bl (numB y 1 100))) := ⟨_, _, _, rfl, ky, rfl⟩
              have g2 : f_is_number [y, .int 0, .int 9] (.fz (.bl (numB y 0 9))) := ⟨_, _, _, rfl, ky, rfl⟩
              have g3 := inD_kinds k
              refine psd_cons ?_
              walk_at "if"
              · intro hw
                rw [e, if_pos hw]
                walk_at "ret"
                rfl
              · intro hw
                rw [e, if_neg (by rw [hw]; decide)]
                refine psd_nil ?_
                walk_at "ret"
                rfl
            | _ => cases hx
      · with_reducible apply ps1_ifT
        · with_reducible apply ptd_eq
          · with_reducible apply ptd_of
            with_reducible apply pwd_or
            · walk_at "pt"
            · intro _
              with_reducible apply pwd_or (l := false)
              · walk_at "pt"
              · intro hx
                exfalso
                have h2 : decide ((ds.length : Int) = 2) = true := by simpa using hx
                exact hl (by have := of_decide_eq_true h2; omega)
          · have h2 : decide ((ds.length : Int) = 2) = false := decide_eq_false (by omega)
            rw [h2]
            simp
        have e : isStepB (.tup ds) = false := by
          unfold isStepB
          split
          · rename_i k y e
            injection e with e
            rw [e] at hl
            exact absurd rfl hl
          · rfl
        rw [e]
        walk_at "ret"
        rfl
    | _ => cases ht
def f_fits : FD := fun ds r => ∃ (ts : List Int) (st : Step), ds = [encInts ts, encStep st] ∧ ts.length ≤ 1000 ∧ r = .fz (.bl (fitsB ts st))
theorem ok_fits (F : Def K mg "fits" s_fits ["tools", "step"]) (m1 : mg "max" = none) : Ok P w K mg base 1 "fits" f_fits := by
  refine ok_mk F sc_fits (fun ds r h => ?_) (fun fa cd A outer s H E ds r hr h => ?_)
  · obtain ⟨ts, st, rfl, _⟩ := h; rfl
  obtain ⟨ts, st, rfl, hl, rfl⟩ := h
  show PSD _ _ [.fz (.lst (ts.map .int)), .fz (encStep st)] _
  have g := cmp_in (numOf st) ts
  refine psd_cons ?_
  walk_at "if"
  · intro hk
    rw [kHold] at hk
    walk_at "ret"
    cases st <;> first | walk_at "no" | rfl
  · intro hk
    rw [kHold] at hk
    refine psd_nil ?_
    walk_at "ret"
    show Sl.fz _ = Sl.fz _
    rw [kWork]
    cases st <;> first | walk_at "no" | rfl | (simp [isWork, fitsB, numOf])
def f_is_plan : FD := fun ds r => ∃ (d : D), ds = [d] ∧ pureD d = true ∧ r = .fz (.bl (planB d))
theorem planGo_tools {d : D} (ts : List Int) : (toolsBehind ts (stepOf d)).length ≤ ts.length + 1 := toolsBehind_len _ _
theorem ok_is_plan (F : Def K mg "is_plan" s_is_plan ["thing"]) (h1 : Ok P w K mg base 2 "is_step" f_is_step) (h2 : Ok P w K mg base 1 "fits" f_fits) (h3 : Ok P w K mg base 1 "tools_behind" f_tools_behind) (c1 : ConI mg "MOST_STEPS" 40) (m1 : mg "isinstance" = none) (m2 : mg "list" = none) (m4 : mg "len" = none) : Ok P w K mg base 3 "is_plan" f_is_plan := by
  refine ok_mk F sc_is_plan (fun ds r h => ?_) (fun fa cd A outer s H E ds r hr h => ?_)
  · obtain ⟨d, rfl, _⟩ := h; rfl
  obtain ⟨d, rfl, hd, rfl⟩ := h
  have hk := pure_known hd
  show PSD _ _ [.fz d, .no, .no] _
  refine psd_cons ?_
  have no1 : isListD d = false → planB d = false := fun h => by cases d <;> first | rfl | cases h
  cases ht : isListD d with
  | false =>
    with_reducible apply ps1_ifT
    · with_reducible apply ptd_eq
      · with_reducible apply ptd_of
        with_reducible apply pwd_or (l := false)
        · walk_at "pt"
        · intro hx
          rw [ht] at hx
          cases hx
      · rw [ht]; rfl
    rw [no1 ht]
    walk_at "ret"
    rfl
  | true =>
    cases d with
    | scr ns => cases hk
    | lst ds =>
      have hp := pure_lst hd
      have eP : planB (.lst ds) = (decide (1 ≤ ds.length) && decide (ds.length ≤ 40) && planGo [] ds) := rfl
      walk_at "if"
      · intro hc
        have hb : ¬ (1 ≤ ds.length ∧ ds.length ≤ 40) := by
          rw [Bool.or_eq_true, Bool.or_eq_true] at hc
          rcases hc with hc | hc | hc
          · exact nomatch (show false = true from hc)
          · have := of_decide_eq_true hc; omega
          · have := of_decide_eq_true hc; omega
        have e : planB (.lst ds) = false := by
          rw [eP]
          by_cases hx : 1 ≤ ds.length
          · have hy : ¬ ds.length ≤ 40 := fun z => hb ⟨hx, z⟩
            rw [decide_eq_false hy, Bool.and_false, Bool.false_and]
          · rw [decide_eq_false hx, Bool.false_and, Bool.false_and]
        rw [e]
        walk_at "ret"
        rfl
      · intro hc
        have hb : 1 ≤ ds.length ∧ ds.length ≤ 40 := by
          rw [Bool.or_eq_false_iff, Bool.or_eq_false_iff] at hc
          have a1 := of_decide_eq_false hc.2.1
          have a2 := of_decide_eq_false hc.2.2
          omega
        rw [eP, decide_eq_true hb.1, decide_eq_true hb.2]
        refine psd_nil ?_
        refine psd_cons ?_
        walk_at "letf"
        refine psd_cons ?_
        walk_at "for"
        · exact fun i ρ => ∃ (ts : List Int) (x : Sl), ρ = [.fz (.lst ds), .fz (.lst (ts.map .int)), x] ∧ ts.length ≤ i ∧ planGo ts (ds.drop i) = planGo [] ds
        · exact ⟨[], _, rfl, Nat.le_refl _, rfl⟩
        · rintro i d ρ' hd' ⟨ts, x, rfl, hl, hg⟩
          have hi : i < ds.length := (List.getElem?_eq_some_iff.mp hd').1
          have pd := hp d (List.mem_of_getElem? hd')
          have eD : ds.drop i = d :: ds.drop (i + 1) := by
            rw [List.drop_eq_getElem_cons hi, (List.getElem?_eq_some_iff.mp hd').2]
          have hg' : (isStepB d && fitsB ts (stepOf d) && planGo (toolsBehind ts (stepOf d)) (ds.drop (i + 1))) = planGo [] ds := by rw [← hg, eD]; rfl
          show PSD _ _ [.fz (.lst ds), .fz (.lst (ts.map .int)), .fz d] _
          have g1 : f_is_step [d] (.fz (.bl (isStepB d))) := ⟨_, rfl, pd, rfl⟩
          refine psd_cons ?_
          cases hs : isStepB d with
          | false =>
            rw [hs] at g1 hg'
            with_reducible apply ps1_ifT
            · with_reducible apply ptd_of
              with_reducible apply pwd_orT
              with_reducible apply ptd_eq
              · walk_at "pt"
              · rfl
            walk_at "ret"
            show Sl.fz _ = Sl.fz _
            rw [← hg']
            rfl
          | true =>
            obtain ⟨e1, e2⟩ := isStepB_of hs
            have g2 : f_fits [.lst (ts.map .int), d] (.fz (.bl (fitsB ts (stepOf d)))) := ⟨ts, stepOf d, by rw [← e1]; rfl, by omega, rfl⟩
            have g3 : f_tools_behind [.lst (ts.map .int), d] (.fz (.lst ((toolsBehind ts (stepOf d)).map .int))) := ⟨ts, stepOf d, by rw [← e1]; rfl, by omega, rfl⟩
            rw [hs] at g1 hg'
            cases hf : fitsB ts (stepOf d) with
            | false =>
              rw [hf] at g2 hg'
              walk_at "ifT"
              · rfl
              walk_at "ret"
              show Sl.fz _ = Sl.fz _
              rw [← hg']
              rfl
            | true =>
              rw [hf] at g2 hg'
              walk_at "ifF"
              · rfl
              refine psd_nil ?_
              refine psd_one ?_
              walk_at "let"
              exact ⟨_, _, rfl, by have := toolsBehind_len ts (stepOf d); omega, hg'⟩
        · rintro ρ' ⟨ts, x, rfl, hl, hg⟩
          rw [List.drop_length] at hg
          have fT : Fine 60 (.lst (ts.map .int)) := Fine.ints _ _ (by omega)
          walk_at "ret"
          show Sl.fz _ = Sl.fz _
          rw [show eqD (.lst (ts.map .int)) (.lst []) = ts.isEmpty from eqD_intsN ts, ← hg]
          rfl
    | _ => cases ht
def f_look_at : FD := fun ds r => ∃ (d : D) (rs : List Int), ds = [d, .lst (rs.map .int)] ∧ pureD d = true ∧ lookC rs d = none ∧ rs.length ≤ 1000 ∧ r = .fz .non
theorem ok_look_at (F : Def K mg "look_at" s_look_at ["worker", "ranks"]) (h1 : Ok P w K mg base 1 "is_number" f_is_number) (h2 : Ok P w K mg base 3 "is_plan" f_is_plan) (c1 : ConI mg "MOST_RANK" 1000000) (c2 : ConI mg "MOST_START" 1000) (m1 : mg "isinstance" = none) (m2 : mg "tuple" = none) (m4 : mg "len" = none) : Ok P w K mg base 4 "look_at" f_look_at := by
  refine ok_mk F sc_look_at (fun ds r h => ?_) (fun fa cd A outer s H E ds r hr h => ?_)
  · obtain ⟨d, rs, rfl, _⟩ := h; rfl
  obtain ⟨d, rs, rfl, hd, hn, hl, rfl⟩ := h
  obtain ⟨e1, _, q1, q2, q3, q4, q5, q6⟩ := lookC_none hn
  rw [e1] at hd ⊢
  generalize workerOf d = wk at *
  have g1 : f_is_number [.int wk.rank, .int 1, .int 1000000] (.fz (.bl true)) := ⟨_, _, _, rfl, rfl, by rw [numB_iff.mpr ⟨_, rfl, q1, q2⟩]⟩
  have g2 : f_is_number [.int wk.start, .int 0, .int 1000] (.fz (.bl true)) := ⟨_, _, _, rfl, rfl, by rw [numB_iff.mpr ⟨_, rfl, q4, q5⟩]⟩
  have g3 : f_is_plan [encPlan wk.plan] (.fz (.bl true)) := ⟨_, rfl, pure_tup hd _ (by simp), by rw [planB_enc q6]⟩
  have g4 := cmp_in wk.rank rs
  rw [decide_eq_false q3] at g4
  show PSD _ _ [.fz (.tup [.int wk.rank, .int wk.start, encPlan wk.plan]), .fz (.lst (rs.map .int))] _
  refine psd_cons ?_
  walk_at "ifF"
  · rfl
  refine psd_nil ?_
  refine psd_cons ?_
  walk_at "ifF"
  · rfl
  refine psd_nil ?_
  refine psd_cons ?_
  walk_at "ifF"
  · rfl
  refine psd_nil ?_
  refine psd_one ?_
  walk_at "ifF"
  · rfl
  exact psd_nil rfl
def f_begun : FD := fun ds r => ∃ (ws : List Worker), ds = [.lst (ws.map encW)] ∧ WsOk ws ∧ r = .fz (encShop (begunS ws))
theorem pure_W (wk : Worker) (h : wk.plan.length ≤ 1000) : pureD (encW wk) = true := (Fine.worker 0 h).1
theorem ok_begun (F : Def K mg "begun" s_begun ["workers"]) (h1 : Ok P w K mg base 4 "look_at" f_look_at) (h2 : Ok P w K mg base 1 "shop_of" f_shop_of) (c1 : ConI mg "MOST_WORKERS" 8) (m4 : mg "len" = none) : Ok P w K mg base 5 "begun" f_begun := by
  refine ok_mk F sc_begun (fun ds r h => ?_) (fun fa cd A outer s H E ds r hr h => ?_)
  · obtain ⟨ws, rfl, _⟩ := h; rfl
  obtain ⟨ws, rfl, ho, rfl⟩ := h
  have hm1 := ho.many1
  have hm8 := ho.many
  show PSD _ _ [.fz (.lst (ws.map encW)), .no, .no] _
  refine psd_cons ?_
  walk_at "ifF"
  · have a1 : decide ((ws.length : Int) < 1) = false := decide_eq_false (by omega)
    have a2 : decide (8 < (ws.length : Int)) = false := decide_eq_false (by omega)
    rw [a1, a2]
    rfl
  refine psd_nil ?_
  refine psd_cons ?_
  walk_at "let"
  refine psd_cons ?_
  walk_at "for"
  · exact fun i ρ => ∃ x, ρ = [.fz (.lst (ws.map encW)), .ow (((ws.take i).map (·.rank)).map .int), x]
  · exact ⟨_, rfl⟩
  · rintro i d ρ' hd ⟨x, rfl⟩
    rw [List.getElem?_map] at hd
    cases q : ws[i]? with
    | none => rw [q] at hd; cases hd
    | some wk =>
      rw [q] at hd
      cases hd
      have hi : i < ws.length := (List.getElem?_eq_some_iff.mp q).1
      have hp := ho.plans i wk q
      have hpl := hp.len
      have hnr : wk.rank ∉ (ws.take i).map (·.rank) := fun hm => by
        have hn := ho.ranks
        rw [← List.take_append_drop i ws, List.map_append, List.nodup_append] at hn
        refine hn.2.2 _ hm wk.rank ?_ rfl
        rw [List.drop_eq_getElem_cons hi, (List.getElem?_eq_some_iff.mp q).2]
        exact List.mem_cons_self
      have g1 : f_look_at [encW wk, .lst (((ws.take i).map (·.rank)).map .int)] (.fz .non) := ⟨_, _, rfl, pure_W wk (by omega), lookC_enc (ho.rank i wk q) hnr (ho.start i wk q) hp, by rw [List.length_map, List.length_take]; omega, rfl⟩
      show PSD _ _ [_, _, .fz (encW wk)] _
      refine psd_cons ?_
      with_reducible apply ps1_expr
      · with_reducible apply pd_lend
        · show PD _ _ [.fz (.lst (ws.map encW)), .fz (.lst (((ws.take i).map (·.rank)).map .int)), .fz (encW wk)] _ _
          walk_at "pd"
        · exact Flat.non
      · refine psd_one ?_
        walk_at "app"
        · refine ⟨.fz (encW wk), ?_⟩
          rw [List.take_add_one, q, List.map_append, List.map_append]
          rfl
        · rw [List.length_map, List.length_map, List.length_take]; omega
      · rfl
  · rintro ρ' ⟨x, rfl⟩
    have g2 : f_shop_of [.lst (ws.map encW), .int 0, .lst ((ws.map fun _ => (⟨0, 0⟩ : Spot)).map encS)] (.fz (encShop (begunS ws))) := ⟨begunS ws, rfl, by show ws.length ≤ 100; omega, rfl⟩
    refine psd_one ?_
    with_reducible apply ps1_ret
    · with_reducible apply pd_callN
      · with_reducible assumption
      · with_reducible apply pad_cons
        · walk_at "pd"
        · with_reducible apply pad_cons
          · walk_at "pd"
          · with_reducible apply pad_cons
            · with_reducible apply pd_frz
              apply pd_compL encW (fun _ => true) (fun _ => D.tup [.int 0, .int 0])
              walk_at "compL"
              · omega
              · intros
                exact tsd_nil
              · intro s' H' C cl fp i a ha hb
                walk_at "pd"
            · with_reducible exact pad_nil
            · rfl
          · rfl
        · rfl
      · have e : (ws.filter fun _ => true).map (fun _ => D.tup [.int 0, .int 0]) = (ws.map fun _ => (⟨0, 0⟩ : Spot)).map encS := by
          rw [List.filter_eq_self.mpr (fun _ _ => rfl), List.map_map]
          rfl
        rw [e]
        exact g2
      · exact Room.mono (by assumption) (by decide)
      · rfl
      · intro z; cases z
      · decide
      · rfl
      · rfl
    · trivial
    · rfl
end
section
variable {P : Program} {w : World} {K : PySem.W.Frag} {mg : Str → Option Value} {base : Heap}
def t_begun : TD := fun ds d => ∃ (ws : List Worker), ds = [.lst (ws.map encW)] ∧ WsOk ws ∧ d = encShop (begunS ws)
theorem okt_begun (F : Def K mg "begun" s_begun ["workers"]) (h1 : Ok P w K mg base 4 "look_at" f_look_at) (h2 : OkT P w K mg base 1 "shop_of" t_shop_of) (c1 : ConI mg "MOST_WORKERS" 8) (m4 : mg "len" = none) : OkT P w K mg base 5 "begun" t_begun := by
  refine okt_mk F sc_begun (fun ds r h => ?_) (fun fa cd A outer s H E ds r hr h => ?_)
  · obtain ⟨ws, rfl, _⟩ := h; rfl
  obtain ⟨ws, rfl, ho, rfl⟩ := h
  have hm1 := ho.many1
  have hm8 := ho.many
  show PST _ _ [.fz (.lst (ws.map encW)), .no, .no] _ _
  refine pst_cons ?_
  walk_at "ifF"
  · have a1 : decide ((ws.length : Int) < 1) = false := decide_eq_false (by omega)
    have a2 : decide (8 < (ws.length : Int)) = false := decide_eq_false (by omega)
    rw [a1, a2]
    rfl
  refine psd_nil ?_
  refine pst_cons ?_
  walk_at "let"
  refine pst_cons ?_
  walk_at "for"
  · exact fun i ρ => ∃ x, ρ = [.fz (.lst (ws.map encW)), .ow (((ws.take i).map (·.rank)).map .int), x]
  · exact ⟨_, rfl⟩
  · rintro i d ρ' hd ⟨x, rfl⟩
    rw [List.getElem?_map] at hd
    cases q : ws[i]? with
    | none => rw [q] at hd; cases hd
    | some wk =>
      rw [q] at hd
      cases hd
      have hi : i < ws.length := (List.getElem?_eq_some_iff.mp q).1
      have hp := ho.plans i wk q
      have hpl := hp.len
      have hnr : wk.rank ∉ (ws.take i).map (·.rank) := fun hm => by
        have hn := ho.ranks
        rw [← List.take_append_drop i ws, List.map_append, List.nodup_append] at hn
        refine hn.2.2 _ hm wk.rank ?_ rfl
        rw [List.drop_eq_getElem_cons hi, (List.getElem?_eq_some_iff.mp q).2]
        exact List.mem_cons_self
      have g1 : f_look_at [encW wk, .lst (((ws.take i).map (·.rank)).map .int)] (.fz .non) := ⟨_, _, rfl, pure_W wk (by omega), lookC_enc (ho.rank i wk q) hnr (ho.start i wk q) hp, by rw [List.length_map, List.length_take]; omega, rfl⟩
      show PSD _ _ [_, _, .fz (encW wk)] _
      refine psd_cons ?_
      with_reducible apply ps1_expr
      · with_reducible apply pd_lend
        · show PD _ _ [.fz (.lst (ws.map encW)), .fz (.lst (((ws.take i).map (·.rank)).map .int)), .fz (encW wk)] _ _
          walk_at "pd"
        · exact Flat.non
      · refine psd_one ?_
        walk_at "app"
        · refine ⟨.fz (encW wk), ?_⟩
          rw [List.take_add_one, q, List.map_append, List.map_append]
          rfl
        · rw [List.length_map, List.length_map, List.length_take]; omega
      · rfl
  · rintro ρ' ⟨x, rfl⟩
    have g2 : t_shop_of [.lst (ws.map encW), .int 0, .lst ((ws.map fun _ => (⟨0, 0⟩ : Spot)).map encS)] (encShop (begunS ws)) := ⟨begunS ws, rfl, by show ws.length ≤ 100; omega, rfl⟩
    apply pst_ret (d := encShop (begunS ws))
    rotate_left
    · rfl
    rotate_left
    with_reducible apply pdp_callN
    · with_reducible assumption
    · with_reducible apply pad_cons
      · walk_at "pd"
      · with_reducible apply pad_cons
        · walk_at "pd"
        · with_reducible apply pad_cons
          · with_reducible apply pd_frz
            apply pd_compL encW (fun _ => true) (fun _ => D.tup [.int 0, .int 0])
            walk_at "compL"
            · omega
            · intros
              exact tsd_nil
            · intro s' H' C cl fp i a ha hb
              walk_at "pd"
          · with_reducible exact pad_nil
          · rfl
        · rfl
      · rfl
    · have e : (ws.filter fun _ => true).map (fun _ => D.tup [.int 0, .int 0]) = (ws.map fun _ => (⟨0, 0⟩ : Spot)).map encS := by
        rw [List.filter_eq_self.mpr (fun _ _ => rfl), List.map_map]
        rfl
      rw [e]
      exact g2
    · exact Room.mono (by assumption) (by decide)
    · rfl
    · decide
    · rfl
    · rfl
end
section
variable {P : Program} {w : World} {K : PySem.W.Frag} {mg : Str → Option Value} {base : Heap}
def g_look_at (T : Excs K mg) : GD := fun ds C => ∃ (d : D) (rs : List Int) (b : Bad), ds = [d, .lst (rs.map .int)] ∧ pureD d = true ∧ lookC rs d = some b ∧ rs.length ≤ 1000 ∧ C = T.C b
theorem lookC_tup3 {rs : List Int} {a b c : D} : lookC rs (.tup [a, b, c]) = if (numB a 1 1000000 && !inRanks rs a) = true then if numB b 0 1000 = true then if planB c = true then none else some .plan else some .start else some .rank := rfl
theorem lookC_no {rs : List Int} {d : D} (h : ∀ a b c, d ≠ .tup [a, b, c]) : lookC rs d = some .worker := by
  unfold lookC
  split
  · exact absurd rfl (h _ _ _)
  · rfl
theorem okx_look_at (F : Def K mg "look_at" s_look_at ["worker", "ranks"]) (T : Excs K mg) (t5 : T.five) (h1 : Ok P w K mg base 1 "is_number" f_is_number) (h2 : Ok P w K mg base 3 "is_plan" f_is_plan) (c1 : ConI mg "MOST_RANK" 1000000) (c2 : ConI mg "MOST_START" 1000) (m1 : mg "isinstance" = none) (m2 : mg "tuple" = none) (m4 : mg "len" = none) : OkX P w K mg base 4 "look_at" (g_look_at T) := by
  refine okx_mk F sc_look_at (fun ds C h => ?_) (fun fa cd A outer s H E ds C hr h => ?_)
  · obtain ⟨d, rs, b, rfl, _⟩ := h; rfl
  obtain ⟨d, rs, b, rfl, hd, hb, hl, rfl⟩ := h
  have hk := pure_known hd
  show RSD _ _ _ [.fz d, .fz (.lst (rs.map .int))] _ _
  by_cases h3 : ∃ x y z, d = .tup [x, y, z]
  · obtain ⟨x, y, z, rfl⟩ := h3
    have hp := pure_tup hd
    have px := hp x (by simp)
    have py := hp y (by simp)
    have pz := hp z (by simp)
    have kx := pure_known px
    have ky := pure_known py
    have g1 : f_is_number [x, .int 1, .int 1000000] (.fz (.bl (numB x 1 1000000))) := ⟨_, _, _, rfl, kx, rfl⟩
    have g2 : f_is_number [y, .int 0, .int 1000] (.fz (.bl (numB y 0 1000))) := ⟨_, _, _, rfl, ky, rfl⟩
    have g3 : f_is_plan [z] (.fz (.bl (planB z))) := ⟨_, rfl, pz, rfl⟩
    rw [lookC_tup3] at hb
    refine rsd_cons (rs1_of ?_)
    show PS1 (CxN P w K mg base n_look_at "look_at" s_look_at fa cd A outer s H E) _ _ _
    walk_at "ifF"
    · rfl
    refine psd_nil ?_
    refine rsd_cons ?_
    have hQ : ∀ k, (numB x 1 1000000 && !inRanks rs x) = !k → PTD (CxN P w K mg base n_look_at "look_at" s_look_at fa cd A outer s H E) (ifTest s_look_at 1) [.fz (.tup [x, y, z]), .fz (.lst (rs.map .int))] [.fz (.tup [x, y, z]), .fz (.lst (rs.map .int))] k := by
      intro k hkk
      cases hn : numB x 1 1000000 with
      | false =>
        rw [hn] at g1 hkk
        have ek : k = true := by simpa using hkk
        subst ek
        show PTD _ (.BoolOp .Or _ _) _ _ _
        with_reducible apply ptd_of
        with_reducible apply pwd_orT
        with_reducible apply ptd_eq
        · walk_at "pt"
        · rfl
      | true =>
        rw [hn] at g1 hkk
        obtain ⟨n, rfl, _, _⟩ := numB_iff.mp hn
        have g4 := cmp_in n rs
        have e : inRanks rs (.int n) = decide (n ∈ rs) := rfl
        rw [← e] at g4
        show PTD _ (.BoolOp .Or _ _) _ _ _
        with_reducible apply ptd_eq
        · with_reducible apply ptd_of
          with_reducible apply pwd_or
          · walk_at "pt"
          · intro _
            with_reducible apply pwd_or1
            walk_at "pt"
        · cases q : inRanks rs (.int n) with
          | true => rw [q] at hkk; simpa using hkk
          | false => rw [q] at hkk; simpa using hkk
    by_cases c3 : (numB x 1 1000000 && !inRanks rs x) = true
    · rw [if_pos c3] at hb
      refine rs1_if (hQ false (by rw [c3]; rfl)) (fun z => nomatch z) (fun _ => rsd_of (psd_nil ?_))
      by_cases c4 : numB y 0 1000 = true
      · rw [if_pos c4] at hb
        rw [c4] at g2
        refine rsd_cons (rs1_of ?_)
        show PS1 (CxN P w K mg base n_look_at "look_at" s_look_at fa cd A outer s H E) _ _ _
        walk_at "ifF"
        · rfl
        refine psd_nil ?_
        by_cases c5 : planB z = true
        · rw [if_pos c5] at hb; cases hb
        · rw [if_neg c5] at hb
          cases hb
          have c5' : planB z = false := by simpa using c5
          rw [c5'] at g3
          refine rsd_one (rs1_ifR ?_ (rsd_one (rs1_raise (T.one .plan (t5 _ (by decide))) takesX rfl rfl rfl (by decide))))
          show PTD (CxN P w K mg base n_look_at "look_at" s_look_at fa cd A outer s H E) _ _ _ _
          with_reducible apply ptd_eq
          · walk_at "pt"
          · rfl
      · rw [if_neg c4] at hb
        cases hb
        have c4' : numB y 0 1000 = false := by simpa using c4
        rw [c4'] at g2
        refine rsd_cons (rs1_ifR ?_ (rsd_one (rs1_raise (T.one .start (t5 _ (by decide))) takesX rfl rfl rfl (by decide))))
        show PTD (CxN P w K mg base n_look_at "look_at" s_look_at fa cd A outer s H E) _ _ _ _
        with_reducible apply ptd_eq
        · walk_at "pt"
        · rfl
    · rw [if_neg c3] at hb
      cases hb
      have c3' : (numB x 1 1000000 && !inRanks rs x) = false := by simpa using c3
      exact rs1_if (hQ true (by rw [c3']; rfl)) (fun _ => rsd_one (rs1_raise (T.one .rank (t5 _ (by decide))) takesX rfl rfl rfl (by decide))) (fun z => nomatch z)
  · have hb' : b = .worker := by
      rw [lookC_no (fun x y z e => h3 ⟨x, y, z, e⟩)] at hb
      exact (Option.some.inj hb).symm
    subst hb'
    refine rsd_cons (rs1_ifR ?_ (rsd_one (rs1_raise (T.one .worker (t5 _ (by decide))) takesX rfl rfl rfl (by decide))))
    show PTD (CxN P w K mg base n_look_at "look_at" s_look_at fa cd A outer s H E) _ _ _ _
    cases ht : isTupD d with
    | false =>
      with_reducible apply ptd_of
      with_reducible apply pwd_orT
      with_reducible apply ptd_eq
      · walk_at "pt"
      · rw [ht]; rfl
    | true =>
      cases d with
      | tup ds =>
        with_reducible apply ptd_eq
        · walk_at "pt"
        · have hne : ¬ (ds.length : Int) = 3 := fun e => by
            match ds, e with
            | [x, y, z], _ => exact h3 ⟨x, y, z, rfl⟩
            | [], e => simp at e
            | [x], e => simp at e
            | [x, y], e => simp at e
            | x :: y :: z :: u :: r, e => simp at e; omega
          rw [decide_eq_false hne]
          rfl
      | _ => cases ht
def g_begun (T : Excs K mg) : GD := fun ds C => ∃ (xs : List D) (b : Bad), ds = [.lst xs] ∧ (∀ d ∈ xs, pureD d = true) ∧ begunC xs = some b ∧ xs.length ≤ 1000 ∧ C = T.C b
/-- how far all is well -/
theorem begunGo_drop : ∀ {ds : List D} {rs : List Int} {b : Bad}, begunGo rs ds = some b → ∀ i, i < ds.length → (∀ j, j < i → ∃ d, ds[j]? = some d ∧ lookC (rs ++ (ds.take j).map rankD) d = none) → begunGo (rs ++ (ds.take i).map rankD) (ds.drop i) = some b
  | ds, rs, b, h, 0, _, _ => by simpa using h
  | ds, rs, b, h, i + 1, hi, hw => by
    have ih := begunGo_drop h i (by omega) fun j hj => hw j (by omega)
    obtain ⟨d, hd, hn⟩ := hw i (by omega)
    rw [show ds.drop i = d :: ds.drop (i + 1) by rw [List.drop_eq_getElem_cons (by omega), (List.getElem?_eq_some_iff.mp hd).2]] at ih
    have ih' : (match lookC (rs ++ (ds.take i).map rankD) d with | some b => some b | none => begunGo (rs ++ (ds.take i).map rankD ++ [rankD d]) (ds.drop (i + 1))) = some b := ih
    rw [hn] at ih'
    rw [List.take_add_one, hd, List.map_append, ← List.append_assoc]
    exact ih'
theorem okx_begun (F : Def K mg "begun" s_begun ["workers"]) (T : Excs K mg) (t5 : T.five) (h1 : Ok P w K mg base 4 "look_at" f_look_at) (h1x : OkX P w K mg base 4 "look_at" (g_look_at T)) (c1 : ConI mg "MOST_WORKERS" 8) (m4 : mg "len" = none) : OkX P w K mg base 5 "begun" (g_begun T) := by
  refine okx_mk F sc_begun (fun ds C h => ?_) (fun fa cd A outer s H E ds C hr h => ?_)
  · obtain ⟨xs, b, rfl, _⟩ := h; rfl
  obtain ⟨xs, b, rfl, hp, hb, hl, rfl⟩ := h
  show RSD _ _ _ [.fz (.lst xs), .no, .no] _ _
  unfold begunC at hb
  by_cases hln : 1 ≤ xs.length ∧ xs.length ≤ 8
  · rw [if_pos hln] at hb
    refine rsd_cons (rs1_of ?_)
    show PS1 (CxN P w K mg base n_begun "begun" s_begun fa cd A outer s H E) _ _ _
    walk_at "ifF"
    · rw [decide_eq_false (show ¬ (xs.length : Int) < 1 by omega), decide_eq_false (show ¬ (8 : Int) < (xs.length : Int) by omega)]
      rfl
    refine psd_nil ?_
    refine rsd_cons (rs1_of ?_)
    show PS1 (CxN P w K mg base n_begun "begun" s_begun fa cd A outer s H E) _ _ _
    walk_at "let"
    refine rsd_cons ?_
    refine rs1_forL (N := n_begun) (ds := xs) (ρ := [.fz (.lst xs), .ow [], .no]) (ρ1 := [.fz (.lst xs), .ow [], .no]) CxX_N (by walk_at "at") ?_ (fun i ρ => i < xs.length + 1 ∧ ∃ x, ρ = [.fz (.lst xs), .ow (((xs.take i).map rankD).map .int), x] ∧ ∀ j, j < i → ∃ d, xs[j]? = some d ∧ lookC ((xs.take j).map rankD) d = none) ?_ ?_ ?_ passesX rfl (by decide +kernel) (by walk_at "loc") (by first | exact Or.inl rfl | exact Or.inr rfl) (by intro _; rfl)
    · show PD (CxN P w K mg base n_begun "begun" s_begun fa cd A outer s H E) _ _ _ _
      walk_at "pd"
    · exact ⟨by omega, _, rfl, fun j hj => absurd hj (Nat.not_lt_zero j)⟩
    · rintro i d ρ' hd ⟨_, x, rfl, hw⟩
      have hi : i < xs.length := (List.getElem?_eq_some_iff.mp hd).1
      have pd := hp d (List.mem_of_getElem? hd)
      have hrl : ((xs.take i).map rankD).length ≤ 1000 := by rw [List.length_map, List.length_take]; omega
      have go := begunGo_drop (rs := []) hb i hi (fun j hj => by simpa using hw j hj)
      rw [List.nil_append] at go
      show RSD _ _ _ [_, _, .fz d] _ _
      cases q : lookC ((xs.take i).map rankD) d with
      | some b' =>
        have eb : b' = b := by
          rw [show xs.drop i = d :: xs.drop (i + 1) by rw [List.drop_eq_getElem_cons hi, (List.getElem?_eq_some_iff.mp hd).2]] at go
          have go' : (match lookC ((xs.take i).map rankD) d with | some b => some b | none => begunGo ((xs.take i).map rankD ++ [rankD d]) (xs.drop (i + 1))) = some b := go
          rw [q] at go'
          exact Option.some.inj go'
        subst eb
        refine rsd_cons ?_
        refine rs1_callE (ds := [d, .lst (((xs.take i).map rankD).map .int)]) (ρ1 := [.fz (.lst xs), .fz (.lst (((xs.take i).map rankD).map .int)), .fz d]) (C := T.C b') h1x takesX (by exact Room.mono hr (by decide)) rfl ?_ ⟨d, _, b', rfl, pd, q, hrl, rfl⟩ rfl (by decide) rfl rfl rfl
        show PAD (CxN P w K mg base n_begun "begun" s_begun fa cd A outer s H E) _ _ _ _
        with_reducible apply pad_cons
        · walk_at "pd"
        · with_reducible apply pad_cons
          · walk_at "pdf"
          · exact pad_nil
          · rfl
        · rfl
      | none =>
        obtain ⟨e1, e2, _⟩ := lookC_none q
        have g1 : f_look_at [d, .lst (((xs.take i).map rankD).map .int)] (.fz .non) := ⟨_, _, rfl, pd, q, hrl, rfl⟩
        refine rsd_cons (rs1_of ?_)
        show PS1 (CxN P w K mg base n_begun "begun" s_begun fa cd A outer s H E) _ _ _
        with_reducible apply ps1_expr
        · with_reducible apply pd_lend
          · show PD _ _ [.fz (.lst xs), .fz (.lst (((xs.take i).map rankD).map .int)), .fz d] _ _
            walk_at "pd"
          · exact Flat.non
        · refine rsd_one (rs1_of ?_)
          show PS1 (CxN P w K mg base n_begun "begun" s_begun fa cd A outer s H E) _ [.fz (.lst xs), .ow (((xs.take i).map rankD).map .int), .fz d] _
          have ix : ixD d (.int 0) = some (.int (rankD d)) := by
            rw [e2]
            conv => lhs; rw [e1]
            rfl
          walk_at "app"
          · refine ⟨by omega, .fz d, ?_, fun j hj => ?_⟩
            · rw [List.take_add_one, hd, List.map_append, List.map_append]
              rfl
            · by_cases ej : j = i
              · subst ej; exact ⟨d, hd, q⟩
              · exact hw j (by omega)
          · rw [List.length_map, List.length_map, List.length_take]; omega
        · rfl
    · rintro ρ' ⟨_, x, rfl, hw⟩
      exfalso
      have n8 : xs.length - 1 < xs.length := by omega
      have go := begunGo_drop (rs := []) hb (xs.length - 1) n8 (fun j hj => by simpa using hw j (by omega))
      obtain ⟨d, hd, hn⟩ := hw (xs.length - 1) n8
      rw [List.nil_append, show xs.drop (xs.length - 1) = d :: xs.drop (xs.length - 1 + 1) by rw [List.drop_eq_getElem_cons n8, (List.getElem?_eq_some_iff.mp hd).2]] at go
      have go' : (match lookC ((xs.take (xs.length - 1)).map rankD) d with | some b => some b | none => begunGo ((xs.take (xs.length - 1)).map rankD ++ [rankD d]) (xs.drop (xs.length - 1 + 1))) = some b := go
      rw [hn, List.drop_eq_nil_of_le (by omega)] at go'
      cases go'
  · rw [if_neg hln] at hb
    cases hb
    refine rsd_cons (rs1_ifR ?_ (rsd_one (rs1_raise (T.one .tooMany (t5 _ (by decide))) takesX rfl rfl rfl (by decide))))
    show PTD (CxN P w K mg base n_begun "begun" s_begun fa cd A outer s H E) _ _ _ _
    with_reducible apply ptd_eq
    · walk_at "pt"
    · by_cases h0 : (xs.length : Int) < 1
      · rw [decide_eq_true h0]; rfl
      · rw [decide_eq_true (show (8 : Int) < (xs.length : Int) by omega), Bool.or_true]
end
section
variable {P : Program} {w : World} {K : PySem.W.Frag} {mg : Str → Option Value} {base : Heap}
def f_cell : FD := fun ds r => ∃ (ns : List Int) (k : Nat), ds = [.scr ns, .int (k : Int)] ∧ r = .fz (.int (cellN ns k))
theorem ok_cell (F : Def K mg "_law_cell_at" s__law_cell_at ["_law_script", "_law_k"]) (ml : mg "len" = none) : Ok P w K mg base 1 "_law_cell_at" f_cell := by
  refine ok_mk F sc__law_cell_at (fun ds r h => ?_) (fun fa cd A outer s H E ds r hr h => ?_)
  · obtain ⟨ns, k, rfl, _⟩ := h; rfl
  obtain ⟨ns, k, rfl, rfl⟩ := h
  show PSD _ _ [.fz (.scr ns), .fz (.int (k : Int))] _
  refine psd_cons ?_
  walk_at "if2"
  · intro h
    have e : ixD (.scr ns) (.int (k : Int)) = some (.int (cellN ns k)) := by
      show (atI ns (k : Int)).map D.int = _
      have h1 := List.getElem?_eq_getElem (l := ns) (i := k) (by omega)
      rw [atI_nat h1]
      unfold cellN
      rw [List.getD_eq_getElem?_getD, h1]
      rfl
    walk_at "ret"
    rfl
  · intro h
    refine psd_nil ?_
    walk_at "ret"
    show Sl.fz _ = Sl.fz _
    unfold cellN
    rw [List.getD_eq_getElem?_getD, List.getElem?_eq_none (by omega)]
    rfl
def f_mixed : FD := fun ds r => ∃ (c k : Int), ds = [.int c, .int k] ∧ (0 ≤ k ∧ k ≤ 100000) ∧ r = .fz (.int (mixed c k))
theorem ok_mixed (F : Def K mg "_law_mixed" s__law_mixed ["_law_cell", "_law_k"]) : Ok P w K mg base 1 "_law_mixed" f_mixed := by
  refine ok_mk F sc__law_mixed (fun ds r h => ?_) (fun fa cd A outer s H E ds r hr h => ?_)
  · obtain ⟨c, k, rfl, _⟩ := h; rfl
  obtain ⟨c, k, rfl, hk, rfl⟩ := h
  show PSD _ _ [.fz (.int c), .fz (.int k), .no] _
  refine psd_cons ?_
  walk_at "let"
  have hb := mixNum_bd c k
  show PSD _ _ [.fz (.int c), .fz (.int k), .fz (.int (mixNum c k))] _
  walk_at "ret"
  rfl
end
section
variable {P : Program} {w : World} {K : PySem.W.Frag} {mg : Str → Option Value} {base : Heap}
theorem alike_flat {fa : Addr} {cd : Value} {A : Around} {outer : List Env} {s : Shared} {H : Hp} {E : XK} (d : D) (hk : knownD d = true) (hp : pureD d = true) (hl : isListD d = false ∧ isTupD d = false) (m1 : mg "isinstance" = none) (m2 : mg "int" = none) (m3 : mg "bool" = none) (m4 : mg "str" = none) :
    PSD (CxN P w K mg base n__law_alike "_law_alike" s__law_alike fa cd A outer s H E) (defBody s__law_alike).tail [.fz d, .fz d, .no] { nx := fun _ => Sl.fz (.bl true) = .fz .non, rt := fun r' => r' = .fz (.bl true) } := by
  cases d with
  | non =>
    refine psd_cons ?_
    walk_at "ifF"
    · rfl
    refine psd_nil ?_
    refine psd_cons ?_
    walk_at "ifT"
    · rfl
    walk_at "ret"
    rfl
  | int i =>
    refine psd_cons ?_
    walk_at "ifT"
    · rfl
    walk_at "ret"
    show Sl.fz _ = Sl.fz _
    simp [isIntD, isBoolD]
  | bl i =>
    refine psd_cons ?_
    walk_at "ifT"
    · rfl
    walk_at "ret"
    show Sl.fz _ = Sl.fz _
    simp [isIntD, isBoolD]
  | str i =>
    refine psd_cons ?_
    walk_at "ifF"
    · rfl
    refine psd_nil ?_
    refine psd_cons ?_
    walk_at "ifF"
    · rfl
    refine psd_nil ?_
    walk_at "ret"
    show Sl.fz _ = Sl.fz _
    simp [isStrD]
  | lst xs => cases hl.1
  | tup xs => cases hl.2
  | scr xs => cases hk
  | dic xs => exact absurd hp (by unfold pureD; exact Bool.false_ne_true)
  | dicL xs => exact absurd hp (by unfold pureD; exact Bool.false_ne_true)
  | exc xs => cases hk
  | raw xs => cases hk
def f_alike (n : Nat) : FD := fun ds r => ∃ (d : D), ds = [d, d] ∧ Fine n d ∧ r = .fz (.bl true)
theorem ok_alike (F : Def K mg "_law_alike" s__law_alike ["_law_found", "_law_due_here"]) (m1 : mg "isinstance" = none) (m2 : mg "int" = none) (m3 : mg "bool" = none) (m4 : mg "str" = none) (m5 : mg "list" = none) (m6 : mg "tuple" = none) (m7 : mg "len" = none) (m8 : mg "range" = none) (m9 : mg "all" = none) :
    ∀ n, Ok P w K mg base (n + 1) "_law_alike" (f_alike n) := by
  intro n
  induction n with
  | zero =>
    refine ok_mk F sc__law_alike (fun ds r h => ?_) (fun fa cd A outer s H E ds r hr h => ?_)
    · obtain ⟨d, rfl, _⟩ := h; rfl
    obtain ⟨d, rfl, hd, rfl⟩ := h
    show PSD _ _ [.fz d, .fz d, .no] _
    have hk : knownD d = true := by
      cases d <;> first | rfl | exact absurd hd.1 (by unfold pureD; exact Bool.false_ne_true)
    have hl : isListD d = false ∧ isTupD d = false := by
      obtain ⟨h1, h2, h3⟩ := hd
      cases d <;> first | exact ⟨rfl, rfl⟩ | exact absurd h1 (by unfold pureD; exact Bool.false_ne_true) | exact absurd h2 (by unfold depD; exact Nat.not_succ_le_zero _)
    refine psd_cons ?_
    walk_at "ifF"
    · rw [hl.1, hl.2]; rfl
    refine psd_nil ?_
    exact alike_flat d hk hd.1 hl m1 m2 m3 m4
  | succ n ih =>
    refine ok_mk F sc__law_alike (fun ds r h => ?_) (fun fa cd A outer s H E ds r hr h => ?_)
    · obtain ⟨d, rfl, _⟩ := h; rfl
    obtain ⟨d, rfl, hd, rfl⟩ := h
    show PSD _ _ [.fz d, .fz d, .no] _
    have hk : knownD d = true := by
      cases d <;> first | rfl | exact absurd hd.1 (by unfold pureD; exact Bool.false_ne_true)
    by_cases hl : isListD d = false ∧ isTupD d = false
    · refine psd_cons ?_
      walk_at "ifF"
      · rw [hl.1, hl.2]; rfl
      refine psd_nil ?_
      exact alike_flat d hk hd.1 hl m1 m2 m3 m4
    · have items : ∃ xs : List D, (d = .lst xs ∨ d = .tup xs) ∧ (∀ e ∈ xs, Fine n e) ∧ xs.length ≤ 1000 := by
        cases d with
        | lst xs => exact ⟨xs, .inl rfl, hd.lst_inv⟩
        | tup xs => exact ⟨xs, .inr rfl, hd.tup_inv⟩
        | scr xs => cases hk
        | _ => exact absurd ⟨rfl, rfl⟩ hl
      obtain ⟨xs, hxs, hf, hlen⟩ := items
      have hlenD : lenD d = some (xs.length : Int) := by rcases hxs with rfl | rfl <;> rfl
      have hit : (isListD d || isTupD d) = true := by rcases hxs with rfl | rfl <;> rfl
      refine psd_cons ?_
      walk_at "ifT"
      · exact hit
      refine psd_cons ?_
      walk_at "ifF"
      · rcases hxs with rfl | rfl <;> rfl
      refine psd_nil ?_
      refine psd_cons ?_
      walk_at "ifF"
      · simp
      refine psd_nil ?_
      refine psd_one ?_
      with_reducible apply ps1_ret
      · apply pd_all (bs := List.replicate xs.length true)
        · rfl
        · apply pd_frz
          apply pd_eq
          · apply pd_compR (fun _ => true) (fun _ => .bl true)
            walk_at "compR"
            · omega
            · intros
              exact tsd_nil
            · intro s' H' C cl fp i hi hb
              have hi' : i < xs.length := by omega
              have e1 : xs[i]? = some xs[i] := List.getElem?_eq_getElem hi'
              have e2 : ixD d (.int (i : Int)) = some xs[i] := by
                rcases hxs with rfl | rfl
                · exact atI_nat e1
                · exact atI_nat e1
              have g : f_alike n [xs[i], xs[i]] (.fz (.bl true)) := ⟨_, rfl, hf _ (List.getElem_mem hi'), rfl⟩
              walk_at "pd"
          · congr 1
            rw [Int.toNat_natCast, List.filter_eq_self.mpr (fun _ _ => rfl), List.map_replicate]
            exact (List.map_const' ..).trans (by rw [List.length_range])
        · exact m9
        all_goals rfl
      · trivial
      · show Sl.fz _ = Sl.fz _
        simp
end
section
variable {P : Program} {w : World} {K : PySem.W.Frag} {mg : Str → Option Value} {base : Heap}
section
variable {X : Cx} {a : Expr} {ρ ρ1 : List Sl} {xs : List D} {pos p : Pos}
theorem pd_listT (ha : PD X a ρ ρ1 (.fz (.tup xs))) (hm : X.mg "list" = none) (hg : Gl X "list") (he : starEach [a] X.env = (false, eval a X.env) :: starEach [] X.env) (hpl : (backTo pos (starEach [] X.env)).any (·.1) = false) :
    PD X (.Call (.Name "list" p) [a] [] pos) ρ ρ1 (.ow xs) := pd_callTy call_list_of PyProof.Rows.boot_list hg hm (pad_cons ha pad_nil he) (fun B σ ρ G H us Q S hx k => by
  cases hx with
  | cons h1 h2 =>
    cases h2
    cases h1 with
    | tup h1 h2 => exact ⟨_, _, rfl, .inr (SqT.of (S.e3 _ _ h1)), okN S k h2⟩) (by decide) (by decide) he hpl
end
theorem spo_flat {fa : Addr} {cd : Value} {A : Around} {outer : List Env} {s : Shared} {H : Hp} {E : XK} (d : D) (hk : knownD d = true) (hl : isListD d = false ∧ isTupD d = false) (m1 : mg "isinstance" = none) (m5 : mg "list" = none) (m6 : mg "tuple" = none) :
    PSD (CxN P w K mg base n__law_spoilt "_law_spoilt" s__law_spoilt fa cd A outer s H E) (defBody s__law_spoilt) [.fz d, .no] { nx := fun _ => True, rt := fun _ => False } := by
  refine psd_cons ?_
  walk_at "ifF"
  · rw [hl.1, hl.2]; rfl
  refine psd_nil ?_
  refine psd_one ?_
  walk_at "ifF"
  · exact hl.1
  exact psd_nil trivial
theorem sr_frozen {σ : L2.St} {ρ : List Sl} {H : Hp} (hl : σ.length = ρ.length) (h : ∀ (i : Nat) r, ρ[i]? = some r → r = .no ∨ ∃ d v, r = .fz d ∧ σ[i]? = some (some v) ∧ Rep K H v d) : SR K ⟨H, H⟩ σ H H ρ where
  e1 := Evl.Ex.refl H
  e2 := Evl.Ex.refl H
  e3 := Evl.Ex.refl H
  nw := fun a o h1 h2 => absurd (h1.symm.trans h2) (fun z => nomatch z)
  len := hl
  sl := fun i r q => by
    rcases h i r q with e | ⟨d, v, e, h1, h2⟩
    · subst e
      have hi : i < σ.length := by rw [hl]; exact (List.getElem?_eq_some_iff.mp q).1
      exact ⟨_, List.getElem?_eq_getElem hi, trivial⟩
    · subst e
      exact ⟨_, h1, v, rfl, h2⟩
  ne := fun i j p ⟨_, r, q, o⟩ _ => by
    rcases h i r q with e | ⟨d, v, e, _⟩
    · subst e; exact o.elim
    · subst e; exact o.elim
theorem sr_two {σ : L2.St} {v : V} {d : D} {H : Hp} (hl : σ.length = 2) (h0 : σ[0]? = some (some v)) (r : Rep K H v d) : SR K ⟨H, H⟩ σ H H [.fz d, .no] := sr_frozen hl fun i s q => by
  match i, q with
  | 0, q => cases q; exact .inr ⟨d, v, rfl, h0, r⟩
  | 1, q => cases q; exact .inl rfl
  | _ + 2, q => cases q
theorem raw_reps {G : Hp} : ∀ (ws : List V), Reps K G ws (ws.map .raw)
  | [] => .nil
  | w :: ws => .cons (.raw w) (raw_reps ws)
theorem spo_seq {fa : Addr} {cd : Value} {A : Around} {outer : List Env} {s : Shared} {H : Hp} {E : XK} {M : Ends} {n : Nat} {H0 : Hp} {a : Addr} {vs : List V} {ds : List D} {Lc : List Addr} {isL : Bool}
    (hr : Room n (CxN P w K mg base n__law_spoilt "_law_spoilt" s__law_spoilt fa cd A outer s H E).A) (ih : vs = [] ∨ ∃ m, OkS P w K mg base n "_law_spoilt" m ∧ ∀ d ∈ ds, Fine m d)
    (hH : H0 a = some (if isL = true then .lst vs else .tup vs)) (t : Trs H0 vs ds Lc) (nd : Lc.Nodup) (nL : isL = true → a ∉ Lc) (hlen : vs.length ≤ 1000) (k : ∀ σ' H', Spo (if isL = true then a :: Lc else Lc) H0 H' → M.nx σ' H')
    (m1 : mg "isinstance" = none) (m5 : mg "list" = none) (m6 : mg "tuple" = none) :
    wpB (CxN P w K mg base n__law_spoilt "_law_spoilt" s__law_spoilt fa cd A outer s H E) (defBody s__law_spoilt) M (L2.start n__law_spoilt [.ref a]) H0 := by
  obtain ⟨d', hd'⟩ : ∃ d' : D, d' = if isL = true then .lst (vs.map .raw) else .tup (vs.map .raw) := ⟨_, rfl⟩
  have rep : ∀ {H' : Hp}, H' a = some (if isL = true then .lst vs else .tup vs) → Rep K H' (.ref a) d' := fun {H'} q => by
    cases isL with
    | true => rw [hd']; exact .lst q (raw_reps vs)
    | false => rw [hd']; exact .tup q (raw_reps vs)
  have hk : knownD d' = true := by
    cases isL <;> (subst hd'; rfl)
  have S0 : SR K ⟨H0, H0⟩ (L2.start n__law_spoilt [.ref a]) H0 H0 [.fz d', .no] := sr_two rfl rfl (rep hH)
  have aL : a ∉ Lc := fun m => by
    cases isL with
    | true => exact nL rfl m
    | false =>
      obtain ⟨us, q⟩ := Trs.isL _ _ _ t a m
      rw [hH] at q; cases q
  refine wpB_of (pss_cons (ps_if canT canB pss_nil) (pss_one canS)) ?_
  refine PTD.run (ρ' := [.fz d', .no]) (b := true) ?pt ⟨H0, H0⟩ _ H0 H0 _ S0 fun G1 H1 e1 S1 => ?_
  case pt =>
    with_reducible apply ptd_eq
    · walk_at "pt"
    · cases isL <;> (subst hd'; rfl)
  refine iteT ?_
  refine wpB_of (pss_one (ps_for PassesOwn.never rfl (pi_list canE) (pg_name (i := 1) (show n__law_spoilt.Nodup by decide +kernel) rfl (.inl rfl) (.inl rfl)) canB (by intro _; rfl))) ?_
  refine PD.run (ρ' := [.fz d', .no]) (r := .ow (vs.map .raw)) ?pl ⟨H0, H0⟩ _ G1 H1 _ S1 fun u G2 H2 e2 S2 r2 => ?_
  case pl =>
    cases isL with
    | true =>
      subst hd'
      with_reducible apply pd_listN
      · walk_at "pd"
      · exact m5
      all_goals rfl
    | false =>
      subst hd'
      with_reducible apply pd_listT
      · walk_at "pd"
      · exact m5
      all_goals rfl
  obtain ⟨_, ⟨l, ws, eq, g1, g2, g3, g4⟩, _⟩ := r2
  cases eq
  have ew := reps_raw g4
  subst ew
  have hl0 : H0 l = none := g2
  refine ⟨l, rfl, ⟨ws, .inl (.inl g3)⟩, ?_⟩
  refine for_list (xs := ws) (fun i σ' H' => σ'[0]? = some (some (V.ref a)) ∧ σ'.length = 2 ∧ H' l = some (.lst ws) ∧ ∃ La Lb, Lc = La ++ Lb ∧ Trs H0 (ws.drop i) (ds.drop i) Lb ∧ Spo La H0 H') ⟨rfl, rfl, g3, [], Lc, rfl, t, Spo.nil S2.e2⟩ (fun i σ' H' _ ⟨_, _, h, _⟩ => .inl (.inl h)) ?_ ?_
  · rintro i u σ' H' hu ⟨h0, hlen', hl, La, Lb, eL, tl, sp⟩
    have hi := (List.getElem?_eq_some_iff.mp hu).1
    have hi2 : i < ds.length := by rw [← t.length]; exact hi
    have eu : ws[i] = u := (List.getElem?_eq_some_iff.mp hu).2
    rw [List.drop_eq_getElem_cons hi, List.drop_eq_getElem_cons hi2, eu] at tl
    obtain ⟨Li, Lb', eLb, ti, tl'⟩ := tl.inv
    subst eLb
    rcases ih with ih | ⟨m, ih, hf⟩
    · subst ih; cases hi
    obtain ⟨ga, fd, ps, F, hm, hk2, hb⟩ := ih.ex
    refine wpB_of (pss_one (ps_expr (pe_call F hr rfl hm hk2 hb .nil passL (pa_cons canE pa_nil rfl) (by decide) rfl rfl) rfl)) ?_
    refine wpE_of (pe_var (i := 1) rfl (.inl rfl) (by decide) (by decide)) ⟨u, List.getElem?_set_self (by omega), ?_⟩
    rw [eL] at nd
    have nd1 := List.nodup_append.mp nd
    have nd2 := List.nodup_append.mp nd1.2.1
    have listsA : ∀ b ∈ La, ∃ us, H0 b = some (.lst us) := fun b m => Trs.isL _ _ _ t b (by rw [eL]; exact List.mem_append_left _ m)
    have listsI : ∀ b ∈ Li, ∃ us, H0 b = some (.lst us) := ti.isL _ _ _
    refine ⟨u, ds[i], Li, rfl, ti.beside sp listsA (fun b m m2 => nd1.2.2 b m2 b (List.mem_append_left _ m) rfl), nd2.1, hf _ (List.getElem_mem hi2), fun H3 s3 => ?_⟩
    refine ⟨by rw [List.getElem?_set_ne (by decide)]; exact h0, by rw [List.length_set]; exact hlen', s3.out l (fun m => ?_) _ hl, La ++ Li, Lb', by rw [eL, List.append_assoc], tl', sp.trans s3 fun b m m2 => nd1.2.2 b m b (List.mem_append_left _ m2) rfl⟩
    obtain ⟨us, q⟩ := listsI l m
    rw [hl0] at q; cases q
  · rintro σ' H' ⟨h0, hlen', hl, La, Lb, eL, tl, sp⟩
    rw [List.drop_length, List.drop_eq_nil_of_le (by rw [← t.length]; exact Nat.le_refl _)] at tl
    cases tl
    rw [List.append_nil] at eL
    subst eL
    have hH' := sp.out a aL _ hH
    refine wpS_of (ps_if canT canB pss_nil) ?_
    refine PTD.run (ρ' := [.fz d', .no]) (b := isL) ?pt2 ⟨H', H'⟩ _ H' H' _ (sr_two hlen' h0 (rep hH')) fun G4 H4 e4 S4 => ?_
    case pt2 =>
      with_reducible apply ptd_eq
      · walk_at "pt"
      · cases isL <;> (subst hd'; rfl)
    have sp4 := sp.ex S4.e2
    cases isL with
    | false => exact iteF (k _ _ sp4)
    | true =>
      refine iteT ?_
      have hH4 : H4 a = some (.lst ws) := S4.e2 a _ hH'
      refine wpB_of (pss_one (ps_expr (pe_bm PySem.F.plainAttrs_list PySem.F.slot_list_append PySem.F.type_list_append mt_append canE (pa_cons canE pa_nil rfl)) rfl)) ?_
      refine wpE_of (pe_var (i := 0) rfl (.inl rfl) (by decide) (by decide)) ⟨.ref a, h0, ?_⟩
      refine ⟨.inl ⟨rfl, _, .inl (.inl hH4)⟩, ?_⟩
      refine wpE_of pe_str ?_
      refine ⟨a, ws, _, rfl, rfl, hH4, Evl.sz_lt (by omega), ?_⟩
      refine k _ _ ⟨fun b m o q => ?_, fun b m us q => ?_⟩
      · rw [upd_ne (fun e => m (by rw [e]; exact List.mem_cons_self))]
        exact sp4.out b (fun z => m (List.mem_cons_of_mem _ z)) o q
      · rcases List.mem_cons.mp m with e | m
        · subst e
          rw [hH] at q
          cases q
          exact upd_same
        · rw [upd_ne (fun e => aL (by rw [← e]; exact m))]
          exact sp4.inn b m us q
theorem oks_mk {n : Nat} (F : Def K mg "_law_spoilt" s__law_spoilt ["_law_thing"]) (m1 : mg "isinstance" = none) (m5 : mg "list" = none) (m6 : mg "tuple" = none) (ih : n = 0 ∨ ∃ m, n = m + 1 ∧ OkS P w K mg base n "_law_spoilt" m) : OkS P w K mg base (n + 1) "_law_spoilt" n := by
  obtain ⟨fa, fd, F, hm, hb⟩ := F.ex
  refine ⟨fa, fd, ["_law_thing"], F.okX sc__law_spoilt (fun vs H Q E h => ?_) (fun cdv A outer s H vs Q E hr h => ?_), hm, F.kp, hb⟩
  · obtain ⟨v, d, L, rfl, _⟩ := h; rfl
  · obtain ⟨v, d, L, rfl, t, nd, hf, q⟩ := h
    refine ⟨_, PSs.nox (canB (X := CxN P w K mg base n__law_spoilt "_law_spoilt" s__law_spoilt fa cdv A outer s H E)), ?_⟩
    have flat : ∀ M : Ends, (∀ σ' H', Evl.Ex H H' → M.nx σ' H') → knownD d = true → isListD d = false ∧ isTupD d = false → wpB (CxN P w K mg base n__law_spoilt "_law_spoilt" s__law_spoilt fa cdv A outer s H E) (defBody s__law_spoilt) M (L2.start n__law_spoilt [v]) H := fun M hM hk hl => by
      refine (spo_flat d hk hl m1 m5 m6) ⟨H, H⟩ _ H H _ (sr_start (Evl.Ex.refl H) (.cons (t.rep) .nil)) ⟨?_, (fun _ _ _ _ _ _ _ _ _ _ z => z.elim), fun _ _ _ _ _ _ z => z.elim, fun _ _ _ _ _ _ z => z.elim⟩
      intro σ' G' H' ρ' e S' _
      exact hM σ' H' S'.e2
    cases t with
    | non => exact flat _ (fun σ' H' e => q H' (Spo.nil e)) rfl ⟨rfl, rfl⟩
    | bl b => exact flat _ (fun σ' H' e => q H' (Spo.nil e)) rfl ⟨rfl, rfl⟩
    | int b => exact flat _ (fun σ' H' e => q H' (Spo.nil e)) rfl ⟨rfl, rfl⟩
    | str b => exact flat _ (fun σ' H' e => q H' (Spo.nil e)) rfl ⟨rfl, rfl⟩
    | raw b => exact absurd hf.1 (by unfold pureD; exact Bool.false_ne_true)
    | @lst a vs ds L h t =>
      rcases ih with rfl | ⟨m, rfl, ih⟩
      · exact absurd hf.2.1 (by unfold depD; exact Nat.not_succ_le_zero _)
      rw [List.nodup_cons] at nd
      obtain ⟨f1, f2⟩ := hf.lst_inv
      exact spo_seq (isL := true) hr (.inr ⟨m, ih, f1⟩) h t nd.2 (fun _ => nd.1) (by rw [t.length]; exact f2) (fun σ' H' z => q H' z) m1 m5 m6
    | @tup a vs ds L h t =>
      rcases ih with rfl | ⟨m, rfl, ih⟩
      · exact absurd hf.2.1 (by unfold depD; exact Nat.not_succ_le_zero _)
      obtain ⟨f1, f2⟩ := hf.tup_inv
      exact spo_seq (isL := false) hr (.inr ⟨m, ih, f1⟩) h t nd (fun z => nomatch z) (by rw [t.length]; exact f2) (fun σ' H' z => q H' z) m1 m5 m6
abbrev f_spo (n : Nat) : Nat := n
theorem oks_spoilt (F : Def K mg "_law_spoilt" s__law_spoilt ["_law_thing"]) (m1 : mg "isinstance" = none) (m5 : mg "list" = none) (m6 : mg "tuple" = none) : ∀ n, OkS P w K mg base (n + 1) "_law_spoilt" (f_spo n) := by
  intro n
  induction n with
  | zero => exact oks_mk F m1 m5 m6 (.inl rfl)
  | succ n ih => exact oks_mk F m1 m5 m6 (.inr ⟨n, rfl, ih⟩)
end
section
variable {P : Program} {w : World} {K : PySem.W.Frag} {mg : Str → Option Value} {base : Heap}
theorem emod_nat {a : Int} {n : Nat} (h : 0 < n) : a % (n : Int) = ((a % (n : Int)).toNat : Int) ∧ (a % (n : Int)).toNat < n := by
  have h1 := Int.emod_nonneg a (show (n : Int) ≠ 0 by omega)
  have h2 := Int.emod_lt_of_pos a (show (0 : Int) < n by omega)
  omega
def f_plan (C : Int) : FD := fun ds r => ∃ (number most : Int), ds = [.int number, .int most] ∧ (0 < most ∧ most ≤ 100) ∧ r = .fz (encPlan (planF C number most))
theorem ok_plan (F : Def K mg "_law_plan" s__law_plan ["_law_number", "_law_most"]) (h1 : Ok P w K mg base 1 "_law_mixed" f_mixed) (m1 : mg "max" = none) (m2 : mg "min" = none) (m3 : mg "int" = none) (m4 : mg "len" = none) (m5 : mg "range" = none) : Ok P w K mg base 2 "_law_plan" (f_plan 97) := by
  refine ok_mk F sc__law_plan (fun ds r h => ?_) (fun fa cd A outer s H E ds r hr h => ?_)
  · obtain ⟨a, b, rfl, _⟩ := h; rfl
  obtain ⟨number, most, rfl, hm, rfl⟩ := h
  obtain ⟨hm1, hm2⟩ := hm
  have q1 := Int.emod_nonneg number (show most ≠ 0 by omega)
  have q2 := Int.emod_lt_of_pos number hm1
  have bm : BinR .Mod (.int number) (.int most) (.fz (.int (number % most))) := .mod hm1
  show PSD _ _ [.fz (.int number), .fz (.int most), .no, .no, .no, .no, .no, .no] _
  refine psd_cons ?_
  walk_at "let"
  refine psd_cons ?_
  walk_at "let"
  refine psd_cons ?_
  walk_at "range"
  · exact fun i ρ => ∃ a b c d, ρ = [.fz (.int number), .fz (.int most), .ow ((planLoop 97 number i).1.map encStep), .ow ((planLoop 97 number i).2.map .int), a, b, c, d]
  · omega
  · exact ⟨_, _, _, _, rfl⟩
  · rintro i ρ' hi ⟨a, b, c, d, rfl⟩
    have hlen := planLoop_len 97 number i
    generalize hst : planLoop 97 number i = st at hlen
    obtain ⟨steps, tools⟩ := st
    have hlen1 : steps.length = i := hlen.1
    have hlen2 : tools.length ≤ i := hlen.2
    show PSD _ _ [_, _, _, _, .fz (.int (i : Int)), b, c, d] _
    have hmix := mixed_bd number (10 + (i : Int))
    have g0 : f_mixed [.int number, .int (10 + (i : Int))] (.fz (.int (mixed number (10 + (i : Int))))) := ⟨_, _, rfl, by omega, rfl⟩
    refine psd_cons ?_
    walk_at "let"
    refine psd_cons ?_
    walk_at "letl"
    refine psd_one ?_
    walk_at "if"
    · intro hk
      rw [Bool.and_eq_true] at hk
      have ha := of_decide_eq_true hk.1
      have hb := of_decide_eq_true hk.2
      have e : planLoop 97 number (i + 1) = _ := (planLoop_succ 97 number i).trans ((congrArg (fun st => planStep 97 number st i) hst).trans (if_pos ⟨ha, hb⟩))
      refine psd_cons ?_
      walk_at "let"
      refine psd_cons ?_
      walk_at "app"
      · refine psd_one ?_
        walk_at "app"
        · show ∃ a b c d, _ = _
          rw [e]
          simp only [List.map_append]
          exact ⟨_, _, _, _, rfl⟩
        · rw [List.length_map]; omega
      · rw [List.length_map]; omega
    · intro hk
      have hn : ¬ (mixed number (10 + (i : Int)) % 5 < 2 ∧ maxL tools (-1) + 1 < 10) := by
        rintro ⟨ha, hb⟩
        rw [decide_eq_true ha, decide_eq_true hb] at hk
        exact absurd hk (by decide)
      refine psd_one ?_
      by_cases h2 : mixed number (10 + (i : Int)) % 5 = 2 ∧ tools ≠ []
      · have hpos : 0 < tools.length := List.length_pos_iff.mpr h2.2
        obtain ⟨hn1, hn2⟩ := emod_nat (a := mixed number (10 + (i : Int)) / 5) hpos
        have hg : (tools.map D.int)[(mixed number (10 + (i : Int)) / 5 % (tools.length : Int)).toNat]? = some (.int (tools.getD (mixed number (10 + (i : Int)) / 5 % (tools.length : Int)).toNat 0)) := by
          rw [List.getElem?_map, List.getElem?_eq_getElem hn2, List.getD_eq_getElem?_getD, List.getElem?_eq_getElem hn2]
          rfl
        have e : planLoop 97 number (i + 1) = _ := (planLoop_succ 97 number i).trans ((congrArg (fun st => planStep 97 number st i) hst).trans ((if_neg hn).trans (if_pos h2)))
        have bl : BinR .Mod (.int (mixed number (10 + (i : Int)) / 5)) (.int ((tools.map D.int).length : Int)) (.fz (.int (mixed number (10 + (i : Int)) / 5 % (tools.length : Int)))) := by
          rw [List.length_map]
          exact .mod (by omega)
        walk_at "iflT"
        · rw [eqD_nil]
          simp [h2.1, h2.2]
        refine psd_one ?_
        have hnn : (mixed number (10 + (i : Int)) / 5 % (tools.length : Int)) = ((mixed number (10 + (i : Int)) / 5 % (tools.length : Int)).toNat : Int) := hn1
        walk_at "app"
        · show ∃ a b c d, _ = _
          rw [e]
          simp only [List.map_append, meI]
          exact ⟨_, _, _, _, rfl⟩
        · rw [List.length_map]; omega
      · have e : planLoop 97 number (i + 1) = _ := (planLoop_succ 97 number i).trans ((congrArg (fun st => planStep 97 number st i) hst).trans ((if_neg hn).trans (if_neg h2)))
        walk_at "iflF"
        · rw [eqD_nil]
          by_cases h3 : mixed number (10 + (i : Int)) % 5 = 2
          · have h4 : tools = [] := by
              by_cases h5 : tools = []
              · exact h5
              · exact absurd ⟨h3, h5⟩ h2
            subst h4
            simp
          · simp [h3]
        refine psd_one ?_
        walk_at "app"
        · show ∃ a b c d, _ = _
          rw [e]
          simp only [List.map_append]
          exact ⟨_, _, _, _, rfl⟩
        · rw [List.length_map]; omega
  · rintro ρ' ⟨a, b, c, d, rfl⟩
    generalize hst : planLoop 97 number (1 + number % most).toNat = st0
    have hlen := planLoop_len 97 number (1 + number % most).toNat
    rw [hst] at hlen
    have hF : encPlan (planF 97 number most) = .lst ((planDrain number st0.2.length st0).map encStep) := by unfold planF; rw [hst]; rfl
    rw [hF]
    refine psd_cons ?_
    walk_at "while"
    · exact fun m ρ => ∃ (st : PS) (a b c d : Sl), ρ = [.fz (.int number), .fz (.int most), .ow (st.1.map encStep), .ow (st.2.map .int), a, b, c, d] ∧ planDrain number st.2.length st = planDrain number st0.2.length st0 ∧ m = st.2.length ∧ st.1.length + st.2.length ≤ 400
    · exact st0.2.length
    · exact ⟨st0, _, _, _, _, rfl, rfl, rfl, by omega⟩
    · rintro m ρ' ⟨⟨steps, tools⟩, a, b, c, d, rfl, hd, rfl, hsz⟩
      have hsz' : steps.length + tools.length ≤ 400 := hsz
      show Turn _ _ _ [.fz (.int number), .fz (.int most), .ow (steps.map encStep), .ow (tools.map .int), a, b, c, d] _ _
      by_cases ht : tools = []
      · subst ht
        walk_at "out"
        · rw [eqD_nil]; rfl
        · walk_at "retF"
          show Sl.fz _ = Sl.fz _
          rw [← hd]
          rfl
      · have hpos : 0 < tools.length := List.length_pos_iff.mpr ht
        walk_at "yes"
        · rw [eqD_nil]; simp [ht]
        · obtain ⟨hn1, hn2⟩ := emod_nat (a := number / 7) hpos
          have hg : (tools.map D.int)[(number / 7 % (tools.length : Int)).toNat]? = some (.int (tools.getD (number / 7 % (tools.length : Int)).toNat 0)) := by
            rw [List.getElem?_map, List.getElem?_eq_getElem hn2, List.getD_eq_getElem?_getD, List.getElem?_eq_getElem hn2]
            rfl
          have bl : BinR .Mod (.int (number / 7)) (.int ((tools.map D.int).length : Int)) (.fz (.int (number / 7 % (tools.length : Int)))) := by
            rw [List.length_map]
            exact .mod (by omega)
          refine psd_one ?_
          walk_at "app"
          · have hdl : (tools.eraseIdx (number / 7 % (tools.length : Int)).toNat).length = tools.length - 1 := List.length_eraseIdx_of_lt hn2
            refine ⟨tools.length - 1, by show tools.length - 1 < tools.length; omega, (steps ++ [.free (tools.getD (number / 7 % (tools.length : Int)).toNat 0)], tools.eraseIdx (number / 7 % (tools.length : Int)).toNat), a, b, c, d, ?_, ?_, ?_, ?_⟩
            · simp only [List.map_append, meI]
              rfl
            · rw [← hd]
              show planDrain number (tools.eraseIdx _).length _ = planDrain number tools.length (steps, tools)
              rw [hdl]
              obtain ⟨n, hn⟩ : ∃ n, tools.length = n + 1 := ⟨tools.length - 1, by omega⟩
              rw [hn]
              show planDrain number n _ = if tools = [] then _ else _
              rw [if_neg ht, hn]
            · show _ = (tools.eraseIdx _).length
              rw [hdl]
            · show (steps ++ [_]).length + (tools.eraseIdx _).length ≤ 400
              rw [hdl, List.length_append]
              simp
              omega
          · rw [List.length_map]; omega
end
section
variable {P : Program} {w : World} {K : PySem.W.Frag} {mg : Str → Option Value} {base : Heap}
def f_ranks : FD := fun ds r => ∃ (number : Int) (many : Nat), ds = [.int number, .int (many : Int)] ∧ many ≤ 100 ∧ r = .fz (encInts (ranksF number many))
theorem ok_ranks (F : Def K mg "_law_ranks" s__law_ranks ["_law_number", "_law_many"]) (h1 : Ok P w K mg base 1 "_law_mixed" f_mixed) (m5 : mg "range" = none) : Ok P w K mg base 2 "_law_ranks" f_ranks := by
  refine ok_mk F sc__law_ranks (fun ds r h => ?_) (fun fa cd A outer s H E ds r hr h => ?_)
  · obtain ⟨a, b, rfl, _⟩ := h; rfl
  obtain ⟨number, many, rfl, hm, rfl⟩ := h
  show PSD _ _ [.fz (.int number), .fz (.int (many : Int)), .no, .no, .no, .no] _
  refine psd_cons ?_
  walk_at "let"
  refine psd_cons ?_
  walk_at "range"
  · exact fun i ρ => ∃ a b c, ρ = [.fz (.int number), .fz (.int (many : Int)), .ow ((ranksF number i).map .int), a, b, c]
  · omega
  · exact ⟨_, _, _, rfl⟩
  · rintro i ρ' hi ⟨a, b, c, rfl⟩
    show PSD _ _ [_, _, _, .fz (.int (i : Int)), b, c] _
    have g0 : f_mixed [.int number, .int (40 + (i : Int))] (.fz (.int (mixed number (40 + (i : Int))))) := ⟨_, _, rfl, by omega, rfl⟩
    refine psd_cons ?_
    walk_at "let"
    refine psd_cons ?_
    have e1 := em2 number 2 (by decide)
    have gx : ixD (.lst [.int (mixed number (40 + (i : Int)) % 9), .int (mixed number (40 + (i : Int)) % 10 ^ 6)]) (.int (number % 2)) = some (.int (rank0 number i - 1)) := by
      rcases (show number % 2 = 0 ∨ number % 2 = 1 by omega) with e | e
      · rw [e]
        show some (D.int _) = _
        unfold rank0
        rw [if_pos e]
        congr 2
        omega
      · rw [e]
        show some (D.int _) = _
        unfold rank0
        rw [if_neg (by omega)]
        congr 2
        show _ % 10 ^ 6 = _
        omega
    walk_at "let"
    refine psd_cons ?_
    have hlen := ranksF_len number i
    walk_at "while"
    · exact fun m ρ => ∃ (r c : Sl) (x : Int), ρ = [.fz (.int number), .fz (.int (many : Int)), .ow ((ranksF number i).map .int), .fz (.int (i : Int)), r, .fz (.int x)] ∧ freeFrom (ranksF number i) m x = freeFrom (ranksF number i) (ranksF number i).length (rank0 number i) ∧ (m = 0 → x ∉ ranksF number i)
    · exact (ranksF number i).length
    · refine ⟨.fz (.int (mixed number (40 + (i : Int)))), c, 1 + (rank0 number i - 1), rfl, ?_, ?_⟩
      · rw [show (1 + (rank0 number i - 1)) = rank0 number i by omega]
      · intro h0
        rw [List.eq_nil_of_length_eq_zero h0]
        exact List.not_mem_nil
    · rintro m ρ' ⟨r, c, x, rfl, hx, h0⟩
      obtain ⟨g1, g2, g3⟩ := freeFrom_not (ranksF number i) (rank0 number i) (rank0_bd number i) (by omega)
      by_cases hin : x ∈ ranksF number i
      · have gi : CmpR .In (.int x) (.lst ((ranksF number i).map .int)) true := by
          have z := CmpR.inL (d := .int x) (ds := (ranksF number i).map .int) rfl (by simp [flatD])
          rw [inD_ints, decide_eq_true hin] at z
          exact z
        walk_at "yes"
        · rfl
        · refine psd_one ?_
          walk_at "let"
          cases m with
          | zero => exact absurd hin (h0 rfl)
          | succ m =>
            have e : freeFrom (ranksF number i) (m + 1) x = freeFrom (ranksF number i) m (nxt x) := if_pos hin
            refine ⟨m, Nat.lt_succ_self m, r, c, nxt x, rfl, ?_, ?_⟩
            · rw [← hx, e]
            · rintro rfl
              rw [e] at hx
              have hx' : nxt x = _ := hx
              show nxt x ∉ _
              rw [hx']
              exact g1
      · have gi : CmpR .In (.int x) (.lst ((ranksF number i).map .int)) false := by
          have z := CmpR.inL (d := .int x) (ds := (ranksF number i).map .int) rfl (by simp [flatD])
          rw [inD_ints, decide_eq_false hin] at z
          exact z
        have e : freeFrom (ranksF number i) m x = x := by
          cases m with
          | zero => rfl
          | succ m => exact if_neg hin
        walk_at "out"
        · rfl
        · refine psd_one ?_
          walk_at "app"
          · show ∃ a b c, _ = _
            rw [e] at hx
            have e2 : ranksF number (i + 1) = ranksF number i ++ [x] := by rw [hx]; rfl
            rw [e2]
            simp only [List.map_append]
            exact ⟨_, _, _, rfl⟩
          · rw [List.length_map]; omega
  · rintro ρ' ⟨a, b, c, rfl⟩
    walk_at "retF"
    rw [Int.toNat_natCast]
    rfl
def f_ladder : FD := fun ds r => ∃ (k many number : Int), ds = [.int k, .int many, .int number] ∧ r = .fz (encPlan (ladderF k many number))
theorem ok_ladder (F : Def K mg "_law_ladder" s__law_ladder ["_law_k", "_law_many", "_law_number"]) : Ok P w K mg base 1 "_law_ladder" f_ladder := by
  refine ok_mk F sc__law_ladder (fun ds r h => ?_) (fun fa cd A outer s H E ds r hr h => ?_)
  · obtain ⟨a, b, c, rfl, _⟩ := h; rfl
  obtain ⟨k, many, number, rfl, rfl⟩ := h
  have b1 := em2 (number / 2) 2 (by decide)
  have b2 := em2 (number / 72) 2 (by decide)
  have b3 := em2 (number / 288) 2 (by decide)
  show PSD _ _ [.fz (.int k), .fz (.int many), .fz (.int number), .no] _
  refine psd_cons ?_
  walk_at "letf"
  refine psd_cons ?_
  have e0 : ∀ (xs : Plan) (D1 : List D), D1 = xs.map encStep → (.fz (.lst D1) : Sl) = .fz (encPlan xs) := fun xs D1 h => by rw [h]; rfl
  apply ps1_cut (fun ρ' => ρ' = [.fz (.int k), .fz (.int many), .fz (.int number), .fz (encPlan (if k + 1 < many then
    (if number / 36 % 2 = 1 then
      rep (number / 2 % 2) (.work (1 + number % 2)) ++ [.hold k, .work (1 + number / 4 % 3)] ++ [.hold (k + 1), .work (1 + number / 12 % 3)] ++ [.free (k + 1)] ++ rep (number / 72 % 2) (.work 2) ++ [.free k]
    else
      rep (number / 2 % 2) (.work (1 + number % 2)) ++ [.hold k, .work (1 + number / 4 % 3)] ++ [.hold (k + 1), .work (1 + number / 12 % 3)] ++ [.free k] ++ rep (number / 72 % 2) (.work 1) ++ [.free (k + 1)])
   else rep (number / 2 % 2) (.work (1 + number % 2)) ++ [.hold k, .work (1 + number / 4 % 3)] ++ [.work (1 + number / 12 % 5), .free k]))])
  · walk_at "if2"
    · intro h1
      refine psd_cons ?_
      walk_at "letf"
      refine psd_one ?_
      walk_at "if2"
      · intro h2
        refine psd_one ?_
        walk_at "letf"
        show _ = _
        rw [if_pos h1, if_pos h2]
        simp [rep, encPlan, encStep, kindOf, numOf]
      · intro h2
        refine psd_one ?_
        walk_at "letf"
        show _ = _
        rw [if_pos h1, if_neg h2]
        simp [rep, encPlan, encStep, kindOf, numOf]
    · intro h1
      refine psd_one ?_
      walk_at "letf"
      show _ = _
      rw [if_neg h1]
      simp [rep, encPlan, encStep, kindOf, numOf]
  · rintro _ rfl
    generalize hb : (if k + 1 < many then _ else _ : Plan) = body
    have hlb : body.length ≤ 100 := by
      rw [← hb]
      split
      · split <;> simp [rep] <;> omega
      · simp [rep]; omega
    have hF : ladderF k many number = body ++ rep (number / 288 % 2) (.work (1 + number / 144 % 2)) := by rw [← hb]; rfl
    rw [hF]
    walk_at "retfz"
    show Sl.fz _ = Sl.fz _
    simp [rep, encPlan, encStep, kindOf, numOf]
end
section
variable {P : Program} {w : World} {K : PySem.W.Frag} {mg : Str → Option Value} {base : Heap}
theorem cell_fact (ns : List Int) (k : Nat) (z : Int) (h : z = (k : Int)) : f_cell [.scr ns, .int z] (.fz (.int (cellN ns k))) := ⟨ns, k, by rw [h], rfl⟩
def f_workers (C : Int) : FD := fun ds r => ∃ (ns : List Int) (most late : Int), ds = [.scr ns, .int most, .int late] ∧ (0 < most ∧ most ≤ 100) ∧ 0 < late ∧ r = .fz (.lst ((workersF C most late ns).map encW))
theorem ok_workers (F : Def K mg "_law_workers" s__law_workers ["_law_script", "_law_most", "_law_late"]) (h1 : Ok P w K mg base 1 "_law_cell_at" f_cell) (h2 : Ok P w K mg base 1 "_law_mixed" f_mixed) (h3 : Ok P w K mg base 2 "_law_plan" (f_plan 97)) (h4 : Ok P w K mg base 2 "_law_ranks" f_ranks) (h5 : Ok P w K mg base 1 "_law_ladder" f_ladder) (m1 : mg "range" = none) (m2 : mg "sorted" = none) : Ok P w K mg base 3 "_law_workers" (f_workers 97) := by
  refine ok_mk F sc__law_workers (fun ds r h => ?_) (fun fa cd A outer s H E ds r hr h => ?_)
  · obtain ⟨a, b, c, rfl, _⟩ := h; rfl
  obtain ⟨ns, most, late, rfl, hm, hl, rfl⟩ := h
  show PSD _ _ [.fz (.scr ns), .fz (.int most), .fz (.int late), .no, .no, .no, .no, .no, .no, .no, .no] _
  have c0 := cell_fact ns 0 0 rfl
  have c1 := cell_fact ns 1 1 rfl
  obtain ⟨hM, hM1, hM2⟩ := manyF_eq ns
  refine psd_cons ?_
  walk_at "let"
  refine psd_cons ?_
  apply ps1_cut (fun ρ' => ρ' = [.fz (.scr ns), .fz (.int most), .fz (.int late), .fz (.int (manyF ns : Int)), .no, .no, .no, .no, .no, .no, .no])
  · walk_at "if2"
    · intro h
      refine psd_one ?_
      walk_at "let"
      show _ = _
      rw [← hM]
      unfold manyI
      rw [if_pos h]
      rfl
    · intro h
      refine psd_nil ?_
      show _ = _
      rw [← hM]
      unfold manyI
      rw [if_neg h]
      rfl
  rintro _ rfl
  refine psd_cons ?_
  walk_at "let"
  refine psd_cons ?_
  have g1 : f_mixed [.int (cellN ns 1), .int 1] (.fz (.int (mixed (cellN ns 1) 1))) := ⟨_, _, rfl, by decide, rfl⟩
  have g2 : f_ranks [.int (mixed (cellN ns 1) 1), .int (manyF ns : Int)] (.fz (encInts (ranksF (mixed (cellN ns 1) 1) (manyF ns)))) := ⟨_, _, rfl, by omega, rfl⟩
  walk_at "let"
  refine psd_cons ?_
  apply ps1_cut (fun ρ' => ρ' = [.fz (.scr ns), .fz (.int most), .fz (.int late), .fz (.int (manyF ns : Int)), .fz (.int (cellN ns 1)), .fz (encInts (degreesF ns)), .no, .no, .no, .no, .no])
  · walk_at "if2"
    · intro h
      refine psd_one ?_
      with_reducible apply ps1_let
      · walk_at "N"
      · walk_at "at"
      · with_reducible apply pd_frz
        with_reducible apply pd_revN
        with_reducible apply pd_frz
        apply pd_sortedN
        · walk_at "pd"
        · rw [ranksF_len]; omega
        · exact fun ns' h1 h2 => sortI_uniq _ ns' h1 h2
        · assumption
        all_goals rfl
      · show _ = _
        have e : degreesF ns = (sortI (ranksF (mixed (cellN ns 1) 1) (manyF ns))).reverse := if_pos h
        rw [e]
        simp [encInts]
      · decide +kernel
      · walk_at "loc"
      · first | exact Or.inl rfl | exact Or.inr rfl
      all_goals rfl
    · intro h
      refine psd_nil ?_
      show _ = _
      have e : degreesF ns = ranksF (mixed (cellN ns 1) 1) (manyF ns) := if_neg h
      rw [e]
      rfl
  rintro _ rfl
  refine psd_cons ?_
  walk_at "let"
  refine psd_cons ?_
  walk_at "range"
  · exact fun i ρ => ∃ a b c d, ρ = [.fz (.scr ns), .fz (.int most), .fz (.int late), .fz (.int (manyF ns : Int)), .fz (.int (cellN ns 1)), .fz (encInts (degreesF ns)), .ow (((List.range i).map (workerF 97 most late ns)).map encW), a, b, c, d]
  · omega
  · exact ⟨_, _, _, _, rfl⟩
  · rintro i ρ' hi ⟨a, b, c, d, rfl⟩
    have hi' : i < manyF ns := by omega
    show PSD _ _ [_, _, _, _, _, _, _, .fz (.int (i : Int)), b, c, d] _
    have k1 := cell_fact ns (2 + 2 * i) (2 + 2 * (i : Int)) (by omega)
    have k2 := cell_fact ns (3 + 2 * i) (3 + 2 * (i : Int)) (by omega)
    have g3 : f_mixed [.int (cellN ns (2 + 2 * i)), .int (60 + (i : Int))] (.fz (.int (mixed (cellN ns (2 + 2 * i)) (60 + (i : Int))))) := ⟨_, _, rfl, by omega, rfl⟩
    have g4 : f_mixed [.int (cellN ns (3 + 2 * i)), .int (80 + (i : Int))] (.fz (.int (numF ns i))) := ⟨_, _, rfl, by omega, rfl⟩
    have g5 : f_plan 97 [.int (numF ns i), .int most] (.fz (encPlan (planF 97 (numF ns i) most))) := ⟨_, _, rfl, hm, rfl⟩
    have bl : BinR .Mod (.int (mixed (cellN ns (2 + 2 * i)) (60 + (i : Int)))) (.int late) (.fz (.int (mixed (cellN ns (2 + 2 * i)) (60 + (i : Int)) % late))) := .mod hl
    refine psd_cons ?_
    walk_at "let"
    refine psd_cons ?_
    walk_at "let"
    refine psd_cons ?_
    walk_at "let"
    refine psd_cons ?_
    apply ps1_cut (fun ρ' => ∃ q, ρ' = [.fz (.scr ns), .fz (.int most), .fz (.int late), .fz (.int (manyF ns : Int)), .fz (.int (cellN ns 1)), .fz (encInts (degreesF ns)), .ow (((List.range i).map (workerF 97 most late ns)).map encW), .fz (.int (i : Int)), .fz (.int (startF late ns i)), q, .fz (encPlan (workerF 97 most late ns i).plan)])
    · walk_at "if2"
      · intro h
        refine psd_cons ?_
        have bm : CMul ((manyF ns : Int) - 1 - (i : Int)) (1 + cellN ns 1 / 3 % 3) := Or.inl ⟨by omega, by omega⟩
        have bq : BinR .Mult (.int ((manyF ns : Int) - 1 - (i : Int))) (.int (1 + cellN ns 1 / 3 % 3)) (.fz (.int (((manyF ns : Int) - 1 - (i : Int)) * (1 + cellN ns 1 / 3 % 3)))) := .mul bm
        walk_at "let"
        refine psd_one ?_
        walk_at "let"
        have e1 : startF late ns i = ((manyF ns : Int) - 1 - (i : Int)) * (1 + cellN ns 1 / 3 % 3) + mixed (cellN ns (2 + 2 * i)) (60 + (i : Int)) % late % 2 := if_pos h
        have e2 : (workerF 97 most late ns i).plan = ladderF (i : Int) (manyF ns : Int) (numF ns i) := if_pos h
        rw [e1, e2]
        exact ⟨_, rfl⟩
      · intro h
        refine psd_nil ?_
        have e1 : startF late ns i = mixed (cellN ns (2 + 2 * i)) (60 + (i : Int)) % late := if_neg h
        have e2 : (workerF 97 most late ns i).plan = planF 97 (numF ns i) most := if_neg h
        rw [e1, e2]
        exact ⟨_, rfl⟩
    rintro _ ⟨q, rfl⟩
    refine psd_one ?_
    have hd := List.getElem?_eq_getElem (l := degreesF ns) (i := i) (by rw [degreesF_len]; omega)
    walk_at "app"
    · show ∃ a b c d, _ = _
      rw [List.range_succ, List.map_append, List.map_append]
      have e3 : (workerF 97 most late ns i).rank = (degreesF ns)[i]'(by rw [degreesF_len]; omega) := by
        show (degreesF ns).getD i 0 = _
        rw [List.getD_eq_getElem?_getD, hd]
        rfl
      have e4 : encW (workerF 97 most late ns i) = .tup [.int ((degreesF ns)[i]'(by rw [degreesF_len]; omega)), .int (startF late ns i), encPlan (workerF 97 most late ns i).plan] := by
        rw [← e3]
        rfl
      simp only [List.map_cons, List.map_nil, e4]
      exact ⟨_, _, _, _, rfl⟩
    · simp; omega
  · rintro ρ' ⟨a, b, c, d, rfl⟩
    walk_at "retF"
    rw [Int.toNat_natCast]
    rfl
end
section
variable {P : Program} {w : World} {K : PySem.W.Frag} {mg : Str → Option Value} {base : Heap}
def wholeB (d : D) : Bool := isIntD d && !isBoolD d
def f_whole : FD := fun ds r => ∃ d : D, ds = [d] ∧ knownD d = true ∧ r = .fz (.bl (wholeB d))
theorem ok_whole (F : Def K mg "_law_whole" s__law_whole ["_law_found"]) (m1 : mg "isinstance" = none) (m2 : mg "int" = none) (m3 : mg "bool" = none) : Ok P w K mg base 1 "_law_whole" f_whole := by
  refine ok_mk F sc__law_whole (fun ds r h => ?_) (fun fa cd A outer s H E ds r hr h => ?_)
  · obtain ⟨d, rfl, _⟩ := h; rfl
  obtain ⟨d, rfl, hk, rfl⟩ := h
  show PSD _ _ [.fz d] _
  walk_at "ret"
  rfl
def f_badstep : FD := fun ds r => ∃ n : Int, ds = [.int n] ∧ (0 ≤ n ∧ n ≤ 1000000) ∧ r = .fz (badStepF n)
theorem ok_badstep (F : Def K mg "_law_bad_step" s__law_bad_step ["_law_number"]) : Ok P w K mg base 1 "_law_bad_step" f_badstep := by
  refine ok_mk F sc__law_bad_step (fun ds r h => ?_) (fun fa cd A outer s H E ds r hr h => ?_)
  · obtain ⟨n, rfl, _⟩ := h; rfl
  obtain ⟨n, rfl, hn, rfl⟩ := h
  show PSD _ _ [.fz (.int n), .no, .no] _
  have bm : BinR .Mult (.int (n / 12 % 2)) (.int (n / 12)) (.fz (.int (n / 12 % 2 * (n / 12)))) := .mul (Or.inl ⟨by omega, by omega⟩)
  have hix : ixD (.lst (badStepL (n / 12))) (.int (n % 13)) = some (badStepF n) := pick_at (by omega) (by show n % 13 < 13; omega)
  refine psd_cons ?_
  walk_at "let"
  refine psd_cons ?_
  walk_at "letf"
  refine psd_cons ?_
  walk_at "letf"
  refine psd_cons ?_
  walk_at "letf"
  show PSD _ _ [.fz (.int n), .fz (.int (n / 12)), .fz (.lst (badStepL (n / 12)))] _
  walk_at "ret"
  rfl
def f_badplan : FD := fun ds r => ∃ (p : List D) (n : Int), ds = [.lst p, .int n] ∧ p.length ≤ 500 ∧ (0 ≤ n ∧ n ≤ 1000000) ∧ r = .fz (badPlanF p n)
theorem ok_badplan (F : Def K mg "_law_bad_plan" s__law_bad_plan ["_law_plan_here", "_law_number"]) (h1 : Ok P w K mg base 1 "_law_bad_step" f_badstep) (ml : mg "len" = none) (mt : mg "tuple" = none) : Ok P w K mg base 2 "_law_bad_plan" f_badplan := by
  refine ok_mk F sc__law_bad_plan (fun ds r h => ?_) (fun fa cd A outer s H E ds r hr h => ?_)
  · obtain ⟨p, n, rfl, _⟩ := h; rfl
  obtain ⟨p, n, rfl, hl, hn, rfl⟩ := h
  show PSD _ _ [.fz (.lst p), .fz (.int n), .no, .no, .no] _
  obtain ⟨ea, la⟩ := atP_eq p (n / 7)
  have bm : BinR .Mod (.int (n / 7)) (.int ((p.length : Int) + 1)) (.fz (.int (n / 7 % ((p.length : Int) + 1)))) := .mod (by omega)
  refine psd_cons ?_
  walk_at "let"
  refine psd_cons ?_
  walk_at "let"
  refine psd_cons ?_
  walk_at "let"
  rw [ea]
  show PSD _ _ [.fz (.lst p), .fz (.int n), .fz (.int (n % 7)), .fz (.int (n / 7)), .fz (.int (atP p (n / 7) : Int))] _
  have hix0 : ixD (.lst (badPlanL p)) (.int (n / 7 % 5)) = some (pick (badPlanL p) (n / 7 % 5)) := pick_at (by omega) (by show n / 7 % 5 < 5; omega)
  have g1 : f_badstep [.int (n / 7 / 40)] (.fz (badStepF (n / 7 / 40))) := ⟨_, rfl, by omega, rfl⟩
  have hixT : ixD (.lst [.int 5, .int 4, .int 0]) (.int (n / 7 % 3)) = some (.int (lowT (n / 7))) := by
    have h0 : 0 ≤ n / 7 % 3 := by omega
    have h1 : n / 7 % 3 < 3 := by omega
    unfold lowT
    generalize n / 7 % 3 = t at h0 h1
    obtain rfl | rfl | rfl : t = 0 ∨ t = 1 ∨ t = 2 := by omega
    · rfl
    · rfl
    · rfl
  generalize hm : n / 7 = m at *
  have eF : badPlanF p n = if n % 7 = 0 then pick (badPlanL p) (m % 5)
      else if n % 7 = 1 then .lst (p.take (atP p m) ++ [badStepF (m / 40)] ++ p.drop (atP p m))
      else if n % 7 = 2 then .lst (p ++ [stp "hold" (m / 40 % 10)])
      else if n % 7 = 3 then .lst (p.take (atP p m) ++ [stp "free" (m / 40 % 10)] ++ p.drop (atP p m))
      else if n % 7 = 4 then .lst (p.take (atP p m) ++ p.drop (atP p m + 1) ++ [stp "work" 1])
      else if n % 7 = 5 then .lst (p.take (atP p m) ++ [stp "hold" (m / 40 % 10)] ++ p.drop (atP p m) ++ [stp "free" (m / 40 % 10)])
      else .lst [stp "hold" 5, stp "hold" (lowT m), stp "free" 5, stp "free" (lowT m)] := by rw [← hm]; rfl
  rw [eF]
  refine psd_cons ?_
  walk_at "if2"
  · intro h
    rw [if_pos h]
    refine psd_one ?_
    with_reducible apply ps1_ret
    · with_reducible apply pd_ixG
      · with_reducible apply pd_frz
        with_reducible apply pd_lst
        · with_reducible apply pad_cons
          · walk_at "pdz"
          · with_reducible apply pad_cons
            · with_reducible apply pd_tupleL
              · walk_at "pd"
              · exact mt
              · rfl
              · rfl
            · walk_at "pa"
            · rfl
          · rfl
        · exact Nat.le_of_ble_eq_true rfl
      · walk_at "pd"
      · exact hix0
      · intro _ _; rfl
    · trivial
    · rfl
  intro h0
  rw [if_neg h0]
  refine psd_nil ?_
  refine psd_cons ?_
  walk_at "if2"
  · intro h
    rw [if_pos h]
    walk_at "retfz"
    rfl
  intro h1
  rw [if_neg h1]
  refine psd_nil ?_
  refine psd_cons ?_
  walk_at "if2"
  · intro h
    rw [if_pos h]
    walk_at "retfz"
    rfl
  intro h2
  rw [if_neg h2]
  refine psd_nil ?_
  refine psd_cons ?_
  walk_at "if2"
  · intro h
    rw [if_pos h]
    walk_at "retfz"
    rfl
  intro h3
  rw [if_neg h3]
  refine psd_nil ?_
  refine psd_cons ?_
  walk_at "if2"
  · intro h
    rw [if_pos h]
    walk_at "retfz"
    rfl
  intro h4
  rw [if_neg h4]
  refine psd_nil ?_
  refine psd_cons ?_
  walk_at "if2"
  · intro h
    rw [if_pos h]
    walk_at "retfz"
    rfl
  intro h5
  rw [if_neg h5]
  refine psd_nil ?_
  walk_at "retfz"
  rfl
end
section
variable {P : Program} {w : World} {K : PySem.W.Frag} {mg : Str → Option Value} {base : Heap}
def f_spoiltW : FD := fun ds r => ∃ (xs : List D) (n : Int) (c : Nat), ds = [.lst xs, .int n] ∧ c ≤ 500 ∧ (∀ d ∈ xs, Trip c d) ∧ (1 ≤ xs.length ∧ xs.length ≤ 9) ∧ (0 ≤ n ∧ n ≤ 1000000) ∧ r = .fz (.lst (spoiltF xs n))
theorem ok_spoiltW (F : Def K mg "_law_spoilt_worker" s__law_spoilt_worker ["_law_workers_here", "_law_number"]) (h1 : Ok P w K mg base 2 "_law_bad_plan" f_badplan) (ml : mg "len" = none) (mli : mg "list" = none) : Ok P w K mg base 3 "_law_spoilt_worker" f_spoiltW := by
  refine ok_mk F sc__law_spoilt_worker (fun ds r h => ?_) (fun fa cd A outer s H E ds r hr h => ?_)
  · obtain ⟨xs, n, c, rfl, _⟩ := h; rfl
  obtain ⟨xs, n, c, rfl, hc, hx, hl, hn, rfl⟩ := h
  obtain ⟨a, b, p, e2, ek, hk, ha, hb, hp, eS⟩ := spoiltF_at hx hl.1 n
  rw [eS]
  have hpl : p.length ≤ 500 := Nat.le_trans hp.2 hc
  show PSD _ _ [.fz (.lst xs), .fz (.int n), .no, .no, .no, .no, .no] _
  have bm : BinR .Mod (.int n) (.int (xs.length : Int)) (.fz (.int (n % (xs.length : Int)))) := .mod (by omega)
  have hixk : ixD (.lst xs) (.int (n % (xs.length : Int))) = some (.tup [a, b, .lst p]) := by
    rw [ek]
    exact atI_nat e2
  have hmb : 0 ≤ n / 54 ∧ n / 54 ≤ 1000000 := by omega
  have eW : workerB xs a b p n = if n / 9 % 6 = 0 then pick (triL a b p) (n / 54 % 5) else if n / 9 % 6 = 1 then .tup [pick (rankB xs (n / 54)) (n / 54 / 9 % 6), b, .lst p] else if n / 9 % 6 = 2 then .tup [a, pick (startL (n / 54)) (n / 54 % 5), .lst p] else .tup [a, b, badPlanF p (n / 54)] := rfl
  have hcut : (xs.take (kB1 xs n)).length + 1 + (xs.drop (kB1 xs n + 1)).length ≤ 100000 := by
    rw [List.length_take, List.length_drop]
    omega
  refine psd_cons ?_
  walk_at "let"
  refine psd_cons ?_
  walk_at "let"
  refine psd_cons ?_
  walk_at "let"
  refine psd_cons ?_
  walk_at "let"
  rw [ek]
  generalize hk1 : kB1 xs n = k at *
  generalize hm : n / 54 = m at *
  have hix0 : ixD (.lst (triL a b p)) (.int (m % 5)) = some (pick (triL a b p) (m % 5)) := pick_at (by omega) (by show m % 5 < 5; omega)
  have hix1 : ixD (.lst (rankB xs m)) (.int (m / 9 % 6)) = some (pick (rankB xs m) (m / 9 % 6)) := pick_at (by omega) (by show m / 9 % 6 < 6; omega)
  have hix2 : ixD (.lst (startL m)) (.int (m % 5)) = some (pick (startL m) (m % 5)) := pick_at (by omega) (by show m % 5 < 5; omega)
  have bm1 : BinR .Mod (.int m) (.int (xs.length : Int)) (.fz (.int (m % (xs.length : Int)))) := .mod (by omega)
  have bm2 : BinR .Mult (.int (m / 54 % 2)) (.int m) (.fz (.int (m / 54 % 2 * m))) := .mul (Or.inl ⟨by omega, by omega⟩)
  have bm3 : BinR .Mult (.int (m / 5 % 2)) (.int m) (.fz (.int (m / 5 % 2 * m))) := .mul (Or.inl ⟨by omega, by omega⟩)
  have hmx : pick xs (m % (xs.length : Int)) ∈ xs := pick_mem (Int.emod_nonneg _ (by omega)) (Int.emod_lt_of_pos _ (by omega))
  have hixm : ixD (.lst xs) (.int (m % (xs.length : Int))) = some (pick xs (m % (xs.length : Int))) := pick_at (Int.emod_nonneg _ (by omega)) (Int.emod_lt_of_pos _ (by omega))
  obtain ⟨a', b', p', em, _⟩ := (hx _ hmx).ex
  have eR : rankB xs m = [.int 0, .int (-5), .int (1000001 + m / 54 % 2 * m), .bl true, .non, a'] := by
    unfold rankB
    rw [em]
  rw [em] at hixm
  rw [eR] at hix1
  have g1 : f_badplan [.lst p, .int m] (.fz (badPlanF p m)) := ⟨p, m, rfl, hpl, hmb, rfl⟩
  have fin : ∀ (w' : D) (x : Sl), workerB xs a b p n = w' → PSD (CxN P w K mg base n__law_spoilt_worker "_law_spoilt_worker" s__law_spoilt_worker fa cd A outer s H E) ((defBody s__law_spoilt_worker).drop 8) [.fz (.lst xs), .fz (.int n), .fz (.int (k : Int)), .fz w', .fz (.int (n / 9 % 6)), .fz (.int m), x] { nx := fun _ => Sl.fz (.lst (xs.take k ++ [workerB xs a b p n] ++ xs.drop (k + 1))) = .fz .non, rt := fun r' => r' = Sl.fz (.lst (xs.take k ++ [workerB xs a b p n] ++ xs.drop (k + 1))) } := by
    intro w' x ew
    refine psd_one ?_
    with_reducible apply ps1_ret
    · with_reducible apply pd_frz
      with_reducible apply pd_bin
      · with_reducible apply pd_frz
        with_reducible apply pd_bin
        · walk_at "pdz"
        · walk_at "pdz"
        · exact BinR.cat (by rw [List.length_take]; show min k xs.length + 1 ≤ 100000; omega)
      · with_reducible apply pd_frz
        with_reducible apply pd_slFrom (n := k + 1)
        · walk_at "pd"
        · walk_at "pd"
        · omega
      · exact BinR.cat (by rw [List.length_append]; exact hcut)
    · trivial
    · rw [ew]
  by_cases h0 : n / 9 % 6 = 0
  · have ew : workerB xs a b p n = pick (triL a b p) (m % 5) := by
      rw [eW, if_pos h0]
    refine psd_cons ?_
    walk_at "ifT"
    · exact decide_eq_true (by omega)
    refine psd_one ?_
    with_reducible apply ps1_let
    · walk_at "N"
    · walk_at "at"
    · with_reducible apply pd_ixG
      · with_reducible apply pd_frz
        with_reducible apply pd_lst
        · with_reducible apply pad_cons
          · with_reducible apply pd_frz
            with_reducible apply pd_listT
            · walk_at "pd"
            · exact mli
            all_goals rfl
          · with_reducible apply pad_cons
            · apply pd_cutT (m := 2)
              · walk_at "pd"
              · walk_at "pd"
              · rfl
              · show 2 < 3; decide
            · with_reducible apply pad_cons
              · apply pd_catT
                · walk_at "pd"
                · walk_at "pd"
                · intro z; cases z
                · intro z; cases z
                · show 3 + 1 ≤ 100000; decide
              · walk_at "pa"
              · rfl
            · rfl
          · rfl
        · exact Nat.le_of_ble_eq_true rfl
      · walk_at "pd"
      · exact hix0
      · intro _ _; rfl
    · refine psd_cons ?_
      walk_at "ifF"
      · exact decide_eq_false (by omega)
      refine psd_nil ?_
      refine psd_cons ?_
      walk_at "ifF"
      · exact decide_eq_false (by omega)
      refine psd_nil ?_
      refine psd_cons ?_
      walk_at "ifF"
      · exact decide_eq_false (by omega)
      refine psd_nil ?_
      exact fin _ _ ew
    · decide +kernel
    · walk_at "loc"
    · first | exact Or.inl rfl | exact Or.inr rfl
    all_goals rfl
  by_cases h1 : n / 9 % 6 = 1
  · have ew : workerB xs a b p n = .tup [pick [.int 0, .int (-5), .int (1000001 + m / 54 % 2 * m), .bl true, .non, a'] (m / 9 % 6), b, .lst p] := by
      rw [eW, if_neg h0, if_pos h1, eR]
    refine psd_cons ?_
    walk_at "ifF"
    · exact decide_eq_false (by omega)
    refine psd_nil ?_
    refine psd_cons ?_
    walk_at "ifT"
    · exact decide_eq_true (by omega)
    refine psd_cons ?_
    walk_at "letf"
    show PSD _ _ [.fz (.lst xs), .fz (.int n), .fz (.int (k : Int)), .fz (.tup [a, b, .lst p]), .fz (.int (n / 9 % 6)), .fz (.int m), .fz (.lst [.int 0, .int (-5), .int (1000001 + m / 54 % 2 * m), .bl true, .non, a'])] _
    refine psd_one ?_
    walk_at "let"
    refine psd_cons ?_
    walk_at "ifF"
    · exact decide_eq_false (by omega)
    refine psd_nil ?_
    refine psd_cons ?_
    walk_at "ifF"
    · exact decide_eq_false (by omega)
    refine psd_nil ?_
    exact fin _ _ ew
  by_cases h2 : n / 9 % 6 = 2
  · have ew : workerB xs a b p n = .tup [a, pick (startL m) (m % 5), .lst p] := by
      rw [eW, if_neg h0, if_neg h1, if_pos h2]
    refine psd_cons ?_
    walk_at "ifF"
    · exact decide_eq_false (by omega)
    refine psd_nil ?_
    refine psd_cons ?_
    walk_at "ifF"
    · exact decide_eq_false (by omega)
    refine psd_nil ?_
    refine psd_cons ?_
    walk_at "ifT"
    · exact decide_eq_true (by omega)
    refine psd_one ?_
    walk_at "let"
    refine psd_cons ?_
    walk_at "ifF"
    · exact decide_eq_false (by omega)
    refine psd_nil ?_
    exact fin _ _ ew
  have ew : workerB xs a b p n = .tup [a, b, badPlanF p m] := by
    rw [eW, if_neg h0, if_neg h1, if_neg h2]
  refine psd_cons ?_
  walk_at "ifF"
  · exact decide_eq_false (by omega)
  refine psd_nil ?_
  refine psd_cons ?_
  walk_at "ifF"
  · exact decide_eq_false (by omega)
  refine psd_nil ?_
  refine psd_cons ?_
  walk_at "ifF"
  · exact decide_eq_false (by omega)
  refine psd_nil ?_
  refine psd_cons ?_
  walk_at "ifT"
  · exact decide_eq_true (by omega)
  refine psd_one ?_
  walk_at "let"
  exact fin _ _ ew
end
section
variable {P : Program} {w : World} {K : PySem.W.Frag} {mg : Str → Option Value} {base : Heap}
def wsD (ns : List Int) : List D := (workersF 97 20 1001 ns).map encW
theorem wsD_trip (ns : List Int) : (∀ d ∈ wsD ns, Trip 40 d) ∧ (1 ≤ (wsD ns).length ∧ (wsD ns).length ≤ 8) := by
  have ho := workersF_ok (C := 97) (most := 20) (late := 1001) (ns := ns) (by decide) (by decide) (by decide)
  unfold wsD
  refine ⟨fun d hd => ?_, by rw [List.length_map]; exact ⟨ho.many1, ho.many⟩⟩
  obtain ⟨wk, hw, rfl⟩ := List.mem_map.mp hd
  obtain ⟨k, hk⟩ := List.getElem?_of_mem hw
  exact encW_trip wk (ho.plans k wk hk).len
theorem all_bl {xs : List D} (f : D → Bool) : ((xs.filter fun _ => true).map fun d => D.bl (f d)) = (xs.map f).map .bl := by
  rw [List.filter_eq_self.mpr (fun _ _ => rfl), List.map_map]
  rfl
theorem loose_pure {c : Nat} {d : D} (h : Loose c d) : pureD d = true := h.1.1
theorem trip3_inv {d : D} (h : trip3B d = true) : ∃ a b e, d = .tup [a, b, e] := by
  unfold trip3B at h
  split at h
  · exact ⟨_, _, _, rfl⟩
  · cases h
theorem last_all {c : Nat} {xs : List D} (h : ∀ d ∈ xs, Loose c d) (k : xs.all trip3B = true) : xs.all lastL = xs.all fun d => match d with | .tup [_, _, e] => isListD e | _ => false := by
  rw [List.all_eq_true] at k
  have e : ∀ d ∈ xs, lastL d = (match d with | .tup [_, _, e] => isListD e | _ => false) := fun d hd => by
    obtain ⟨a, b, e, rfl⟩ := trip3_inv (k d hd)
    have hp := pure_tup (loose_pure (h _ hd)) e (by simp)
    cases e <;> first | rfl | (unfold pureD at hp; cases hp)
  induction xs with
  | nil => rfl
  | cons d xs ih =>
    rw [List.all_cons, List.all_cons, e d List.mem_cons_self, ih (fun d hd => h d (List.mem_cons_of_mem _ hd)) (fun d hd => k d (List.mem_cons_of_mem _ hd)) (fun d hd => e d (List.mem_cons_of_mem _ hd))]
theorem last_trip {xs : List D} (h : xs.all lastL = true) : xs.all trip3B = true := List.all_eq_true.mpr fun d hd => by
  have z := List.all_eq_true.mp h d hd
  unfold lastL at z
  split at z
  · rfl
  · cases z
def f_built : FD := fun ds r => ∃ ns : List Int, ds = [.scr ns] ∧ r = .fz (.lst (builtF ns (wsD ns)))
theorem ok_built (F : Def K mg "_law_built" s__law_built ["_law_script"]) (h0 : Ok P w K mg base 1 "_law_cell_at" f_cell) (h1 : Ok P w K mg base 1 "_law_mixed" f_mixed) (h2 : Ok P w K mg base 3 "_law_workers" (f_workers 97)) (h3 : Ok P w K mg base 3 "_law_spoilt_worker" f_spoiltW) (m1 : mg "all" = none) (m2 : mg "isinstance" = none) (m3 : mg "tuple" = none) (m4 : mg "list" = none) (m5 : mg "len" = none) : Ok P w K mg base 4 "_law_built" f_built := by
  refine ok_mk F sc__law_built (fun ds r h => ?_) (fun fa cd A outer s H E ds r hr h => ?_)
  · obtain ⟨ns, rfl, _⟩ := h; rfl
  obtain ⟨ns, rfl, rfl⟩ := h
  show PSD _ _ [.fz (.scr ns), .no, .no, .no] _
  have c18 := cell_fact ns 18 18 rfl
  have c19 := cell_fact ns 19 19 rfl
  have c20 := cell_fact ns 20 20 rfl
  obtain ⟨hT, hL⟩ := wsD_trip ns
  have g1 : f_workers 97 [.scr ns, .int 20, .int 1001] (.fz (.lst (wsD ns))) := ⟨_, _, _, rfl, by decide, by decide, rfl⟩
  have b19 := mixed_bd (cellN ns 19) 5
  have b20 := mixed_bd (cellN ns 20) 6
  have g2 : f_mixed [.int (cellN ns 19), .int 5] (.fz (.int (mixed (cellN ns 19) 5))) := ⟨_, _, rfl, by decide, rfl⟩
  have g3 : f_mixed [.int (cellN ns 20), .int 6] (.fz (.int (mixed (cellN ns 20) 6))) := ⟨_, _, rfl, by decide, rfl⟩
  have g4 : f_spoiltW [.lst (wsD ns), .int (mixed (cellN ns 19) 5)] (.fz (.lst (spoiltF (wsD ns) (mixed (cellN ns 19) 5)))) := ⟨_, _, 40, rfl, by decide, hT, by omega, by omega, rfl⟩
  obtain ⟨l1, o1⟩ := built1_ok (ns := ns) hT hL
  unfold builtF
  refine psd_cons ?_
  walk_at "let"
  refine psd_cons ?_
  walk_at "let"
  refine psd_cons ?_
  apply ps1_cut (fun ρ' => ρ' = [.fz (.scr ns), .fz (.lst (built1 ns (wsD ns))), .fz (.int (cellN ns 18)), .no])
  · walk_at "if2"
    · intro h
      refine psd_one ?_
      walk_at "let"
      show _ = _
      unfold built1
      rw [if_pos h]
      rfl
    · intro h
      refine psd_nil ?_
      show _ = _
      unfold built1
      rw [if_neg h]
      rfl
  rintro _ rfl
  generalize built1 ns (wsD ns) = xs at *
  obtain ⟨l2, o2⟩ := built2_ok (ns := ns) o1 (by omega)
  refine psd_cons ?_
  apply ps1_cut (fun ρ' => ∃ x, ρ' = [.fz (.scr ns), .fz (.lst (built2 ns xs)), .fz (.int (cellN ns 18)), x])
  · by_cases h3m : cellN ns 18 % 4 = 3
    · have hpo : ∀ d ∈ xs, pureD d = true := fun d hd => loose_pure (o1 d hd)
      with_reducible apply ps1_if (k := xs.all trip3B)
      · with_reducible apply ptd_eq
        · with_reducible apply ptd_of
          apply pwd_and (k := true) (l := xs.all trip3B)
          · with_reducible apply ptd_eq
            · walk_at "pt"
            · exact decide_eq_true h3m
          · intro _
            with_reducible apply pwd_and1
            with_reducible apply ptd_eq
            · with_reducible apply ptd_val
              · apply pd_all (bs := xs.map trip3B)
                · rfl
                · apply pd_frz
                  apply pd_eq
                  · apply pd_compL (xs := xs) (fun d => d) (fun _ => true) (fun d => .bl (trip3B d))
                    walk_at "at"
                    · rw [List.map_id']
                      walk_at "pd"
                    · decide +kernel
                    · intros; first | exact Or.inl rfl | exact Or.inr rfl
                    · intros; first | exact Or.inl rfl | exact Or.inr rfl
                    · intro _; rfl
                    · decide +kernel
                    · omega
                    · intros
                      exact tsd_nil
                    · intro s' H' C cl fp i d hi hb
                      have hd := hpo d (List.mem_of_getElem? hi)
                      have hk := pure_known hd
                      cases ht : isTupD d with
                      | false =>
                        have e : trip3B d = false := by cases d <;> first | rfl | cases ht
                        rw [e]
                        with_reducible apply pd_andF
                        with_reducible apply pd_eq
                        · walk_at "pd"
                        · rw [ht]
                      | true =>
                        cases d with
                        | tup ds =>
                          have e : trip3B (.tup ds) = (true && decide ((ds.length : Int) = 3)) := by
                            rw [Bool.true_and]
                            match ds with
                            | [] => rfl
                            | [_] => rfl
                            | [_, _] => rfl
                            | [_, _, _] => rfl
                            | a :: b :: c :: d :: es =>
                              show false = _
                              symm
                              apply decide_eq_false
                              simp only [List.length_cons]
                              omega
                          rw [e]
                          apply pd_and (k := true)
                          · with_reducible apply pd_eq
                            · walk_at "pd"
                            · rfl
                          · intro _
                            with_reducible apply pd_one
                            walk_at "pd"
                        | _ => cases ht
                  · rw [all_bl]
                · exact m1
                all_goals rfl
              · intro _; rfl
            · rw [List.all_map]
              rfl
        · exact Bool.true_and _
      · intro h
        refine psd_one ?_
        with_reducible apply ps1_if (k := xs.all lastL)
        · with_reducible apply ptd_eq
          · with_reducible apply ptd_val
            · apply pd_all (bs := xs.map lastL)
              · rfl
              · apply pd_frz
                apply pd_eq
                · apply pd_compL (xs := xs) (fun d => d) (fun _ => true) (fun d => .bl (lastL d))
                  walk_at "at"
                  · rw [List.map_id']
                    walk_at "pd"
                  · decide +kernel
                  · intros; first | exact Or.inl rfl | exact Or.inr rfl
                  · intros; first | exact Or.inl rfl | exact Or.inr rfl
                  · intro _; rfl
                  · decide +kernel
                  · omega
                  · intros
                    exact tsd_nil
                  · intro s' H' C cl fp i d hi hb
                    have hm := List.mem_of_getElem? hi
                    obtain ⟨a, b, e, rfl⟩ := trip3_inv (List.all_eq_true.mp h d hm)
                    have hpe := pure_tup (hpo _ hm) e (by simp)
                    have hke := pure_known hpe
                    with_reducible apply pd_eq
                    · walk_at "pd"
                    · show Sl.fz (.bl (isListD e)) = Sl.fz (.bl (lastL (.tup [a, b, e])))
                      cases e <;> first | rfl | (unfold pureD at hpe; cases hpe)
                · rw [all_bl]
              · exact m1
              all_goals rfl
            · intro _; rfl
          · rw [List.all_map]
            rfl
        · intro hL3
          have g5 : f_spoiltW [.lst xs, .int (mixed (cellN ns 20) 6)] (.fz (.lst (spoiltF xs (mixed (cellN ns 20) 6)))) := ⟨_, _, 81, rfl, by decide, fun d hd => (o1 d hd).trip (List.all_eq_true.mp hL3 d hd), by omega, by omega, rfl⟩
          have e : built2 ns xs = spoiltF xs (mixed (cellN ns 20) 6) := by
            unfold built2
            rw [if_pos ⟨h3m, hL3⟩]
          rw [e]
          refine psd_one ?_
          walk_at "let"
          exact ⟨_, rfl⟩
        · intro hL3
          have e : built2 ns xs = xs := by
            unfold built2
            rw [if_neg]
            rintro ⟨_, z⟩
            rw [z] at hL3
            cases hL3
          rw [e]
          exact psd_nil ⟨_, rfl⟩
      · intro h
        refine psd_nil ⟨.no, ?_⟩
        have e : built2 ns xs = xs := by
          unfold built2
          rw [if_neg]
          rintro ⟨_, z⟩
          rw [last_trip z] at h
          cases h
        rw [e]
    · have e : built2 ns xs = xs := by
        unfold built2
        rw [if_neg]
        rintro ⟨z, _⟩
        exact h3m z
      rw [e]
      walk_at "ifAndE"
      · exact decide_eq_false h3m
      exact psd_nil ⟨_, rfl⟩
  rintro _ ⟨x, rfl⟩
  generalize built2 ns xs = ys at *
  refine psd_cons ?_
  apply ps1_cut (fun ρ' => ρ' = [.fz (.scr ns), .fz (.lst (built3 ns ys)), .fz (.int (cellN ns 18)), x])
  · walk_at "if2"
    · intro h
      refine psd_one ?_
      with_reducible apply ps1_let
      · walk_at "N"
      · walk_at "at"
      · with_reducible apply pd_frz
        with_reducible apply pd_slTo
        · with_reducible apply pd_frz
          with_reducible apply pd_bin
          · walk_at "pd"
          · walk_at "pd"
          · exact BinR.rep (by show ys.length * 9 ≤ 100000; omega) (by decide) (by decide)
        · walk_at "pd"
        · rfl
      · show _ = _
        unfold built3
        rw [if_pos h]
        rfl
      · decide +kernel
      · walk_at "loc"
      · first | exact Or.inl rfl | exact Or.inr rfl
      all_goals rfl
    · intro h
      refine psd_nil ?_
      show _ = _
      unfold built3
      rw [if_neg h]
  rintro _ rfl
  generalize built3 ns ys = zs at *
  refine psd_cons ?_
  apply ps1_cut (fun ρ' => ρ' = [.fz (.scr ns), .fz (.lst (built4 ns zs)), .fz (.int (cellN ns 18)), x])
  · walk_at "if2"
    · intro h
      refine psd_one ?_
      walk_at "letf"
      show _ = _
      unfold built4
      rw [if_pos h]
      rfl
    · intro h
      refine psd_nil ?_
      show _ = _
      unfold built4
      rw [if_neg h]
  rintro _ rfl
  walk_at "ret"
  rfl
end
section
variable {P : Program} {w : World} {K : PySem.W.Frag} {mg : Str → Option Value} {base : Heap}
theorem whole_inv {d : D} (h : wholeB d = true) : ∃ n, d = .int n := by
  cases d with
  | int n => exact ⟨n, rfl⟩
  | _ => cases h
theorem step_not {e : D} (h : ∀ k n, e ≠ .tup [.str k, .int n]) : isStepB e = false := by
  cases q : isStepB e with
  | false => rfl
  | true =>
    obtain ⟨e1, _⟩ := isStepB_of q
    refine absurd e1 (h _ _)
def f_plangood : FD := fun ds r => ∃ d : D, ds = [d] ∧ pureD d = true ∧ r = .fz (.bl (planB d))
theorem ok_plangood (F : Def K mg "_law_plan_good" s__law_plan_good ["_law_plan_here"]) (h1 : Ok P w K mg base 1 "_law_whole" f_whole) (m1 : mg "isinstance" = none) (m2 : mg "list" = none) (m3 : mg "tuple" = none) (m4 : mg "str" = none) (m5 : mg "len" = none) (m6 : mg "range" = none) : Ok P w K mg base 2 "_law_plan_good" f_plangood := by
  refine ok_mk F sc__law_plan_good (fun ds r h => ?_) (fun fa cd A outer s H E ds r hr h => ?_)
  · obtain ⟨d, rfl, _⟩ := h; rfl
  obtain ⟨d, rfl, hd, rfl⟩ := h
  have hk := pure_known hd
  show PSD _ _ [.fz d, .no, .no, .no] _
  refine psd_cons ?_
  have no1 : isListD d = false → planB d = false := fun h => by cases d <;> first | rfl | cases h
  cases ht : isListD d with
  | false =>
    with_reducible apply ps1_ifT
    · with_reducible apply ptd_of
      with_reducible apply pwd_orT
      with_reducible apply ptd_eq
      · walk_at "pt"
      · rw [ht]; rfl
    rw [no1 ht]
    walk_at "ret"
    rfl
  | true =>
    cases d with
    | scr ns => cases hk
    | lst ds =>
      have hp := pure_lst hd
      have eP : planB (.lst ds) = (decide (1 ≤ ds.length) && decide (ds.length ≤ 40) && planGo [] ds) := rfl
      with_reducible apply ps1_if (k := !decide ((1 : Int) ≤ (ds.length : Int) ∧ (ds.length : Int) < 41))
      · with_reducible apply ptd_eq
        · with_reducible apply ptd_of
          apply pwd_or (k := false)
          · with_reducible apply ptd_eq
            · walk_at "pt"
            · rfl
          · intro _
            with_reducible apply pwd_or1
            with_reducible apply ptd_notInRng2
            · walk_at "pd"
            · walk_at "pd"
            · walk_at "pd"
            · rfl
            · exact m6
            · rfl
            · rfl
            · rfl
            · rfl
        · exact Bool.false_or _
      · intro hc
        have hb : ¬ (1 ≤ ds.length ∧ ds.length ≤ 40) := by
          intro z
          rw [decide_eq_true (by omega)] at hc
          cases hc
        have e : planB (.lst ds) = false := by
          rw [eP]
          by_cases hx : 1 ≤ ds.length
          · have hy : ¬ ds.length ≤ 40 := fun z => hb ⟨hx, z⟩
            rw [decide_eq_false hy, Bool.and_false, Bool.false_and]
          · rw [decide_eq_false hx, Bool.false_and, Bool.false_and]
        rw [e]
        walk_at "ret"
        rfl
      · intro hc
        have hb : 1 ≤ ds.length ∧ ds.length ≤ 40 := by
          by_cases hz : (1 : Int) ≤ (ds.length : Int) ∧ (ds.length : Int) < 41
          · omega
          · rw [decide_eq_false hz] at hc
            cases hc
        rw [eP, decide_eq_true hb.1, decide_eq_true hb.2]
        refine psd_nil ?_
        refine psd_cons ?_
        walk_at "let"
        refine psd_cons ?_
        walk_at "for"
        · exact fun i ρ => ∃ (ts : List Int) (x : Sl), ρ = [.fz (.lst ds), .ow (ts.map .int), x, .no] ∧ RT ts ∧ planGo ts (ds.drop i) = planGo [] ds
        · exact ⟨[], _, rfl, RT.nil, rfl⟩
        · rintro i e ρ' hd' ⟨ts, x, rfl, hrt, hg⟩
          have hi : i < ds.length := (List.getElem?_eq_some_iff.mp hd').1
          have pe := hp e (List.mem_of_getElem? hd')
          have ke := pure_known pe
          have hlen := hrt.len
          have eD : ds.drop i = e :: ds.drop (i + 1) := by
            rw [List.drop_eq_getElem_cons hi, (List.getElem?_eq_some_iff.mp hd').2]
          have hg' : (isStepB e && fitsB ts (stepOf e) && planGo (toolsBehind ts (stepOf e)) (ds.drop (i + 1))) = planGo [] ds := by rw [← hg, eD]; rfl
          show PSD _ _ [.fz (.lst ds), .ow (ts.map .int), .fz e, .no] _
          -- a step that is none
          have bad : isStepB e = false → planGo [] ds = false := fun z => by rw [← hg', z]; rfl
          refine psd_cons ?_
          cases hte : isTupD e with
          | false =>
            have eb : isStepB e = false := by cases e <;> first | rfl | cases hte
            with_reducible apply ps1_ifT
            · with_reducible apply ptd_of
              with_reducible apply pwd_orT
              with_reducible apply ptd_eq
              · walk_at "pt"
              · rw [hte]; rfl
            rw [bad eb]
            walk_at "ret"
            rfl
          | true =>
            cases e with
            | tup es =>
              have hpe := pure_tup pe
              by_cases hl2 : es.length = 2
              · match es, hl2 with
                | [x0, y], _ =>
                  have px := hpe x0 (by simp)
                  have py := hpe y (by simp)
                  have kx := pure_known px
                  have ky := pure_known py
                  cases hsx : isStrD x0 with
                  | false =>
                    have eb : isStepB (.tup [x0, y]) = false := by cases x0 <;> first | rfl | cases hsx
                    with_reducible apply ps1_ifT
                    · with_reducible apply ptd_of
                      apply pwd_or (k := false) (l := true)
                      · with_reducible apply ptd_eq
                        · walk_at "pt"
                        · rfl
                      · intro _
                        apply pwd_or (k := false) (l := true)
                        · with_reducible apply ptd_eq
                          · walk_at "pt"
                          · rfl
                        · intro _
                          with_reducible apply pwd_orT
                          with_reducible apply ptd_eq
                          · walk_at "pt"
                          · rw [hsx]; rfl
                    rw [bad eb]
                    walk_at "ret"
                    rfl
                  | true =>
                    cases x0 with
                    | str k =>
                      have g1 : f_whole [y] (.fz (.bl (wholeB y))) := ⟨_, rfl, ky, rfl⟩
                      with_reducible apply ps1_if (k := !wholeB y)
                      · with_reducible apply ptd_eq
                        · with_reducible apply ptd_of
                          apply pwd_or (k := false) (l := !wholeB y)
                          · with_reducible apply ptd_eq
                            · walk_at "pt"
                            · rfl
                          · intro _
                            apply pwd_or (k := false) (l := !wholeB y)
                            · with_reducible apply ptd_eq
                              · walk_at "pt"
                              · rfl
                            · intro _
                              apply pwd_or (k := false) (l := !wholeB y)
                              · with_reducible apply ptd_eq
                                · walk_at "pt"
                                · rfl
                              · intro _
                                with_reducible apply pwd_or1
                                walk_at "pt"
                        · rfl
                      · intro hw
                        have eb : isStepB (.tup [.str k, y]) = false := step_not fun k' n e => by
                          cases e
                          cases hw
                        rw [bad eb]
                        walk_at "ret"
                        rfl
                      · intro hw
                        obtain ⟨n, rfl⟩ := whole_inv (d := y) (by cases q : wholeB y with | true => rfl | false => rw [q] at hw; cases hw)
                        refine psd_nil ?_
                        have hS : isStepB (.tup [.str k, .int n]) = (if (k == ("work" : Str)) = true then numB (.int n) 1 100 else ((("hold" : Str) == k) || (("free" : Str) == k)) && numB (.int n) 0 9) := rfl
                        have hO : stepOf (.tup [.str k, .int n]) = (if (k == ("work" : Str)) = true then .work n else if (("hold" : Str) == k) = true then .hold n else .free n) := rfl
                        show PSD _ _ [.fz (.lst ds), .ow (ts.map .int), .fz (.tup [.str k, .int n]), .no] _
                        by_cases hkw : k = ("work" : Str)
                        · subst hkw
                          have b1 : (("work" : Str) == ("work" : Str)) = true := by decide +kernel
                          have b2 : (("work" : Str) == ("hold" : Str)) = false := by decide +kernel
                          have b3 : (("work" : Str) == ("free" : Str)) = false := by decide +kernel
                          rw [if_pos b1] at hS hO
                          refine psd_cons ?_
                          with_reducible apply ps1_if (k := decide ((1 : Int) ≤ n ∧ n < 101))
                          · with_reducible apply ptd_eq
                            · with_reducible apply ptd_of
                              apply pwd_and (k := true)
                              · with_reducible apply ptd_eq
                                · walk_at "pt"
                                · exact b1
                              · intro _
                                with_reducible apply pwd_and1
                                with_reducible apply ptd_inRng2
                                · walk_at "pd"
                                · walk_at "pd"
                                · walk_at "pd"
                                · rfl
                                · exact m6
                                · rfl
                                · rfl
                                · rfl
                                · rfl
                            · exact Bool.true_and _
                          · intro hc
                            have hc' := of_decide_eq_true hc
                            refine psd_one (ps1_continue ?_)
                            refine ⟨ts, _, rfl, hrt, ?_⟩
                            rw [← hg', hS, hO]
                            have e1 : numB (.int n) 1 100 = true := by
                              show (decide (1 ≤ n) && decide (n ≤ 100)) = true
                              rw [decide_eq_true hc'.1, decide_eq_true (show n ≤ 100 by omega)]
                              rfl
                            rw [e1]
                            rfl
                          · intro hc
                            have hc' := of_decide_eq_false hc
                            have eb : isStepB (.tup [.str ("work" : Str), .int n]) = false := by
                              rw [hS]
                              show (decide (1 ≤ n) && decide (n ≤ 100)) = false
                              by_cases hx : 1 ≤ n
                              · rw [decide_eq_false (show ¬ n ≤ 100 by omega), Bool.and_false]
                              · rw [decide_eq_false hx, Bool.false_and]
                            refine psd_nil ?_
                            refine psd_one ?_
                            with_reducible apply ps1_ifF
                            · with_reducible apply ptd_of
                              with_reducible apply pwd_andF
                              with_reducible apply ptd_eq
                              · walk_at "pt"
                              · exact b2
                            refine psd_one ?_
                            with_reducible apply ps1_ifF
                            · with_reducible apply ptd_of
                              with_reducible apply pwd_andF
                              with_reducible apply ptd_eq
                              · walk_at "pt"
                              · exact b3
                            rw [bad eb]
                            walk_at "ret"
                            rfl
                        have bw : (k == ("work" : Str)) = false := beq_eq_false_iff_ne.mpr hkw
                        rw [if_neg (by rw [bw]; decide)] at hS hO
                        refine psd_cons ?_
                        with_reducible apply ps1_ifF
                        · with_reducible apply ptd_of
                          with_reducible apply pwd_andF
                          with_reducible apply ptd_eq
                          · walk_at "pt"
                          · exact bw
                        refine psd_nil ?_
                        refine psd_one ?_
                        by_cases hkh : k = ("hold" : Str)
                        · subst hkh
                          have b1 : (("hold" : Str) == ("hold" : Str)) = true := by decide +kernel
                          have b3 : (("hold" : Str) == ("free" : Str)) = false := by decide +kernel
                          rw [b1, Bool.true_or, Bool.true_and] at hS
                          rw [if_pos b1] at hO
                          have badF : fitsB ts (.hold n) = false → planGo [] ds = false := fun z => by rw [← hg', hO, z, Bool.and_false, Bool.false_and]
                          by_cases hr10 : (0 : Int) ≤ n ∧ n < 10
                          · with_reducible apply ps1_if (k := (ts.filter fun t => decide (n ≤ t)).isEmpty)
                            · with_reducible apply ptd_lend
                              show PTD _ _ [.fz (.lst ds), .fz (.lst (ts.map .int)), .fz (.tup [.str ("hold" : Str), .int n]), .no] _ _
                              with_reducible apply ptd_eq
                              · with_reducible apply ptd_of
                                apply pwd_and (k := true)
                                · with_reducible apply ptd_eq
                                  · walk_at "pt"
                                  · exact b1
                                · intro _
                                  apply pwd_and (k := true)
                                  · with_reducible apply ptd_eq
                                    · with_reducible apply ptd_inRng1
                                      · walk_at "pd"
                                      · walk_at "pd"
                                      · rfl
                                      · exact m6
                                      · rfl
                                      · rfl
                                      · rfl
                                    · exact decide_eq_true hr10
                                  · intro _
                                    with_reducible apply pwd_and1
                                    with_reducible apply ptd_eqN
                                    · assumption
                                    · with_reducible apply pd_frz
                                      apply pd_compL D.int (fun t => decide (n ≤ t)) D.int
                                      walk_at "compL"
                                      · omega
                                      · intro s' H' C cl fp i t hi
                                        exact tsd_one (by walk_at "pt")
                                      · intro s' H' C cl fp i t hi hb
                                        walk_at "pd"
                                    · walk_at "pdz"
                                    · refine Fine.ints _ _ ?_
                                      have := List.length_filter_le (fun t => decide (n ≤ t)) ts
                                      omega
                                    · walk_at "fine"
                              · rw [Bool.true_and, Bool.true_and]
                                exact eqD_intsN _
                            · intro hc
                              have hall : ∀ u ∈ ts, u < n := fun u hu => by
                                by_cases z : n ≤ u
                                · have hm : u ∈ ts.filter fun t => decide (n ≤ t) := List.mem_filter.mpr ⟨hu, decide_eq_true z⟩
                                  rw [List.isEmpty_iff.mp hc] at hm
                                  cases hm
                                · omega
                              have hfs : fitsS ts (.hold n) := ⟨hr10.1, by omega, hall⟩
                              refine psd_one ?_
                              walk_at "app"
                              · refine ⟨ts ++ [n], .fz (.tup [.str ("hold" : Str), .int n]), ?_, hrt.behind hfs, ?_⟩
                                · rw [List.map_append]
                                  rfl
                                · rw [← hg', hS, hO, (fitsB_iff (st := .hold n) (show 0 ≤ n ∧ n ≤ 9 by omega)).mpr hfs]
                                  have e1 : numB (.int n) 0 9 = true := by
                                    show (decide (0 ≤ n) && decide (n ≤ 9)) = true
                                    rw [decide_eq_true hr10.1, decide_eq_true (show n ≤ 9 by omega)]
                                    rfl
                                  rw [e1]
                                  rfl
                              · rw [List.length_map]; omega
                            · intro hc
                              refine psd_one ?_
                              with_reducible apply ps1_ifF
                              · with_reducible apply ptd_of
                                with_reducible apply pwd_andF
                                with_reducible apply ptd_eq
                                · walk_at "pt"
                                · exact b3
                              rw [badF (by
                                show decide (maxL ts (-1) < n) = false
                                apply decide_eq_false
                                intro z
                                have z2 := (maxL_lt (ts := ts) (by omega)).mp z
                                have he : (ts.filter fun t => decide (n ≤ t)) = [] := List.filter_eq_nil_iff.mpr fun u hu => by
                                  have := z2 u hu
                                  simp only [decide_eq_true_eq]
                                  omega
                                rw [he] at hc
                                cases hc)]
                              walk_at "ret"
                              rfl
                          · have eb : isStepB (.tup [.str ("hold" : Str), .int n]) = false := by
                              rw [hS]
                              show (decide (0 ≤ n) && decide (n ≤ 9)) = false
                              by_cases hx : 0 ≤ n
                              · rw [decide_eq_false (show ¬ n ≤ 9 by omega), Bool.and_false]
                              · rw [decide_eq_false hx, Bool.false_and]
                            with_reducible apply ps1_ifF
                            · with_reducible apply ptd_of
                              apply pwd_and (k := true) (l := false)
                              · with_reducible apply ptd_eq
                                · walk_at "pt"
                                · exact b1
                              · intro _
                                with_reducible apply pwd_andF
                                with_reducible apply ptd_eq
                                · with_reducible apply ptd_inRng1
                                  · walk_at "pd"
                                  · walk_at "pd"
                                  · rfl
                                  · exact m6
                                  · rfl
                                  · rfl
                                  · rfl
                                · exact decide_eq_false hr10
                            refine psd_one ?_
                            with_reducible apply ps1_ifF
                            · with_reducible apply ptd_of
                              with_reducible apply pwd_andF
                              with_reducible apply ptd_eq
                              · walk_at "pt"
                              · exact b3
                            rw [bad eb]
                            walk_at "ret"
                            rfl
                        have bh : (k == ("hold" : Str)) = false := beq_eq_false_iff_ne.mpr hkh
                        have bh2 : (("hold" : Str) == k) = false := beq_eq_false_iff_ne.mpr (Ne.symm hkh)
                        rw [bh2, Bool.false_or] at hS
                        rw [if_neg (by rw [bh2]; decide)] at hO
                        with_reducible apply ps1_ifF
                        · with_reducible apply ptd_of
                          with_reducible apply pwd_andF
                          with_reducible apply ptd_eq
                          · walk_at "pt"
                          · exact bh
                        refine psd_one ?_
                        by_cases hkf : k = ("free" : Str)
                        · subst hkf
                          have b1 : (("free" : Str) == ("free" : Str)) = true := by decide +kernel
                          rw [b1, Bool.true_and] at hS
                          with_reducible apply ps1_if (k := decide (n ∈ ts))
                          · with_reducible apply ptd_lend
                            show PTD _ _ [.fz (.lst ds), .fz (.lst (ts.map .int)), .fz (.tup [.str ("free" : Str), .int n]), .no] _ _
                            have gin : CmpR .In (.int n) (.lst (ts.map .int)) (decide (n ∈ ts)) := cmp_in n ts
                            with_reducible apply ptd_eq
                            · with_reducible apply ptd_of
                              apply pwd_and (k := true)
                              · with_reducible apply ptd_eq
                                · walk_at "pt"
                                · exact b1
                              · intro _
                                with_reducible apply pwd_and1
                                walk_at "pt"
                            · exact Bool.true_and _
                          · intro hc
                            have hin := of_decide_eq_true hc
                            have hlow := hrt.low n hin
                            refine psd_one ?_
                            walk_at "rem"
                            · refine ⟨toolsBehind ts (.free n), .fz (.tup [.str ("free" : Str), .int n]), ?_, hrt.behind (s := .free n) hin, ?_⟩
                              · show [_, Sl.ow ((ts.erase n).map .int), _, _] = _
                                rw [erase_filter hrt.nodup]
                                rfl
                              · rw [← hg', hS, hO]
                                have e1 : numB (.int n) 0 9 = true := by
                                  show (decide (0 ≤ n) && decide (n ≤ 9)) = true
                                  rw [decide_eq_true hlow.1, decide_eq_true hlow.2]
                                  rfl
                                have e2 : fitsB ts (.free n) = true := hc
                                rw [e1, e2]
                                rfl
                            · exact hin
                          · intro hc
                            have e2 : fitsB ts (.free n) = false := hc
                            rw [show planGo [] ds = false by rw [← hg', hO, e2, Bool.and_false, Bool.false_and]]
                            walk_at "ret"
                            rfl
                        have bf : (k == ("free" : Str)) = false := beq_eq_false_iff_ne.mpr hkf
                        have bf2 : (("free" : Str) == k) = false := beq_eq_false_iff_ne.mpr (Ne.symm hkf)
                        have eb : isStepB (.tup [.str k, .int n]) = false := by rw [hS, bf2, Bool.false_and]
                        with_reducible apply ps1_ifF
                        · with_reducible apply ptd_of
                          with_reducible apply pwd_andF
                          with_reducible apply ptd_eq
                          · walk_at "pt"
                          · exact bf
                        rw [bad eb]
                        walk_at "ret"
                        rfl
                    | _ => cases hsx
              · have eb : isStepB (.tup es) = false := step_not fun k' n e => by
                  cases e
                  exact hl2 rfl
                with_reducible apply ps1_ifT
                · with_reducible apply ptd_of
                  apply pwd_or (k := false) (l := true)
                  · with_reducible apply ptd_eq
                    · walk_at "pt"
                    · rfl
                  · intro _
                    with_reducible apply pwd_orT
                    with_reducible apply ptd_eq
                    · walk_at "pt"
                    · rw [decide_eq_false (by omega)]; rfl
                rw [bad eb]
                walk_at "ret"
                rfl
            | _ => cases hte
        · rintro ρ' ⟨ts, x, rfl, hrt, hg⟩
          rw [List.drop_length] at hg
          have hlen := hrt.len
          have fT : Fine 60 (.lst (ts.map .int)) := Fine.ints _ _ (by omega)
          refine psd_one ?_
          with_reducible apply ps1_ret
          · with_reducible apply pd_lend
            · show PD _ _ [.fz (.lst ds), .fz (.lst (ts.map .int)), lend x, .no] _ _
              walk_at "pd"
            · exact Flat.bl _
          · trivial
          · show Sl.fz _ = Sl.fz _
            rw [show eqD (.lst (ts.map .int)) (.lst []) = ts.isEmpty from eqD_intsN ts, ← hg]
            rfl
    | _ => cases ht
end
section
variable {P : Program} {w : World} {K : PySem.W.Frag} {mg : Str → Option Value} {base : Heap}
def forBody (st : Stmt) (n : Nat) : List Stmt := match (defBody st)[n]? with
  | some (.For _ _ b _ _) => b
  | _ => []
theorem look_not3 {rs : List Int} {e : D} (h : ∀ a b c, e ≠ .tup [a, b, c]) : lookC rs e = some .worker := by
  unfold lookC
  split
  · rename_i a b c
    exact absurd rfl (h a b c)
  · rfl
theorem numB_not {d : D} {lo hi : Int} (h : wholeB d = false) : numB d lo hi = false := by
  cases d <;> first | rfl | cases h
theorem due_turn {fa : Addr} {cd : Value} {A : Around} {outer : List Env} {s : Shared} {H : Hp} {E : XK} (hr : Room 2 (CxN P w K mg base n__law_due "_law_due" s__law_due fa cd A outer s H E).A) (h1 : Ok P w K mg base 1 "_law_whole" f_whole) (h2 : Ok P w K mg base 2 "_law_plan_good" f_plangood) (m1 : mg "isinstance" = none) (m3 : mg "tuple" = none) (m5 : mg "len" = none)
    (xs : List D) (e : D) (rs : List Int) (pe : pureD e = true) (hl : rs.length ≤ 1000) :
    PSD (CxN P w K mg base n__law_due "_law_due" s__law_due fa cd A outer s H E) (forBody s__law_due 2) [.fz (.lst xs), .ow (rs.map .int), .fz e]
      { nx := fun ρ' => lookC rs e = none ∧ ρ' = [.fz (.lst xs), .ow ((rs ++ [rankD e]).map .int), .fz e], rt := fun r => ∃ b, lookC rs e = some b ∧ r = .fz (.str (nameB b)) } := by
  have ke := pure_known pe
  refine psd_cons ?_
  cases hte : isTupD e with
  | false =>
    have eb : lookC rs e = some .worker := look_not3 fun a b c z => by subst z; cases hte
    with_reducible apply ps1_ifT
    · with_reducible apply ptd_of
      with_reducible apply pwd_orT
      with_reducible apply ptd_eq
      · walk_at "pt"
      · rw [hte]; rfl
    walk_at "ret"
    exact ⟨_, eb, rfl⟩
  | true =>
    cases e with
    | tup es =>
      have hpe := pure_tup pe
      by_cases hl3 : es.length = 3
      · match es, hl3 with
        | [a, b, c], _ =>
          have pa := hpe a (by simp)
          have pb := hpe b (by simp)
          have pc := hpe c (by simp)
          have ka := pure_known pa
          have kb := pure_known pb
          have hLk : lookC rs (.tup [a, b, c]) = (if (numB a 1 1000000 && !inRanks rs a) = true then if numB b 0 1000 = true then if planB c = true then none else some .plan else some .start else some .rank) := rfl
          walk_at "ifF"
          · rfl
          refine psd_nil ?_
          refine psd_cons ?_
          have g1 : f_whole [a] (.fz (.bl (wholeB a))) := ⟨_, rfl, ka, rfl⟩
          have g2 : f_whole [b] (.fz (.bl (wholeB b))) := ⟨_, rfl, kb, rfl⟩
          have g3 : f_plangood [c] (.fz (.bl (planB c))) := ⟨_, rfl, pc, rfl⟩
          cases hwa : wholeB a with
          | false =>
            rw [hwa] at g1
            with_reducible apply ps1_ifT
            · with_reducible apply ptd_of
              with_reducible apply pwd_orT
              with_reducible apply ptd_eq
              · walk_at "pt"
              · rfl
            walk_at "ret"
            refine ⟨.rank, ?_, rfl⟩
            rw [hLk, numB_not hwa]
            rfl
          | true =>
            obtain ⟨n, rfl⟩ := whole_inv hwa
            rw [hwa] at g1
            have gin : CmpR .In (.int n) (.lst (rs.map .int)) (decide (n ∈ rs)) := cmp_in n rs
            with_reducible apply ps1_if (k := (decide (n < 1) || (decide (1000000 < n) || decide (n ∈ rs))))
            · with_reducible apply ptd_lend
              show PTD _ _ [.fz (.lst xs), .fz (.lst (rs.map .int)), .fz (.tup [.int n, b, c])] _ _
              with_reducible apply ptd_eq
              · with_reducible apply ptd_of
                apply pwd_or (k := false)
                · with_reducible apply ptd_eq
                  · walk_at "pt"
                  · rfl
                · intro _
                  walk_at "pw"
              · rfl
            · intro hc
              walk_at "ret"
              refine ⟨.rank, ?_, rfl⟩
              rw [hLk, if_neg]
              intro z
              have z' : ((decide (1 ≤ n) && decide (n ≤ 1000000)) && !decide (n ∈ rs)) = true := z
              simp only [Bool.and_eq_true, Bool.not_eq_true', decide_eq_true_eq, decide_eq_false_iff_not] at z'
              simp only [Bool.or_eq_true, decide_eq_true_eq] at hc
              rcases hc with hc | hc | hc
              · omega
              · omega
              · exact z'.2 hc
            · intro hc
              simp only [Bool.or_eq_false_iff, decide_eq_false_iff_not] at hc
              have e1 : (numB (.int n) 1 1000000 && !inRanks rs (.int n)) = true := by
                show ((decide (1 ≤ n) && decide (n ≤ 1000000)) && !decide (n ∈ rs)) = true
                rw [decide_eq_true (show 1 ≤ n by omega), decide_eq_true (show n ≤ 1000000 by omega), decide_eq_false hc.2.2]
                rfl
              rw [if_pos e1] at hLk
              refine psd_nil ?_
              refine psd_cons ?_
              cases hwb : wholeB b with
              | false =>
                rw [hwb] at g2
                with_reducible apply ps1_ifT
                · with_reducible apply ptd_of
                  with_reducible apply pwd_orT
                  with_reducible apply ptd_eq
                  · walk_at "pt"
                  · rfl
                walk_at "ret"
                refine ⟨.start, ?_, rfl⟩
                rw [hLk, numB_not hwb]
                rfl
              | true =>
                obtain ⟨m, rfl⟩ := whole_inv hwb
                rw [hwb] at g2
                with_reducible apply ps1_if (k := (decide (m < 0) || decide (1000 < m)))
                · with_reducible apply ptd_eq
                  · with_reducible apply ptd_of
                    apply pwd_or (k := false)
                    · with_reducible apply ptd_eq
                      · walk_at "pt"
                      · rfl
                    · intro _
                      walk_at "pw"
                  · rfl
                · intro hc2
                  walk_at "ret"
                  refine ⟨.start, ?_, rfl⟩
                  rw [hLk, if_neg]
                  intro z
                  have z' : (decide (0 ≤ m) && decide (m ≤ 1000)) = true := z
                  simp only [Bool.and_eq_true, decide_eq_true_eq] at z'
                  simp only [Bool.or_eq_true, decide_eq_true_eq] at hc2
                  omega
                · intro hc2
                  simp only [Bool.or_eq_false_iff, decide_eq_false_iff_not] at hc2
                  have e2 : numB (.int m) 0 1000 = true := by
                    show (decide (0 ≤ m) && decide (m ≤ 1000)) = true
                    rw [decide_eq_true (show 0 ≤ m by omega), decide_eq_true (show m ≤ 1000 by omega)]
                    rfl
                  rw [if_pos e2] at hLk
                  refine psd_nil ?_
                  refine psd_cons ?_
                  cases hpl : planB c with
                  | false =>
                    rw [hpl] at g3 hLk
                    walk_at "ifT"
                    · rfl
                    walk_at "ret"
                    exact ⟨.plan, hLk, rfl⟩
                  | true =>
                    rw [hpl] at g3 hLk
                    walk_at "ifF"
                    · rfl
                    refine psd_nil ?_
                    refine psd_one ?_
                    walk_at "app"
                    · refine ⟨hLk, ?_⟩
                      rw [List.map_append]
                      rfl
                    · rw [List.length_map]; omega
      · have eb : lookC rs (.tup es) = some .worker := look_not3 fun a b c z => by
          cases z
          exact hl3 rfl
        with_reducible apply ps1_ifT
        · with_reducible apply ptd_of
          apply pwd_or (k := false) (l := true)
          · with_reducible apply ptd_eq
            · walk_at "pt"
            · rfl
          · intro _
            with_reducible apply pwd_or1
            with_reducible apply ptd_eq
            · walk_at "pt"
            · rw [decide_eq_false (by omega)]; rfl
        walk_at "ret"
        exact ⟨_, eb, rfl⟩
    | _ => cases hte
def f_due : FD := fun ds r => ∃ (xs : List D) (b : Bad), ds = [.lst xs] ∧ (∀ d ∈ xs, pureD d = true) ∧ xs.length ≤ 1000 ∧ begunC xs = some b ∧ r = .fz (.str (nameB b))
theorem ok_due (F : Def K mg "_law_due" s__law_due ["_law_workers_here"]) (h1 : Ok P w K mg base 1 "_law_whole" f_whole) (h2 : Ok P w K mg base 2 "_law_plan_good" f_plangood) (m1 : mg "isinstance" = none) (m3 : mg "tuple" = none) (m5 : mg "len" = none) (m6 : mg "range" = none) : Ok P w K mg base 3 "_law_due" f_due := by
  refine ok_mk F sc__law_due (fun ds r h => ?_) (fun fa cd A outer s H E ds r hr h => ?_)
  · obtain ⟨xs, b, rfl, _⟩ := h; rfl
  obtain ⟨xs, b, rfl, hp, hl, hb, rfl⟩ := h
  show PSD _ _ [.fz (.lst xs), .no, .no] _
  refine psd_cons ?_
  with_reducible apply ps1_if (k := !decide ((1 : Int) ≤ (xs.length : Int) ∧ (xs.length : Int) < 9))
  · with_reducible apply ptd_notInRng2
    · walk_at "pd"
    · walk_at "pd"
    · walk_at "pd"
    · rfl
    · exact m6
    · rfl
    · rfl
    · rfl
    · rfl
  · intro hc
    have hn : ¬ (1 ≤ xs.length ∧ xs.length ≤ 8) := fun z => by
      rw [decide_eq_true (by omega)] at hc
      cases hc
    unfold begunC at hb
    rw [if_neg hn] at hb
    cases hb
    walk_at "ret"
    rfl
  · intro hc
    have hn : 1 ≤ xs.length ∧ xs.length ≤ 8 := by
      by_cases hz : (1 : Int) ≤ (xs.length : Int) ∧ (xs.length : Int) < 9
      · omega
      · rw [decide_eq_false hz] at hc
        cases hc
    unfold begunC at hb
    rw [if_pos hn] at hb
    refine psd_nil ?_
    refine psd_cons ?_
    walk_at "let"
    refine psd_cons ?_
    walk_at "for"
    · exact fun i ρ => ∃ (rs : List Int) (x : Sl), ρ = [.fz (.lst xs), .ow (rs.map .int), x] ∧ rs.length ≤ i ∧ begunGo rs (xs.drop i) = some b
    · exact ⟨[], _, rfl, Nat.le_refl _, hb⟩
    · rintro i e ρ' hd ⟨rs, x, rfl, hrl, hg⟩
      have hi : i < xs.length := (List.getElem?_eq_some_iff.mp hd).1
      have pe := hp e (List.mem_of_getElem? hd)
      have eD : xs.drop i = e :: xs.drop (i + 1) := by
        rw [List.drop_eq_getElem_cons hi, (List.getElem?_eq_some_iff.mp hd).2]
      rw [eD] at hg
      have hg' : (match lookC rs e with | some b => some b | none => begunGo (rs ++ [rankD e]) (xs.drop (i + 1))) = some b := hg
      show PSD _ _ [.fz (.lst xs), .ow (rs.map .int), .fz e] _
      refine psd_imp (due_turn hr h1 h2 m1 m3 m5 xs e rs pe (by omega)) ?_ ?_ (fun _ z => z.elim) (fun _ z => z.elim) (fun _ z => z)
      · rintro ρ2 ⟨q, rfl⟩
        rw [q] at hg'
        exact ⟨rs ++ [rankD e], _, rfl, by rw [List.length_append, List.length_singleton]; omega, hg'⟩
      · rintro r ⟨b', q, rfl⟩
        rw [q] at hg'
        cases hg'
        rfl
    · rintro ρ' ⟨rs, x, rfl, _, hg⟩
      rw [List.drop_length] at hg
      cases hg
def t_due : TD := fun ds d => ∃ ws : List Worker, ds = [.lst (ws.map encW)] ∧ WsOk ws ∧ d = encShop (begunS ws)
theorem okt_due (F : Def K mg "_law_due" s__law_due ["_law_workers_here"]) (h1 : Ok P w K mg base 1 "_law_whole" f_whole) (h2 : Ok P w K mg base 2 "_law_plan_good" f_plangood) (m1 : mg "isinstance" = none) (m3 : mg "tuple" = none) (m5 : mg "len" = none) (m6 : mg "range" = none) (m7 : mg "list" = none) : OkT P w K mg base 3 "_law_due" t_due := by
  refine okt_mk F sc__law_due (fun ds r h => ?_) (fun fa cd A outer s H E ds r hr h => ?_)
  · obtain ⟨ws, rfl, _⟩ := h; rfl
  obtain ⟨ws, rfl, ho, rfl⟩ := h
  have hb := ho.begun
  have hm1 := ho.many1
  have hm8 := ho.many
  have hn : 1 ≤ (ws.map encW).length ∧ (ws.map encW).length ≤ 8 := by rw [List.length_map]; exact ⟨hm1, hm8⟩
  unfold begunC at hb
  rw [if_pos hn] at hb
  show PST _ _ [.fz (.lst (ws.map encW)), .no, .no] _ _
  refine pst_cons ?_
  with_reducible apply ps1_ifF
  · with_reducible apply ptd_eq
    · with_reducible apply ptd_notInRng2 (n := (ws.length : Int))
      · walk_at "pd"
      · walk_at "pd"
      · walk_at "pd"
      · rfl
      · exact m6
      · rfl
      · rfl
      · rfl
      · rfl
    · rw [decide_eq_true (by omega)]
      rfl
  refine psd_nil ?_
  refine pst_cons ?_
  walk_at "let"
  refine pst_cons ?_
  walk_at "for"
  · exact fun i ρ => ∃ (rs : List Int) (x : Sl), ρ = [.fz (.lst (ws.map encW)), .ow (rs.map .int), x] ∧ rs.length ≤ i ∧ begunGo rs ((ws.map encW).drop i) = none
  · exact ⟨[], _, rfl, Nat.le_refl _, hb⟩
  · rintro i e ρ' hd ⟨rs, x, rfl, hrl, hg⟩
    have hi : i < (ws.map encW).length := (List.getElem?_eq_some_iff.mp hd).1
    obtain ⟨wk, hw, rfl⟩ := List.mem_map.mp (List.mem_of_getElem? hd)
    obtain ⟨k, hk⟩ := List.getElem?_of_mem hw
    have pe := pure_W wk (by have := (ho.plans k wk hk).len; omega)
    have eD : (ws.map encW).drop i = encW wk :: (ws.map encW).drop (i + 1) := by
      rw [List.drop_eq_getElem_cons hi, (List.getElem?_eq_some_iff.mp hd).2]
    rw [eD] at hg
    have hg' : (match lookC rs (encW wk) with | some b => some b | none => begunGo (rs ++ [rankD (encW wk)]) ((ws.map encW).drop (i + 1))) = none := hg
    show PSD _ _ [.fz (.lst (ws.map encW)), .ow (rs.map .int), .fz (encW wk)] _
    refine psd_imp (due_turn hr h1 h2 m1 m3 m5 (ws.map encW) (encW wk) rs pe (by omega)) ?_ ?_ (fun _ z => z.elim) (fun _ z => z.elim) (fun _ z => z)
    · rintro ρ2 ⟨q, rfl⟩
      rw [q] at hg'
      exact ⟨rs ++ [rankD (encW wk)], _, rfl, by rw [List.length_append, List.length_singleton]; omega, hg'⟩
    · rintro r ⟨b', q, rfl⟩
      rw [q] at hg'
      cases hg'
  · rintro ρ' ⟨rs, x, rfl, _, hg⟩
    apply pst_ret (d := .tup [.lst (ws.map encW), .int 0, .lst ((ws.map fun _ => (⟨0, 0⟩ : Spot)).map encS)])
    rotate_left
    · rfl
    rotate_left
    with_reducible apply pdp_tup
    · with_reducible apply pap_cons
      · apply pdp_compL encW encW
        walk_at "compL"
        · omega
        · intro s' H' C cl fp i a ha
          show PDP _ _ _ _ (.tup [.int a.rank, .int a.start, .lst (a.plan.map encStep)])
          walk_at "pp"
      · with_reducible apply pap_cons
        · walk_at "pp"
        · with_reducible apply pap_cons
          · with_reducible apply pdp_own
            · with_reducible apply pd_eq
              · apply pd_compL encW (fun _ => true) (fun _ => D.tup [.int 0, .int 0])
                walk_at "compL"
                · omega
                · intros
                  exact tsd_nil
                · intro s' H' C cl fp i a ha hb
                  walk_at "pd"
              · show _ = Sl.ow ((ws.map fun _ => (⟨0, 0⟩ : Spot)).map encS)
                rw [List.filter_eq_self.mpr (fun _ _ => rfl), List.map_map]
                rfl
            · exact noLs_spots _
          · exact pap_nil
          · rfl
        · rfl
      · rfl
    · exact Nat.le_of_ble_eq_true rfl
end
section
variable {P : Program} {w : World} {K : PySem.W.Frag} {mg : Str → Option Value} {base : Heap}
theorem namesB {P : Program} {w : World} {K : PySem.W.Frag} {mg : Str → Option Value} {base : Heap} {N : List Str} {x : Str} {st : Stmt} {f : Addr} {cd : Value} {A : Around} {outer : List Env} {s : Shared} {H : Hp} {E : XK} (T : Excs K mg) {b : Bad} (hb : T.S b = true) (hg : Gl (CxN P w K mg base N x st f cd A outer s H E) (nameB b)) (hd : (nameB b == ("__debug__" : Str)) = false) : Names (CxN P w K mg base N x st f cd A outer s H E) (nameB b) (.ref (T.C b)) := ⟨hg, hd, .inl (T.one b hb).g⟩
def f_told : FD := fun ds r => ∃ (xs : List D) (way : Int) (b : Bad), ds = [.lst xs, .int way] ∧ (∀ d ∈ xs, pureD d = true) ∧ begunC xs = some b ∧ xs.length ≤ 1000 ∧ b ≠ .noWorker ∧ r = .fz (.str (nameB b))
theorem told_sum (b : Bad) (h : b ≠ .noWorker) : ((((if decide (b = .tooMany) = true then ("TooMany" : Str) else Str.empty) ++ (if decide (b = .worker) = true then ("BadWorker" : Str) else Str.empty)) ++ ((if decide (b = .rank) = true then ("BadRank" : Str) else Str.empty)) ++ (if decide (b = .start) = true then ("BadStart" : Str) else Str.empty)) ++ (if decide (b = .plan) = true then ("BadPlan" : Str) else Str.empty)) = nameB b := by
  cases b <;> first | exact absurd rfl h | decide +kernel
theorem ok_told (F : Def K mg "_law_told" s__law_told ["_law_workers_here", "_law_way"]) (T : Excs K mg) (t5 : T.five) (tI : ExcI T) (h1x : OkX P w K mg base 5 "begun" (g_begun T)) (m1 : mg "isinstance" = none) (m2 : mg "int" = none) : Ok P w K mg base 6 "_law_told" f_told := by
  refine ok_mk F sc__law_told (fun ds r h => ?_) (fun fa cd A outer s H E ds r hr h => ?_)
  · obtain ⟨xs, way, b, rfl, _⟩ := h; rfl
  obtain ⟨xs, way, b, rfl, hp, hb, hl, hnw, rfl⟩ := h
  show PSD _ _ [.fz (.lst xs), .fz (.int way), .no, .no] _
  refine psd_cons ?_
  walk_at "if2"
  · intro hway
    have tb : T.S b = true := t5 b hnw
    refine psd_one ?_
    refine ps1_tryAs (i := 2) (c := .ref T.H) (N := n__law_told) (R := fun cls ρ' => cls = .ref (T.C b) ∧ ρ' = [.fz (.lst xs), .fz (.int way), .no, .no]) CxN_N (by walk_at "at") (by decide +kernel) rfl ⟨rfl, by decide, .inl T.oneH.g⟩ rfl rfl ?_ ?_ ?_
    · intro W pn xe tk po
      refine rsd_one ?_
      refine rs1_callR (ds := [.lst xs]) (ρ1 := [.fz (.lst xs), .fz (.int way), .no, .no]) (C := T.C b) h1x tk (by exact Room.mono hr (by decide)) rfl ?_ ⟨xs, b, rfl, hp, hb, hl, rfl⟩ ⟨rfl, rfl⟩ (by decide) rfl rfl
      walk_at "pa"
    · rintro cls ρ' ⟨rfl, rfl⟩
      exact T.exmH tb
    · rintro cls ρ' ⟨rfl, rfl⟩ a oe pn hz hf
      show PSD _ _ [.fz (.lst xs), .fz (.int way), .fz (.raw (.ref a)), .no] _
      refine psd_cons ?_
      with_reducible apply ps1_let
      · walk_at "N"
      · walk_at "at"
      · apply pd_addS
        · apply pd_mulS (k := decide (b = .tooMany))
          · walk_at "pd"
          · with_reducible apply pd_intN
            · exact pd_isB (b' := .tooMany) tI tb (t5 _ (by decide)) hz hf (by walk_at "pd") m1 rfl rfl (by decide) rfl rfl rfl
            · exact m2
            all_goals rfl
        · apply pd_mulS (k := decide (b = .worker))
          · walk_at "pd"
          · with_reducible apply pd_intN
            · exact pd_isB (b' := .worker) tI tb (t5 _ (by decide)) hz hf (by walk_at "pd") m1 rfl rfl (by decide) rfl rfl rfl
            · exact m2
            all_goals rfl
        · cases b <;> decide +kernel
      rotate_left
      · decide +kernel
      · walk_at "loc"
      · first | exact Or.inl rfl | exact Or.inr rfl
      · rfl
      · rfl
      · rfl
      refine psd_cons ?_
      with_reducible apply ps1_let
      · walk_at "N"
      · walk_at "at"
      · apply pd_addS
        · apply pd_addS
          · walk_at "pd"
          · apply pd_mulS (k := decide (b = .rank))
            · walk_at "pd"
            · with_reducible apply pd_intN
              · exact pd_isB (b' := .rank) tI tb (t5 _ (by decide)) hz hf (by walk_at "pd") m1 rfl rfl (by decide) rfl rfl rfl
              · exact m2
              all_goals rfl
          · cases b <;> decide +kernel
        · apply pd_mulS (k := decide (b = .start))
          · walk_at "pd"
          · with_reducible apply pd_intN
            · exact pd_isB (b' := .start) tI tb (t5 _ (by decide)) hz hf (by walk_at "pd") m1 rfl rfl (by decide) rfl rfl rfl
            · exact m2
            all_goals rfl
        · cases b <;> decide +kernel
      rotate_left
      · decide +kernel
      · walk_at "loc"
      · first | exact Or.inl rfl | exact Or.inr rfl
      · rfl
      · rfl
      · rfl
      refine psd_one ?_
      with_reducible apply ps1_ret
      · apply pd_addS
        · walk_at "pd"
        · apply pd_mulS (k := decide (b = .plan))
          · walk_at "pd"
          · with_reducible apply pd_intN
            · exact pd_isB (b' := .plan) tI tb (t5 _ (by decide)) hz hf (by walk_at "pd") m1 rfl rfl (by decide) rfl rfl rfl
            · exact m2
            all_goals rfl
        · cases b <;> decide +kernel
      · trivial
      · exact congrArg (fun z => Sl.fz (.str z)) (told_sum b hnw)
  · intro hway
    refine psd_nil ?_
    refine psd_one ?_
    apply ps1_tryMany (R := fun cls ρ' => cls = .ref (T.C b) ∧ ρ' = [.fz (.lst xs), .fz (.int way), .no, .no])
    · exact .cons (namesB T (b := .tooMany) (t5 _ (by decide)) rfl (by decide)) (.cons (namesB T (b := .worker) (t5 _ (by decide)) rfl (by decide)) (.cons (namesB T (b := .rank) (t5 _ (by decide)) rfl (by decide)) (.cons (namesB T (b := .start) (t5 _ (by decide)) rfl (by decide)) (.cons (namesB T (b := .plan) (t5 _ (by decide)) rfl (by decide)) (.nil)))))
    · rfl
    · rfl
    · intro W pn xe tk po
      refine rsd_one ?_
      refine rs1_callR (ds := [.lst xs]) (ρ1 := [.fz (.lst xs), .fz (.int way), .no, .no]) (C := T.C b) h1x tk (by exact Room.mono hr (by decide)) rfl ?_ ⟨xs, b, rfl, hp, hb, hl, rfl⟩ ⟨rfl, rfl⟩ (by decide) rfl rfl
      walk_at "pa"
    · rintro cls ρ' ⟨rfl, rfl⟩
      cases b with
      | tooMany =>
        refine ⟨_, T.exm (t5 _ (by decide)) (t5 _ (by decide)), fun _ a oe pn hz hf => ?_, fun z => absurd z (by decide)⟩
        walk_at "ret"
        rfl
      | worker =>
        refine ⟨_, T.exm (t5 _ (by decide)) (t5 _ (by decide)), fun z => absurd z (by decide), fun _ => ?_⟩
        refine ⟨_, T.exm (t5 _ (by decide)) (t5 _ (by decide)), fun _ a oe pn hz hf => ?_, fun z => absurd z (by decide)⟩
        walk_at "ret"
        rfl
      | rank =>
        refine ⟨_, T.exm (t5 _ (by decide)) (t5 _ (by decide)), fun z => absurd z (by decide), fun _ => ?_⟩
        refine ⟨_, T.exm (t5 _ (by decide)) (t5 _ (by decide)), fun z => absurd z (by decide), fun _ => ?_⟩
        refine ⟨_, T.exm (t5 _ (by decide)) (t5 _ (by decide)), fun _ a oe pn hz hf => ?_, fun z => absurd z (by decide)⟩
        walk_at "ret"
        rfl
      | start =>
        refine ⟨_, T.exm (t5 _ (by decide)) (t5 _ (by decide)), fun z => absurd z (by decide), fun _ => ?_⟩
        refine ⟨_, T.exm (t5 _ (by decide)) (t5 _ (by decide)), fun z => absurd z (by decide), fun _ => ?_⟩
        refine ⟨_, T.exm (t5 _ (by decide)) (t5 _ (by decide)), fun z => absurd z (by decide), fun _ => ?_⟩
        refine ⟨_, T.exm (t5 _ (by decide)) (t5 _ (by decide)), fun _ a oe pn hz hf => ?_, fun z => absurd z (by decide)⟩
        walk_at "ret"
        rfl
      | plan =>
        refine ⟨_, T.exm (t5 _ (by decide)) (t5 _ (by decide)), fun z => absurd z (by decide), fun _ => ?_⟩
        refine ⟨_, T.exm (t5 _ (by decide)) (t5 _ (by decide)), fun z => absurd z (by decide), fun _ => ?_⟩
        refine ⟨_, T.exm (t5 _ (by decide)) (t5 _ (by decide)), fun z => absurd z (by decide), fun _ => ?_⟩
        refine ⟨_, T.exm (t5 _ (by decide)) (t5 _ (by decide)), fun z => absurd z (by decide), fun _ => ?_⟩
        refine ⟨_, T.exm (t5 _ (by decide)) (t5 _ (by decide)), fun _ a oe pn hz hf => ?_, fun z => absurd z (by decide)⟩
        walk_at "ret"
        rfl
      | noWorker => exact absurd rfl hnw
def t_told : TD := fun ds d => ∃ (ws : List Worker) (way : Int), ds = [.lst (ws.map encW), .int way] ∧ WsOk ws ∧ d = encShop (begunS ws)
theorem okt_told (F : Def K mg "_law_told" s__law_told ["_law_workers_here", "_law_way"]) (T : Excs K mg) (t5 : T.five) (h1 : OkT P w K mg base 5 "begun" t_begun) : OkT P w K mg base 6 "_law_told" t_told := by
  refine okt_mk F sc__law_told (fun ds r h => ?_) (fun fa cd A outer s H E ds r hr h => ?_)
  · obtain ⟨ws, way, rfl, _⟩ := h; rfl
  obtain ⟨ws, way, rfl, ho, rfl⟩ := h
  have g1 : t_begun [.lst (ws.map encW)] (encShop (begunS ws)) := ⟨_, rfl, ho, rfl⟩
  show PST _ _ [.fz (.lst (ws.map encW)), .fz (.int way), .no, .no] _ _
  refine pst_cons1 ?_
  by_cases hway : way = 0
  · apply pst1_ifT
    · with_reducible apply ptd_eq
      · walk_at "pt"
      · exact decide_eq_true hway
    · refine pst_one ?_
      refine pst1_tryAs (i := 2) (c := .ref T.H) (N := n__law_told) CxN_N (by walk_at "at") (by decide +kernel) rfl ⟨rfl, by decide, .inl T.oneH.g⟩ rfl rfl ?_
      intro pn xe
      apply pst_ret (d := encShop (begunS ws))
      rotate_left
      · rfl
      rotate_left
      refine pdp_call (k := 5) (f := t_begun) (ds := [.lst (ws.map encW)]) (ρ1 := [.fz (.lst (ws.map encW)), .fz (.int way), .no, .no]) ?qf ?qr ?qg ?qa g1 ?qd ?qh ?qp
      case qf => exact h1
      case qr => exact Room.mono hr (by decide)
      case qg => rfl
      case qa => walk_at "pa"
      case qd => decide
      case qh => rfl
      case qp => rfl
  · apply pst1_ifF
    · with_reducible apply ptd_eq
      · walk_at "pt"
      · exact decide_eq_false hway
    · refine pst_nil ?_
      refine pst_one ?_
      apply pst1_tryMany
      · exact .cons (namesB T (b := .tooMany) (t5 _ (by decide)) rfl (by decide)) (.cons (namesB T (b := .worker) (t5 _ (by decide)) rfl (by decide)) (.cons (namesB T (b := .rank) (t5 _ (by decide)) rfl (by decide)) (.cons (namesB T (b := .start) (t5 _ (by decide)) rfl (by decide)) (.cons (namesB T (b := .plan) (t5 _ (by decide)) rfl (by decide)) (.nil)))))
      · rfl
      · rfl
      · intro pn xe
        apply pst_ret (d := encShop (begunS ws))
        rotate_left
        · rfl
        rotate_left
        refine pdp_call (k := 5) (f := t_begun) (ds := [.lst (ws.map encW)]) (ρ1 := [.fz (.lst (ws.map encW)), .fz (.int way), .no, .no]) ?qf ?qr ?qg ?qa g1 ?qd ?qh ?qp
        case qf => exact h1
        case qr => exact Room.mono hr (by decide)
        case qg => rfl
        case qa => walk_at "pa"
        case qd => decide
        case qh => rfl
        case qp => rfl
end
section
theorem wid_flat {d : D} (h : noL d = true) (h2 : ∀ xs, d ≠ .tup xs) : widD d ≤ 999 := by
  cases d <;> first | (unfold widD; exact Nat.zero_le _) | (exact absurd rfl (h2 _)) | (unfold noL at h; cases h)
theorem wid_step (st : Step) : widD (encStep st) ≤ 999 := by
  cases st <;> (simp [encStep, widD, widDs])
theorem wid_shop {s : Shop} (h : ShopOk s) : widD (encShop s) ≤ 999 := by
  have hm := h.many
  have hl := h.len
  unfold encShop
  unfold widD
  refine Nat.max_le.mpr ⟨by show 3 ≤ 999; decide, widDs_le.mpr fun d hd => ?_⟩
  simp only [List.mem_cons, List.not_mem_nil, or_false] at hd
  rcases hd with rfl | rfl | rfl
  · unfold widD
    refine Nat.max_le.mpr ⟨by rw [List.length_map]; omega, widDs_le.mpr fun d hd => ?_⟩
    obtain ⟨wk, hw, rfl⟩ := List.mem_map.mp hd
    obtain ⟨k, hk⟩ := List.getElem?_of_mem hw
    have hpl := (h.plans k wk hk).len
    show widD (.tup [.int wk.rank, .int wk.start, .lst (wk.plan.map encStep)]) ≤ 999
    unfold widD
    refine Nat.max_le.mpr ⟨by show 3 ≤ 999; decide, widDs_le.mpr fun d hd => ?_⟩
    simp only [List.mem_cons, List.not_mem_nil, or_false] at hd
    rcases hd with rfl | rfl | rfl
    · unfold widD; exact Nat.zero_le _
    · unfold widD; exact Nat.zero_le _
    · unfold widD
      refine Nat.max_le.mpr ⟨by rw [List.length_map]; omega, widDs_le.mpr fun d hd => ?_⟩
      obtain ⟨st, _, rfl⟩ := List.mem_map.mp hd
      exact wid_step st
  · unfold widD; exact Nat.zero_le _
  · unfold widD
    refine Nat.max_le.mpr ⟨by rw [List.length_map]; omega, widDs_le.mpr fun d hd => ?_⟩
    obtain ⟨q, _, rfl⟩ := List.mem_map.mp hd
    simp [encS, widD, widDs]
end
section
variable {P : Program} {w : World} {K : PySem.W.Frag} {mg : Str → Option Value} {base : Heap}
theorem look_no {rs : List Int} {d : D} {b : Bad} (h : lookC rs d = some b) : b ≠ .noWorker := by
  unfold lookC at h
  rintro rfl
  split at h
  · split at h
    · split at h
      · split at h <;> cases h
      · cases h
    · cases h
  · cases h
theorem begunGo_no : ∀ {ds : List D} {rs : List Int} {b : Bad}, begunGo rs ds = some b → b ≠ .noWorker
  | [], _, _, h => by cases h
  | d :: ds, rs, b, h => by
    have h' : (match lookC rs d with | some b => some b | none => begunGo (rs ++ [rankD d]) ds) = some b := h
    cases q : lookC rs d with
    | some c => rw [q] at h'; cases h'; exact look_no q
    | none => rw [q] at h'; exact begunGo_no h'
theorem begunC_no {ds : List D} {b : Bad} (h : begunC ds = some b) : b ≠ .noWorker := by
  unfold begunC at h
  split at h
  · exact begunGo_no h
  · cases h; intro z; cases z
theorem ok_law {fa : Addr} {fd : FuncData} (F : Fun K "law" "law" s_law fa fd) (h0 : Ok P w K mg base 1 "_law_cell_at" f_cell) (h1 : Ok P w K mg base 4 "_law_built" f_built) (h2 : Ok P w K mg base 3 "_law_due" f_due) (h3 : OkT P w K mg base 3 "_law_due" t_due) (h4 : Ok P w K mg base 6 "_law_told" f_told) (h5 : OkT P w K mg base 6 "_law_told" t_told) (h6 : Ok P w K mg base 5 "begun" f_begun) (h7 : Ok P w K mg base 61 "_law_alike" (f_alike 60)) (h8 : OkS P w K mg base 61 "_law_spoilt" (f_spo 60)) (m1 : mg "isinstance" = none) (m2 : mg "str" = none) : FnOk P w K mg base (L2.CX P w) 62 fa fd ["_law_script"] (SpD K f_law) := by
  refine fn_mk F sc_law (fun ds r h => ?_) (fun fa cd A outer s H E ds r hr h => ?_)
  · obtain ⟨ns, rfl, _⟩ := h; rfl
  obtain ⟨ns, rfl, hln, rfl⟩ := h
  show PSD _ _ [.fz (.scr ns), .no, .no, .no] _
  have c21 := cell_fact ns 21 21 rfl
  have g1 : f_built [.scr ns] (.fz (.lst (builtF ns (wsD ns)))) := ⟨_, rfl, rfl⟩
  obtain ⟨hT, hL⟩ := wsD_trip ns
  obtain ⟨hl9, hlo⟩ := builtF_ok (ns := ns) hT hL
  have fX : Fine 60 (.lst (builtF ns (wsD ns))) := builtF_fine hT hL
  generalize builtF ns (wsD ns) = xs at *
  have hpu : ∀ d ∈ xs, pureD d = true := fun d hd => loose_pure (hlo d hd)
  have gX : f_alike 60 [.lst xs, .lst xs] (.fz (.bl true)) := ⟨_, rfl, fX, rfl⟩
  cases hb : begunC xs with
  | some b =>
    have hnw := begunC_no hb
    have g2 : f_due [.lst xs] (.fz (.str (nameB b))) := ⟨_, _, rfl, hpu, by omega, hb, rfl⟩
    have g3 : f_told [.lst xs, .int (cellN ns 21 % 2)] (.fz (.str (nameB b))) := ⟨_, _, _, rfl, hpu, hb, by omega, hnw, rfl⟩
    have fN : Fine 60 (.str (nameB b)) := Fine.str 60 _ (by cases b <;> decide +kernel)
    have g4 : f_alike 60 [.str (nameB b), .str (nameB b)] (.fz (.bl true)) := ⟨_, rfl, fN, rfl⟩
    refine psd_cons ?_
    walk_at "let"
    refine psd_cons ?_
    walk_at "let"
    refine psd_cons ?_
    walk_at "let"
    refine psd_cons ?_
    walk_at "ifF"
    · rfl
    refine psd_nil ?_
    refine psd_cons ?_
    walk_at "ifT"
    · rfl
    walk_at "ret"
    rfl
  | none =>
    obtain ⟨ws, rfl, ho⟩ : ∃ ws : List Worker, xs = ws.map encW ∧ WsOk ws := ⟨_, begunC_of hb⟩
    have hs := begun_ok ho
    have hz := hs.siz
    have fS : Fine 60 (encShop (begunS ws)) := Fine.shop 55 hz
    have fP := fS.spoilt (wid_shop hs)
    have g2 : t_due [.lst (ws.map encW)] (encShop (begunS ws)) := ⟨_, rfl, ho, rfl⟩
    have g3 : t_told [.lst (ws.map encW), .int (cellN ns 21 % 2)] (encShop (begunS ws)) := ⟨_, _, rfl, ho, rfl⟩
    have g6 : f_begun [.lst (ws.map encW)] (.fz (encShop (begunS ws))) := ⟨_, rfl, ho, rfl⟩
    have gS : f_alike 60 [encShop (begunS ws), encShop (begunS ws)] (.fz (.bl true)) := ⟨_, rfl, fS, rfl⟩
    have gP : f_alike 60 [spD (encShop (begunS ws)), spD (encShop (begunS ws))] (.fz (.bl true)) := ⟨_, rfl, fP, rfl⟩
    have kS : knownD (encShop (begunS ws)) = true := rfl
    refine psd_cons ?_
    walk_at "let"
    refine psp_start ?_
    apply psp_newN (i := 2) (d := encShop (begunS ws)) (ρ1 := [.fz (.scr ns), .fz (.lst (ws.map encW)), .no, .no])
    · apply psn_asg (N := n_law)
      · walk_at "N"
      · walk_at "at"
      · show PDP _ _ [.fz (.scr ns), .fz (.lst (ws.map encW)), .no, .no] _ _
        walk_at "pp"
      · decide +kernel
      · walk_at "loc"
      · first | exact Or.inl rfl | exact Or.inr rfl
      all_goals rfl
    · show PSP _ _ [.fz (.scr ns), .fz (.lst (ws.map encW)), .no, .no] [(2, encShop (begunS ws))] _
      apply psp_newN (i := 3) (d := encShop (begunS ws)) (ρ1 := [.fz (.scr ns), .fz (.lst (ws.map encW)), .no, .no])
      · apply psn_asg (N := n_law)
        · walk_at "N"
        · walk_at "at"
        · walk_at "pp"
        · decide +kernel
        · walk_at "loc"
        · first | exact Or.inl rfl | exact Or.inr rfl
        all_goals rfl
      · show PSP _ _ [.fz (.scr ns), .fz (.lst (ws.map encW)), .no, .no] [(2, encShop (begunS ws)), (3, encShop (begunS ws))] _
        refine psp_ifF (ρ2 := [.fz (.scr ns), .fz (.lst (ws.map encW)), .fz (encShop (begunS ws)), .fz (encShop (begunS ws))]) rfl ?_ ?_
        · show PTD _ _ [.fz (.scr ns), .fz (.lst (ws.map encW)), .fz (encShop (begunS ws)), .fz (encShop (begunS ws))] _ _
          with_reducible apply ptd_eq
          · walk_at "pt"
          · rfl
        refine psp_ifF (ρ2 := [.fz (.scr ns), .fz (.lst (ws.map encW)), .fz (encShop (begunS ws)), .fz (encShop (begunS ws))]) rfl ?_ ?_
        · show PTD _ _ [.fz (.scr ns), .fz (.lst (ws.map encW)), .fz (encShop (begunS ws)), .fz (encShop (begunS ws))] _ _
          with_reducible apply ptd_eq
          · walk_at "pt"
          · rfl
        apply psp_spoil (N := n_law) (T1 := [(2, encShop (begunS ws))]) (T2 := []) (i := 3) (d := encShop (begunS ws)) h8
        · exact hr
        · rfl
        · walk_at "N"
        · walk_at "at"
        · walk_at "vis"
        · decide
        · decide
        · exact fS
        · show PSP _ _ [.fz (.scr ns), .fz (.lst (ws.map encW)), .no, .no] [(2, encShop (begunS ws)), (3, spD (encShop (begunS ws)))] _
          refine psp_ifF (ρ2 := [.fz (.scr ns), .fz (.lst (ws.map encW)), .fz (encShop (begunS ws)), .fz (spD (encShop (begunS ws)))]) rfl ?_ ?_
          · show PTD _ _ [.fz (.scr ns), .fz (.lst (ws.map encW)), .fz (encShop (begunS ws)), .fz (spD (encShop (begunS ws)))] _ _
            with_reducible apply ptd_eq
            · walk_at "pt"
            · rfl
          apply psp_spoil (N := n_law) (T1 := []) (T2 := [(3, spD (encShop (begunS ws)))]) (i := 2) (d := encShop (begunS ws)) h8
          · exact hr
          · rfl
          · walk_at "N"
          · walk_at "at"
          · walk_at "vis"
          · decide
          · decide
          · exact fS
          · show PSP _ _ [.fz (.scr ns), .fz (.lst (ws.map encW)), .no, .no] [(2, spD (encShop (begunS ws))), (3, spD (encShop (begunS ws)))] _
            apply psp_ret (d := .bl true)
            · show PD _ _ [.fz (.scr ns), .fz (.lst (ws.map encW)), .fz (spD (encShop (begunS ws))), .fz (spD (encShop (begunS ws)))] _ _
              walk_at "pd"
            · trivial
            · rfl
          · decide
          · rfl
          · rfl
          · rfl
        · decide
        · rfl
        · rfl
        · rfl
      · rfl
      · rfl
    · rfl
    · rfl
end
theorem all_mk {l : PySem.W.OpenLaw} {w : World} {K : PySem.W.Frag} {h : Heap} {mg : Str → Option Value} {fa f0 f1 f2 f3 f4 f5 f6 f7 f8 f9 f10 f11 f12 f13 f14 f15 f16 f17 f18 f19 f20 f21 f22 f23 f24 : Addr} (X : K.In h) (G : h.Ns mainGlobals mg) (hfa : mg "law" = some (.ref fa))
    {od0 an0 od1 an1 od2 an2 od3 an3 od4 an4 od5 an5 od6 an6 od7 an7 od8 an8 od9 an9 od10 an10 od11 an11 od12 an12 od13 an13 od14 an14 od15 an15 od16 an16 od17 an17 od18 an18 od19 an19 od20 an20 od21 an21 od22 an22 od23 an23 od24 an24 : Option Addr} {sl0 sl1 sl2 sl3 sl4 sl5 sl6 sl7 sl8 sl9 sl10 sl11 sl12 sl13 sl14 sl15 sl16 sl17 sl18 sl19 sl20 sl21 sl22 sl23 sl24 : Array (Option Value)} {oc0 kV0 dc0 pm0 cd0 ct0 oc1 kV1 dc1 pm1 cd1 ct1 oc2 kV2 dc2 pm2 cd2 ct2 oc3 kV3 dc3 pm3 cd3 ct3 oc4 kV4 dc4 pm4 cd4 ct4 oc5 kV5 dc5 pm5 cd5 ct5 oc6 kV6 dc6 pm6 cd6 ct6 oc7 kV7 dc7 pm7 cd7 ct7 oc8 kV8 dc8 pm8 cd8 ct8 oc9 kV9 dc9 pm9 cd9 ct9 oc10 kV10 dc10 pm10 cd10 ct10 oc11 kV11 dc11 pm11 cd11 ct11 oc12 kV12 dc12 pm12 cd12 ct12 oc13 kV13 dc13 pm13 cd13 ct13 oc14 kV14 dc14 pm14 cd14 ct14 oc15 kV15 dc15 pm15 cd15 ct15 oc16 kV16 dc16 pm16 cd16 ct16 oc17 kV17 dc17 pm17 cd17 ct17 oc18 kV18 dc18 pm18 cd18 ct18 oc19 kV19 dc19 pm19 cd19 ct19 oc20 kV20 dc20 pm20 cd20 ct20 oc21 kV21 dc21 pm21 cd21 ct21 oc22 kV22 dc22 pm22 cd22 ct22 oc23 kV23 dc23 pm23 cd23 ct23 oc24 kV24 dc24 pm24 cd24 ct24 : Value}
    {t_MOST_TICKS t_MOST_TOOL t_MOST_STEPS t_MOST_RANK t_MOST_START t_MOST_WORKERS : Tok}
    {e_HasteError e_TooMany e_BadWorker e_BadRank e_BadStart e_BadPlan : Addr}
    (a0 : PySem.W.nsIn K mainGlobals "tools_behind" = some (some (.ref f0))) (l0 : K.lookup f0 = some ⟨oc0, od0, .func (PySem.W.fnOf "tools_behind" "tools_behind" (defArgs s_tools_behind) (defBody s_tools_behind) (defScope s_tools_behind) .none kV0 dc0 pm0 an0 cd0 ct0), sl0⟩) (c0 : PySem.W.codeIn K cd0 "tools_behind" = true) (k0 : PySem.W.keepIn K (.ref f0) = true)
    (a1 : PySem.W.nsIn K mainGlobals "is_number" = some (some (.ref f1))) (l1 : K.lookup f1 = some ⟨oc1, od1, .func (PySem.W.fnOf "is_number" "is_number" (defArgs s_is_number) (defBody s_is_number) (defScope s_is_number) .none kV1 dc1 pm1 an1 cd1 ct1), sl1⟩) (c1 : PySem.W.codeIn K cd1 "is_number" = true) (k1 : PySem.W.keepIn K (.ref f1) = true)
    (a2 : PySem.W.nsIn K mainGlobals "shop_of" = some (some (.ref f2))) (l2 : K.lookup f2 = some ⟨oc2, od2, .func (PySem.W.fnOf "shop_of" "shop_of" (defArgs s_shop_of) (defBody s_shop_of) (defScope s_shop_of) .none kV2 dc2 pm2 an2 cd2 ct2), sl2⟩) (c2 : PySem.W.codeIn K cd2 "shop_of" = true) (k2 : PySem.W.keepIn K (.ref f2) = true)
    (a3 : PySem.W.nsIn K mainGlobals "is_step" = some (some (.ref f3))) (l3 : K.lookup f3 = some ⟨oc3, od3, .func (PySem.W.fnOf "is_step" "is_step" (defArgs s_is_step) (defBody s_is_step) (defScope s_is_step) .none kV3 dc3 pm3 an3 cd3 ct3), sl3⟩) (c3 : PySem.W.codeIn K cd3 "is_step" = true) (k3 : PySem.W.keepIn K (.ref f3) = true)
    (a4 : PySem.W.nsIn K mainGlobals "fits" = some (some (.ref f4))) (l4 : K.lookup f4 = some ⟨oc4, od4, .func (PySem.W.fnOf "fits" "fits" (defArgs s_fits) (defBody s_fits) (defScope s_fits) .none kV4 dc4 pm4 an4 cd4 ct4), sl4⟩) (c4 : PySem.W.codeIn K cd4 "fits" = true) (k4 : PySem.W.keepIn K (.ref f4) = true)
    (a5 : PySem.W.nsIn K mainGlobals "is_plan" = some (some (.ref f5))) (l5 : K.lookup f5 = some ⟨oc5, od5, .func (PySem.W.fnOf "is_plan" "is_plan" (defArgs s_is_plan) (defBody s_is_plan) (defScope s_is_plan) .none kV5 dc5 pm5 an5 cd5 ct5), sl5⟩) (c5 : PySem.W.codeIn K cd5 "is_plan" = true) (k5 : PySem.W.keepIn K (.ref f5) = true)
    (a6 : PySem.W.nsIn K mainGlobals "look_at" = some (some (.ref f6))) (l6 : K.lookup f6 = some ⟨oc6, od6, .func (PySem.W.fnOf "look_at" "look_at" (defArgs s_look_at) (defBody s_look_at) (defScope s_look_at) .none kV6 dc6 pm6 an6 cd6 ct6), sl6⟩) (c6 : PySem.W.codeIn K cd6 "look_at" = true) (k6 : PySem.W.keepIn K (.ref f6) = true)
    (a7 : PySem.W.nsIn K mainGlobals "begun" = some (some (.ref f7))) (l7 : K.lookup f7 = some ⟨oc7, od7, .func (PySem.W.fnOf "begun" "begun" (defArgs s_begun) (defBody s_begun) (defScope s_begun) .none kV7 dc7 pm7 an7 cd7 ct7), sl7⟩) (c7 : PySem.W.codeIn K cd7 "begun" = true) (k7 : PySem.W.keepIn K (.ref f7) = true)
    (a8 : PySem.W.nsIn K mainGlobals "_law_cell_at" = some (some (.ref f8))) (l8 : K.lookup f8 = some ⟨oc8, od8, .func (PySem.W.fnOf "_law_cell_at" "_law_cell_at" (defArgs s__law_cell_at) (defBody s__law_cell_at) (defScope s__law_cell_at) .none kV8 dc8 pm8 an8 cd8 ct8), sl8⟩) (c8 : PySem.W.codeIn K cd8 "_law_cell_at" = true) (k8 : PySem.W.keepIn K (.ref f8) = true)
    (a9 : PySem.W.nsIn K mainGlobals "_law_mixed" = some (some (.ref f9))) (l9 : K.lookup f9 = some ⟨oc9, od9, .func (PySem.W.fnOf "_law_mixed" "_law_mixed" (defArgs s__law_mixed) (defBody s__law_mixed) (defScope s__law_mixed) .none kV9 dc9 pm9 an9 cd9 ct9), sl9⟩) (c9 : PySem.W.codeIn K cd9 "_law_mixed" = true) (k9 : PySem.W.keepIn K (.ref f9) = true)
    (a10 : PySem.W.nsIn K mainGlobals "_law_alike" = some (some (.ref f10))) (l10 : K.lookup f10 = some ⟨oc10, od10, .func (PySem.W.fnOf "_law_alike" "_law_alike" (defArgs s__law_alike) (defBody s__law_alike) (defScope s__law_alike) .none kV10 dc10 pm10 an10 cd10 ct10), sl10⟩) (c10 : PySem.W.codeIn K cd10 "_law_alike" = true) (k10 : PySem.W.keepIn K (.ref f10) = true)
    (a11 : PySem.W.nsIn K mainGlobals "_law_spoilt" = some (some (.ref f11))) (l11 : K.lookup f11 = some ⟨oc11, od11, .func (PySem.W.fnOf "_law_spoilt" "_law_spoilt" (defArgs s__law_spoilt) (defBody s__law_spoilt) (defScope s__law_spoilt) .none kV11 dc11 pm11 an11 cd11 ct11), sl11⟩) (c11 : PySem.W.codeIn K cd11 "_law_spoilt" = true) (k11 : PySem.W.keepIn K (.ref f11) = true)
    (a12 : PySem.W.nsIn K mainGlobals "_law_plan" = some (some (.ref f12))) (l12 : K.lookup f12 = some ⟨oc12, od12, .func (PySem.W.fnOf "_law_plan" "_law_plan" (defArgs s__law_plan) (defBody s__law_plan) (defScope s__law_plan) .none kV12 dc12 pm12 an12 cd12 ct12), sl12⟩) (c12 : PySem.W.codeIn K cd12 "_law_plan" = true) (k12 : PySem.W.keepIn K (.ref f12) = true)
    (a13 : PySem.W.nsIn K mainGlobals "_law_ranks" = some (some (.ref f13))) (l13 : K.lookup f13 = some ⟨oc13, od13, .func (PySem.W.fnOf "_law_ranks" "_law_ranks" (defArgs s__law_ranks) (defBody s__law_ranks) (defScope s__law_ranks) .none kV13 dc13 pm13 an13 cd13 ct13), sl13⟩) (c13 : PySem.W.codeIn K cd13 "_law_ranks" = true) (k13 : PySem.W.keepIn K (.ref f13) = true)
    (a14 : PySem.W.nsIn K mainGlobals "_law_ladder" = some (some (.ref f14))) (l14 : K.lookup f14 = some ⟨oc14, od14, .func (PySem.W.fnOf "_law_ladder" "_law_ladder" (defArgs s__law_ladder) (defBody s__law_ladder) (defScope s__law_ladder) .none kV14 dc14 pm14 an14 cd14 ct14), sl14⟩) (c14 : PySem.W.codeIn K cd14 "_law_ladder" = true) (k14 : PySem.W.keepIn K (.ref f14) = true)
    (a15 : PySem.W.nsIn K mainGlobals "_law_workers" = some (some (.ref f15))) (l15 : K.lookup f15 = some ⟨oc15, od15, .func (PySem.W.fnOf "_law_workers" "_law_workers" (defArgs s__law_workers) (defBody s__law_workers) (defScope s__law_workers) .none kV15 dc15 pm15 an15 cd15 ct15), sl15⟩) (c15 : PySem.W.codeIn K cd15 "_law_workers" = true) (k15 : PySem.W.keepIn K (.ref f15) = true)
    (a16 : PySem.W.nsIn K mainGlobals "_law_whole" = some (some (.ref f16))) (l16 : K.lookup f16 = some ⟨oc16, od16, .func (PySem.W.fnOf "_law_whole" "_law_whole" (defArgs s__law_whole) (defBody s__law_whole) (defScope s__law_whole) .none kV16 dc16 pm16 an16 cd16 ct16), sl16⟩) (c16 : PySem.W.codeIn K cd16 "_law_whole" = true) (k16 : PySem.W.keepIn K (.ref f16) = true)
    (a17 : PySem.W.nsIn K mainGlobals "_law_bad_step" = some (some (.ref f17))) (l17 : K.lookup f17 = some ⟨oc17, od17, .func (PySem.W.fnOf "_law_bad_step" "_law_bad_step" (defArgs s__law_bad_step) (defBody s__law_bad_step) (defScope s__law_bad_step) .none kV17 dc17 pm17 an17 cd17 ct17), sl17⟩) (c17 : PySem.W.codeIn K cd17 "_law_bad_step" = true) (k17 : PySem.W.keepIn K (.ref f17) = true)
    (a18 : PySem.W.nsIn K mainGlobals "_law_bad_plan" = some (some (.ref f18))) (l18 : K.lookup f18 = some ⟨oc18, od18, .func (PySem.W.fnOf "_law_bad_plan" "_law_bad_plan" (defArgs s__law_bad_plan) (defBody s__law_bad_plan) (defScope s__law_bad_plan) .none kV18 dc18 pm18 an18 cd18 ct18), sl18⟩) (c18 : PySem.W.codeIn K cd18 "_law_bad_plan" = true) (k18 : PySem.W.keepIn K (.ref f18) = true)
    (a19 : PySem.W.nsIn K mainGlobals "_law_spoilt_worker" = some (some (.ref f19))) (l19 : K.lookup f19 = some ⟨oc19, od19, .func (PySem.W.fnOf "_law_spoilt_worker" "_law_spoilt_worker" (defArgs s__law_spoilt_worker) (defBody s__law_spoilt_worker) (defScope s__law_spoilt_worker) .none kV19 dc19 pm19 an19 cd19 ct19), sl19⟩) (c19 : PySem.W.codeIn K cd19 "_law_spoilt_worker" = true) (k19 : PySem.W.keepIn K (.ref f19) = true)
    (a20 : PySem.W.nsIn K mainGlobals "_law_built" = some (some (.ref f20))) (l20 : K.lookup f20 = some ⟨oc20, od20, .func (PySem.W.fnOf "_law_built" "_law_built" (defArgs s__law_built) (defBody s__law_built) (defScope s__law_built) .none kV20 dc20 pm20 an20 cd20 ct20), sl20⟩) (c20 : PySem.W.codeIn K cd20 "_law_built" = true) (k20 : PySem.W.keepIn K (.ref f20) = true)
    (a21 : PySem.W.nsIn K mainGlobals "_law_plan_good" = some (some (.ref f21))) (l21 : K.lookup f21 = some ⟨oc21, od21, .func (PySem.W.fnOf "_law_plan_good" "_law_plan_good" (defArgs s__law_plan_good) (defBody s__law_plan_good) (defScope s__law_plan_good) .none kV21 dc21 pm21 an21 cd21 ct21), sl21⟩) (c21 : PySem.W.codeIn K cd21 "_law_plan_good" = true) (k21 : PySem.W.keepIn K (.ref f21) = true)
    (a22 : PySem.W.nsIn K mainGlobals "_law_due" = some (some (.ref f22))) (l22 : K.lookup f22 = some ⟨oc22, od22, .func (PySem.W.fnOf "_law_due" "_law_due" (defArgs s__law_due) (defBody s__law_due) (defScope s__law_due) .none kV22 dc22 pm22 an22 cd22 ct22), sl22⟩) (c22 : PySem.W.codeIn K cd22 "_law_due" = true) (k22 : PySem.W.keepIn K (.ref f22) = true)
    (a23 : PySem.W.nsIn K mainGlobals "_law_told" = some (some (.ref f23))) (l23 : K.lookup f23 = some ⟨oc23, od23, .func (PySem.W.fnOf "_law_told" "_law_told" (defArgs s__law_told) (defBody s__law_told) (defScope s__law_told) .none kV23 dc23 pm23 an23 cd23 ct23), sl23⟩) (c23 : PySem.W.codeIn K cd23 "_law_told" = true) (k23 : PySem.W.keepIn K (.ref f23) = true)
    (a24 : PySem.W.nsIn K mainGlobals "law" = some (some (.ref f24))) (l24 : K.lookup f24 = some ⟨oc24, od24, .func (PySem.W.fnOf "law" "law" (defArgs s_law) (defBody s_law) (defScope s_law) .none kV24 dc24 pm24 an24 cd24 ct24), sl24⟩) (c24 : PySem.W.codeIn K cd24 "law" = true) (k24 : PySem.W.keepIn K (.ref f24) = true)
    (z_isinstance : PySem.W.nsIn K mainGlobals "isinstance" = some none)
    (z_int : PySem.W.nsIn K mainGlobals "int" = some none)
    (z_bool : PySem.W.nsIn K mainGlobals "bool" = some none)
    (z_list : PySem.W.nsIn K mainGlobals "list" = some none)
    (z_tuple : PySem.W.nsIn K mainGlobals "tuple" = some none)
    (z_str : PySem.W.nsIn K mainGlobals "str" = some none)
    (z_len : PySem.W.nsIn K mainGlobals "len" = some none)
    (z_max : PySem.W.nsIn K mainGlobals "max" = some none)
    (z_range : PySem.W.nsIn K mainGlobals "range" = some none)
    (z_all : PySem.W.nsIn K mainGlobals "all" = some none)
    (z_min : PySem.W.nsIn K mainGlobals "min" = some none)
    (z_sorted : PySem.W.nsIn K mainGlobals "sorted" = some none)
    (q_MOST_TICKS : PySem.W.nsIn K mainGlobals "MOST_TICKS" = some (some (.int 100 t_MOST_TICKS)))
    (q_MOST_TOOL : PySem.W.nsIn K mainGlobals "MOST_TOOL" = some (some (.int 9 t_MOST_TOOL)))
    (q_MOST_STEPS : PySem.W.nsIn K mainGlobals "MOST_STEPS" = some (some (.int 40 t_MOST_STEPS)))
    (q_MOST_RANK : PySem.W.nsIn K mainGlobals "MOST_RANK" = some (some (.int 1000000 t_MOST_RANK)))
    (q_MOST_START : PySem.W.nsIn K mainGlobals "MOST_START" = some (some (.int 1000 t_MOST_START)))
    (q_MOST_WORKERS : PySem.W.nsIn K mainGlobals "MOST_WORKERS" = some (some (.int 8 t_MOST_WORKERS)))
    (ga_HasteError : PySem.W.nsIn K mainGlobals "HasteError" = some (some (.ref e_HasteError))) (gq_HasteError : PySem.W.excIn K e_HasteError [.type "ValueError", .type "Exception", .type "BaseException", .type "object"] "ValueError.__new__" = true) (gk_HasteError : PySem.W.keepIn K (.ref e_HasteError) = true) (gb_HasteError : PySem.W.subIn K (.ref e_HasteError) (.type "BaseException") = some true) (gt_HasteError : PySem.W.typeIn K (.ref e_HasteError) = some (.type "type")) (gd_HasteError : PySem.W.hasDictIn K e_HasteError = true)
    (ga_TooMany : PySem.W.nsIn K mainGlobals "TooMany" = some (some (.ref e_TooMany))) (gq_TooMany : PySem.W.excIn K e_TooMany [.type "ValueError", .type "Exception", .type "BaseException", .type "object"] "ValueError.__new__" = true) (gk_TooMany : PySem.W.keepIn K (.ref e_TooMany) = true) (gb_TooMany : PySem.W.subIn K (.ref e_TooMany) (.type "BaseException") = some true) (gt_TooMany : PySem.W.typeIn K (.ref e_TooMany) = some (.type "type")) (gd_TooMany : PySem.W.hasDictIn K e_TooMany = true)
    (ga_BadWorker : PySem.W.nsIn K mainGlobals "BadWorker" = some (some (.ref e_BadWorker))) (gq_BadWorker : PySem.W.excIn K e_BadWorker [.type "ValueError", .type "Exception", .type "BaseException", .type "object"] "ValueError.__new__" = true) (gk_BadWorker : PySem.W.keepIn K (.ref e_BadWorker) = true) (gb_BadWorker : PySem.W.subIn K (.ref e_BadWorker) (.type "BaseException") = some true) (gt_BadWorker : PySem.W.typeIn K (.ref e_BadWorker) = some (.type "type")) (gd_BadWorker : PySem.W.hasDictIn K e_BadWorker = true)
    (ga_BadRank : PySem.W.nsIn K mainGlobals "BadRank" = some (some (.ref e_BadRank))) (gq_BadRank : PySem.W.excIn K e_BadRank [.type "ValueError", .type "Exception", .type "BaseException", .type "object"] "ValueError.__new__" = true) (gk_BadRank : PySem.W.keepIn K (.ref e_BadRank) = true) (gb_BadRank : PySem.W.subIn K (.ref e_BadRank) (.type "BaseException") = some true) (gt_BadRank : PySem.W.typeIn K (.ref e_BadRank) = some (.type "type")) (gd_BadRank : PySem.W.hasDictIn K e_BadRank = true)
    (ga_BadStart : PySem.W.nsIn K mainGlobals "BadStart" = some (some (.ref e_BadStart))) (gq_BadStart : PySem.W.excIn K e_BadStart [.type "ValueError", .type "Exception", .type "BaseException", .type "object"] "ValueError.__new__" = true) (gk_BadStart : PySem.W.keepIn K (.ref e_BadStart) = true) (gb_BadStart : PySem.W.subIn K (.ref e_BadStart) (.type "BaseException") = some true) (gt_BadStart : PySem.W.typeIn K (.ref e_BadStart) = some (.type "type")) (gd_BadStart : PySem.W.hasDictIn K e_BadStart = true)
    (ga_BadPlan : PySem.W.nsIn K mainGlobals "BadPlan" = some (some (.ref e_BadPlan))) (gq_BadPlan : PySem.W.excIn K e_BadPlan [.type "ValueError", .type "Exception", .type "BaseException", .type "object"] "ValueError.__new__" = true) (gk_BadPlan : PySem.W.keepIn K (.ref e_BadPlan) = true) (gb_BadPlan : PySem.W.subIn K (.ref e_BadPlan) (.type "BaseException") = some true) (gt_BadPlan : PySem.W.typeIn K (.ref e_BadPlan) = some (.type "type")) (gd_BadPlan : PySem.W.hasDictIn K e_BadPlan = true)
    (gh_TooMany : PySem.W.subIn K (.ref e_TooMany) (.ref e_HasteError) = some true)
    (gs_TooMany_TooMany : PySem.W.subIn K (.ref e_TooMany) (.ref e_TooMany) = some true)
    (gs_TooMany_BadWorker : PySem.W.subIn K (.ref e_TooMany) (.ref e_BadWorker) = some false)
    (gs_TooMany_BadRank : PySem.W.subIn K (.ref e_TooMany) (.ref e_BadRank) = some false)
    (gs_TooMany_BadStart : PySem.W.subIn K (.ref e_TooMany) (.ref e_BadStart) = some false)
    (gs_TooMany_BadPlan : PySem.W.subIn K (.ref e_TooMany) (.ref e_BadPlan) = some false)
    (gh_BadWorker : PySem.W.subIn K (.ref e_BadWorker) (.ref e_HasteError) = some true)
    (gs_BadWorker_TooMany : PySem.W.subIn K (.ref e_BadWorker) (.ref e_TooMany) = some false)
    (gs_BadWorker_BadWorker : PySem.W.subIn K (.ref e_BadWorker) (.ref e_BadWorker) = some true)
    (gs_BadWorker_BadRank : PySem.W.subIn K (.ref e_BadWorker) (.ref e_BadRank) = some false)
    (gs_BadWorker_BadStart : PySem.W.subIn K (.ref e_BadWorker) (.ref e_BadStart) = some false)
    (gs_BadWorker_BadPlan : PySem.W.subIn K (.ref e_BadWorker) (.ref e_BadPlan) = some false)
    (gh_BadRank : PySem.W.subIn K (.ref e_BadRank) (.ref e_HasteError) = some true)
    (gs_BadRank_TooMany : PySem.W.subIn K (.ref e_BadRank) (.ref e_TooMany) = some false)
    (gs_BadRank_BadWorker : PySem.W.subIn K (.ref e_BadRank) (.ref e_BadWorker) = some false)
    (gs_BadRank_BadRank : PySem.W.subIn K (.ref e_BadRank) (.ref e_BadRank) = some true)
    (gs_BadRank_BadStart : PySem.W.subIn K (.ref e_BadRank) (.ref e_BadStart) = some false)
    (gs_BadRank_BadPlan : PySem.W.subIn K (.ref e_BadRank) (.ref e_BadPlan) = some false)
    (gh_BadStart : PySem.W.subIn K (.ref e_BadStart) (.ref e_HasteError) = some true)
    (gs_BadStart_TooMany : PySem.W.subIn K (.ref e_BadStart) (.ref e_TooMany) = some false)
    (gs_BadStart_BadWorker : PySem.W.subIn K (.ref e_BadStart) (.ref e_BadWorker) = some false)
    (gs_BadStart_BadRank : PySem.W.subIn K (.ref e_BadStart) (.ref e_BadRank) = some false)
    (gs_BadStart_BadStart : PySem.W.subIn K (.ref e_BadStart) (.ref e_BadStart) = some true)
    (gs_BadStart_BadPlan : PySem.W.subIn K (.ref e_BadStart) (.ref e_BadPlan) = some false)
    (gh_BadPlan : PySem.W.subIn K (.ref e_BadPlan) (.ref e_HasteError) = some true)
    (gs_BadPlan_TooMany : PySem.W.subIn K (.ref e_BadPlan) (.ref e_TooMany) = some false)
    (gs_BadPlan_BadWorker : PySem.W.subIn K (.ref e_BadPlan) (.ref e_BadWorker) = some false)
    (gs_BadPlan_BadRank : PySem.W.subIn K (.ref e_BadPlan) (.ref e_BadRank) = some false)
    (gs_BadPlan_BadStart : PySem.W.subIn K (.ref e_BadPlan) (.ref e_BadStart) = some false)
    (gs_BadPlan_BadPlan : PySem.W.subIn K (.ref e_BadPlan) (.ref e_BadPlan) = some true)
    (xn : PySem.W.specialIn K (.builtin "object.__class__") "__get__" = some (some (.builtin "getset_descriptor.__get__"))) (xt : PySem.W.takesIn K (.builtin "object.__class__") = some true)
    (xg_TooMany : PySem.W.findIn K (.ref e_TooMany) "__getattribute__" = some (some (.builtin "BaseException.__getattribute__"))) (xk_TooMany : PySem.W.findIn K (.ref e_TooMany) "__getattr__" = some none) (xa_TooMany : PySem.W.findIn K (.ref e_TooMany) "__class__" = some (some (.builtin "object.__class__"))) (xm_TooMany : PySem.W.mroIn K e_TooMany (.type "object") = some true) (xv_TooMany : PySem.W.subIn K (.ref e_TooMany) (.type "ValueError") = some true)
    (xg_BadWorker : PySem.W.findIn K (.ref e_BadWorker) "__getattribute__" = some (some (.builtin "BaseException.__getattribute__"))) (xk_BadWorker : PySem.W.findIn K (.ref e_BadWorker) "__getattr__" = some none) (xa_BadWorker : PySem.W.findIn K (.ref e_BadWorker) "__class__" = some (some (.builtin "object.__class__"))) (xm_BadWorker : PySem.W.mroIn K e_BadWorker (.type "object") = some true) (xv_BadWorker : PySem.W.subIn K (.ref e_BadWorker) (.type "ValueError") = some true)
    (xg_BadRank : PySem.W.findIn K (.ref e_BadRank) "__getattribute__" = some (some (.builtin "BaseException.__getattribute__"))) (xk_BadRank : PySem.W.findIn K (.ref e_BadRank) "__getattr__" = some none) (xa_BadRank : PySem.W.findIn K (.ref e_BadRank) "__class__" = some (some (.builtin "object.__class__"))) (xm_BadRank : PySem.W.mroIn K e_BadRank (.type "object") = some true) (xv_BadRank : PySem.W.subIn K (.ref e_BadRank) (.type "ValueError") = some true)
    (xg_BadStart : PySem.W.findIn K (.ref e_BadStart) "__getattribute__" = some (some (.builtin "BaseException.__getattribute__"))) (xk_BadStart : PySem.W.findIn K (.ref e_BadStart) "__getattr__" = some none) (xa_BadStart : PySem.W.findIn K (.ref e_BadStart) "__class__" = some (some (.builtin "object.__class__"))) (xm_BadStart : PySem.W.mroIn K e_BadStart (.type "object") = some true) (xv_BadStart : PySem.W.subIn K (.ref e_BadStart) (.type "ValueError") = some true)
    (xg_BadPlan : PySem.W.findIn K (.ref e_BadPlan) "__getattribute__" = some (some (.builtin "BaseException.__getattribute__"))) (xk_BadPlan : PySem.W.findIn K (.ref e_BadPlan) "__getattr__" = some none) (xa_BadPlan : PySem.W.findIn K (.ref e_BadPlan) "__class__" = some (some (.builtin "object.__class__"))) (xm_BadPlan : PySem.W.mroIn K e_BadPlan (.type "object") = some true) (xv_BadPlan : PySem.W.subIn K (.ref e_BadPlan) (.type "ValueError") = some true)
    : ∃ fd : FuncData, (∀ (s : Shared) (v : Value), BindsTo s fd ⟨[v], []⟩ [("_law_script", v)]) ∧ ∀ base : Heap, K.In base → base.Ns mainGlobals mg → FnOk l.prog w K mg base (L2.CX l.prog w) 62 fa fd ["_law_script"] (SpD K f_law) := by
  have e := hfa.symm.trans (PySem.W.mg_of X G a24)
  cases e
  have F0 := fun_mk (st := s_tools_behind) l0 c0 k0
  have D0 : Def K mg "tools_behind" s_tools_behind ["tools", "step"] := def_mk X G a0 F0 (F0.binds (ps := ["tools", "step"]) fun _ _ _ _ _ _ us hl => match us, hl with | [_, _], _ => rfl)
  have F1 := fun_mk (st := s_is_number) l1 c1 k1
  have D1 : Def K mg "is_number" s_is_number ["thing", "least", "most"] := def_mk X G a1 F1 (F1.binds (ps := ["thing", "least", "most"]) fun _ _ _ _ _ _ us hl => match us, hl with | [_, _, _], _ => rfl)
  have F2 := fun_mk (st := s_shop_of) l2 c2 k2
  have D2 : Def K mg "shop_of" s_shop_of ["workers", "now", "spots"] := def_mk X G a2 F2 (F2.binds (ps := ["workers", "now", "spots"]) fun _ _ _ _ _ _ us hl => match us, hl with | [_, _, _], _ => rfl)
  have F3 := fun_mk (st := s_is_step) l3 c3 k3
  have D3 : Def K mg "is_step" s_is_step ["thing"] := def_mk X G a3 F3 (F3.binds (ps := ["thing"]) fun _ _ _ _ _ _ us hl => match us, hl with | [_], _ => rfl)
  have F4 := fun_mk (st := s_fits) l4 c4 k4
  have D4 : Def K mg "fits" s_fits ["tools", "step"] := def_mk X G a4 F4 (F4.binds (ps := ["tools", "step"]) fun _ _ _ _ _ _ us hl => match us, hl with | [_, _], _ => rfl)
  have F5 := fun_mk (st := s_is_plan) l5 c5 k5
  have D5 : Def K mg "is_plan" s_is_plan ["thing"] := def_mk X G a5 F5 (F5.binds (ps := ["thing"]) fun _ _ _ _ _ _ us hl => match us, hl with | [_], _ => rfl)
  have F6 := fun_mk (st := s_look_at) l6 c6 k6
  have D6 : Def K mg "look_at" s_look_at ["worker", "ranks"] := def_mk X G a6 F6 (F6.binds (ps := ["worker", "ranks"]) fun _ _ _ _ _ _ us hl => match us, hl with | [_, _], _ => rfl)
  have F7 := fun_mk (st := s_begun) l7 c7 k7
  have D7 : Def K mg "begun" s_begun ["workers"] := def_mk X G a7 F7 (F7.binds (ps := ["workers"]) fun _ _ _ _ _ _ us hl => match us, hl with | [_], _ => rfl)
  have F8 := fun_mk (st := s__law_cell_at) l8 c8 k8
  have D8 : Def K mg "_law_cell_at" s__law_cell_at ["_law_script", "_law_k"] := def_mk X G a8 F8 (F8.binds (ps := ["_law_script", "_law_k"]) fun _ _ _ _ _ _ us hl => match us, hl with | [_, _], _ => rfl)
  have F9 := fun_mk (st := s__law_mixed) l9 c9 k9
  have D9 : Def K mg "_law_mixed" s__law_mixed ["_law_cell", "_law_k"] := def_mk X G a9 F9 (F9.binds (ps := ["_law_cell", "_law_k"]) fun _ _ _ _ _ _ us hl => match us, hl with | [_, _], _ => rfl)
  have F10 := fun_mk (st := s__law_alike) l10 c10 k10
  have D10 : Def K mg "_law_alike" s__law_alike ["_law_found", "_law_due_here"] := def_mk X G a10 F10 (F10.binds (ps := ["_law_found", "_law_due_here"]) fun _ _ _ _ _ _ us hl => match us, hl with | [_, _], _ => rfl)
  have F11 := fun_mk (st := s__law_spoilt) l11 c11 k11
  have D11 : Def K mg "_law_spoilt" s__law_spoilt ["_law_thing"] := def_mk X G a11 F11 (F11.binds (ps := ["_law_thing"]) fun _ _ _ _ _ _ us hl => match us, hl with | [_], _ => rfl)
  have F12 := fun_mk (st := s__law_plan) l12 c12 k12
  have D12 : Def K mg "_law_plan" s__law_plan ["_law_number", "_law_most"] := def_mk X G a12 F12 (F12.binds (ps := ["_law_number", "_law_most"]) fun _ _ _ _ _ _ us hl => match us, hl with | [_, _], _ => rfl)
  have F13 := fun_mk (st := s__law_ranks) l13 c13 k13
  have D13 : Def K mg "_law_ranks" s__law_ranks ["_law_number", "_law_many"] := def_mk X G a13 F13 (F13.binds (ps := ["_law_number", "_law_many"]) fun _ _ _ _ _ _ us hl => match us, hl with | [_, _], _ => rfl)
  have F14 := fun_mk (st := s__law_ladder) l14 c14 k14
  have D14 : Def K mg "_law_ladder" s__law_ladder ["_law_k", "_law_many", "_law_number"] := def_mk X G a14 F14 (F14.binds (ps := ["_law_k", "_law_many", "_law_number"]) fun _ _ _ _ _ _ us hl => match us, hl with | [_, _, _], _ => rfl)
  have F15 := fun_mk (st := s__law_workers) l15 c15 k15
  have D15 : Def K mg "_law_workers" s__law_workers ["_law_script", "_law_most", "_law_late"] := def_mk X G a15 F15 (F15.binds (ps := ["_law_script", "_law_most", "_law_late"]) fun _ _ _ _ _ _ us hl => match us, hl with | [_, _, _], _ => rfl)
  have F16 := fun_mk (st := s__law_whole) l16 c16 k16
  have D16 : Def K mg "_law_whole" s__law_whole ["_law_found"] := def_mk X G a16 F16 (F16.binds (ps := ["_law_found"]) fun _ _ _ _ _ _ us hl => match us, hl with | [_], _ => rfl)
  have F17 := fun_mk (st := s__law_bad_step) l17 c17 k17
  have D17 : Def K mg "_law_bad_step" s__law_bad_step ["_law_number"] := def_mk X G a17 F17 (F17.binds (ps := ["_law_number"]) fun _ _ _ _ _ _ us hl => match us, hl with | [_], _ => rfl)
  have F18 := fun_mk (st := s__law_bad_plan) l18 c18 k18
  have D18 : Def K mg "_law_bad_plan" s__law_bad_plan ["_law_plan_here", "_law_number"] := def_mk X G a18 F18 (F18.binds (ps := ["_law_plan_here", "_law_number"]) fun _ _ _ _ _ _ us hl => match us, hl with | [_, _], _ => rfl)
  have F19 := fun_mk (st := s__law_spoilt_worker) l19 c19 k19
  have D19 : Def K mg "_law_spoilt_worker" s__law_spoilt_worker ["_law_workers_here", "_law_number"] := def_mk X G a19 F19 (F19.binds (ps := ["_law_workers_here", "_law_number"]) fun _ _ _ _ _ _ us hl => match us, hl with | [_, _], _ => rfl)
  have F20 := fun_mk (st := s__law_built) l20 c20 k20
  have D20 : Def K mg "_law_built" s__law_built ["_law_script"] := def_mk X G a20 F20 (F20.binds (ps := ["_law_script"]) fun _ _ _ _ _ _ us hl => match us, hl with | [_], _ => rfl)
  have F21 := fun_mk (st := s__law_plan_good) l21 c21 k21
  have D21 : Def K mg "_law_plan_good" s__law_plan_good ["_law_plan_here"] := def_mk X G a21 F21 (F21.binds (ps := ["_law_plan_here"]) fun _ _ _ _ _ _ us hl => match us, hl with | [_], _ => rfl)
  have F22 := fun_mk (st := s__law_due) l22 c22 k22
  have D22 : Def K mg "_law_due" s__law_due ["_law_workers_here"] := def_mk X G a22 F22 (F22.binds (ps := ["_law_workers_here"]) fun _ _ _ _ _ _ us hl => match us, hl with | [_], _ => rfl)
  have F23 := fun_mk (st := s__law_told) l23 c23 k23
  have D23 : Def K mg "_law_told" s__law_told ["_law_workers_here", "_law_way"] := def_mk X G a23 F23 (F23.binds (ps := ["_law_workers_here", "_law_way"]) fun _ _ _ _ _ _ us hl => match us, hl with | [_, _], _ => rfl)
  have F24 := fun_mk (st := s_law) l24 c24 k24
  have m_isinstance := PySem.W.mg_none_of X G z_isinstance
  have m_int := PySem.W.mg_none_of X G z_int
  have m_bool := PySem.W.mg_none_of X G z_bool
  have m_list := PySem.W.mg_none_of X G z_list
  have m_tuple := PySem.W.mg_none_of X G z_tuple
  have m_str := PySem.W.mg_none_of X G z_str
  have m_len := PySem.W.mg_none_of X G z_len
  have m_max := PySem.W.mg_none_of X G z_max
  have m_range := PySem.W.mg_none_of X G z_range
  have m_all := PySem.W.mg_none_of X G z_all
  have m_min := PySem.W.mg_none_of X G z_min
  have m_sorted := PySem.W.mg_none_of X G z_sorted
  have n_MOST_TICKS := conI_mk X G q_MOST_TICKS
  have n_MOST_TOOL := conI_mk X G q_MOST_TOOL
  have n_MOST_STEPS := conI_mk X G q_MOST_STEPS
  have n_MOST_RANK := conI_mk X G q_MOST_RANK
  have n_MOST_START := conI_mk X G q_MOST_START
  have n_MOST_WORKERS := conI_mk X G q_MOST_WORKERS
  obtain ⟨T, t5, t6, tI⟩ : ∃ T : Excs K mg, (T.five) ∧ (True) ∧ ExcI T := ⟨{
    C := fun b => match b with | .tooMany => e_TooMany | .worker => e_BadWorker | .rank => e_BadRank | .start => e_BadStart | .plan => e_BadPlan | .noWorker => e_HasteError
    H := e_HasteError
    S := fun b => match b with | .tooMany => true | .worker => true | .rank => true | .start => true | .plan => true | .noWorker => false
    one := fun b h => match b, h with | .tooMany, h => ⟨PySem.W.mg_of X G ga_TooMany, gq_TooMany, gk_TooMany, gb_TooMany, gt_TooMany⟩ | .worker, h => ⟨PySem.W.mg_of X G ga_BadWorker, gq_BadWorker, gk_BadWorker, gb_BadWorker, gt_BadWorker⟩ | .rank, h => ⟨PySem.W.mg_of X G ga_BadRank, gq_BadRank, gk_BadRank, gb_BadRank, gt_BadRank⟩ | .start, h => ⟨PySem.W.mg_of X G ga_BadStart, gq_BadStart, gk_BadStart, gb_BadStart, gt_BadStart⟩ | .plan, h => ⟨PySem.W.mg_of X G ga_BadPlan, gq_BadPlan, gk_BadPlan, gb_BadPlan, gt_BadPlan⟩ | .noWorker, h => nomatch h
    oneH := ⟨PySem.W.mg_of X G ga_HasteError, gq_HasteError, gk_HasteError, gb_HasteError, gt_HasteError⟩
    d := fun b h => match b, h with | .tooMany, h => gd_TooMany | .worker, h => gd_BadWorker | .rank, h => gd_BadRank | .start, h => gd_BadStart | .plan, h => gd_BadPlan | .noWorker, h => nomatch h
    dH := gd_HasteError
    s := fun a b ha hb => match a, b, ha, hb with
      | .tooMany, .tooMany, ha, hb => gs_TooMany_TooMany
      | .tooMany, .worker, ha, hb => gs_TooMany_BadWorker
      | .tooMany, .rank, ha, hb => gs_TooMany_BadRank
      | .tooMany, .start, ha, hb => gs_TooMany_BadStart
      | .tooMany, .plan, ha, hb => gs_TooMany_BadPlan
      | .tooMany, .noWorker, ha, hb => nomatch hb
      | .worker, .tooMany, ha, hb => gs_BadWorker_TooMany
      | .worker, .worker, ha, hb => gs_BadWorker_BadWorker
      | .worker, .rank, ha, hb => gs_BadWorker_BadRank
      | .worker, .start, ha, hb => gs_BadWorker_BadStart
      | .worker, .plan, ha, hb => gs_BadWorker_BadPlan
      | .worker, .noWorker, ha, hb => nomatch hb
      | .rank, .tooMany, ha, hb => gs_BadRank_TooMany
      | .rank, .worker, ha, hb => gs_BadRank_BadWorker
      | .rank, .rank, ha, hb => gs_BadRank_BadRank
      | .rank, .start, ha, hb => gs_BadRank_BadStart
      | .rank, .plan, ha, hb => gs_BadRank_BadPlan
      | .rank, .noWorker, ha, hb => nomatch hb
      | .start, .tooMany, ha, hb => gs_BadStart_TooMany
      | .start, .worker, ha, hb => gs_BadStart_BadWorker
      | .start, .rank, ha, hb => gs_BadStart_BadRank
      | .start, .start, ha, hb => gs_BadStart_BadStart
      | .start, .plan, ha, hb => gs_BadStart_BadPlan
      | .start, .noWorker, ha, hb => nomatch hb
      | .plan, .tooMany, ha, hb => gs_BadPlan_TooMany
      | .plan, .worker, ha, hb => gs_BadPlan_BadWorker
      | .plan, .rank, ha, hb => gs_BadPlan_BadRank
      | .plan, .start, ha, hb => gs_BadPlan_BadStart
      | .plan, .plan, ha, hb => gs_BadPlan_BadPlan
      | .plan, .noWorker, ha, hb => nomatch hb
      | .noWorker, .tooMany, ha, hb => nomatch ha
      | .noWorker, .worker, ha, hb => nomatch ha
      | .noWorker, .rank, ha, hb => nomatch ha
      | .noWorker, .start, ha, hb => nomatch ha
      | .noWorker, .plan, ha, hb => nomatch ha
      | .noWorker, .noWorker, ha, hb => nomatch ha
    sH := (fun b h => match b, h with | .tooMany, h => gh_TooMany | .worker, h => gh_BadWorker | .rank, h => gh_BadRank | .start, h => gh_BadStart | .plan, h => gh_BadPlan | .noWorker, h => nomatch h) }, (fun b h => match b, h with | .tooMany, h => rfl | .worker, h => rfl | .rank, h => rfl | .start, h => rfl | .plan, h => rfl | .noWorker, h => absurd rfl h), trivial, ⟨xn, xt, (fun b h => match b, h with | .tooMany, h => xg_TooMany | .worker, h => xg_BadWorker | .rank, h => xg_BadRank | .start, h => xg_BadStart | .plan, h => xg_BadPlan | .noWorker, h => nomatch h), (fun b h => match b, h with | .tooMany, h => xk_TooMany | .worker, h => xk_BadWorker | .rank, h => xk_BadRank | .start, h => xk_BadStart | .plan, h => xk_BadPlan | .noWorker, h => nomatch h), (fun b h => match b, h with | .tooMany, h => xa_TooMany | .worker, h => xa_BadWorker | .rank, h => xa_BadRank | .start, h => xa_BadStart | .plan, h => xa_BadPlan | .noWorker, h => nomatch h), (fun b h => match b, h with | .tooMany, h => xm_TooMany | .worker, h => xm_BadWorker | .rank, h => xm_BadRank | .start, h => xm_BadStart | .plan, h => xm_BadPlan | .noWorker, h => nomatch h), (fun b h => match b, h with | .tooMany, h => xv_TooMany | .worker, h => xv_BadWorker | .rank, h => xv_BadRank | .start, h => xv_BadStart | .plan, h => xv_BadPlan | .noWorker, h => nomatch h)⟩⟩
  refine ⟨PySem.W.fnOf "law" "law" (defArgs s_law) (defBody s_law) (defScope s_law) .none kV24 dc24 pm24 an24 cd24 ct24, fun s v => .of_eq rfl, fun base _ _ => ?_⟩
  have O_tools_behind : Ok l.prog w K mg base 1 "tools_behind" f_tools_behind := ok_tools_behind D0 
  have O_is_number : Ok l.prog w K mg base 1 "is_number" f_is_number := ok_is_number D1 m_isinstance m_int m_bool
  have O_shop_of : Ok l.prog w K mg base 1 "shop_of" f_shop_of := ok_shop_of D2 m_list
  have Ot_shop_of : OkT l.prog w K mg base 1 "shop_of" t_shop_of := okt_shop_of D2 m_list
  have O_is_step : Ok l.prog w K mg base 2 "is_step" f_is_step := ok_is_step D3 (O_is_number.mono (by decide)) n_MOST_TICKS n_MOST_TOOL m_isinstance m_tuple m_str m_len
  have O_fits : Ok l.prog w K mg base 1 "fits" f_fits := ok_fits D4 m_max
  have O_is_plan : Ok l.prog w K mg base 3 "is_plan" f_is_plan := ok_is_plan D5 (O_is_step.mono (by decide)) (O_fits.mono (by decide)) (O_tools_behind.mono (by decide)) n_MOST_STEPS m_isinstance m_list m_len
  have O_look_at : Ok l.prog w K mg base 4 "look_at" f_look_at := ok_look_at D6 (O_is_number.mono (by decide)) (O_is_plan.mono (by decide)) n_MOST_RANK n_MOST_START m_isinstance m_tuple m_len
  have O_begun : Ok l.prog w K mg base 5 "begun" f_begun := ok_begun D7 (O_look_at.mono (by decide)) (O_shop_of.mono (by decide)) n_MOST_WORKERS m_len
  have Ot_begun : OkT l.prog w K mg base 5 "begun" t_begun := okt_begun D7 (O_look_at.mono (by decide)) (Ot_shop_of.mono (by decide)) n_MOST_WORKERS m_len
  have Ox_look_at : OkX l.prog w K mg base 4 "look_at" (g_look_at T) := okx_look_at D6 T t5 (O_is_number.mono (by decide)) (O_is_plan.mono (by decide)) n_MOST_RANK n_MOST_START m_isinstance m_tuple m_len
  have Ox_begun : OkX l.prog w K mg base 5 "begun" (g_begun T) := okx_begun D7 T t5 (O_look_at.mono (by decide)) (Ox_look_at.mono (by decide)) n_MOST_WORKERS m_len
  have O_cell : Ok l.prog w K mg base 1 "_law_cell_at" f_cell := ok_cell D8 m_len
  have O_mixed : Ok l.prog w K mg base 1 "_law_mixed" f_mixed := ok_mixed D9 
  have O_alike : ∀ n, Ok l.prog w K mg base (n + 1) "_law_alike" (f_alike n) := ok_alike D10 m_isinstance m_int m_bool m_str m_list m_tuple m_len m_range m_all
  have Os_spoilt : ∀ n, OkS l.prog w K mg base (n + 1) "_law_spoilt" (f_spo n) := oks_spoilt D11 m_isinstance m_list m_tuple
  have O_plan : Ok l.prog w K mg base 2 "_law_plan" (f_plan 97) := ok_plan D12 (O_mixed.mono (by decide)) m_max m_min m_int m_len m_range
  have O_ranks : Ok l.prog w K mg base 2 "_law_ranks" f_ranks := ok_ranks D13 (O_mixed.mono (by decide)) m_range
  have O_ladder : Ok l.prog w K mg base 1 "_law_ladder" f_ladder := ok_ladder D14 
  have O_workers : Ok l.prog w K mg base 3 "_law_workers" (f_workers 97) := ok_workers D15 (O_cell.mono (by decide)) (O_mixed.mono (by decide)) (O_plan.mono (by decide)) (O_ranks.mono (by decide)) (O_ladder.mono (by decide)) m_range m_sorted
  have O_whole : Ok l.prog w K mg base 1 "_law_whole" f_whole := ok_whole D16 m_isinstance m_int m_bool
  have O_badstep : Ok l.prog w K mg base 1 "_law_bad_step" f_badstep := ok_badstep D17 
  have O_badplan : Ok l.prog w K mg base 2 "_law_bad_plan" f_badplan := ok_badplan D18 (O_badstep.mono (by decide)) m_len m_tuple
  have O_spoiltW : Ok l.prog w K mg base 3 "_law_spoilt_worker" f_spoiltW := ok_spoiltW D19 (O_badplan.mono (by decide)) m_len m_list
  have O_built : Ok l.prog w K mg base 4 "_law_built" f_built := ok_built D20 (O_cell.mono (by decide)) (O_mixed.mono (by decide)) (O_workers.mono (by decide)) (O_spoiltW.mono (by decide)) m_all m_isinstance m_tuple m_list m_len
  have O_plangood : Ok l.prog w K mg base 2 "_law_plan_good" f_plangood := ok_plangood D21 (O_whole.mono (by decide)) m_isinstance m_list m_tuple m_str m_len m_range
  have O_due : Ok l.prog w K mg base 3 "_law_due" f_due := ok_due D22 (O_whole.mono (by decide)) (O_plangood.mono (by decide)) m_isinstance m_tuple m_len m_range
  have Ot_due : OkT l.prog w K mg base 3 "_law_due" t_due := okt_due D22 (O_whole.mono (by decide)) (O_plangood.mono (by decide)) m_isinstance m_tuple m_len m_range m_list
  have O_told : Ok l.prog w K mg base 6 "_law_told" f_told := ok_told D23 T t5 tI (Ox_begun.mono (by decide)) m_isinstance m_int
  have Ot_told : OkT l.prog w K mg base 6 "_law_told" t_told := okt_told D23 T t5 (Ot_begun.mono (by decide))
  exact ok_law F24 (O_cell.mono (by decide)) (O_built.mono (by decide)) (O_due.mono (by decide)) (Ot_due.mono (by decide)) (O_told.mono (by decide)) (Ot_told.mono (by decide)) (O_begun.mono (by decide)) ((O_alike 60).mono (by decide)) ((Os_spoilt 60).mono (by decide)) m_isinstance m_str
end Y
open PySem PySem.W PyProof.Rows
set_option maxHeartbeats 0 in
theorem PySem.Challenge.cw_lenthaste_k01_begun_holds : PySem.Challenge.rw_lenthaste_k01_begun.Holds := by
  w_on; o_law; k_head; (case hw => w_witness2)
  k_fill
  refine Y.walk_ofY (l := PySem.Challenge.rw_lenthaste_k01_begun) (k := 62) (x := "_law_script") rfl rfl ⟨rfl, by decide, by decide⟩ (fun w h Y => PySem.W.kIn_of Y) ?F
  case F =>
    intro w mg fa h KX G hmg
    refine' Y.all_mk KX G hmg ?a0 ?l0 ?c0 ?k0 ?a1 ?l1 ?c1 ?k1 ?a2 ?l2 ?c2 ?k2 ?a3 ?l3 ?c3 ?k3 ?a4 ?l4 ?c4 ?k4 ?a5 ?l5 ?c5 ?k5 ?a6 ?l6 ?c6 ?k6 ?a7 ?l7 ?c7 ?k7 ?a8 ?l8 ?c8 ?k8 ?a9 ?l9 ?c9 ?k9 ?a10 ?l10 ?c10 ?k10 ?a11 ?l11 ?c11 ?k11 ?a12 ?l12 ?c12 ?k12 ?a13 ?l13 ?c13 ?k13 ?a14 ?l14 ?c14 ?k14 ?a15 ?l15 ?c15 ?k15 ?a16 ?l16 ?c16 ?k16 ?a17 ?l17 ?c17 ?k17 ?a18 ?l18 ?c18 ?k18 ?a19 ?l19 ?c19 ?k19 ?a20 ?l20 ?c20 ?k20 ?a21 ?l21 ?c21 ?k21 ?a22 ?l22 ?c22 ?k22 ?a23 ?l23 ?c23 ?k23 ?a24 ?l24 ?c24 ?k24 ?z_isinstance ?z_int ?z_bool ?z_list ?z_tuple ?z_str ?z_len ?z_max ?z_range ?z_all ?z_min ?z_sorted ?q_MOST_TICKS ?q_MOST_TOOL ?q_MOST_STEPS ?q_MOST_RANK ?q_MOST_START ?q_MOST_WORKERS ?ga_HasteError ?gq_HasteError ?gk_HasteError ?gb_HasteError ?gt_HasteError ?gd_HasteError ?ga_TooMany ?gq_TooMany ?gk_TooMany ?gb_TooMany ?gt_TooMany ?gd_TooMany ?ga_BadWorker ?gq_BadWorker ?gk_BadWorker ?gb_BadWorker ?gt_BadWorker ?gd_BadWorker ?ga_BadRank ?gq_BadRank ?gk_BadRank ?gb_BadRank ?gt_BadRank ?gd_BadRank ?ga_BadStart ?gq_BadStart ?gk_BadStart ?gb_BadStart ?gt_BadStart ?gd_BadStart ?ga_BadPlan ?gq_BadPlan ?gk_BadPlan ?gb_BadPlan ?gt_BadPlan ?gd_BadPlan ?gh_TooMany ?gs_TooMany_TooMany ?gs_TooMany_BadWorker ?gs_TooMany_BadRank ?gs_TooMany_BadStart ?gs_TooMany_BadPlan ?gh_BadWorker ?gs_BadWorker_TooMany ?gs_BadWorker_BadWorker ?gs_BadWorker_BadRank ?gs_BadWorker_BadStart ?gs_BadWorker_BadPlan ?gh_BadRank ?gs_BadRank_TooMany ?gs_BadRank_BadWorker ?gs_BadRank_BadRank ?gs_BadRank_BadStart ?gs_BadRank_BadPlan ?gh_BadStart ?gs_BadStart_TooMany ?gs_BadStart_BadWorker ?gs_BadStart_BadRank ?gs_BadStart_BadStart ?gs_BadStart_BadPlan ?gh_BadPlan ?gs_BadPlan_TooMany ?gs_BadPlan_BadWorker ?gs_BadPlan_BadRank ?gs_BadPlan_BadStart ?gs_BadPlan_BadPlan ?xn ?xt ?xg_TooMany ?xk_TooMany ?xa_TooMany ?xm_TooMany ?xv_TooMany ?xg_BadWorker ?xk_BadWorker ?xa_BadWorker ?xm_BadWorker ?xv_BadWorker ?xg_BadRank ?xk_BadRank ?xa_BadRank ?xm_BadRank ?xv_BadRank ?xg_BadStart ?xk_BadStart ?xa_BadStart ?xm_BadStart ?xv_BadStart ?xg_BadPlan ?xk_BadPlan ?xa_BadPlan ?xm_BadPlan ?xv_BadPlan
    (case a0 => k_is); (case l0 => k_is); (case c0 => k_is); (case k0 => k_is); (case a1 => k_is); (case l1 => k_is); (case c1 => k_is); (case k1 => k_is); (case a2 => k_is); (case l2 => k_is); (case c2 => k_is); (case k2 => k_is); (case a3 => k_is); (case l3 => k_is); (case c3 => k_is); (case k3 => k_is); (case a4 => k_is); (case l4 => k_is); (case c4 => k_is); (case k4 => k_is); (case a5 => k_is); (case l5 => k_is); (case c5 => k_is); (case k5 => k_is); (case a6 => k_is); (case l6 => k_is); (case c6 => k_is); (case k6 => k_is); (case a7 => k_is); (case l7 => k_is); (case c7 => k_is); (case k7 => k_is); (case a8 => k_is); (case l8 => k_is); (case c8 => k_is); (case k8 => k_is); (case a9 => k_is); (case l9 => k_is); (case c9 => k_is); (case k9 => k_is); (case a10 => k_is); (case l10 => k_is); (case c10 => k_is); (case k10 => k_is); (case a11 => k_is); (case l11 => k_is); (case c11 => k_is); (case k11 => k_is); (case a12 => k_is); (case l12 => k_is); (case c12 => k_is); (case k12 => k_is); (case a13 => k_is); (case l13 => k_is); (case c13 => k_is); (case k13 => k_is); (case a14 => k_is); (case l14 => k_is); (case c14 => k_is); (case k14 => k_is); (case a15 => k_is); (case l15 => k_is); (case c15 => k_is); (case k15 => k_is); (case a16 => k_is); (case l16 => k_is); (case c16 => k_is); (case k16 => k_is); (case a17 => k_is); (case l17 => k_is); (case c17 => k_is); (case k17 => k_is); (case a18 => k_is); (case l18 => k_is); (case c18 => k_is); (case k18 => k_is); (case a19 => k_is); (case l19 => k_is); (case c19 => k_is); (case k19 => k_is); (case a20 => k_is); (case l20 => k_is); (case c20 => k_is); (case k20 => k_is); (case a21 => k_is); (case l21 => k_is); (case c21 => k_is); (case k21 => k_is); (case a22 => k_is); (case l22 => k_is); (case c22 => k_is); (case k22 => k_is); (case a23 => k_is); (case l23 => k_is); (case c23 => k_is); (case k23 => k_is); (case a24 => k_is); (case l24 => k_is); (case c24 => k_is); (case k24 => k_is); (case z_isinstance => k_is); (case z_int => k_is); (case z_bool => k_is); (case z_list => k_is); (case z_tuple => k_is); (case z_str => k_is); (case z_len => k_is); (case z_max => k_is); (case z_range => k_is); (case z_all => k_is); (case z_min => k_is); (case z_sorted => k_is); (case q_MOST_TICKS => k_is); (case q_MOST_TOOL => k_is); (case q_MOST_STEPS => k_is); (case q_MOST_RANK => k_is); (case q_MOST_START => k_is); (case q_MOST_WORKERS => k_is); (case ga_HasteError => k_is); (case gq_HasteError => k_exc); (case gk_HasteError => k_is); (case gb_HasteError => k_is); (case gt_HasteError => k_is); (case gd_HasteError => k_is); (case ga_TooMany => k_is); (case gq_TooMany => k_exc); (case gk_TooMany => k_is); (case gb_TooMany => k_is); (case gt_TooMany => k_is); (case gd_TooMany => k_is); (case ga_BadWorker => k_is); (case gq_BadWorker => k_exc); (case gk_BadWorker => k_is); (case gb_BadWorker => k_is); (case gt_BadWorker => k_is); (case gd_BadWorker => k_is); (case ga_BadRank => k_is); (case gq_BadRank => k_exc); (case gk_BadRank => k_is); (case gb_BadRank => k_is); (case gt_BadRank => k_is); (case gd_BadRank => k_is); (case ga_BadStart => k_is); (case gq_BadStart => k_exc); (case gk_BadStart => k_is); (case gb_BadStart => k_is); (case gt_BadStart => k_is); (case gd_BadStart => k_is); (case ga_BadPlan => k_is); (case gq_BadPlan => k_exc); (case gk_BadPlan => k_is); (case gb_BadPlan => k_is); (case gt_BadPlan => k_is); (case gd_BadPlan => k_is); (case gh_TooMany => k_is); (case gs_TooMany_TooMany => k_is); (case gs_TooMany_BadWorker => k_is); (case gs_TooMany_BadRank => k_is); (case gs_TooMany_BadStart => k_is); (case gs_TooMany_BadPlan => k_is); (case gh_BadWorker => k_is); (case gs_BadWorker_TooMany => k_is); (case gs_BadWorker_BadWorker => k_is); (case gs_BadWorker_BadRank => k_is); (case gs_BadWorker_BadStart => k_is); (case gs_BadWorker_BadPlan => k_is); (case gh_BadRank => k_is); (case gs_BadRank_TooMany => k_is); (case gs_BadRank_BadWorker => k_is); (case gs_BadRank_BadRank => k_is); (case gs_BadRank_BadStart => k_is); (case gs_BadRank_BadPlan => k_is); (case gh_BadStart => k_is); (case gs_BadStart_TooMany => k_is); (case gs_BadStart_BadWorker => k_is); (case gs_BadStart_BadRank => k_is); (case gs_BadStart_BadStart => k_is); (case gs_BadStart_BadPlan => k_is); (case gh_BadPlan => k_is); (case gs_BadPlan_TooMany => k_is); (case gs_BadPlan_BadWorker => k_is); (case gs_BadPlan_BadRank => k_is); (case gs_BadPlan_BadStart => k_is); (case gs_BadPlan_BadPlan => k_is); (case xn => k_is); (case xt => k_is); (case xg_TooMany => k_is); (case xk_TooMany => k_is); (case xa_TooMany => k_is); (case xm_TooMany => k_is); (case xv_TooMany => k_is); (case xg_BadWorker => k_is); (case xk_BadWorker => k_is); (case xa_BadWorker => k_is); (case xm_BadWorker => k_is); (case xv_BadWorker => k_is); (case xg_BadRank => k_is); (case xk_BadRank => k_is); (case xa_BadRank => k_is); (case xm_BadRank => k_is); (case xv_BadRank => k_is); (case xg_BadStart => k_is); (case xk_BadStart => k_is); (case xa_BadStart => k_is); (case xm_BadStart => k_is); (case xv_BadStart => k_is); (case xg_BadPlan => k_is); (case xk_BadPlan => k_is); (case xa_BadPlan => k_is); (case xm_BadPlan => k_is); (case xv_BadPlan => k_is)
